import PyProof.Rows.All
import Wide.All
import OpenK.AllK
import Wide.FinOn
import HandS.ForMost
import HandS.ForExc
import HandS.Wide
import HandS.EndBits
import HandS.IsInst
import HandS.TupLe
import HandS.TupAny
import HandS.Zip
import HandS.Flow
import HandS.Evl
import HandS.RevRange
import HandS.WideBits
import HandS.TryOnly
import HandS.Style
import HandS.SortInts
import HandS.More
import HandS.TupSets
import HandS.Dict
import PyProof.Rows.TupDisplay
import HandS.Defaults
import HandS.MakeKw
import HandS.MakeKwOnly
import HandS.DictTup
import HandS.TupMul
import HandS.SortRule
import HandS.Finally
import HandS.ExcIs
import HandS.WordsExc
import HandS.DictEq
import HandS.Rev
import KE.KDictPairs
import PyProof.StrOps2
import KE.IntTextLaws
import PySem.Challenge.RW_fourpoints_k11_curves_told_apart
set_option Elab.async false
set_option linter.all false
set_option maxRecDepth 100000
set_option maxHeartbeats 4000000
/-! my own base over HandS: defs of the text, heaps that keep, readings taken step by step -/
namespace Fp
open PySem PySem.Spec PyProof.Rows L2
abbrev St := L2.St

/-! ### defs -/
/-- a def of the top that stands at the module's name x -/
structure Def (K : PySem.W.Frag) (mg : Str → Option Value) (x : Str) (st : Stmt) (ps : List Str) : Prop where
  ex : ∃ f fd, Fun K x x st f fd ∧ mg x = some (.ref f) ∧ Binds K fd ps []
/-- .. and its promise -/
structure Fn (P : Program) (w : World) (K : PySem.W.Frag) (mg : Str → Option Value) (base : Heap) (k : Nat) (x : Str) (ps : List Str) (sp : Sp) : Prop where
  ex : ∃ f fd, mg x = some (.ref f) ∧ PySem.W.keepIn K (.ref f) = true ∧ Binds K fd ps [] ∧ FnOk P w K mg base (L2.CX P w) k f fd ps sp

section
variable {P : Program} {w : World} {K : PySem.W.Frag} {mg : Str → Option Value} {base : Heap}
theorem fn_up {k : Nat} {f : Addr} {fd : FuncData} {ps : List Str} {sp : Sp} (F : FnOk P w K mg base CX0 k f fd ps sp) : FnOk P w K mg base (L2.CX P w) k f fd ps sp :=
  ⟨F.len, fun A outer s H args us vs Q E hr he hb hv hs => codeAny_mono (F.run A outer s H args us vs Q E hr he hb hv hs) fun r s' hq => by
    cases r with
    | error e => exact False.elim hq
    | ok fl => cases fl <;> exact hq⟩
/-- a def that lets nothing out -/
theorem Def.ok {x : Str} {st : Stmt} {N ps : List Str} {k : Nat} {sp : Sp} (D : Def K mg x st ps) (S : FnScope N ps (defScope st)) (len : ∀ vs H Q E, sp vs H Q E → vs.length = ps.length)
    (hbody : ∀ (f : Addr) (cdv : Value) (A : Around) (outer : List Env) (s : Shared) (H : Hp) (vs : List V) (Q : VK) (E : XK), Room k (A.deeper (envOfC x (defScope st) s.heap.objs.size f cdv)) → sp vs H Q E →
      ∃ t, PSs (cxOf CX0 P w K mg base N x (defScope st) f cdv A outer s H E).nox (defBody st) t ∧ t { nx := fun _ H' => Q .non H', rt := Q } (start N vs) H) : Fn P w K mg base (k + 1) x ps sp := by
  obtain ⟨f, fd, F, hm, hb⟩ := D.ex
  exact ⟨f, fd, hm, F.kp, hb, fn_up (F.ok S len (hbody f))⟩
/-- a def that may raise -/
theorem Def.okX {x : Str} {st : Stmt} {N ps : List Str} {k : Nat} {sp : Sp} (D : Def K mg x st ps) (S : FnScope N ps (defScope st)) (len : ∀ vs H Q E, sp vs H Q E → vs.length = ps.length)
    (hbody : ∀ (f : Addr) (cdv : Value) (A : Around) (outer : List Env) (s : Shared) (H : Hp) (vs : List V) (Q : VK) (E : XK), Room k (A.deeper (envOfC x (defScope st) s.heap.objs.size f cdv)) → sp vs H Q E →
      ∃ t, PSs (cxOf (L2.CX P w) P w K mg base N x (defScope st) f cdv A outer s H E) (defBody st) t ∧ t { nx := fun _ H' => Q .non H', rt := Q } (start N vs) H) : Fn P w K mg base (k + 1) x ps sp := by
  obtain ⟨f, fd, F, hm, hb⟩ := D.ex
  exact ⟨f, fd, hm, F.kp, hb, F.okX S len (hbody f)⟩
theorem def_mk {x : Str} {st : Stmt} {f : Addr} {fd : FuncData} {ps : List Str} (F : Fun K x x st f fd) (hm : mg x = some (.ref f)) (hb : Binds K fd ps []) : Def K mg x st ps := ⟨f, fd, F, hm, hb⟩
theorem Fn.up {k j : Nat} {x : Str} {ps : List Str} {sp : Sp} (F : Fn P w K mg base k x ps sp) (h : k ≤ j) : Fn P w K mg base j x ps sp := by
  obtain ⟨f, fd, a, b, c, d⟩ := F.ex
  exact ⟨f, fd, a, b, c, d.mono h⟩
theorem Fn.imp {k : Nat} {x : Str} {ps : List Str} {sp sp' : Sp} (F : Fn P w K mg base k x ps sp) (h : ∀ vs H Q E, sp' vs H Q E → sp vs H Q E) : Fn P w K mg base k x ps sp' := by
  obtain ⟨f, fd, a, b, c, d⟩ := F.ex
  exact ⟨f, fd, a, b, c, d.imp h⟩
end

/-! ### a call of such a def, where nothing is let out -/
def tFn (sp : Sp) (E : XK) (t : TA) : TE := fun σ H Q => t σ H fun vs H1 => sp vs H1 Q E
section
variable {X : Cx} {k j : Nat} {ps : List Str} {sp : Sp} {E : XK} {x : Str} {p pos : Pos} {e : Expr} {es : List Expr} {t : TA}
theorem pe_fnE (F : Fn X.prog X.w X.K X.mg X.base k x ps sp) (hr : Room j X.A) (hk : k ≤ j) (hg : Gl X x) (hx : Passes (L2.CX X.prog X.w) X E) (ha : PA X (e :: es) t)
    (hdb : (x == ("__debug__" : Str)) = false := by decide) (he : starEach (e :: es) X.env = (false, eval e X.env) :: starEach es X.env := by rfl) (hpl : (backTo pos (starEach es X.env)).any (·.1) = false := by rfl) :
    PE X (.Call (.Name x p) (e :: es) [] pos) (tFn sp E t) := by
  obtain ⟨f, fd, hm, hkp, hb, G⟩ := F.ex
  have h := pe_call (dvs := []) (p := p) (pos := pos) (G.mono hk) hr hg hm hkp hb .nil hx ha hdb he hpl
  have e1 : tCall sp [] E t = tFn sp E t := by
    funext σ H Q
    show t σ H (fun vs H1 => sp (vs ++ []) H1 Q E) = t σ H (fun vs H1 => sp vs H1 Q E)
    simp only [List.append_nil]
  rw [e1] at h
  exact h
theorem pe_fn0E (F : Fn X.prog X.w X.K X.mg X.base k x ps sp) (hr : Room j X.A) (hk : k ≤ j) (hg : Gl X x) (hx : Passes (L2.CX X.prog X.w) X E)
    (hdb : (x == ("__debug__" : Str)) = false := by decide) :
    PE X (.Call (.Name x p) [] [] pos) (tFn sp E tNil) := by
  obtain ⟨f, fd, hm, hkp, hb, G⟩ := F.ex
  exact pe_call0 (dvs := []) (p := p) (pos := pos) (G.mono hk) hr hg hm hkp hb .nil hx hdb
theorem pe_fn (F : Fn X.prog X.w X.K X.mg X.base k x ps sp) (hr : Room j X.A) (ha : PA X (e :: es) t) (hk : k ≤ j := by decide) (hg : Gl X x := by rfl)
    (hdb : (x == ("__debug__" : Str)) = false := by decide) (he : starEach (e :: es) X.env = (false, eval e X.env) :: starEach es X.env := by rfl) (hpl : (backTo pos (starEach es X.env)).any (·.1) = false := by rfl) :
    PE X (.Call (.Name x p) (e :: es) [] pos) (tFn sp E0 t) := pe_fnE F hr hk hg passL ha hdb he hpl
theorem pe_fn0 (F : Fn X.prog X.w X.K X.mg X.base k x ps sp) (hr : Room j X.A) (hk : k ≤ j := by decide) (hg : Gl X x := by rfl)
    (hdb : (x == ("__debug__" : Str)) = false := by decide) : PE X (.Call (.Name x p) [] [] pos) (tFn sp E0 tNil) := pe_fn0E F hr hk hg passL hdb
/-- f(..) whose exceptions are wished for at the slots (within a try, or out of this def) -/
def tFnS (sp : Sp) (E : St → XK) (t : TA) : TE := fun σ H Q => t σ H fun vs H1 => sp vs H1 Q (E σ)
theorem pe_fnS {E : St → XK} (F : Fn X.prog X.w X.K X.mg X.base k x ps sp) (hr : Room j X.A) (hk : k ≤ j) (hg : Gl X x) (hx : ∀ σ, PassesAt (L2.CX X.prog X.w) X σ (E σ)) (ha : PA X (e :: es) t)
    (hdb : (x == ("__debug__" : Str)) = false := by decide) (he : starEach (e :: es) X.env = (false, eval e X.env) :: starEach es X.env := by rfl) (hpl : (backTo pos (starEach es X.env)).any (·.1) = false := by rfl) :
    PE X (.Call (.Name x p) (e :: es) [] pos) (tFnS sp E t) := by
  obtain ⟨f, fd, hm, hkp, hb, G⟩ := F.ex
  exact pe_callS (p := p) (pos := pos) (G.mono hk) hr hg hm hkp hb hx ha hdb he hpl
end

/-! ### what of the built-ins no name of the module hides -/
structure Blt (mg : Str → Option Value) : Prop where
  isinstance : mg "isinstance" = none
  len : mg "len" = none
  range : mg "range" = none
  int : mg "int" = none
  bool : mg "bool" = none
  str : mg "str" = none
  tuple : mg "tuple" = none
  list : mg "list" = none
  set : mg "set" = none
  dict : mg "dict" = none
  abs : mg "abs" = none
  all : mg "all" = none
  any : mg "any" = none
  max : mg "max" = none
  min : mg "min" = none
  sum : mg "sum" = none
  sorted : mg "sorted" = none
  zip : mg "zip" = none
  divmod : mg "divmod" = none
  repr : mg "repr" = none
  reversed : mg "reversed" = none
  ValueError : mg "ValueError" = none

/-! ### heaps: all stays but what F names -/
def Keep (F : Addr → Prop) (H H' : Hp) : Prop := ∀ b o, H b = some o → ¬ F b → H' b = some o
abbrev No : Addr → Prop := fun _ => False
abbrev At (p : Addr) : Addr → Prop := fun b => b = p
theorem Keep.refl {F : Addr → Prop} (H : Hp) : Keep F H H := fun _ _ h _ => h
theorem Keep.trans {F : Addr → Prop} {H H1 H2 : Hp} (a : Keep F H H1) (b : Keep F H1 H2) : Keep F H H2 := fun c o h n => b c o (a c o h n) n
theorem Keep.mono {F G : Addr → Prop} {H H' : Hp} (a : Keep F H H') (h : ∀ b, F b → G b) : Keep G H H' := fun c o e n => a c o e fun z => n (h c z)
theorem Keep.of_same {F : Addr → Prop} {H H' : Hp} (a : Same H H') : Keep F H H' := fun c o e _ => a c o e
theorem Keep.same {H H' : Hp} (a : Keep No H H') : Same H H' := fun c o e => a c o e fun z => z
theorem Keep.new {F : Addr → Prop} {H : Hp} {p : Addr} {o : HO} (h : H p = none) : Keep F H (upd H p o) := fun b u e _ => by rw [upd_ne (ne_of_none e h)]; exact e
theorem Keep.at_ {H : Hp} {p : Addr} {o : HO} : Keep (At p) H (upd H p o) := fun b u e n => by rw [upd_ne n]; exact e
/-- what was free at the start may change -/
theorem Keep.free {F : Addr → Prop} {H H' : Hp} {p : Addr} {o : HO} (a : Keep F H H') (h : H p = none) : Keep F H (upd H' p o) := fun b u e n => by
  rw [upd_ne (ne_of_none e h)]; exact a b u e n
theorem Keep.put {F : Addr → Prop} {H H' : Hp} {p : Addr} {o : HO} (a : Keep F H H') (h : F p) : Keep F H (upd H' p o) := fun b u e n => by
  rw [upd_ne fun z => n (by rw [z]; exact h)]; exact a b u e n
theorem Keep.back {F : Addr → Prop} {H H' : Hp} (a : Keep F H H') {p : Addr} (h : H' p = none) (n : ¬ F p) : H p = none := by
  cases q : H p with
  | none => rfl
  | some o => rw [a p o q n] at h; cases h
theorem Keep.app {F : Addr → Prop} {H H' : Hp} {a : Addr} {o : HO} (k : Keep F H H') (e : H a = some o) (n : ¬ F a) : H' a = some o := k a o e n
theorem same_app {H H' : Hp} {a : Addr} {o : HO} (k : Same H H') (e : H a = some o) : H' a = some o := k a o e
/-- the tuples, and what is locked, stay, whatever else is done -/
structure TExt (H H' : Hp) : Prop where
  t : ∀ a xs, Rd H a (.tup xs) → Rd H' a (.tup xs)
  f : ∀ a o u, H a = some (.frz o u) → H' a = some (.frz o u)
theorem Keep.text {F : Addr → Prop} {H H' : Hp} (a : Keep F H H') (h : ∀ b, F b → Mut (H b)) : TExt H H' := by
  have nt : ∀ b xs, H b = some (.tup xs) → ¬ F b := fun b xs e z => by have m := h b z; rw [e] at m; exact m
  have nf : ∀ b o u, H b = some (.frz o u) → ¬ F b := fun b o u e z => by have m := h b z; rw [e] at m; exact m
  refine ⟨fun b xs r => ?_, fun b o u e => a b _ e (nf b o u e)⟩
  rcases r with r | ⟨o, r⟩
  · exact .inl (a b _ r (nt b xs r))
  · exact .inr ⟨o, a b _ r (nf b o _ r)⟩
theorem TExt.refl (H : Hp) : TExt H H := ⟨fun _ _ h => h, fun _ _ _ h => h⟩
theorem TExt.trans {H H1 H2 : Hp} (a : TExt H H1) (b : TExt H1 H2) : TExt H H2 := ⟨fun c xs h => b.t c xs (a.t c xs h), fun c o u h => b.f c o u (a.f c o u h)⟩
theorem TExt.of_same {H H' : Hp} (a : Same H H') : TExt H H' := ⟨fun b xs r => by
  rcases r with r | ⟨o, r⟩
  · exact .inl (a b _ r)
  · exact .inr ⟨o, a b _ r⟩, fun b o u e => a b _ e⟩
theorem TExt.lst {H H' : Hp} {p : Addr} {ys : List V} (k : Keep (At p) H H') (h : H p = some (.lst ys)) : TExt H H' := k.text fun b e => by rw [show b = p from e, h]; trivial
theorem SqT.text {K : PySem.W.Frag} {H H' : Hp} {a : Addr} {xs : List V} (e : TExt H H') (h : SqT K H a xs) : SqT K H' a xs := by
  rcases h with h | h
  · exact .inl (e.t a xs h)
  · exact .inr h
/-- the script: locked, or written -/
def Scr (K : PySem.W.Frag) (H : Hp) (a : Addr) (ns : List Int) : Prop := SqL K H a (ns.map V.int) ∧ ∀ H', TExt H H' → SqL K H' a (ns.map V.int)
theorem Scr.text {K : PySem.W.Frag} {H H' : Hp} {a : Addr} {ns : List Int} (h : Scr K H a ns) (e : TExt H H') : Scr K H' a ns := ⟨h.2 H' e, fun H2 e2 => h.2 H2 (e.trans e2)⟩
theorem scr_sql {K : PySem.W.Frag} {H H' : Hp} {a : Addr} {ns : List Int} (h : Scr K H a ns) (e : TExt H H') : SqL K H' a (ns.map V.int) := h.2 H' e
theorem Scr.of {K : PySem.W.Frag} {H : Hp} {a : Addr} {ns : List Int} (hO : Only H) (h : SqL K H a (ns.map V.int)) : Scr K H a ns := by
  refine ⟨h, fun H' e => ?_⟩
  rcases h with (h | ⟨o, h⟩) | h
  · rcases hO a with z | ⟨o, xs, z⟩
    · rw [z] at h; cases h
    · rw [z] at h; cases h
  · exact .inl (.inr ⟨o, e.f a o _ h⟩)
  · exact .inr h

/-! ### data: as L2.Dp tells; data without lists stays where tuples stay -/
mutual
def imm : PyData → Bool
  | .list _ => false
  | .dict _ => false
  | .tuple xs => immAll xs
  | _ => true
def immAll : List PyData → Bool
  | [] => true
  | x :: xs => imm x && immAll xs
end
section
variable {K : PySem.W.Frag} {H H' : Hp}
mutual
theorem Dp.text (e : TExt H H') : ∀ (d : PyData) (v : V), imm d = true → Dp K H v d → Dp K H' v d
  | .none, _, _, h => by cases h; exact .non
  | .bool b, _, _, h => by cases h; exact .bl b
  | .int i, _, _, h => by cases h; exact .int i
  | .str x, _, _, h => by cases h; exact .str x
  | .list _, _, hi, _ => by simp [imm] at hi
  | .dict _, _, hi, _ => by simp [imm] at hi
  | .tuple ds, _, hi, h => by
    cases h with
    | tup hs ha => exact .tup (SqT.text e hs) (DpAll.text e ds _ (by simpa [imm] using hi) ha)
theorem DpAll.text (e : TExt H H') : ∀ (ds : List PyData) (vs : List V), immAll ds = true → DpAll K H vs ds → DpAll K H' vs ds
  | [], _, _, h => by cases h; exact .nil
  | d :: ds, _, hi, h => by
    have hi2 : imm d = true ∧ immAll ds = true := by simpa [immAll] using hi
    cases h with
    | cons h1 h2 => exact .cons (Dp.text e d _ hi2.1 h1) (DpAll.text e ds _ hi2.2 h2)
end
mutual
theorem Dp.same (e : Same H H') : ∀ (d : PyData) (v : V), Dp K H v d → Dp K H' v d
  | .none, _, h => by cases h; exact .non
  | .bool b, _, h => by cases h; exact .bl b
  | .int i, _, h => by cases h; exact .int i
  | .str x, _, h => by cases h; exact .str x
  | .list ds, _, h => by
    cases h with
    | lst hs ha => exact .lst (e.seq hs) (DpAll.same e ds _ ha)
  | .dict _, _, h => by cases h
  | .tuple ds, _, h => by
    cases h with
    | tup hs ha => exact .tup (SqT.text (TExt.of_same e) hs) (DpAll.same e ds _ ha)
theorem DpAll.same (e : Same H H') : ∀ (ds : List PyData) (vs : List V), DpAll K H vs ds → DpAll K H' vs ds
  | [], _, h => by cases h; exact .nil
  | d :: ds, _, h => by
    cases h with
    | cons h1 h2 => exact .cons (Dp.same e d _ h1) (DpAll.same e ds _ h2)
end
end
theorem immAll_map {α : Type} (f : α → PyData) (h : ∀ x, imm (f x) = true) : ∀ xs : List α, immAll (xs.map f) = true
  | [] => rfl
  | x :: xs => by simp [immAll, h x, immAll_map f h xs]

/-! ### readings, one step each: what is left is what follows -/
section
variable {K : PySem.W.Frag} {σ : St} {H : Hp} {Q : VK} {v x y : V} {ta tb tc te : TE} {r : R2} {t : TA} {tt uu : TT} {tu tw : TS} {nx bk ct : St → Hp → Prop} {rt : VK} {A B : Prop}
theorem r_var {i : Nat} (h : σ[i]? = some (some v)) (q : Q v H) : tVar i σ H Q := ⟨v, h, q⟩
theorem r_c (q : Q v H) : tC v σ H Q := q
theorem r_op (q : ta σ H fun x H1 => tb σ H1 fun y H2 => r x y H2 Q) : tOp r ta tb σ H Q := q
theorem r_un {u : V → Hp → VK → Prop} (q : ta σ H fun x H1 => u x H1 Q) : tUn u ta σ H Q := q
theorem r_I0 {g : Int → Int → V} {i j : Int} (q : Q (g i j) H) : rI0 g (.int i) (.int j) H Q := ⟨i, j, rfl, rfl, q⟩
theorem r_I {C : Int → Int → Prop} {g : Int → Int → V} {i j : Int} (hc : C i j) (q : Q (g i j) H) : rI C g (.int i) (.int j) H Q := ⟨i, j, rfl, rfl, hc, q⟩
theorem r_U {g : Int → V} {i : Int} (q : Q (g i) H) : rU g (.int i) H Q := ⟨i, rfl, q⟩
theorem r_eqi {i j : Int} (q : Q (.bl (decide (i = j))) H) : rEq (.int i) (.int j) H Q := ⟨rfl, by
  have e : decide (V.int i = V.int j) = decide (i = j) := by rw [Bool.eq_iff_iff]; simp
  rw [e]; exact q⟩
theorem r_nei {i j : Int} (q : Q (.bl (!decide (i = j))) H) : rNe (.int i) (.int j) H Q := ⟨rfl, by
  have e : decide (V.int i = V.int j) = decide (i = j) := by rw [Bool.eq_iff_iff]; simp
  rw [e]; exact q⟩
theorem r_cons {tr : TA} {Q : List V → Hp → Prop} (q : te σ H fun x H1 => tr σ H1 fun xs H2 => Q (x :: xs) H2) : tCons te tr σ H Q := q
theorem r_nil {Q : List V → Hp → Prop} (q : Q [] H) : tNil σ H Q := q
theorem r_fn {sp : Sp} {E : XK} (q : t σ H fun vs H1 => sp vs H1 Q E) : tFn sp E t σ H Q := q
theorem r_fnS {sp : Sp} {E : St → XK} (q : t σ H fun vs H1 => sp vs H1 Q (E σ)) : tFnS sp E t σ H Q := q
theorem r_CB {u : List V → Hp → VK → Prop} (q : t σ H fun vs H1 => u vs H1 Q) : tCB u t σ H Q := q
/-- a new object -/
def uNew (o : HO) (n : Nat) (H : Hp) (Q : VK) : Prop := n ≤ sizeLine ∧ ∀ p, H p = none → Q (.ref p) (upd H p o)
theorem r_tup (q : t σ H fun xs H1 => uNew (.tup xs) xs.length H1 Q) : tTup t σ H Q := q
theorem r_lst (q : t σ H fun xs H1 => uNew (.lst xs) xs.length H1 Q) : tLst t σ H Q := q
theorem r_new {o : HO} {n : Nat} (hn : n ≤ sizeLine) (q : ∀ p H', H p = none → Same H H' → H' p = some o → Q (.ref p) H') : uNew o n H Q :=
  ⟨hn, fun p hp => q p _ hp (Keep.same (Keep.new hp)) upd_same⟩
theorem sz_lit {n : Nat} (h : Nat.ble n 100000 = true) : n ≤ sizeLine := by
  rw [sizeLine_eq]
  exact Nat.le_trans (Nat.le_of_ble_eq_true h) (by decide)
theorem sz_le {n : Nat} (h : n ≤ 16777216) : n ≤ sizeLine := by rw [sizeLine_eq]; exact h
/-! rules with K by name -/
section
variable {X : Cx}
theorem opK (K : PySem.W.Frag) {f : Value → Value → Sem Value} {r : PySem.W.Frag → R2} (h : OpR X f (r X.K)) (hK : X.K = K := by rfl) : OpR X f (r K) := hK ▸ h
theorem ixK (K : PySem.W.Frag) {r : PySem.W.Frag → R2} (h : IxR X (r X.K)) (hK : X.K = K := by rfl) : IxR X (r K) := hK ▸ h
theorem slK (K : PySem.W.Frag) {r : PySem.W.Frag → V → Option Int → Option Int → Hp → VK → Prop} (h : SlR X (r X.K)) (hK : X.K = K := by rfl) : SlR X (r K) := hK ▸ h
theorem crK (K : PySem.W.Frag) {f : Value} {r : PySem.W.Frag → List V → Hp → VK → Prop} (h : CallR X f (r X.K)) (hK : X.K = K := by rfl) : CallR X f (r K) := hK ▸ h
variable {o e l tg value : Expr} {es : List Expr} {to te tl tv : TE} {t : TA} {ts : TGs} {name f : Str} {apos cpos pos pos' tpos : Pos} {T id : String} {r : V → List V → Hp → VK → Prop} {n k : Nat}
theorem piK_list (K : PySem.W.Frag) (hl : PE X l tl) (hK : X.K = K := by rfl) : PI X tg l (iList K tl) := hK ▸ pi_list hl
theorem piK_tup (K : PySem.W.Frag) (hl : PE X l tl) (hK : X.K = K := by rfl) : PI X tg l (iTup K tl) := hK ▸ pi_tup hl
/-- what is walked is a list or a tuple -/
def iSeq (K : PySem.W.Frag) (tl : TE) : TI := fun σ H R => iList K tl σ H R ∨ iTup K tl σ H R
theorem piK_seq (K : PySem.W.Frag) (hl : PE X l tl) (hK : X.K = K := by rfl) : PI X tg l (iSeq K tl) := by
  subst hK
  exact ⟨fun pins s σ H R I h => h.elim ((pi_list hl).run pins s σ H R I) ((pi_tup hl).run pins s σ H R I)⟩
theorem peK_revL (K : PySem.W.Frag) {kk : Nat} {p1 p2 p3 : Pos} (he : PE X e te) (hK : X.K = K := by rfl) : PE X (.Subscript e (.Slice none none (some (.UnaryOp .USub (.Constant (.int 1) kk p1) p2)) p3) pos) (tRevL K te) := hK ▸ pe_revL he
theorem piK_zip (K : PySem.W.Frag) {e2 : Expr} {kk : Nat} {elts : List Expr} {p : Pos} (hm : X.mg "zip" = none) (ha : PA X [e, e2] t) (hg : Gl X "zip" := by rfl)
    (hs : starEach [e, e2] X.env = (false, eval e X.env) :: starEach [e2] X.env := by rfl) (hpl : (backTo pos (starEach [e2] X.env)).any (·.1) = false := by rfl) (hK : X.K = K := by rfl) :
    PI X (.Tuple elts kk tpos) (.Call (.Name "zip" p) [e, e2] [] pos) (RZ.iZipA K t) := hK ▸ RZ.pi_zipA hg hm ha hs hpl
theorem pgK_tup (K : PySem.W.Frag) (hc : X.calm = true) (h : PGs X es ts) (hn : (assignEach es X.env).length = n := by rfl) (hst : (assignEach es X.env).findIdx? (·.1) = none := by rfl) (hK : X.K = K := by rfl) : PG X (.Tuple es k pos) (gTup K n ts) := hK ▸ pg_tup hc h hn hst
theorem pgK_lst (K : PySem.W.Frag) (hc : X.calm = true) (h : PGs X es ts) (hn : (assignEach es X.env).length = n := by rfl) (hst : (assignEach es X.env).findIdx? (·.1) = none := by rfl) (hK : X.K = K := by rfl) : PG X (.Tuple es k pos) (gLst K n ts) := hK ▸ pg_lst hc h hn hst
theorem peK_fld (K : PySem.W.Frag) (he : PE X e te) (hb : attributeBase e f X.env (eval e X.env) = eval e X.env := by rfl) (hK : X.K = K := by rfl) : PE X (.Attribute e f pos) (tFld K te f) := hK ▸ pe_fld he hb
theorem peK_bm0 (K : PySem.W.Frag) (pa : PlainAttrs T) (slot : Slot T name id) (hty : typeOf (.builtin id) = pure (.type "method_descriptor")) (hm : MtR X id r) (ho : PE X o to)
    (hbase : attributeBase o name X.env (eval o X.env) = eval o X.env := by rfl) (hline : (apos.endLine == cpos.line) = true := by rfl) (hK : X.K = K := by rfl) : PE X (.Call (.Attribute o name apos) [] [] cpos) (tBM0 K T r to) := hK ▸ pe_bm0 pa slot hty hm ho hbase hline
theorem peK_bm (K : PySem.W.Frag) (pa : PlainAttrs T) (slot : Slot T name id) (hty : typeOf (.builtin id) = pure (.type "method_descriptor")) (hm : MtR X id r) (ho : PE X o to) (ha : PA X (e :: es) t)
    (hbase : attributeBase o name X.env (eval o X.env) = eval o X.env := by rfl)
    (hfew : ((backTo cpos (starEach (e :: es) X.env)).all (fun x => !x.1) && (backToKw cpos (keywordEach [] X.env)).all (fun x => x.1.isSome)
      && decide ((e :: es).length + ([] : List Keyword).length + (if ([] : List Keyword).isEmpty then 0 else 1) < 30)) = true := by rfl)
    (hline : (apos.endLine == cpos.line) = true := by rfl) (hs : starEach (e :: es) X.env = (false, eval e X.env) :: starEach es X.env := by rfl) (hplain : (backTo cpos (starEach es X.env)).any (·.1) = false := by rfl) (hK : X.K = K := by rfl) :
    PE X (.Call (.Attribute o name apos) (e :: es) [] cpos) (tBM K T r to t) := hK ▸ pe_bm pa slot hty hm ho ha hbase hfew hline hs hplain
theorem psK_fld (K : PySem.W.Frag) (ha : PE X o to) (hv : PE X value tv) (hs : swapsWith value (some (.Attribute o f pos')) pos.line X.env = pure false := by rfl) (hK : X.K = K := by rfl) : PS X (.Assign [.Attribute o f pos'] value pos) (sFld K to tv f) := hK ▸ ps_fld ha hv hs
theorem psK_fldaug (K : PySem.W.Frag) {op : Operator} {rd : V → V → Hp → VK → Prop} (ha : PE X o to) (hv : PE X value tv) (hop : InOp X op rd) (hK : X.K = K := by rfl) : PS X (.AugAssign (.Attribute o f tpos) op value pos) (sFldAug K to tv rd f) := hK ▸ ps_fldaug ha hv hop
end
/-! tests -/
theorem r_test {Q : Bool → Hp → Prop} (q : te σ H fun x H' => ∃ k, x = .bl k ∧ Q k H') : tTest te σ H Q := q
theorem r_B {Q : Bool → Hp → Prop} (q : te σ H fun x H' => ∃ k, x = .bl k ∧ Q k H') : tB te σ H Q := q
theorem r_bl {b : Bool} {Q : Bool → Prop} (q : Q b) : ∃ k, V.bl b = .bl k ∧ Q k := ⟨b, rfl, q⟩
theorem r_and {Q : Bool → Hp → Prop} (q : tt σ H fun c H1 => if c = true then uu σ H1 Q else Q false H1) : tAnd tt uu σ H Q := q
theorem r_or {Q : Bool → Hp → Prop} (q : tt σ H fun c H1 => if c = true then Q true H1 else uu σ H1 Q) : tOr tt uu σ H Q := q
theorem r_yes {Q : Bool → Hp → Prop} (q : Q true H) : tYes σ H Q := q
theorem r_not {Q : Bool → Hp → Prop} (q : tt σ H fun c H1 => Q (!c) H1) : tNot tt σ H Q := q
theorem r_andV (q : ta σ H fun x H1 => ∃ c, x = .bl c ∧ if c = true then tb σ H1 Q else Q (.bl false) H1) : tAndV ta tb σ H Q := q
theorem r_orV (q : ta σ H fun x H1 => ∃ c, x = .bl c ∧ if c = true then Q (.bl true) H1 else tb σ H1 Q) : tOrV ta tb σ H Q := q
theorem r_notV (q : ta σ H fun x H1 => ∃ c, x = .bl c ∧ Q (.bl (!c)) H1) : tNotV ta σ H Q := q
theorem r_if (q : tt σ H fun c H1 => if c = true then ta σ H1 Q else tb σ H1 Q) : tIf tt ta tb σ H Q := q
theorem r_chain {r' : R2} (q : ta σ H fun x H1 => tb σ H1 fun y H2 => r x y H2 fun z H3 => ∃ k, z = .bl k ∧ (if k = true then tc σ H3 fun w' H4 => r' y w' H4 Q else Q (.bl false) H3)) : tChain r r' ta tb tc σ H Q := q
theorem i_T (q : A) : if true = true then A else B := by rw [if_pos rfl]; exact q
theorem i_F (q : B) : if false = true then A else B := by rw [if_neg Bool.false_ne_true]; exact q
theorem i_NT (q : B) : if (!true) = true then A else B := by rw [if_neg (by decide)]; exact q
theorem i_NF (q : A) : if (!false) = true then A else B := by rw [if_pos (by decide)]; exact q
theorem i_pos {c : Prop} [Decidable c] (h : c) (q : A) : if decide c = true then A else B := by rw [if_pos (decide_eq_true h)]; exact q
theorem i_neg {c : Prop} [Decidable c] (h : ¬ c) (q : B) : if decide c = true then A else B := by rw [if_neg (by simpa using h)]; exact q
theorem i_npos {c : Prop} [Decidable c] (h : ¬ c) (q : A) : if (!decide c) = true then A else B := by rw [if_pos (by simpa using h)]; exact q
theorem i_nneg {c : Prop} [Decidable c] (h : c) (q : B) : if (!decide c) = true then A else B := by rw [if_neg (by simpa using h)]; exact q
theorem i_cases {c : Prop} [Decidable c] (p : c → A) (n : ¬ c → B) : if decide c = true then A else B := by
  by_cases h : c
  · exact i_pos h (p h)
  · exact i_neg h (n h)
theorem i_ncases {c : Prop} [Decidable c] (p : ¬ c → A) (n : c → B) : if (!decide c) = true then A else B := by
  by_cases h : c
  · exact i_nneg h (n h)
  · exact i_npos h (p h)
theorem i_bool {b : Bool} (p : b = true → A) (n : b = false → B) : if b = true then A else B := by
  cases b with
  | true => exact i_T (p rfl)
  | false => exact i_F (n rfl)
/-- two at once -/
def uPar (i j : Nat) (vs : List V) (σ : St) (H : Hp) (nx : St → Hp → Prop) : Prop := ∃ v w, vs = [v, w] ∧ nx ((σ.set i (some v)).set j (some w)) H
/-! statements -/
theorem r_next (q : nx σ H) : tNext ⟨nx, rt, bk, ct⟩ σ H := q
theorem r_brk (q : bk σ H) : tBreak ⟨nx, rt, bk, ct⟩ σ H := q
theorem r_cont (q : ct σ H) : tCont ⟨nx, rt, bk, ct⟩ σ H := q
theorem r_seq (q : tu ⟨tw ⟨nx, rt, bk, ct⟩, rt, bk, ct⟩ σ H) : tSeq tu tw ⟨nx, rt, bk, ct⟩ σ H := q
theorem r_asg {i : Nat} (q : te σ H fun v H1 => nx (σ.set i (some v)) H1) : tAsg te (gName i) ⟨nx, rt, bk, ct⟩ σ H := q
theorem r_asgG {g : TG} (q : te σ H fun v H1 => g v σ H1 nx) : tAsg te g ⟨nx, rt, bk, ct⟩ σ H := q
theorem r_aug {i : Nat} {x : V} {ti : TIp} (h : σ[i]? = some (some x)) (q : te σ H fun y H1 => ti x y H1 fun z H2 => nx (σ.set i (some z)) H2) : tAug i te ti ⟨nx, rt, bk, ct⟩ σ H := ⟨x, h, q⟩
theorem r_ipI {g : Int → Int → Int} {i j : Int} (q : Q (.int (g i j)) H) : ipI g (.int i) (.int j) H Q := ⟨i, j, rfl, rfl, q⟩
theorem r_par {i j : Nat} (q : t σ H fun vs H1 => uPar i j vs σ H1 nx) : tPar i j t ⟨nx, rt, bk, ct⟩ σ H := q
theorem r_par2 {i j : Nat} {R : St → Hp → Prop} (q : R ((σ.set i (some x)).set j (some y)) H) : uPar i j [x, y] σ H R := ⟨x, y, rfl, q⟩
theorem r_drop (q : te σ H fun _ H1 => nx σ H1) : tDrop te ⟨nx, rt, bk, ct⟩ σ H := q
theorem r_ret (q : te σ H rt) : tRet te ⟨nx, rt, bk, ct⟩ σ H := q
theorem r_retN (q : rt .non H) : tRetN ⟨nx, rt, bk, ct⟩ σ H := q
theorem r_ifS (q : tt σ H fun b H1 => if b = true then tu ⟨nx, rt, bk, ct⟩ σ H1 else tw ⟨nx, rt, bk, ct⟩ σ H1) : tIfS tt tu tw ⟨nx, rt, bk, ct⟩ σ H := q
theorem r_start {tu : TS} {D : Ends} {N : List Str} {vs : List V} {σ' : St} (e : start N vs = σ') (q : tu D σ' H) : tu D (start N vs) H := by rw [e]; exact q
theorem r_set {i : Nat} {σ' : St} {P : St → Prop} (e : σ.set i (some v) = σ') (q : P σ') : P (σ.set i (some v)) := by rw [e]; exact q
end

/-! ### numbers of any size -/
theorem intBits_small {i : Int} {n : Nat} (h : i.natAbs < 2 ^ n) : Builtin.Int.intBits i ≤ n := by
  unfold Builtin.Int.intBits
  split
  · omega
  · rename_i h0
    have h1 : i.natAbs ≠ 0 := by simpa using h0
    have := (Nat.log2_lt h1).mpr h
    omega
theorem mul_l {i j : Int} (h1 : -(2 ^ 64) < i) (h2 : i < 2 ^ 64) : IntMulOk i j := .of_left (intBits_le_64 h1 h2)
theorem mul_r {i j : Int} (h1 : -(2 ^ 64) < j) (h2 : j < 2 ^ 64) : IntMulOk i j := .of_right (intBits_le_64 h1 h2)
theorem mul_b {i j : Int} {n m : Nat} (h1 : i.natAbs < 2 ^ n) (h2 : j.natAbs < 2 ^ m) (hn : n ≤ 1048576 := by decide) (hm : m ≤ 1048576 := by decide) : IntMulOk i j :=
  .of_bits (Nat.le_trans (intBits_small h1) (Nat.le_trans hn (by decide))) (Nat.le_trans (intBits_small h2) (Nat.le_trans hm (by decide)))
theorem div_b {i j : Int} {n : Nat} (h0 : 0 < j) (h : j.natAbs < 2 ^ n) (hn : n ≤ 9000 := by decide) (h1 : 0 < n := by decide) : CDivW i j := wide_div h0 h h1 hn
section
variable {X : Cx}
theorem op_mulY : OpR X (binaryOp .Mult) (rI IntMulOk fun i j => .int (i * j)) := opI fun _ _ _ _ _ _ _ hc q => mul_int q hc
theorem pe_powC {i j z : Int} {a b : Nat} {p1 p2 pos : Pos} (h : 0 ≤ j ∧ j ≤ 1000000 ∧ i.natAbs < 2 ^ 64) (e : i ^ j.toNat = z) :
    PE X (.BinOp (.Constant (.int i) a p1) .Pow (.Constant (.int j) b p2) pos) (tC (.int z)) := by
  have h1 : PE X (.BinOp (.Constant (.int i) a p1) .Pow (.Constant (.int j) b p2) pos) (tOp (rI CPow fun i j => .int (i ^ j.toNat)) (tC (.int i)) (tC (.int j))) := pe_op op_pow pe_int pe_int
  exact ⟨fun pins s σ H Q I q => h1.run pins s σ H Q I ⟨i, j, rfl, rfl, h, by
    show Q (.int (i ^ j.toNat)) H
    rw [e]; exact q⟩⟩
/-! ### built-ins by names of mine, that steps may see them -/
def uInt1 : List V → Hp → VK → Prop := fun xs H Q => (∃ i, xs = [.int i] ∧ Q (.int i) H) ∨ ∃ k, xs = [.bl k] ∧ Q (.int (if k then 1 else 0)) H
theorem c_int1 : CallR X (.type "int") uInt1 := call_int1
def uLen (K : PySem.W.Frag) : List V → Hp → VK → Prop := fun xs H Q => ∃ x n, xs = [x] ∧ LenV K x H n ∧ Q (.int n) H
theorem c_len : CallR X (.builtin "len") (uLen X.K) := call_len
def uAbs : List V → Hp → VK → Prop := fun xs H Q => ∃ i, xs = [.int i] ∧ Q (.int (if i < 0 then -i else i)) H
theorem c_abs : CallR X (.builtin "abs") uAbs := call_abs
def uMax2 : List V → Hp → VK → Prop := fun xs H Q => ∃ i j, xs = [.int i, .int j] ∧ Q (.int (if j > i then j else i)) H
theorem c_max2 (hc : X.calm = true) : CallR X (.builtin "max") uMax2 := call_max2 hc
def uMin2 : List V → Hp → VK → Prop := fun xs H Q => ∃ i j, xs = [.int i, .int j] ∧ Q (.int (if j < i then j else i)) H
theorem c_min2 (hc : X.calm = true) : CallR X (.builtin "min") uMin2 := call_min2 hc
def uStr : List V → Hp → VK → Prop := fun xs H Q => ∃ i, xs = [.int i] ∧ i.natAbs.log2 < 1920 ∧ Q (.str (toString i)) H
theorem c_str : CallR X (.type "str") uStr := call_str_int
def uTuple (K : PySem.W.Frag) : List V → Hp → VK → Prop := fun xs H Q => ∃ p ys, xs = [.ref p] ∧ ((SqL K H p ys ∧ ∀ l, H l = none → Q (.ref l) (upd H l (.tup ys))) ∨ (SqT K H p ys ∧ Q (.ref p) H))
theorem c_tuple : CallR X (.type "tuple") (uTuple X.K) := call_tuple_of
def uList (K : PySem.W.Frag) : List V → Hp → VK → Prop := fun xs H Q => ∃ p ys, xs = [.ref p] ∧ (SqL K H p ys ∨ SqT K H p ys) ∧ ∀ l, H l = none → Q (.ref l) (upd H l (.lst ys))
theorem c_list : CallR X (.type "list") (uList X.K) := call_list_of
def uIsB : R2 := fun x y H Q => ∃ a b, x = .bl a ∧ y = .bl b ∧ Q (.bl (decide (a = b))) H
theorem o_isB : OpR X (compareOp .Is) uIsB := op_is_bl
def uNotB : R2 := fun x y H Q => ∃ a b, x = .bl a ∧ y = .bl b ∧ Q (.bl (!decide (a = b))) H
theorem o_notB : OpR X (compareOp .IsNot) uNotB := op_isnot_bl
def uIsN : R2 := fun x y H Q => y = .non ∧ Q (.bl (decide (x = .non))) H
theorem o_isN : OpR X (compareOp .Is) uIsN := op_isN
def uNotN : R2 := fun x y H Q => y = .non ∧ Q (.bl (!decide (x = .non))) H
theorem o_notN : OpR X (compareOp .IsNot) uNotN := op_notN
/-- == of anything: scalars, data -/
def uEq (K : PySem.W.Frag) : R2 := fun x y H Q => rEq x y H Q ∨ rEqD K x y H Q
theorem o_eq (hu : X.A.units + 64 < cLine) : OpR X (compareOp .Eq) (uEq X.K) := op_eq.or (op_eqD hu)
def uNe (K : PySem.W.Frag) : R2 := fun x y H Q => rNe x y H Q ∨ rNeD K x y H Q
theorem o_ne (hu : X.A.units + 64 < cLine) : OpR X (compareOp .NotEq) (uNe X.K) := op_ne.or (op_neD hu)
end
section
variable {K : PySem.W.Frag} {σ : St} {H : Hp} {Q : VK} {v x y : V} {i j : Int} {a p : Addr} {xs : List V}
theorem r_int_i (q : Q (.int i) H) : uInt1 [.int i] H Q := .inl ⟨i, rfl, q⟩
theorem r_int_b {k : Bool} (q : Q (.int (if k = true then 1 else 0)) H) : uInt1 [.bl k] H Q := .inr ⟨k, rfl, q⟩
theorem r_len_l {n : Nat} (h : SqL K H a xs) (e : xs.length = n) (q : Q (.int n) H) : uLen K [.ref a] H Q := ⟨_, _, rfl, .inl ⟨xs, h, e.symm⟩, q⟩
theorem r_len_t {n : Nat} (h : SqT K H a xs) (e : xs.length = n) (q : Q (.int n) H) : uLen K [.ref a] H Q := ⟨_, _, rfl, .inr ⟨xs, h, e.symm⟩, q⟩
theorem r_len_s {z : Str} (h : z.length ≤ sizeLine) (q : Q (.int z.length) H) : uLen K [.str z] H Q := ⟨_, _, rfl, ⟨h, rfl⟩, q⟩
theorem r_abs (q : Q (.int (if i < 0 then -i else i)) H) : uAbs [.int i] H Q := ⟨i, rfl, q⟩
theorem r_max2 (q : Q (.int (if j > i then j else i)) H) : uMax2 [.int i, .int j] H Q := ⟨i, j, rfl, q⟩
theorem r_min2 (q : Q (.int (if j < i then j else i)) H) : uMin2 [.int i, .int j] H Q := ⟨i, j, rfl, q⟩
theorem r_tuple_l (h : SqL K H p xs) (q : ∀ l H', H l = none → Same H H' → H' l = some (.tup xs) → Q (.ref l) H') : uTuple K [.ref p] H Q := ⟨p, xs, rfl, .inl ⟨h, fun l hl => q l _ hl (Keep.same (Keep.new hl)) upd_same⟩⟩
theorem r_tuple_t (h : SqT K H p xs) (q : Q (.ref p) H) : uTuple K [.ref p] H Q := ⟨p, xs, rfl, .inr ⟨h, q⟩⟩
theorem r_list_l (h : SqL K H p xs) (q : ∀ l H', H l = none → Same H H' → H' l = some (.lst xs) → Q (.ref l) H') : uList K [.ref p] H Q := ⟨p, xs, rfl, .inl h, fun l hl => q l _ hl (Keep.same (Keep.new hl)) upd_same⟩
theorem r_list_t (h : SqT K H p xs) (q : ∀ l H', H l = none → Same H H' → H' l = some (.lst xs) → Q (.ref l) H') : uList K [.ref p] H Q := ⟨p, xs, rfl, .inr h, fun l hl => q l _ hl (Keep.same (Keep.new hl)) upd_same⟩
theorem r_isB {b c : Bool} (q : Q (.bl (decide (b = c))) H) : uIsB (.bl b) (.bl c) H Q := ⟨b, c, rfl, rfl, q⟩
theorem r_notB {b c : Bool} (q : Q (.bl (!decide (b = c))) H) : uNotB (.bl b) (.bl c) H Q := ⟨b, c, rfl, rfl, q⟩
theorem r_isN_n (q : Q (.bl true) H) : uIsN .non .non H Q := ⟨rfl, q⟩
theorem r_isN_i (q : Q (.bl false) H) : uIsN (.int i) .non H Q := ⟨rfl, q⟩
theorem r_isN_r (q : Q (.bl false) H) : uIsN (.ref a) .non H Q := ⟨rfl, q⟩
theorem r_isN_s {z : Str} (q : Q (.bl false) H) : uIsN (.str z) .non H Q := ⟨rfl, q⟩
theorem r_notN_n (q : Q (.bl false) H) : uNotN .non .non H Q := ⟨rfl, q⟩
theorem r_notN_i (q : Q (.bl true) H) : uNotN (.int i) .non H Q := ⟨rfl, q⟩
theorem r_notN_r (q : Q (.bl true) H) : uNotN (.ref a) .non H Q := ⟨rfl, q⟩
theorem r_notN_s {z : Str} (q : Q (.bl true) H) : uNotN (.str z) .non H Q := ⟨rfl, q⟩
theorem r_isN {k : Bool} (e : decide (x = V.non) = k) (q : Q (.bl k) H) : uIsN x .non H Q := ⟨rfl, by rw [e]; exact q⟩
theorem r_notN {k : Bool} (e : (!decide (x = V.non)) = k) (q : Q (.bl k) H) : uNotN x .non H Q := ⟨rfl, by rw [e]; exact q⟩
theorem r_eq_i (q : Q (.bl (decide (i = j))) H) : uEq K (.int i) (.int j) H Q := .inl (r_eqi q)
theorem r_ne_i (q : Q (.bl (!decide (i = j))) H) : uNe K (.int i) (.int j) H Q := .inl (r_nei q)
theorem r_eq_s {s t : Str} (q : Q (.bl (decide (s = t))) H) : uEq K (.str s) (.str t) H Q := .inl ⟨rfl, by
  have e : decide (V.str s = V.str t) = decide (s = t) := by rw [Bool.eq_iff_iff]; simp
  rw [e]; exact q⟩
theorem r_ne_s {s t : Str} (q : Q (.bl (!decide (s = t))) H) : uNe K (.str s) (.str t) H Q := .inl ⟨rfl, by
  have e : decide (V.str s = V.str t) = decide (s = t) := by rw [Bool.eq_iff_iff]; simp
  rw [e]; exact q⟩
theorem r_eq_d {d e : PyData} (hd : Dp K H x d) (he : Dp K H y e) (s1 : SeqAt.shaped d = true) (s2 : SeqAt.shaped e = true) (q : Q (.bl (PyData.eqv d e)) H) : uEq K x y H Q := .inr ⟨d, e, hd, he, s1, s2, q⟩
theorem r_ne_d {d e : PyData} (hd : Dp K H x d) (he : Dp K H y e) (s1 : SeqAt.shaped d = true) (s2 : SeqAt.shaped e = true) (q : Q (.bl (!PyData.eqv d e)) H) : uNe K x y H Q := .inr ⟨d, e, hd, he, s1, s2, q⟩
theorem r_ixl (h : SqL K H p xs) (e : atI xs i = some v) (q : Q v H) : rIx K (.ref p) (.int i) H Q := .inl ⟨p, xs, i, v, rfl, rfl, h, e, q⟩
theorem r_ixt (h : SqT K H p xs) (e : atI xs i = some v) (q : Q v H) : rIx K (.ref p) (.int i) H Q := .inr (.inl ⟨p, xs, i, v, rfl, rfl, h, e, q⟩)
theorem r_ixs {z : Str} {c : Nat} (h : z.length ≤ sizeLine) (e : atI z.cps.toList i = some c) (q : Q (.str ⟨#[c]⟩) H) : rIx K (.str z) (.int i) H Q := .inr (.inr ⟨z, i, c, rfl, rfl, h, e, q⟩)
theorem r_gsub {to ti : TE} {t : TSet} {R : St → Hp → Prop} (q : to σ H fun o H1 => ti σ H1 fun i H2 => t o i v H2 fun H3 => R σ H3) : gSub to ti t v σ H R := q
theorem r_gname {i : Nat} {R : St → Hp → Prop} (q : R (σ.set i (some v)) H) : gName i v σ H R := q
theorem r_setl {R : Hp → Prop} {j : Nat} (h : H p = some (.lst xs)) (e : ixN xs.length i = some j) (q : ∀ H', Keep (At p) H H' → H' p = some (.lst (xs.set j v)) → R H') : rSetL (.ref p) (.int i) v H R := ⟨p, xs, i, j, rfl, rfl, h, e, q _ Keep.at_ upd_same⟩
theorem r_gtup {n : Nat} {t : TGs} {R : St → Hp → Prop} (h : SqT K H a xs) (e : xs.length = n) (q : t xs σ H R) : gTup K n t (.ref a) σ H R := ⟨a, xs, rfl, h, e, q⟩
theorem r_glst {n : Nat} {t : TGs} {R : St → Hp → Prop} (h : SqL K H a xs) (e : xs.length = n) (q : t xs σ H R) : gLst K n t (.ref a) σ H R := ⟨a, xs, rfl, h, e, q⟩
theorem r_gcons {t : TG} {u : TGs} {vs : List V} {R : St → Hp → Prop} (q : t v σ H fun σ' H' => u vs σ' H' R) : gCons t u (v :: vs) σ H R := ⟨v, vs, rfl, q⟩
theorem r_gnil {R : St → Hp → Prop} (q : R σ H) : gNil [] σ H R := ⟨rfl, q⟩
theorem r_all {bs : List Bool} (h : SqL K H a (bs.map V.bl)) (q : Q (.bl (bs.all id)) H) : rAll K [.ref a] H Q := ⟨a, bs, rfl, h, q⟩
theorem r_allT (h : SqL K H a xs) (hx : ∀ v ∈ xs, v = V.bl true) (q : Q (.bl true) H) : rAll K [.ref a] H Q := by
  have e : xs = (xs.map fun _ => true).map V.bl := by
    rw [List.map_map]
    have : xs = xs.map id := by simp
    rw [this]
    simp only [List.map_map]
    exact List.map_congr_left fun v hv => hx v hv
  have e2 : (xs.map fun _ => true).all id = true := by simp
  refine r_all (bs := xs.map fun _ => true) (by rw [← e]; exact h) ?_
  rw [e2]
  exact q
theorem r_any {bs : List Bool} (h : SqL K H a (bs.map V.bl)) (q : Q (.bl (bs.any id)) H) : rAny K [.ref a] H Q := ⟨a, bs, rfl, h, q⟩
/-! isinstance -/
def tyN : PyData → String
  | .none => "NoneType"
  | .bool _ => "bool"
  | .int _ => "int"
  | .str _ => "str"
  | .list _ => "list"
  | .tuple _ => "tuple"
  | .dict _ => "dict"
def isK (n t : String) : Bool := n == t || (t == "bool" && n == "int")
def isT (n : String) (d : PyData) : Bool := isK n (tyN d)
def tyD (d : PyData) : Value := .type (tyN d)
theorem kit_tab {t n : String} (ht : t = "NoneType" ∨ t = "bool" ∨ t = "int" ∨ t = "str" ∨ t = "list" ∨ t = "tuple" ∨ t = "dict") (hn : n = "int" ∨ n = "bool" ∨ n = "tuple" ∨ n = "str" ∨ n = "list") : kitB t n = some (isK n t) := by
  rcases ht with rfl | rfl | rfl | rfl | rfl | rfl | rfl <;> rcases hn with rfl | rfl | rfl | rfl | rfl <;> decide +kernel
theorem dp_ty {d : PyData} (h : Dp K H v d) : TyX K H v (tyD d) := by
  cases h with
  | non => exact .base .non
  | bl b => exact .base (.bl b)
  | int i => exact .base (.int i)
  | str s => exact .base (.str s)
  | lst hs _ =>
    rcases hs with (hs | ⟨o, hs⟩) | ⟨o, its, n, hk, hc, _⟩
    · exact .base (.lst hs)
    · exact .base (.frz hs)
    · exact .kList hk hc
  | tup hs _ =>
    rcases hs with (hs | ⟨o, hs⟩) | ⟨o, its, n, hk, hc, _⟩
    · exact .base (.tup hs)
    · exact .fTuple hs
    · exact .kTuple hk hc
theorem r_isi {d : PyData} {n : String} (h : Dp K H v d) (hn : n = "int" ∨ n = "bool" ∨ n = "tuple" ∨ n = "str" ∨ n = "list") (q : Q (.bl (isT n d)) H) : rIsi K [v, .ty n] H Q := by
  refine ⟨v, .ty n, tyD d, .type n, isT n d, rfl, .ty n, dp_ty h, ?_, q⟩
  refine kit_ty (kit_tab ?_ hn)
  cases d <;> simp [tyN]
end

section
variable {K : PySem.W.Frag} {H : Hp} {Q : VK} {a : Addr} {xs : List V} {i : Int} {b : Bool} {z : Str}
theorem r_isi_ii (q : Q (.bl true) H) : rIsi K [.int i, .ty "int"] H Q := r_isi (n := "int") (.int i) (by decide) q
theorem r_isi_ib (q : Q (.bl false) H) : rIsi K [.int i, .ty "bool"] H Q := r_isi (n := "bool") (.int i) (by decide) q
theorem r_isi_it (q : Q (.bl false) H) : rIsi K [.int i, .ty "tuple"] H Q := r_isi (n := "tuple") (.int i) (by decide) q
theorem r_isi_is (q : Q (.bl false) H) : rIsi K [.int i, .ty "str"] H Q := r_isi (n := "str") (.int i) (by decide) q
theorem r_isi_ni (q : Q (.bl false) H) : rIsi K [.non, .ty "int"] H Q := r_isi (n := "int") .non (by decide) q
theorem r_isi_nt (q : Q (.bl false) H) : rIsi K [.non, .ty "tuple"] H Q := r_isi (n := "tuple") .non (by decide) q
theorem r_isi_bb (q : Q (.bl true) H) : rIsi K [.bl b, .ty "bool"] H Q := r_isi (n := "bool") (.bl b) (by decide) q
theorem r_isi_bi (q : Q (.bl true) H) : rIsi K [.bl b, .ty "int"] H Q := r_isi (n := "int") (.bl b) (by decide) q
theorem r_isi_ss (q : Q (.bl true) H) : rIsi K [.str z, .ty "str"] H Q := r_isi (n := "str") (.str z) (by decide) q
theorem r_isi_si (q : Q (.bl false) H) : rIsi K [.str z, .ty "int"] H Q := r_isi (n := "int") (.str z) (by decide) q
theorem r_isi_st (q : Q (.bl false) H) : rIsi K [.str z, .ty "tuple"] H Q := r_isi (n := "tuple") (.str z) (by decide) q
theorem tyX_tup (h : SqT K H a xs) : TyX K H (.ref a) (.type "tuple") := by
  rcases h with (hs | ⟨o, hs⟩) | ⟨o, its, n, hk, hc, _⟩
  · exact .base (.tup hs)
  · exact .fTuple hs
  · exact .kTuple hk hc
theorem tyX_lst (h : SqL K H a xs) : TyX K H (.ref a) (.type "list") := by
  rcases h with (hs | ⟨o, hs⟩) | ⟨o, its, n, hk, hc, _⟩
  · exact .base (.lst hs)
  · exact .base (.frz hs)
  · exact .kList hk hc
theorem r_isi_tt (h : SqT K H a xs) (q : Q (.bl true) H) : rIsi K [.ref a, .ty "tuple"] H Q := ⟨_, _, _, _, true, rfl, .ty "tuple", tyX_tup h, kit_ty (kit_tab (by decide) (by decide)), q⟩
theorem r_isi_ti (h : SqT K H a xs) (q : Q (.bl false) H) : rIsi K [.ref a, .ty "int"] H Q := ⟨_, _, _, _, false, rfl, .ty "int", tyX_tup h, kit_ty (kit_tab (by decide) (by decide)), q⟩
end
/-! ### walks: how many turns, what each turn yields -/
structure Wk (J : It) (n : Nat) (src : Hp → Prop) (item : Nat → Hp → V → Hp → Prop) : Prop where
  go : ∀ i H, src H → i < n → J.go i H
  stop : ∀ i H, src H → n ≤ i → J.stop i H
  yld : ∀ i H x H', src H → J.yld i H x H' → item i H x H'
section
variable {K : PySem.W.Frag} {a b : Addr} {xs ys : List V}
theorem wk_list : Wk (Itl K a) xs.length (fun H => SqL K H a xs) (fun i H x H' => H' = H ∧ xs[i]? = some x) where
  go := fun i H h hi => ⟨xs, xs[i], h, by simp [hi]⟩
  stop := fun i H h hi => ⟨xs, h, hi⟩
  yld := fun i H x H' h y => by obtain ⟨e, y⟩ := y; exact ⟨e, y xs h⟩
theorem wk_tup : Wk (Itt K a) xs.length (fun H => SqT K H a xs) (fun i H x H' => H' = H ∧ xs[i]? = some x) where
  go := fun i H h hi => ⟨xs, xs[i], h, by simp [hi]⟩
  stop := fun i H h hi => ⟨xs, h, hi⟩
  yld := fun i H x H' h y => by obtain ⟨e, y⟩ := y; exact ⟨e, y xs h⟩
theorem wk_rng {lo : Int} {n : Nat} : Wk (Itr lo n) n (fun _ => True) (fun i H x H' => H' = H ∧ x = .int (lo + i)) where
  go := fun i H _ hi => hi
  stop := fun i H _ hi => hi
  yld := fun i H x H' _ y => y
theorem wk_rngC {lo c : Int} {n : Nat} : Wk (Itc lo c n) n (fun _ => True) (fun i H x H' => H' = H ∧ x = .int (lo + (i : Nat) * c)) where
  go := fun i H _ hi => hi
  stop := fun i H _ hi => hi
  yld := fun i H x H' _ y => y
theorem wk_zipL : Wk (Itz K a b) (min xs.length ys.length) (fun H => SqL K H a xs ∧ SqL K H b ys) (fun i H v H' => ∃ T x y, v = .ref T ∧ H T = none ∧ H' = upd H T (.tup [x, y]) ∧ xs[i]? = some x ∧ ys[i]? = some y) where
  go := fun i H h hi => ⟨xs, ys, xs[i]'(by omega), ys[i]'(by omega), h.1, h.2, by simp, by simp⟩
  stop := fun i H h hi => ⟨xs, ys, h.1, h.2, by omega⟩
  yld := fun i H v H' h y => by
    obtain ⟨T, x, z, e1, e2, e3, e4, e5⟩ := y
    exact ⟨T, x, z, e1, e2, e3, e4 xs h.1, e5 ys h.2⟩
theorem wk_zipT : Wk (RZ.ItzT K a b) (min xs.length ys.length) (fun H => SqT K H a xs ∧ SqT K H b ys) (fun i H v H' => ∃ T x y, v = .ref T ∧ H T = none ∧ H' = upd H T (.tup [x, y]) ∧ xs[i]? = some x ∧ ys[i]? = some y) where
  go := fun i H h hi => ⟨xs, ys, xs[i]'(by omega), ys[i]'(by omega), h.1, h.2, by simp, by simp⟩
  stop := fun i H h hi => ⟨xs, ys, h.1, h.2, by omega⟩
  yld := fun i H v H' h y => by
    obtain ⟨T, x, z, e1, e2, e3, e4, e5⟩ := y
    exact ⟨T, x, z, e1, e2, e3, e4 xs h.1, e5 ys h.2⟩
end
/-- what a for asks once it is known what it walks -/
def ForW (J : It) (g : TG) (tb : TS) : TS := fun D σ H => ∃ W : Nat → Nat → St → Hp → Prop, (∃ m, W 0 m σ H) ∧ ∀ i m σ H, W i m σ H →
  (J.stop i H ∧ D.nx σ H) ∨ (J.go i H ∧ ∃ N : St → Hp → Prop, (∀ σ' H', N σ' H' → ∃ m', m' < m ∧ W (i + 1) m' σ' H') ∧ ∀ x H', J.yld i H x H' → g x σ H' fun σ2 H2 => tb { D with nx := N, ct := N, bk := D.nx } σ2 H2)
def LcW (J : It) (g : TG) (tt : TT) (te : TE) (vs : List Nat) : TE := fun σ H1 Q => ∀ D, H1 D = none → ∃ W : Nat → Nat → Hp → Prop, (∃ m, W 0 m (upd H1 D (.lst []))) ∧ ∀ i m H, W i m H →
  (J.stop i H ∧ Q (.ref D) H) ∨ (J.go i H ∧ ∃ Nx : Hp → Prop, (∀ H', Nx H' → ∃ m', m' < m ∧ W (i + 1) m' H') ∧ ∀ x H', J.yld i H x H' → g x (wipe σ vs) H' fun σ2 H2 => wipe σ2 vs = wipe σ vs ∧ tt σ2 H2 fun b H3 =>
    if b = true then te σ2 H3 fun y H4 => ∃ acc, H4 D = some (.lst acc) ∧ acc.length < sizeLine ∧ Nx (upd H4 D (.lst (acc ++ [y]))) else Nx H3)
section
variable {K : PySem.W.Frag} {σ : St} {H : Hp} {Q : VK} {ta tl te : TE} {tt : TT} {tb : TS} {g : TG} {wi : TI} {nx bk ct : St → Hp → Prop} {rt : VK} {vs : List Nat} {J : It} {n : Nat} {src : Hp → Prop} {item : Nat → Hp → V → Hp → Prop} {a b : Addr} {xs ys : List V}
theorem r_for (q : wi σ H fun J H1 => ForW J g tb ⟨nx, rt, bk, ct⟩ σ H1) : tFor wi g tb ⟨nx, rt, bk, ct⟩ σ H := q
theorem r_lc (q : wi σ H fun J H1 => LcW J g tt te vs σ H1 Q) : tLc wi g tt te vs σ H Q := q
/-- a list or a tuple that is walked -/
def uWalk (K : PySem.W.Frag) (x : V) (H : Hp) (R : It → Hp → Prop) (l : Bool) : Prop := ∃ a, x = .ref a ∧ (if l = true then (∃ xs, SqL K H a xs) ∧ R (Itl K a) H else (∃ xs, SqT K H a xs) ∧ R (Itt K a) H)
theorem r_ilist {R : It → Hp → Prop} (q : tl σ H fun x H1 => uWalk K x H1 R true) : iList K tl σ H R := by
  have e : (fun (x : V) (H1 : Hp) => uWalk K x H1 R true) = fun x H1 => ∃ a, x = .ref a ∧ (∃ xs, SqL K H1 a xs) ∧ R (Itl K a) H1 := by
    funext x H1
    simp [uWalk]
  rw [e] at q
  exact q
theorem r_itup {R : It → Hp → Prop} (q : tl σ H fun x H1 => uWalk K x H1 R false) : iTup K tl σ H R := by
  have e : (fun (x : V) (H1 : Hp) => uWalk K x H1 R false) = fun x H1 => ∃ a, x = .ref a ∧ (∃ xs, SqT K H1 a xs) ∧ R (Itt K a) H1 := by
    funext x H1
    simp [uWalk]
  rw [e] at q
  exact q
theorem r_wl {R : It → Hp → Prop} (h : SqL K H a xs) (q : R (Itl K a) H) : uWalk K (.ref a) H R true := ⟨a, rfl, by rw [if_pos rfl]; exact ⟨⟨xs, h⟩, q⟩⟩
theorem r_wt {R : It → Hp → Prop} (h : SqT K H a xs) (q : R (Itt K a) H) : uWalk K (.ref a) H R false := ⟨a, rfl, by rw [if_neg (by decide)]; exact ⟨⟨xs, h⟩, q⟩⟩
def uRng1 (vs : List V) (H : Hp) (R : It → Hp → Prop) : Prop := ∃ j : Int, vs = [.int j] ∧ -(2 ^ 62) ≤ j ∧ j < 2 ^ 62 ∧ R (Itr 0 j.toNat) H
def uRng2 (vs : List V) (H : Hp) (R : It → Hp → Prop) : Prop := ∃ i j : Int, vs = [.int i, .int j] ∧ (-(2 ^ 62) ≤ i ∧ i < 2 ^ 62 ∧ -(2 ^ 62) ≤ j ∧ j < 2 ^ 62) ∧ R (Itr i (j - i).toNat) H
theorem r_irng1 {t : TA} {R : It → Hp → Prop} (q : t σ H fun vs H1 => uRng1 vs H1 R) : iRng1 t σ H R := q
theorem r_irng2 {t : TA} {R : It → Hp → Prop} (q : t σ H fun vs H1 => uRng2 vs H1 R) : iRng2 t σ H R := q
theorem r_rng1 {j : Int} {R : It → Hp → Prop} (h1 : -(2 ^ 62) ≤ j) (h2 : j < 2 ^ 62) (q : R (Itr 0 j.toNat) H) : uRng1 [.int j] H R := ⟨j, rfl, h1, h2, q⟩
theorem r_rng2 {i j : Int} {R : It → Hp → Prop} (h1 : -(2 ^ 62) ≤ i) (h2 : i < 2 ^ 62) (h3 : -(2 ^ 62) ≤ j) (h4 : j < 2 ^ 62) (q : R (Itr i (j - i).toNat) H) : uRng2 [.int i, .int j] H R := ⟨i, j, rfl, ⟨h1, h2, h3, h4⟩, q⟩
def uZip (K : PySem.W.Frag) (vs : List V) (H : Hp) (R : It → Hp → Prop) : Prop := ∃ a b xs ys, vs = [.ref a, .ref b] ∧ ((SqL K H a xs ∧ SqL K H b ys ∧ R (Itz K a b) H) ∨ (SqT K H a xs ∧ SqT K H b ys ∧ R (RZ.ItzT K a b) H))
theorem r_izip {t : TA} {R : It → Hp → Prop} (q : t σ H fun vs H1 => uZip K vs H1 R) : RZ.iZipA K t σ H R := q
theorem r_zipL {R : It → Hp → Prop} (h1 : SqL K H a xs) (h2 : SqL K H b ys) (q : R (Itz K a b) H) : uZip K [.ref a, .ref b] H R := ⟨a, b, xs, ys, rfl, .inl ⟨h1, h2, q⟩⟩
theorem r_zipT {R : It → Hp → Prop} (h1 : SqT K H a xs) (h2 : SqT K H b ys) (q : R (RZ.ItzT K a b) H) : uZip K [.ref a, .ref b] H R := ⟨a, b, xs, ys, rfl, .inr ⟨h1, h2, q⟩⟩

/-- a for by its invariant -/
theorem for_wk (w : Wk J n src item) (Pv : Nat → St → Hp → Prop) (h0 : Pv 0 σ H) (hsrc : ∀ i σ H, i ≤ n → Pv i σ H → src H)
    (hs : ∀ i x σ H H', i < n → Pv i σ H → item i H x H' → g x σ H' fun σ2 H2 => tb ⟨Pv (i + 1), rt, nx, Pv (i + 1)⟩ σ2 H2) (hd : ∀ σ H, Pv n σ H → nx σ H) :
    ForW J g tb ⟨nx, rt, bk, ct⟩ σ H := by
  refine ⟨fun i m σ H => m = n - i ∧ i ≤ n ∧ Pv i σ H, ⟨n, by simp, Nat.zero_le _, h0⟩, ?_⟩
  rintro i m σ H ⟨rfl, hi, p⟩
  have q := hsrc i σ H hi p
  by_cases hlt : i < n
  · refine .inr ⟨w.go i H q hlt, Pv (i + 1), fun σ' H' p' => ⟨n - (i + 1), by omega, rfl, hlt, p'⟩, fun x H' y => ?_⟩
    exact hs i x σ H H' hlt p (w.yld i H x H' q y)
  · have e : i = n := by omega
    subst e
    exact .inl ⟨w.stop i H q (Nat.le_refl _), hd σ H p⟩
theorem lc_wk (w : Wk J n src item) (Pv : Addr → Nat → Hp → Prop) (h0 : ∀ D, H D = none → Pv D 0 (upd H D (.lst []))) (hsrc : ∀ D i H, i ≤ n → Pv D i H → src H)
    (hs : ∀ D i x H2 H', H D = none → i < n → Pv D i H2 → item i H2 x H' → g x (wipe σ vs) H' fun σ2 H2 => wipe σ2 vs = wipe σ vs ∧ tt σ2 H2 fun b H3 =>
      if b = true then te σ2 H3 fun y H4 => ∃ acc, H4 D = some (.lst acc) ∧ acc.length < sizeLine ∧ Pv D (i + 1) (upd H4 D (.lst (acc ++ [y]))) else Pv D (i + 1) H3)
    (hd : ∀ D H', H D = none → Pv D n H' → Q (.ref D) H') : LcW J g tt te vs σ H Q := by
  intro D hD
  refine ⟨fun i m H => m = n - i ∧ i ≤ n ∧ Pv D i H, ⟨n, by simp, Nat.zero_le _, h0 D hD⟩, ?_⟩
  rintro i m H2 ⟨rfl, hi, p⟩
  have q := hsrc D i H2 hi p
  by_cases hlt : i < n
  · refine .inr ⟨w.go i H2 q hlt, Pv D (i + 1), fun H' p' => ⟨n - (i + 1), by omega, rfl, hlt, p'⟩, fun x H' y => ?_⟩
    exact hs D i x H2 H' hD hlt p (w.yld i H2 x H' q y)
  · have e : i = n := by omega
    subst e
    exact .inl ⟨w.stop i H2 q (Nat.le_refl _), hd D H2 hD p⟩
theorem wipe_one {j : Nat} {x : V} : wipe ((wipe σ [j]).set j (some x)) [j] = wipe σ [j] := by
  simp [wipe, List.set_set]
theorem take_snoc {α : Type} : ∀ {l : List α} {i : Nat} {x : α}, l[i]? = some x → l.take (i + 1) = l.take i ++ [x]
  | [], i, x, h => by simp at h
  | a :: l, 0, x, h => by
    have e : a = x := Option.some.inj h
    subst e; rfl
  | a :: l, i + 1, x, h => by
    have ih := take_snoc (l := l) (i := i) (x := x) h
    show a :: l.take (i + 1) = a :: l.take i ++ [x]
    rw [ih]; rfl
/-- a comprehension over one name whose element and test are pure: known values -/
theorem lc_pure {j : Nat} (w : Wk J xs.length src (fun i H x H' => H' = H ∧ xs[i]? = some x)) (hsrc : ∀ H', Same H H' → src H') (hn : xs.length ≤ 16777216) (f : V → Bool) (v : V → V)
    (ht : ∀ x H2 (R : Bool → Hp → Prop), x ∈ xs → Same H H2 → (∀ H3, Same H2 H3 → R (f x) H3) → tt ((wipe σ [j]).set j (some x)) H2 R)
    (he : ∀ x H2 (R : VK), x ∈ xs → f x = true → Same H H2 → (∀ H3, Same H2 H3 → R (v x) H3) → te ((wipe σ [j]).set j (some x)) H2 R)
    (q : ∀ D H', H D = none → Same H H' → H' D = some (.lst ((xs.filter f).map v)) → Q (.ref D) H') : LcW J (gName j) tt te [j] σ H Q := by
  refine lc_wk w (fun D i H' => H D = none ∧ Same H H' ∧ H' D = some (.lst (((xs.take i).filter f).map v))) (fun D hD => ⟨hD, fun b o e => by rw [upd_ne (ne_of_none e hD)]; exact e, by simp [upd_same]⟩)
    (fun D i H' _ p => hsrc H' p.2.1) ?_ (fun D H' hD p => q D H' hD p.2.1 (by have := p.2.2; rw [List.take_length] at this; exact this))
  rintro D i x H2 H' hD hi ⟨p1, p2, p3⟩ ⟨rfl, hx⟩
  have hm : x ∈ xs := List.mem_of_getElem? hx
  show wipe ((wipe σ [j]).set j (some x)) [j] = wipe σ [j] ∧ tt ((wipe σ [j]).set j (some x)) H' _
  refine ⟨wipe_one, ht x H' _ hm p2 fun H3 e3 => ?_⟩
  have t3 := take_snoc hx
  have hl : ((xs.take i).filter f).length ≤ i := Nat.le_trans (List.length_filter_le _ _) (by simp; omega)
  cases hf : f x with
  | true =>
    refine i_T (he x H3 _ hm hf (p2.trans e3) fun H4 e4 => ⟨_, e4 _ _ (e3 _ _ p3), by rw [List.length_map, sizeLine_eq]; omega, hD, fun b o e => ?_, ?_⟩)
    · rw [upd_ne (ne_of_none e hD)]; exact e4 _ _ (e3 _ _ (p2 _ _ e))
    · rw [upd_same, t3, List.filter_append, List.map_append]
      simp [hf]
  | false =>
    refine i_F ⟨hD, p2.trans e3, ?_⟩
    rw [t3, List.filter_append, List.map_append]
    simp [hf]
    exact e3 _ _ p3
/-- .. whose elements are told by a relation that stays where tuples stay -/
theorem lc_rel {j : Nat} (w : Wk J xs.length src (fun i H x H' => H' = H ∧ xs[i]? = some x)) (hsrc : ∀ H', Same H H' → src H') (hn : xs.length ≤ 16777216) (f : V → Bool) (R : Hp → V → V → Prop) (hR : ∀ H H' x y, TExt H H' → R H x y → R H' x y)
    (ht : ∀ x H2 (S : Bool → Hp → Prop), x ∈ xs → Same H H2 → (∀ H3, Same H2 H3 → S (f x) H3) → tt ((wipe σ [j]).set j (some x)) H2 S)
    (he : ∀ x H2 (S : VK), x ∈ xs → f x = true → Same H H2 → (∀ y H3, Same H2 H3 → R H3 x y → S y H3) → te ((wipe σ [j]).set j (some x)) H2 S)
    (q : ∀ D H' ys, H D = none → Same H H' → H' D = some (.lst ys) → Paired (R H') (xs.filter f) ys → Q (.ref D) H') : LcW J (gName j) tt te [j] σ H Q := by
  refine lc_wk w (fun D i H' => H D = none ∧ Same H H' ∧ ∃ ys, H' D = some (.lst ys) ∧ Paired (R H') ((xs.take i).filter f) ys) (fun D hD => ⟨hD, fun b o e => by rw [upd_ne (ne_of_none e hD)]; exact e, [], by simp [upd_same], by simpa using Paired.nil⟩)
    (fun D i H' _ p => hsrc H' p.2.1) ?_ (fun D H' hD p => by obtain ⟨p1, p2, ys, p3, p4⟩ := p; rw [List.take_length] at p4; exact q D H' ys hD p2 p3 p4)
  rintro D i x H2 H' hD hi ⟨p1, p2, ys, p3, p4⟩ ⟨rfl, hx⟩
  have hm : x ∈ xs := List.mem_of_getElem? hx
  show wipe ((wipe σ [j]).set j (some x)) [j] = wipe σ [j] ∧ tt ((wipe σ [j]).set j (some x)) H' _
  refine ⟨wipe_one, ht x H' _ hm p2 fun H3 e3 => ?_⟩
  have t3 := take_snoc hx
  have hl : ((xs.take i).filter f).length ≤ i := Nat.le_trans (List.length_filter_le _ _) (by simp; omega)
  have hl2 := p4.length
  cases hf : f x with
  | true =>
    refine i_T (he x H3 _ hm hf (p2.trans e3) fun y H4 e4 hy => ⟨ys, e4 _ _ (e3 _ _ p3), by rw [sizeLine_eq]; omega, hD, fun b o e => ?_, ys ++ [y], upd_same, ?_⟩)
    · rw [upd_ne (ne_of_none e hD)]; exact e4 _ _ (e3 _ _ (p2 _ _ e))
    · have te2 : TExt H4 (upd H4 D (.lst (ys ++ [y]))) := TExt.lst Keep.at_ (e4 _ _ (e3 _ _ p3))
      rw [t3, List.filter_append]
      simp only [List.filter_cons, hf, List.filter_nil, if_true]
      exact (Paired.mapP p4 fun u z r => hR _ _ _ _ ((TExt.of_same (e3.trans e4)).trans te2) r).snoc (hR _ _ _ _ te2 hy)
  | false =>
    refine i_F ⟨hD, p2.trans e3, ys, e3 _ _ p3, ?_⟩
    rw [t3, List.filter_append]
    simp [hf]
    exact Paired.mapP p4 fun u z r => hR _ _ _ _ (TExt.of_same e3) r
theorem filter_all {α : Type} (l : List α) : l.filter (fun _ => true) = l := List.filter_eq_self.mpr (by simp)
theorem lc_map {j : Nat} (w : Wk J xs.length src (fun i H x H' => H' = H ∧ xs[i]? = some x)) (hsrc : ∀ H', Same H H' → src H') (hn : xs.length ≤ 16777216) (v : V → V)
    (he : ∀ x H2 (R : VK), x ∈ xs → Same H H2 → (∀ H3, Same H2 H3 → R (v x) H3) → te ((wipe σ [j]).set j (some x)) H2 R)
    (q : ∀ D H', H D = none → Same H H' → H' D = some (.lst (xs.map v)) → Q (.ref D) H') : LcW J (gName j) tYes te [j] σ H Q :=
  lc_pure w hsrc hn (fun _ => true) v (fun x H2 R _ _ k => k H2 (Same.refl H2)) (fun x H2 R hx _ e k => he x H2 R hx e k) (fun D H' hD e hl => q D H' hD e (by rw [filter_all] at hl; exact hl))
theorem lc_mapR {j : Nat} (w : Wk J xs.length src (fun i H x H' => H' = H ∧ xs[i]? = some x)) (hsrc : ∀ H', Same H H' → src H') (hn : xs.length ≤ 16777216) (R : Hp → V → V → Prop) (hR : ∀ H H' x y, TExt H H' → R H x y → R H' x y)
    (he : ∀ x H2 (S : VK), x ∈ xs → Same H H2 → (∀ y H3, Same H2 H3 → R H3 x y → S y H3) → te ((wipe σ [j]).set j (some x)) H2 S)
    (q : ∀ D H' ys, H D = none → Same H H' → H' D = some (.lst ys) → Paired (R H') xs ys → Q (.ref D) H') : LcW J (gName j) tYes te [j] σ H Q :=
  lc_rel w hsrc hn (fun _ => true) R hR (fun x H2 S _ _ k => k H2 (Same.refl H2)) (fun x H2 S hx _ e k => he x H2 S hx e k) (fun D H' ys hD e hl hp => q D H' ys hD e hl (by rw [filter_all] at hp; exact hp))
end
/-! ### more steps -/
section
variable {K : PySem.W.Frag} {H H' : Hp} {Q : VK} {p q a b : Addr} {F : Addr → Prop} {xs ys : List V} {σ : St} {te : TE} {tl th : TO} {lo hi : Option Int} {v : V}
theorem r_sl {r : V → Option Int → Option Int → Hp → VK → Prop} (q : te σ H fun x H1 => tl σ H1 fun l H2 => th σ H2 fun u H3 => r x l u H3 Q) : tSl r te tl th σ H Q := q
theorem r_nopart {R : Option Int → Hp → Prop} (q : R none H) : tNoPart σ H R := q
def uPart (x : V) (H : Hp) (R : Option Int → Hp → Prop) : Prop := ∃ i, x = .int i ∧ R (some i) H
theorem r_part {R : Option Int → Hp → Prop} (q : te σ H fun x H1 => uPart x H1 R) : tPart te σ H R := q
theorem r_parti {i : Int} {R : Option Int → Hp → Prop} (q : R (some i) H) : uPart (.int i) H R := ⟨i, rfl, q⟩
theorem r_sll (h : SqL K H a xs) (q : ∀ p H', H p = none → Same H H' → H' p = some (.lst (cutV xs lo hi)) → Q (.ref p) H') : rSlL K (.ref a) lo hi H Q :=
  ⟨a, xs, rfl, h, fun p hp => q p _ hp (Keep.same (Keep.new hp)) upd_same⟩
theorem cutV_from {xs : List V} {k : Nat} : cutV xs (some (k : Int)) none = xs.drop k := by
  unfold cutV
  rw [HT.sIx_nat, HT.sIx_none]
  by_cases h : k ≤ xs.length
  · rw [Nat.min_eq_left h, List.take_of_length_le (by simp)]
  · rw [Nat.min_eq_right (by omega), List.drop_of_length_le (Nat.le_refl _), List.drop_of_length_le (by omega)]
    simp
theorem cutV_to {xs : List V} {k : Nat} : cutV xs none (some (k : Int)) = xs.take k := by
  unfold cutV
  rw [HT.sIx_nat, HT.sIx_none]
  simp only [List.drop_zero, Nat.sub_zero]
  by_cases h : k ≤ xs.length
  · rw [Nat.min_eq_left h]
  · rw [Nat.min_eq_right (by omega), List.take_of_length_le (Nat.le_refl _), List.take_of_length_le (by omega)]
theorem cutV_init {xs : List V} {x : V} : cutV (xs ++ [x]) none (some (-1)) = xs := by
  unfold cutV
  simp [HT.sIx]
  rw [show (-1 + ((xs.length : Int) + 1)).toNat = xs.length by omega, List.take_left']
  rfl
theorem r_sla (h : SqT K H a xs) (q : ∀ p H', Same H H' → SqT K H' p (cutV xs lo hi) → Q (.ref p) H') : rSlA K (.ref a) lo hi H Q := by
  refine ⟨a, xs, rfl, h, fun e => q a H (Same.refl H) ?_, fun _ p hp => q p _ (Keep.same (Keep.new hp)) (SqT.of upd_same)⟩
  unfold cutV
  rw [e.1, e.2]
  simpa using h
theorem r_cat (h1 : H a = some (.lst xs)) (h2 : H b = some (.lst ys)) (hz : xs.length + ys.length ≤ sizeLine) (q : ∀ p H', H p = none → Same H H' → H' p = some (.lst (xs ++ ys)) → Q (.ref p) H') : rCat (.ref a) (.ref b) H Q :=
  ⟨a, b, xs, ys, rfl, rfl, h1, h2, hz, fun p hp => q p _ hp (Keep.same (Keep.new hp)) upd_same⟩
theorem r_catA (h1 : SqT K H a xs) (h2 : SqT K H b ys) (hz : xs.length + ys.length ≤ sizeLine) (q : ∀ p H', Same H H' → SqT K H' p (xs ++ ys) → Q (.ref p) H') : rCatA K (.ref a) (.ref b) H Q := by
  refine ⟨a, b, xs, ys, rfl, rfl, h1, h2, hz, fun e => ?_, fun _ e => ?_, fun _ _ p hp => q p _ (Keep.same (Keep.new hp)) (SqT.of upd_same)⟩
  · subst e
    exact q b H (Same.refl H) (by simpa using h2)
  · subst e
    exact q a H (Same.refl H) (by simpa using h1)
def uBM (K : PySem.W.Frag) (T : String) (r : V → List V → Hp → VK → Prop) (t : TA) (σ : St) (x : V) (H : Hp) (Q : VK) : Prop := tyV K T x H ∧ t σ H fun xs H2 => r x xs H2 Q
theorem r_bm {T : String} {r : V → List V → Hp → VK → Prop} {t : TA} (q : te σ H fun x H1 => uBM K T r t σ x H1 Q) : tBM K T r te t σ H Q := q
def uBM0 (K : PySem.W.Frag) (T : String) (r : V → List V → Hp → VK → Prop) (x : V) (H : Hp) (Q : VK) : Prop := tyV K T x H ∧ r x [] H Q
theorem r_bm0 {T : String} {r : V → List V → Hp → VK → Prop} (q : te σ H fun x H1 => uBM0 K T r x H1 Q) : tBM0 K T r te σ H Q := q
theorem r_bml {r : V → List V → Hp → VK → Prop} {t : TA} (h : SqL K H a xs) (q : t σ H fun vs H2 => r (.ref a) vs H2 Q) : uBM K "list" r t σ (.ref a) H Q := ⟨.inl ⟨rfl, _, h⟩, q⟩
theorem r_bm0l {r : V → List V → Hp → VK → Prop} (h : SqL K H a xs) (q : r (.ref a) [] H Q) : uBM0 K "list" r (.ref a) H Q := ⟨.inl ⟨rfl, _, h⟩, q⟩
def uRevL (K : PySem.W.Frag) (x : V) (H : Hp) (Q : VK) : Prop := ∃ a xs, x = .ref a ∧ SqL K H a xs ∧ ∀ p, H p = none → Q (.ref p) (upd H p (.lst xs.reverse))
theorem r_revL (q : te σ H fun x H1 => uRevL K x H1 Q) : tRevL K te σ H Q := q
theorem r_revl (h : SqL K H a xs) (q : ∀ p H', H p = none → Same H H' → H' p = some (.lst xs.reverse) → Q (.ref p) H') : uRevL K (.ref a) H Q := ⟨a, xs, rfl, h, fun p hp => q p _ hp (Keep.same (Keep.new hp)) upd_same⟩
theorem r_reverse (h : H a = some (.lst xs)) (q : ∀ H', Keep (At a) H H' → H' a = some (.lst xs.reverse) → Q .non H') : rReverse (.ref a) [] H Q := ⟨a, xs, rfl, rfl, h, q _ Keep.at_ upd_same⟩
theorem r_append (h : H a = some (.lst xs)) (hz : xs.length < sizeLine) (q : ∀ H', Keep (At a) H H' → H' a = some (.lst (xs ++ [v])) → Q .non H') : rAppend (.ref a) [v] H Q := ⟨a, xs, v, rfl, rfl, h, hz, q _ Keep.at_ upd_same⟩
theorem r_extend (h : H a = some (.lst xs)) (h2 : H b = some (.lst ys)) (hz : xs.length + ys.length ≤ sizeLine) (q : ∀ H', Keep (At a) H H' → H' a = some (.lst (xs ++ ys)) → Q .non H') : rExtend (.ref a) [.ref b] H Q := ⟨a, b, xs, ys, rfl, rfl, h, h2, hz, q _ Keep.at_ upd_same⟩
theorem r_sortedI {ns : List Int} (h : SqL K H a (ns.map V.int)) (q : ∀ (ms : List Int) p H', ms.Perm ns → ms.Pairwise (· ≤ ·) → H p = none → Same H H' → H' p = some (.lst (ms.map V.int)) → Q (.ref p) H') : rSortedI K [.ref a] H Q :=
  ⟨a, ns, rfl, h, fun ms p h1 h2 h3 => q ms p _ h1 h2 h3 (Keep.same (Keep.new h3)) upd_same⟩
theorem dpAll_ints (K : PySem.W.Frag) (H : Hp) : ∀ ns : List Int, DpAll K H (ns.map V.int) (ns.map PyData.int)
  | [] => .nil
  | n :: ns => .cons (.int n) (dpAll_ints K H ns)
theorem dpAll_len {K : PySem.W.Frag} {H : Hp} : ∀ {vs : List V} {ds : List PyData}, DpAll K H vs ds → vs.length = ds.length
  | _, _, .nil => rfl
  | _, _, .cons _ h => by simp [dpAll_len h]
theorem dpAll_get {K : PySem.W.Frag} {H : Hp} : ∀ {vs : List V} {ds : List PyData}, DpAll K H vs ds → ∀ x ∈ vs, ∃ d, Dp K H x d
  | _, _, .cons h1 h2, x, hx => by
    rcases List.mem_cons.mp hx with rfl | hx
    · exact ⟨_, h1⟩
    · exact dpAll_get h2 x hx
theorem r_ix01 {x y : Int} {b : Bool} (h : SqL K H p [.int x, .int y]) (q : ∀ z, (z = x ∧ b = false) ∨ (z = y ∧ b = true) → Q (.int z) H) : rIx K (.ref p) (.int (if b = true then 1 else 0)) H Q := by
  cases b with
  | true => exact r_ixl h rfl (q y (.inr ⟨rfl, rfl⟩))
  | false => exact r_ixl h rfl (q x (.inl ⟨rfl, rfl⟩))
theorem SqL.keep (h : SqL K H a xs) (k : Keep F H H') (n : ¬ F a) : SqL K H' a xs := by
  rcases h with (h | ⟨o, h⟩) | h
  · exact .inl (.inl (k a _ h n))
  · exact .inl (.inr ⟨o, k a _ h n⟩)
  · exact .inr h
end
/-! ### data that == is told of: small depth -/
structure Shp (n : Nat) (d : PyData) : Prop where
  c : d.canLay0 = true
  d : d.depth ≤ n
theorem Shp.ok {n : Nat} {d : PyData} (h : Shp n d) (hn : n ≤ 64 := by decide) : SeqAt.shaped d = true := by
  unfold SeqAt.shaped
  rw [h.c, Bool.true_and]
  exact decide_eq_true (Nat.le_trans h.d hn)
theorem Shp.int {n : Nat} (i : Int) : Shp n (.int i) := ⟨by simp [PyData.canLay0], by simp [PyData.depth]⟩
theorem Shp.bool {n : Nat} (i : Bool) : Shp n (.bool i) := ⟨by simp [PyData.canLay0], by simp [PyData.depth]⟩
theorem Shp.none {n : Nat} : Shp n .none := ⟨by simp [PyData.canLay0], by simp [PyData.depth]⟩
theorem shp_all {n : Nat} : ∀ {ds : List PyData}, (∀ d ∈ ds, Shp n d) → PyData.canLayAll0 ds = true ∧ PyData.depthAll ds ≤ n
  | [], _ => ⟨by simp [PyData.canLayAll0], by simp [PyData.depthAll]⟩
  | x :: xs, h => by
    have h1 := h x (List.mem_cons_self ..)
    have h2 := shp_all fun d hd => h d (List.mem_cons_of_mem _ hd)
    exact ⟨by simp [PyData.canLayAll0, h1.c, h2.1], by simp only [PyData.depthAll]; exact Nat.max_le.mpr ⟨h1.d, h2.2⟩⟩
theorem Shp.tuple {n : Nat} {ds : List PyData} (h : ∀ d ∈ ds, Shp n d) : Shp (n + 1) (.tuple ds) := ⟨by simp [PyData.canLay0, (shp_all h).1], by have := (shp_all h).2; simp [PyData.depth]; omega⟩
theorem Shp.list {n : Nat} {ds : List PyData} (h : ∀ d ∈ ds, Shp n d) : Shp (n + 1) (.list ds) := ⟨by simp [PyData.canLay0, (shp_all h).1], by have := (shp_all h).2; simp [PyData.depth]; omega⟩
theorem Shp.tupleM {α : Type} {n : Nat} {as : List α} {f : α → PyData} (h : ∀ c, Shp n (f c)) : Shp (n + 1) (.tuple (as.map f)) := Shp.tuple fun d hd => by
  obtain ⟨c, _, rfl⟩ := List.mem_map.mp hd
  exact h c
theorem Shp.listM {α : Type} {n : Nat} {as : List α} {f : α → PyData} (h : ∀ c, Shp n (f c)) : Shp (n + 1) (.list (as.map f)) := Shp.list fun d hd => by
  obtain ⟨c, _, rfl⟩ := List.mem_map.mp hd
  exact h c
theorem Shp.t2 {n : Nat} {a b : PyData} (ha : Shp n a) (hb : Shp n b) : Shp (n + 1) (.tuple [a, b]) := Shp.tuple (by simp; exact ⟨ha, hb⟩)
theorem Shp.t3 {n : Nat} {a b c : PyData} (ha : Shp n a) (hb : Shp n b) (hc : Shp n c) : Shp (n + 1) (.tuple [a, b, c]) := Shp.tuple (by simp; exact ⟨ha, hb, hc⟩)
theorem Shp.t4 {n : Nat} {a b c d : PyData} (ha : Shp n a) (hb : Shp n b) (hc : Shp n c) (hd : Shp n d) : Shp (n + 1) (.tuple [a, b, c, d]) := Shp.tuple (by simp; exact ⟨ha, hb, hc, hd⟩)
/-! ### data in a row: walks and comprehensions over it -/
section
variable {K : PySem.W.Frag} {σ : St} {H H' : Hp} {Q : VK} {te : TE} {tt : TT} {g : TG} {vs : List Nat} {J : It} {src : Hp → Prop} {item : Nat → Hp → V → Hp → Prop} {a : Addr}
theorem dpAll_at : ∀ {ws : List V} {ds : List PyData}, DpAll K H ws ds → ∀ {i : Nat} {x : V}, ws[i]? = some x → ∃ d, ds[i]? = some d ∧ Dp K H x d
  | _, _, .nil, i, x, h => by simp at h
  | _, _, .cons h1 h2, 0, x, h => by
    have e := Option.some.inj h
    subst e
    exact ⟨_, rfl, h1⟩
  | _, _, .cons h1 h2, i + 1, x, h => dpAll_at h2 (i := i) (x := x) h
theorem dpAll_map_at {α : Type} {f : α → PyData} {as : List α} {ws : List V} (h : DpAll K H ws (as.map f)) {i : Nat} {x : V} (e : ws[i]? = some x) : ∃ c, as[i]? = some c ∧ Dp K H x (f c) := by
  obtain ⟨d, h1, h2⟩ := dpAll_at h e
  rw [List.getElem?_map] at h1
  obtain ⟨c, h3, rfl⟩ := Option.map_eq_some_iff.mp h1
  exact ⟨c, h3, h2⟩
theorem same_at {H H1 H2 : Hp} {f : Addr} (s : Same H H1) (hf : H f = none) (k : Keep (At f) H1 H2) : Same H H2 := fun b o e => k b o (s b o e) (ne_of_none e hf)
theorem dpAll_drop : ∀ {ws : List V} {ds : List PyData} (k : Nat), DpAll K H ws ds → DpAll K H (ws.drop k) (ds.drop k)
  | _, _, 0, h => h
  | _, _, k + 1, .nil => .nil
  | _, _, k + 1, .cons h1 h2 => dpAll_drop k h2
theorem dpAll_take : ∀ {ws : List V} {ds : List PyData} (k : Nat), DpAll K H ws ds → DpAll K H (ws.take k) (ds.take k)
  | _, _, 0, h => by simpa using DpAll.nil
  | _, _, k + 1, .nil => .nil
  | _, _, k + 1, .cons h1 h2 => .cons h1 (dpAll_take k h2)
theorem dpAll_snoc : ∀ {ws : List V} {ds : List PyData} {x : V} {d : PyData}, DpAll K H ws ds → Dp K H x d → DpAll K H (ws ++ [x]) (ds ++ [d])
  | _, _, _, _, .nil, h => .cons h .nil
  | _, _, _, _, .cons h1 h2, h => .cons h1 (dpAll_snoc h2 h)
theorem dpAll_app : ∀ {ws : List V} {ds : List PyData} {ws' : List V} {ds' : List PyData}, DpAll K H ws ds → DpAll K H ws' ds' → DpAll K H (ws ++ ws') (ds ++ ds')
  | _, _, _, _, .nil, h => h
  | _, _, _, _, .cons h1 h2, h => .cons h1 (dpAll_app h2 h)
theorem paired_dp {α : Type} {f : α → PyData} : ∀ {as : List α} {ys : List V}, Paired (fun c y => Dp K H y (f c)) as ys → DpAll K H ys (as.map f)
  | _, _, .nil => .nil
  | _, _, .cons h1 h2 => .cons h1 (paired_dp h2)
theorem dp_tup {v : V} {ds : List PyData} (h : Dp K H v (.tuple ds)) : ∃ p ws, v = .ref p ∧ SqT K H p ws ∧ DpAll K H ws ds := by
  cases h with
  | tup hs ha => exact ⟨_, _, rfl, hs, ha⟩
theorem dp_lst {v : V} {ds : List PyData} (h : Dp K H v (.list ds)) : ∃ p ws, v = .ref p ∧ SqL K H p ws ∧ DpAll K H ws ds := by
  cases h with
  | lst hs ha => exact ⟨_, _, rfl, hs, ha⟩
theorem dp_int {v : V} {i : Int} (h : Dp K H v (.int i)) : v = .int i := by cases h; rfl
theorem dp_non {v : V} (h : Dp K H v .none) : v = .non := by cases h; rfl
theorem dp_bool {v : V} {b : Bool} (h : Dp K H v (.bool b)) : v = .bl b := by cases h; rfl
theorem dp_str {v : V} {z : Str} (h : Dp K H v (.str z)) : v = .str z := by cases h; rfl
theorem dpAll_trues {α : Type} : ∀ {as : List α} {ws : List V}, DpAll K H ws (as.map fun _ => PyData.bool true) → ∀ v ∈ ws, v = V.bl true
  | [], _, .nil, v, hv => by simp at hv
  | a :: as, _, .cons h1 h2, v, hv => by
    rcases List.mem_cons.mp hv with rfl | hv
    · exact dp_bool h1
    · exact dpAll_trues h2 v hv
theorem dpAll_all_ints : ∀ {ws : List V} {ns : List Int}, DpAll K H ws (ns.map PyData.int) → ws = ns.map V.int
  | _, [], .nil => rfl
  | _, n :: ns, .cons h1 h2 => by rw [dp_int h1, dpAll_all_ints h2]; rfl
theorem dp_ints {v : V} {ns : List Int} (h : Dp K H v (.tuple (ns.map PyData.int))) : ∃ p, v = .ref p ∧ SqT K H p (ns.map V.int) := by
  obtain ⟨p, ws, rfl, h1, h2⟩ := dp_tup h
  rw [dpAll_all_ints h2] at h1
  exact ⟨p, rfl, h1⟩
theorem mapP_mono {α : Type} {R S : α → V → Prop} {as : List α} {ys : List V} (h : Paired R as ys) (k : ∀ c y, R c y → S c y) : Paired S as ys := Paired.mapP h k
/-- a comprehension over whatever is walked: each kept item's element is told by R, which stays where tuples stay -/
theorem lc_gen {α : Type} (as : List α) (It1 : α → V → Hp → Prop) (w : Wk J as.length src item) (hit : ∀ i H x H', i < as.length → item i H x H' → ∃ c, as[i]? = some c ∧ Same H H' ∧ It1 c x H') (hsrc : ∀ H', Same H H' → src H')
    (hn : as.length ≤ 16777216) (f : α → Bool) (R : Hp → α → V → Prop) (hR : ∀ H H' c y, TExt H H' → R H c y → R H' c y)
    (hs : ∀ c x H2 (S : VK) (N : Hp → Prop), c ∈ as → Same H H2 → It1 c x H2 → (f c = true → ∀ y H3, Same H2 H3 → R H3 c y → S y H3) → (f c = false → ∀ H3, Same H2 H3 → N H3) →
      g x (wipe σ vs) H2 fun σ2 H3 => wipe σ2 vs = wipe σ vs ∧ tt σ2 H3 fun b H4 => if b = true then te σ2 H4 S else N H4)
    (q : ∀ D H' ys, H D = none → Same H H' → H' D = some (.lst ys) → Paired (R H') (as.filter f) ys → Q (.ref D) H') : LcW J g tt te vs σ H Q := by
  refine lc_wk w (fun D i H' => H D = none ∧ Same H H' ∧ ∃ ys, H' D = some (.lst ys) ∧ Paired (R H') ((as.take i).filter f) ys) (fun D hD => ⟨hD, fun b o e => by rw [upd_ne (ne_of_none e hD)]; exact e, [], by simp [upd_same], by simpa using Paired.nil⟩)
    (fun D i H' _ p => hsrc H' p.2.1) ?_ (fun D H' hD p => by obtain ⟨p1, p2, ys, p3, p4⟩ := p; rw [List.take_length] at p4; exact q D H' ys hD p2 p3 p4)
  rintro D i x H2 H' hD hi ⟨p1, p2, ys, p3, p4⟩ hx
  obtain ⟨c, hc, s1, hI⟩ := hit i H2 x H' hi hx
  have t3 := take_snoc hc
  have hl : ((as.take i).filter f).length ≤ i := Nat.le_trans (List.length_filter_le _ _) (by simp; omega)
  have hl2 := p4.length
  have hm : c ∈ as := List.mem_of_getElem? hc
  refine hs c x H' _ _ hm (p2.trans s1) hI (fun hf y H4 e4 hy => ?_) (fun hf H3 e3 => ?_)
  · refine ⟨ys, e4 _ _ (s1 _ _ p3), by rw [sizeLine_eq]; omega, hD, fun b o e => ?_, ys ++ [y], upd_same, ?_⟩
    · rw [upd_ne (ne_of_none e hD)]; exact e4 _ _ (s1 _ _ (p2 _ _ e))
    · have te2 : TExt H4 (upd H4 D (.lst (ys ++ [y]))) := TExt.lst Keep.at_ (e4 _ _ (s1 _ _ p3))
      rw [t3, List.filter_append]
      simp only [List.filter_cons, hf, List.filter_nil, if_true]
      exact (Paired.mapP p4 fun u z r => hR _ _ _ _ ((TExt.of_same (s1.trans e4)).trans te2) r).snoc (hR _ _ _ _ te2 hy)
  · refine ⟨hD, p2.trans (s1.trans e3), ys, e3 _ _ (s1 _ _ p3), ?_⟩
    rw [t3, List.filter_append]
    simp [hf]
    exact Paired.mapP p4 fun u z r => hR _ _ _ _ (TExt.of_same (s1.trans e3)) r
/-- over range(n) -/
theorem lc_rngD {n : Nat} {lo : Int} (hn : n ≤ 16777216) (f : Nat → Bool) (fx : Nat → PyData) (hi : ∀ c, imm (fx c) = true)
    (hs : ∀ (c : Nat) H2 (S : VK) (N : Hp → Prop), c < n → Same H H2 → (f c = true → ∀ y H3, Same H2 H3 → Dp K H3 y (fx c) → S y H3) → (f c = false → ∀ H3, Same H2 H3 → N H3) →
      g (.int (lo + c)) (wipe σ vs) H2 fun σ2 H3 => wipe σ2 vs = wipe σ vs ∧ tt σ2 H3 fun b H4 => if b = true then te σ2 H4 S else N H4)
    (q : ∀ D H' ys, H D = none → Same H H' → H' D = some (.lst ys) → DpAll K H' ys (((List.range n).filter f).map fx) → Q (.ref D) H') : LcW (Itr lo n) g tt te vs σ H Q := by
  have w : Wk (Itr lo n) (List.range n).length (fun _ => True) (fun i H x H' => H' = H ∧ x = .int (lo + i)) := by
    rw [List.length_range]
    exact wk_rng
  refine lc_gen (List.range n) (fun c x H => x = .int (lo + c)) w (fun i H x H' hi h => ⟨i, List.getElem?_range (by simpa using hi), by rw [h.1]; exact Same.refl _, h.2⟩) (fun _ _ => trivial) (by simpa using hn) f (fun H c y => Dp K H y (fx c)) (fun H H' c y e h => Dp.text e _ _ (hi c) h)
    (fun c x H2 S N hc s hx k1 k2 => ?_) (fun D H' ys hD s e p => q D H' ys hD s e (paired_dp p))
  subst hx
  exact hs c H2 S N (by simpa using hc) s k1 k2
/-- over range(n), one object p (a pot) being changed in each turn -/
theorem lc_rngK {n : Nat} {lo : Int} {p : Addr} {te : TE} {j : Nat} (I : Hp → Prop) (h0 : I H) (hne : ∀ D, H D = none → D ≠ p) (hI : ∀ H1 H2 : Hp, I H1 → H2 p = H1 p → I H2) (hT : ∀ H1 H2, I H1 → Keep (At p) H1 H2 → TExt H1 H2)
    (hn : n ≤ 16777216) (R : Hp → Nat → V → Prop) (hR : ∀ H H' i y, TExt H H' → R H i y → R H' i y)
    (hs : ∀ (i : Nat) H2 (S : VK), i < n → Keep (At p) H H2 → I H2 → (∀ y H3, Keep (At p) H2 H3 → I H3 → R H3 i y → S y H3) → te ((wipe σ [j]).set j (some (.int (lo + i)))) H2 S)
    (q : ∀ D H' ys, H D = none → Keep (At p) H H' → I H' → H' D = some (.lst ys) → Paired (R H') (List.range n) ys → Q (.ref D) H') : LcW (Itr lo n) (gName j) tYes te [j] σ H Q := by
  refine lc_wk wk_rng (fun D i H' => H D = none ∧ Keep (At p) H H' ∧ I H' ∧ ∃ ys, H' D = some (.lst ys) ∧ Paired (R H') (List.range i) ys)
    (fun D hD => ⟨hD, fun b o e _ => by rw [upd_ne (ne_of_none e hD)]; exact e, hI _ _ h0 (by rw [upd_ne (Ne.symm (hne D hD))]), [], by simp [upd_same], by simpa using Paired.nil⟩)
    (fun D i H' _ p => trivial) ?_ (fun D H' hD p => by obtain ⟨p1, p2, p3, ys, p4, p5⟩ := p; exact q D H' ys hD p2 p3 p4 p5)
  rintro D i x H2 H' hD hi ⟨p1, p2, p3, ys, p4, p5⟩ ⟨rfl, rfl⟩
  show wipe ((wipe σ [j]).set j _) [j] = wipe σ [j] ∧ _
  refine ⟨wipe_one, ?_⟩
  refine r_yes (i_T (hs i H' _ hi p2 p3 fun y H3 k3 i3 r3 => ⟨ys, k3 _ _ p4 (hne D hD), by rw [sizeLine_eq, ← p5.length, List.length_range]; omega, hD, ?_, hI _ _ i3 (by rw [upd_ne (Ne.symm (hne D hD))]), ys ++ [y], upd_same, ?_⟩))
  · exact (p2.trans k3).free hD
  · have e3 := k3 _ _ p4 (hne D hD)
    have t3 := hT _ _ p3 k3
    have t4 : TExt H3 (upd H3 D (.lst (ys ++ [y]))) := TExt.lst Keep.at_ e3
    rw [List.range_succ]
    exact (Paired.mapP p5 fun u z r => hR _ _ _ _ (t3.trans t4) r).snoc (hR _ _ _ _ t4 r3)
theorem paired_ex {α β : Type} {R : α → β → Prop} {f : β → PyData} : ∀ {as : List α} {ys : List V}, Paired (fun c y => ∃ z, Dp K H y (f z) ∧ R c z) as ys → ∃ zs : List β, DpAll K H ys (zs.map f) ∧ Paired R as zs
  | _, _, .nil => ⟨[], .nil, .nil⟩
  | _, _, .cons h1 h2 => by
    obtain ⟨z, d, r⟩ := h1
    obtain ⟨zs, ds, rs⟩ := paired_ex h2
    exact ⟨z :: zs, .cons d ds, .cons r rs⟩
theorem paired_right {α : Type} {P : V → Prop} : ∀ {as : List α} {ys : List V}, Paired (fun _ y => P y) as ys → ∀ y ∈ ys, P y
  | _, _, .nil, y, h => by simp at h
  | _, _, .cons h1 h2, y, h => by
    rcases List.mem_cons.mp h with rfl | h
    · exact h1
    · exact paired_right h2 y h
theorem paired_ints {α : Type} {R : α → Int → Prop} : ∀ {as : List α} {ys : List V}, Paired (fun c y => ∃ z, y = V.int z ∧ R c z) as ys → ∃ zs : List Int, ys = zs.map V.int ∧ Paired R as zs
  | _, _, .nil => ⟨[], rfl, .nil⟩
  | _, _, .cons h1 h2 => by
    obtain ⟨z, rfl, r⟩ := h1
    obtain ⟨zs, rfl, rs⟩ := paired_ints h2
    exact ⟨z :: zs, rfl, .cons r rs⟩
theorem int_at {zs : List Int} {i : Nat} {x : V} (h : (zs.map V.int)[i]? = some x) : ∃ z, zs[i]? = some z ∧ x = .int z := by
  rw [List.getElem?_map] at h
  obtain ⟨z, h1, h2⟩ := Option.map_eq_some_iff.mp h
  exact ⟨z, h1, h2.symm⟩
/-- over a tuple of data -/
theorem lc_tupD {α : Type} {as : List α} {fa : α → PyData} {ws : List V} (h1 : SqT K H a ws) (h2 : DpAll K H ws (as.map fa)) (hn : as.length ≤ 16777216) (f : α → Bool) (fx : α → PyData) (hi : ∀ c, imm (fx c) = true)
    (hs : ∀ c x H2 (S : VK) (N : Hp → Prop), c ∈ as → Same H H2 → Dp K H2 x (fa c) → (f c = true → ∀ y H3, Same H2 H3 → Dp K H3 y (fx c) → S y H3) → (f c = false → ∀ H3, Same H2 H3 → N H3) →
      g x (wipe σ vs) H2 fun σ2 H3 => wipe σ2 vs = wipe σ vs ∧ tt σ2 H3 fun b H4 => if b = true then te σ2 H4 S else N H4)
    (q : ∀ D H' ys, H D = none → Same H H' → H' D = some (.lst ys) → DpAll K H' ys ((as.filter f).map fx) → Q (.ref D) H') : LcW (Itt K a) g tt te vs σ H Q := by
  have hl : ws.length = as.length := by rw [dpAll_len h2]; simp
  have w : Wk (Itt K a) as.length (fun H' => SqT K H' a ws ∧ Same H H') (fun i H2 x H' => H' = H2 ∧ Same H H2 ∧ ws[i]? = some x) := by
    rw [← hl]
    exact ⟨fun i H e => wk_tup.go i H e.1, fun i H e => wk_tup.stop i H e.1, fun i H2 x H' e y => by have z := wk_tup.yld i H2 x H' e.1 y; exact ⟨z.1, e.2, z.2⟩⟩
  refine lc_gen as (fun c x H2 => Dp K H2 x (fa c)) w (fun i H2 x H' hi h => ?_) (fun H' s => ⟨SqT.text (TExt.of_same s) h1, s⟩) hn f (fun H c y => Dp K H y (fx c)) (fun H H' c y e h => Dp.text e _ _ (hi c) h) hs
    (fun D H' ys hD s e p => q D H' ys hD s e (paired_dp p))
  obtain ⟨rfl, s, hx⟩ := h
  obtain ⟨c, hc, hd⟩ := dpAll_map_at h2 hx
  exact ⟨c, hc, Same.refl _, Dp.same s _ _ hd⟩
/-- over a list of data -/
theorem lc_lstD {α : Type} {as : List α} {fa : α → PyData} {ws : List V} (h1 : SqL K H a ws) (h2 : DpAll K H ws (as.map fa)) (hn : as.length ≤ 16777216) (f : α → Bool) (fx : α → PyData) (hi : ∀ c, imm (fx c) = true)
    (hs : ∀ c x H2 (S : VK) (N : Hp → Prop), c ∈ as → Same H H2 → Dp K H2 x (fa c) → (f c = true → ∀ y H3, Same H2 H3 → Dp K H3 y (fx c) → S y H3) → (f c = false → ∀ H3, Same H2 H3 → N H3) →
      g x (wipe σ vs) H2 fun σ2 H3 => wipe σ2 vs = wipe σ vs ∧ tt σ2 H3 fun b H4 => if b = true then te σ2 H4 S else N H4)
    (q : ∀ D H' ys, H D = none → Same H H' → H' D = some (.lst ys) → DpAll K H' ys ((as.filter f).map fx) → Q (.ref D) H') : LcW (Itl K a) g tt te vs σ H Q := by
  have hl : ws.length = as.length := by rw [dpAll_len h2]; simp
  have w : Wk (Itl K a) as.length (fun H' => SqL K H' a ws ∧ Same H H') (fun i H2 x H' => H' = H2 ∧ Same H H2 ∧ ws[i]? = some x) := by
    rw [← hl]
    exact ⟨fun i H e => wk_list.go i H e.1, fun i H e => wk_list.stop i H e.1, fun i H2 x H' e y => by have z := wk_list.yld i H2 x H' e.1 y; exact ⟨z.1, e.2, z.2⟩⟩
  refine lc_gen as (fun c x H2 => Dp K H2 x (fa c)) w (fun i H2 x H' hi h => ?_) (fun H' s => ⟨s.seq h1, s⟩) hn f (fun H c y => Dp K H y (fx c)) (fun H H' c y e h => Dp.text e _ _ (hi c) h) hs
    (fun D H' ys hD s e p => q D H' ys hD s e (paired_dp p))
  obtain ⟨rfl, s, hx⟩ := h
  obtain ⟨c, hc, hd⟩ := dpAll_map_at h2 hx
  exact ⟨c, hc, Same.refl _, Dp.same s _ _ hd⟩
/-- over whatever is walked, one object p being changed in each turn -/
theorem lc_genK {α : Type} {p : Addr} (I : Hp → Prop) (h0 : I H) (hne : ∀ D, H D = none → D ≠ p) (hU : ∀ H1 D ys, H D = none → I H1 → (H1 D = none ∨ ∃ l, H1 D = some (.lst l)) → I (upd H1 D (.lst ys))) (hT : ∀ H1 H2, I H1 → Keep (At p) H1 H2 → TExt H1 H2)
    (as : List α) (It1 : α → V → Hp → Prop) (w : Wk J as.length src item) (hit : ∀ i H x H', i < as.length → item i H x H' → ∃ c, as[i]? = some c ∧ H' = H ∧ It1 c x H') (hsrc : ∀ H', Keep (At p) H H' → I H' → src H')
    (hn : as.length ≤ 16777216) (R : Hp → α → V → Prop) (hR : ∀ H H' c y, TExt H H' → R H c y → R H' c y)
    (hs : ∀ c x H2 (S : VK) (N : Hp → Prop), c ∈ as → Keep (At p) H H2 → I H2 → It1 c x H2 → (∀ y H3, Keep (At p) H2 H3 → I H3 → R H3 c y → S y H3) →
      g x (wipe σ vs) H2 fun σ2 H3 => wipe σ2 vs = wipe σ vs ∧ tYes σ2 H3 fun b H4 => if b = true then te σ2 H4 S else N H4)
    (q : ∀ D H' ys, H D = none → Keep (At p) H H' → I H' → H' D = some (.lst ys) → Paired (R H') as ys → Q (.ref D) H') : LcW J g tYes te vs σ H Q := by
  refine lc_wk w (fun D i H' => H D = none ∧ Keep (At p) H H' ∧ I H' ∧ ∃ ys, H' D = some (.lst ys) ∧ Paired (R H') (as.take i) ys) (fun D hD => ⟨hD, fun b o e _ => by rw [upd_ne (ne_of_none e hD)]; exact e, hU _ _ _ hD h0 (.inl hD), [], by simp [upd_same], by simpa using Paired.nil⟩)
    (fun D i H' _ p => hsrc H' p.2.1 p.2.2.1) ?_ (fun D H' hD p => by obtain ⟨p1, p2, p3, ys, p4, p5⟩ := p; rw [List.take_length] at p5; exact q D H' ys hD p2 p3 p4 p5)
  rintro D i x H2 H' hD hi ⟨p1, p2, p3, ys, p4, p5⟩ hx
  obtain ⟨c, hc, rfl, hI⟩ := hit i H2 x H' hi hx
  have hm : c ∈ as := List.mem_of_getElem? hc
  refine hs c x H' _ _ hm p2 p3 hI (fun y H3 k3 i3 r3 => ⟨ys, k3 _ _ p4 (hne D hD), by rw [sizeLine_eq, ← p5.length, List.length_take]; omega, hD, ?_, hU _ _ _ hD i3 (.inr ⟨ys, k3 _ _ p4 (hne D hD)⟩), ys ++ [y], upd_same, ?_⟩)
  · exact (p2.trans k3).free hD
  · have e3 := k3 _ _ p4 (hne D hD)
    have t3 := hT _ _ p3 k3
    have t4 : TExt H3 (upd H3 D (.lst (ys ++ [y]))) := TExt.lst Keep.at_ e3
    rw [take_snoc hc]
    exact (Paired.mapP p5 fun u z r => hR _ _ _ _ (t3.trans t4) r).snoc (hR _ _ _ _ t4 r3)
/-- over zip of two tuples of data -/
theorem lc_zipD {α β : Type} {as : List α} {bs : List β} {fa : α → PyData} {fb : β → PyData} {b : Addr} {xs ys : List V} (h1 : SqT K H a xs) (d1 : DpAll K H xs (as.map fa)) (h2 : SqT K H b ys) (d2 : DpAll K H ys (bs.map fb)) (hn : as.length ≤ 16777216)
    (f : α × β → Bool) (fx : α × β → PyData) (hi : ∀ c, imm (fx c) = true)
    (hs : ∀ c T x y H2 (S : VK) (N : Hp → Prop), c ∈ as.zip bs → Same H H2 → H2 T = some (.tup [x, y]) → Dp K H2 x (fa c.1) → Dp K H2 y (fb c.2) → (f c = true → ∀ z H3, Same H2 H3 → Dp K H3 z (fx c) → S z H3) → (f c = false → ∀ H3, Same H2 H3 → N H3) →
      g (.ref T) (wipe σ vs) H2 fun σ2 H3 => wipe σ2 vs = wipe σ vs ∧ tt σ2 H3 fun b H4 => if b = true then te σ2 H4 S else N H4)
    (q : ∀ D H' zs, H D = none → Same H H' → H' D = some (.lst zs) → DpAll K H' zs (((as.zip bs).filter f).map fx) → Q (.ref D) H') : LcW (RZ.ItzT K a b) g tt te vs σ H Q := by
  have l1 : xs.length = as.length := by rw [dpAll_len d1]; simp
  have l2 : ys.length = bs.length := by rw [dpAll_len d2]; simp
  have hl : min xs.length ys.length = (as.zip bs).length := by rw [l1, l2, List.length_zip]
  have w : Wk (RZ.ItzT K a b) (as.zip bs).length (fun H' => (SqT K H' a xs ∧ SqT K H' b ys) ∧ Same H H') (fun i H2 v H' => Same H H2 ∧ ∃ T x y, v = .ref T ∧ H2 T = none ∧ H' = upd H2 T (.tup [x, y]) ∧ xs[i]? = some x ∧ ys[i]? = some y) := by
    rw [← hl]
    exact ⟨fun i H e => wk_zipT.go i H e.1, fun i H e => wk_zipT.stop i H e.1, fun i H2 x H' e y => ⟨e.2, wk_zipT.yld i H2 x H' e.1 y⟩⟩
  refine lc_gen (as.zip bs) (fun c v H2 => ∃ T x y, v = .ref T ∧ H2 T = some (.tup [x, y]) ∧ Dp K H2 x (fa c.1) ∧ Dp K H2 y (fb c.2)) w (fun i H2 v H' hi h => ?_) (fun H' s => ⟨⟨SqT.text (TExt.of_same s) h1, SqT.text (TExt.of_same s) h2⟩, s⟩) (by rw [List.length_zip]; omega) f (fun H c y => Dp K H y (fx c)) (fun H H' c y e h => Dp.text e _ _ (hi c) h)
    (fun c v H2 S N hc s hv k1 k2 => ?_) (fun D H' ys hD s e p => q D H' ys hD s e (paired_dp p))
  · obtain ⟨s, T, x, y, rfl, hT, rfl, hx, hy⟩ := h
    obtain ⟨c, hc, hd⟩ := dpAll_map_at d1 hx
    obtain ⟨c', hc', hd'⟩ := dpAll_map_at d2 hy
    have sT : Same H2 (upd H2 T (.tup [x, y])) := Keep.same (Keep.new hT)
    exact ⟨(c, c'), by rw [List.getElem?_zip_eq_some]; exact ⟨hc, hc'⟩, sT, T, x, y, rfl, upd_same, Dp.same (s.trans sT) _ _ hd, Dp.same (s.trans sT) _ _ hd'⟩
  · obtain ⟨T, x, y, rfl, hT, hx, hy⟩ := hv
    exact hs c T x y H2 S N hc s hT hx hy k1 k2
end
theorem cx_none {P : Program} {w : World} {H : Hp} {s : Shared} {e : Value} {s' : Shared} (h : L2.CX P w [] H s (fun _ _ _ => False) e s') : False := by
  obtain ⟨_, _, _, _, _, _, _, _, _, _, _, _, z⟩ := h
  exact z.elim
/-! ### exceptions of the program's own: classes over ValueError without a body -/
def bmV : List Value := [.type "ValueError", .type "Exception", .type "BaseException", .type "object"]
structure Exc (K : PySem.W.Frag) (mg : Str → Option Value) (x : Str) (C : Addr) : Prop where
  g : mg x = some (.ref C)
  ex : PySem.W.excIn K C bmV "ValueError.__new__" = true
  kp : PySem.W.keepIn K (.ref C) = true
  bs : PySem.W.subIn K (.ref C) (.type "BaseException") = some true
  ty : PySem.W.typeIn K (.ref C) = some (.type "type")
section
variable {X : Cx} {k j : Nat} {ps : List Str} {sp : Sp} {E : XK} {x : Str} {p pos : Pos} {e : Expr} {es : List Expr} {t : TA} {C : Addr}
/-- raise X('..') -/
theorem ps_rs {W : WX} {m : Str} {jj : Nat} {p2 pos2 : Pos} (T : Exc X.K X.mg x C) (tk : Takes X W) (hc : X.calm = true := by rfl) (hg : Gl X x := by rfl) (hdb : (x == ("__debug__" : Str)) = false := by decide) :
    PS X (.Raise (some (.Call (.Name x p) [.Constant (.str m) jj p2] [] pos)) none pos2) (fun _ σ H => W (.ref C) none σ H) :=
  ps_raise hc tk (pmk_own PySem.F.excBase_ValueError T.ex T.g T.kp (raises_own T.bs T.ty) hg hdb)
/-- a call whose exception leaves this def -/
theorem pe_fnX (F : Fn X.prog X.w X.K X.mg X.base k x ps sp) (hr : Room j X.A) (tk : Takes X (fun cls d _ H => E cls d H)) (ha : PA X (e :: es) t) (hk : k ≤ j := by decide) (hg : Gl X x := by rfl)
    (hdb : (x == ("__debug__" : Str)) = false := by decide) (he : starEach (e :: es) X.env = (false, eval e X.env) :: starEach es X.env := by rfl) (hpl : (backTo pos (starEach es X.env)).any (·.1) = false := by rfl) :
    PE X (.Call (.Name x p) (e :: es) [] pos) (tFn sp E t) := pe_fnE F hr hk hg (passes_call tk fun _ _ _ _ h => h) ha hdb he hpl
end
theorem eqv_same {d : PyData} (h : SeqAt.shaped d = true) : PyData.eqv d d = true := SeqAt.eqv_refl d (SeqAt.canLay_of_shaped h)
/-- a statement, then the rest, with a word between -/
theorem r_cut {σ : St} {H : Hp} {tu tw : TS} {nx bk ct : St → Hp → Prop} {rt : VK} (Mid : St → Hp → Prop) (h : tu ⟨Mid, rt, bk, ct⟩ σ H) (k : ∀ σ' H', Mid σ' H' → tw ⟨nx, rt, bk, ct⟩ σ' H') : Evl.tCut tu tw ⟨nx, rt, bk, ct⟩ σ H := ⟨Mid, h, k⟩
/-! ### texts -/
open TL (tl tl_append mk_tl joinL tl_join join_eq)
section
variable {X : Cx} {K : PySem.W.Frag} {σ : St} {H : Hp} {Q : VK} {to te ta tb : TE} {o e : Expr} {a p : Addr}
def uJoin (K : PySem.W.Frag) : V → List V → Hp → VK → Prop := fun x xs H Q => ∃ a p, ∃ ys : List Str, x = .str a ∧ xs = [.ref p] ∧ (SqL K H p (ys.map V.str) ∨ SqT K H p (ys.map V.str)) ∧
  (ys.map (·.length)).sum + ys.length * a.length ≤ 16777216 ∧ Q (.str (Txt.join a ys)) H
theorem pe_joinU (K : PySem.W.Frag) {apos pos : Pos} (ho : PE X o to) (he : PE X e te) (hs : starEach [e] X.env = [(false, eval e X.env)] := by rfl) (hbase : attributeBase o "join" X.env (eval o X.env) = eval o X.env := by rfl) (hline : (apos.endLine == pos.line) = true := by rfl) (hK : X.K = K := by rfl) :
    PE X (.Call (.Attribute o "join" apos) [e] [] pos) (tM1 (uJoin K) to te) := hK ▸ pe_join ho he hs hbase hline
def uM1 (r : V → List V → Hp → VK → Prop) (te : TE) (σ : St) (x : V) (H : Hp) (Q : VK) : Prop := (∃ a, x = .str a) ∧ te σ H fun y H2 => r x [y] H2 Q
theorem r_m1 {r : V → List V → Hp → VK → Prop} (q : to σ H fun x H1 => uM1 r te σ x H1 Q) : tM1 r to te σ H Q := q
theorem r_m1s {r : V → List V → Hp → VK → Prop} {z : Str} (q : te σ H fun y H2 => r (.str z) [y] H2 Q) : uM1 r te σ (.str z) H Q := ⟨⟨z, rfl⟩, q⟩
theorem r_join {z : Str} {ys : List Str} (h : SqL K H p (ys.map V.str)) (hz : (ys.map (·.length)).sum + ys.length * z.length ≤ 16777216) (q : Q (.str (Txt.join z ys)) H) : uJoin K (.str z) [.ref p] H Q := ⟨z, p, ys, rfl, rfl, .inl h, hz, q⟩
def uAddS : R2 := fun x y H Q => ∃ i j, x = .str i ∧ y = .str j ∧ i.length + j.length ≤ sizeLine ∧ Q (.str (i ++ j)) H
theorem o_adds : OpR X (binaryOp .Add) uAddS := op_add_str
theorem r_adds {i j : Str} (h : i.length + j.length ≤ sizeLine) (q : Q (.str (i ++ j)) H) : uAddS (.str i) (.str j) H Q := ⟨i, j, rfl, rfl, h, q⟩
theorem tl_inj {x y : Str} (h : tl x = tl y) : x = y := by
  have := congrArg (fun l => (⟨l.toArray⟩ : Str)) h
  rw [← mk_tl x, ← mk_tl y]
  exact this
theorem len_tl (x : Str) : x.length = (tl x).length := by simp [tl, Str.length]
theorem joinL_nil : ∀ ps : List (List Nat), joinL [] ps = ps.flatten
  | [] => rfl
  | [p] => by simp [joinL]
  | p :: q :: r => by
    show p ++ ([] ++ joinL [] (q :: r)) = _
    rw [joinL_nil (q :: r)]
    simp
theorem sum_lens {B : Nat} : ∀ {l : List Str}, (∀ c ∈ l, c.length ≤ B) → (l.map (·.length)).sum ≤ l.length * B
  | [], _ => by simp
  | c :: l, h => by
    have h1 := h c (List.mem_cons_self ..)
    have h2 := sum_lens fun d hd => h d (List.mem_cons_of_mem _ hd)
    simp only [List.map_cons, List.sum_cons, List.length_cons, Nat.add_mul, Nat.one_mul]
    omega
theorem tl_join0 (ys : List Str) : tl (Txt.join ("" : Str) ys) = (ys.map tl).flatten := by
  rw [join_eq, tl_join, show tl ("" : Str) = [] by decide +kernel, joinL_nil]
theorem dpAll_strs {K : PySem.W.Frag} {H : Hp} : ∀ {ws : List V} {zs : List Str}, DpAll K H ws (zs.map PyData.str) → ws = zs.map V.str
  | _, [], .nil => rfl
  | _, n :: ns, .cons h1 h2 => by rw [dp_str h1, dpAll_strs h2]; rfl
theorem dpAll_ofStrs (K : PySem.W.Frag) (H : Hp) : ∀ zs : List Str, DpAll K H (zs.map V.str) (zs.map PyData.str)
  | [] => .nil
  | n :: ns => .cons (.str n) (dpAll_ofStrs K H ns)
end
/-! ### range with a step -/
section
variable {X : Cx} {σ : St} {H : Hp} {tg a b c : Expr} {ta : TA}
def uRng3 (vs : List V) (H : Hp) (R : It → Hp → Prop) : Prop := ∃ (i j c : Int) (n : Nat), vs = [.int i, .int j, .int c] ∧ RgC i j c n ∧ R (Itc i c n) H
def iRngU (ta : TA) : TI := fun σ H R => ta σ H fun vs H1 => uRng3 vs H1 R
theorem pi_rangeU {p pos : Pos} (hg : Gl X "range") (hm : X.mg "range" = none) (ha : PA X [a, b, c] ta)
    (hs : starEach [a, b, c] X.env = (false, eval a X.env) :: starEach [b, c] X.env := by rfl) (hpl : (backTo pos (starEach [b, c] X.env)).any (·.1) = false := by rfl) :
    PI X tg (.Call (.Name "range" p) [a, b, c] [] pos) (iRngU ta) := pi_range3 hg hm ha hs hpl
theorem r_irngU {R : It → Hp → Prop} (q : ta σ H fun vs H1 => uRng3 vs H1 R) : iRngU ta σ H R := q
theorem r_rngdown {i j : Int} {R : It → Hp → Prop} (h : -1000000 ≤ i ∧ i ≤ 1000000 ∧ -1000000 ≤ j ∧ j ≤ 1000000) (q : R (Itc i (-1) (i - j).toNat) H) : uRng3 [.int i, .int j, .int (-1)] H R :=
  ⟨i, j, -1, _, rfl, RgC.neg (by omega) (by omega) (by omega) (by omega), q⟩
end
/-! ### shifts -/
def uShl : R2 := fun x y H Q => ∃ (i : Int) (k : Nat), x = .int i ∧ y = .int (k : Int) ∧ CShl i (k : Int) ∧ Q (.int (i * 2 ^ k)) H
def uShr : R2 := fun x y H Q => ∃ (i : Int) (k : Nat), x = .int i ∧ y = .int (k : Int) ∧ Q (.int (i / 2 ^ k)) H
theorem o_shl {X : Cx} : OpR X (binaryOp .LShift) uShl := op_shlN
theorem o_shr {X : Cx} : OpR X (binaryOp .RShift) uShr := op_shrN
theorem r_shl {i : Int} {k : Nat} {H : Hp} {Q : VK} (h : i.natAbs < 2 ^ 64 ∧ k ≤ 1000) (q : Q (.int (i * 2 ^ k)) H) : uShl (.int i) (.int (k : Int)) H Q := ⟨i, k, rfl, rfl, shl_ok h.1 (by omega), q⟩
theorem r_shl1 {k : Nat} {H : Hp} {Q : VK} (h : k ≤ 1000) (q : Q (.int (2 ^ k)) H) : uShl (.int 1) (.int (k : Int)) H Q := r_shl ⟨by decide, h⟩ (by rw [Int.one_mul]; exact q)
theorem r_shl2 {k : Nat} {H : Hp} {Q : VK} (h : k ≤ 1000) (q : Q (.int (2 ^ (k + 1))) H) : uShl (.int 2) (.int (k : Int)) H Q := r_shl ⟨by decide, h⟩ (by
  have e : (2 : Int) * 2 ^ k = 2 ^ (k + 1) := by rw [Int.pow_succ]; omega
  rw [e]; exact q)
theorem r_shr {i : Int} {k : Nat} {H : Hp} {Q : VK} (q : Q (.int (i / 2 ^ k)) H) : uShr (.int i) (.int (k : Int)) H Q := ⟨i, k, rfl, rfl, q⟩
/-! ### numbers -/
theorem two_pos (n : Nat) : (0 : Int) < 2 ^ n := Int.pow_pos (by decide)
theorem two_succ (n : Nat) : (2 : Int) ^ (n + 1) = 2 * 2 ^ n := by rw [Int.pow_succ]; omega
theorem div_is {x w i : Int} (hw : 0 < w) (h1 : i * w ≤ x) (h2 : x < i * w + w) : x / w = i := by
  have a : i ≤ x / w := (Int.le_ediv_iff_mul_le hw).mpr h1
  have b : x / w < i + 1 := (Int.ediv_lt_iff_lt_mul hw).mpr (by rw [Int.add_mul, Int.one_mul]; exact h2)
  omega
end Fp
/-! a dict of which nothing is asked but that it is one: {(1, 2): x}; isinstance of it -/
namespace Fp
open PySem PySem.Spec PyProof.Rows L2
def DictO (a : Addr) : HO := .ext fun h => ∃ o, h.get? a = some o ∧ o.cls = .type "dict"
theorem dictO_new {P : Program} {w : World} {H : Hp} {h : Heap} {a : Addr} (e : ∃ o, h.get? a = some o ∧ o.cls = .type "dict") : ObjOk P w H h a (DictO a) := by
  obtain ⟨o, ho, hc⟩ := e
  exact ⟨⟨o, ho, hc⟩, ⟨o, ho⟩, fun h1 h2 ⟨o1, e1, c1⟩ k => ⟨o1, k o1 e1, c1⟩⟩
section
variable {X : Cx}
def uIsiD (K : PySem.W.Frag) : List V → Hp → VK → Prop := fun xs H Q => rIsi K xs H Q ∨ ∃ a, xs = [.ref a, .ty "tuple"] ∧ H a = some (DictO a) ∧ Q (.bl false) H
theorem call_isiD : CallR X (.builtin "isinstance") (uIsiD X.K) := by
  intro pins s σ H xs us Q I r h
  rcases h with h | ⟨a, rfl, ha, q⟩
  · exact call_isi pins s σ H xs us Q I r h
  · obtain ⟨u1, u2, rfl, r1, r2⟩ := vals2 r
    cases (show u1 = Value.ref a from r1)
    cases (show u2 = Value.type "tuple" from r2)
    obtain ⟨o, ho, hc⟩ := (I.hok a _ ha).1
    have e : PySem.W.kitOne X.K (.type "dict") (.type "tuple") = some false := kit_ty (kit_tab (t := "dict") (n := "tuple") (by decide) (by decide))
    exact PySem.W.kia_one PySem.W.kitx_dict I.kIn ⟨o, ho, hc⟩ e (fun z => nomatch z) fun tk => ⟨.bl false, H, I.tok tk, rfl, q⟩
/-- {k: v}, k a tuple of ints -/
def tDispX (K : PySem.W.Frag) (te tv : TE) : TE := fun σ H Q => ∀ p, H p = none → te σ (upd H p (.dK [])) fun x H2 => tv σ H2 fun y H3 => H3 p = some (.dK []) ∧ (∃ t, ∃ ns : List Int, x = .ref t ∧ SqT K H3 t (ns.map V.int)) ∧ Q (.ref p) (upd H3 p (DictO p))
theorem pe_dispX (K : PySem.W.Frag) {k v : Expr} {te tv : TE} {pos : Pos} (hu : X.A.units + 64 < cLine) (hk : PE X k te) (hv : PE X v tv) (hK : X.K = K := by rfl) : PE X (.Dict [some k] [v] pos) (tDispX K te tv) := by
  subst hK
  refine ⟨fun pins s σ H Q I q => ?_⟩
  have hn := I.hok.fresh (Nat.le_refl s.heap.objs.size)
  have I1 := I.laid (a := s.heap.objs.size) (o := .dK []) (h' := s.heap.push { cls := .type "dict", data := .dict #[] }) (t' := s.toks) (fun _ _ q => Heap.get?_push_of_some _ q) (Nat.le_refl _) (dk_empty s.heap I.big)
  refine wpAny_Dict_any rfl rfl (List.cons_ne_nil _ _) (by simp) ?_
  refine pairTrees_cons_walk (thn (hk.run pins _ σ _ _ I1 (q _ hn)) fun u s1 ⟨x, H1, I2, rx, q1⟩ => thn (hv.run pins s1 σ H1 _ I2 q1) fun w2 s2 ⟨y, H2, I3, ry, q2⟩ => pairTrees_nil_walk ?_)
  obtain ⟨e, ⟨t, ns, rfl, ht⟩, q3⟩ := q2
  cases (show u = Value.ref t from rx)
  obtain ⟨z, hd, vs0, r0, o, es, ep, ho, hex, hdat, hko, hpr, hnd⟩ := dk_of I3.hok e
  cases r0
  have hes : es.toList = [] := by
    cases he : es.toList with
    | nil => rfl
    | cons a b => rw [he] at hpr; cases hpr
  have hm : s2.heap.DictOfH (tupleKind (intKind X.prog X.w)) s.heap.objs.size [] := ⟨o, es, ep, ho, hex, hdat, by rw [hes]; rfl, fun x hx => (by cases hx), List.nodup_nil⟩
  unfold storeAll
  rw [List.forIn_cons]
  refine wpAny_bind (wpAny_bind (wpAny_dictSet_heap (hsz := by decide +kernel) (knd := tupleKind (intKind X.prog X.w)) (show X.A.units < cLine by omega) (I3.isT ht) hm fun h1 hm1 hs1 => wpAny_pure ?_))
  dsimp only
  rw [List.forIn_nil]
  refine wpAny_pure ?_
  obtain ⟨o1, _, _, ho1, hex1, _⟩ := hm1
  exact ⟨.ref s.heap.objs.size, upd H2 s.heap.objs.size (DictO s.heap.objs.size), I3.write (e := s.heap.objs.size) (by rw [e]; exact True.intro) (.inl rfl) (fun b u hb hu => (hs1.2 b hb).trans hu) ⟨o1, ho1⟩ (dictO_new ⟨o1, ho1, hex1.1⟩), rfl, q3⟩
end
end Fp
/-! pairs of numbers, curves: plain lists; dicts by number -/
namespace Fp
open PySem PySem.Spec PyProof.Rows L2
abbrev Prs := List (Int × Int)
def pairP (p : Int × Int) : PyData := .tuple [.int p.1, .int p.2]
def prsD (l : Prs) : PyData := .tuple (l.map pairP)
theorem imm_pair (p : Int × Int) : imm (pairP p) = true := by simp [pairP, imm, immAll]
theorem imm_all (l : Prs) : immAll (l.map pairP) = true := immAll_map _ imm_pair l
theorem imm_prs (l : Prs) : imm (prsD l) = true := by
  unfold prsD
  simp only [imm]
  exact imm_all l
theorem shp_pair (p : Int × Int) : Shp 1 (pairP p) := Shp.t2 (.int _) (.int _)
theorem shp_prs (l : Prs) : Shp 2 (prsD l) := Shp.tupleM (n := 1) shp_pair
theorem shaped_prs (l : Prs) : SeqAt.shaped (prsD l) = true := (shp_prs l).ok
theorem dp_pair {K : PySem.W.Frag} {H : Hp} {v : V} {p : Int × Int} (h : Dp K H v (pairP p)) : ∃ a, v = .ref a ∧ SqT K H a [.int p.1, .int p.2] := dp_ints (ns := [p.1, p.2]) h
theorem dp_of_pair {K : PySem.W.Frag} {H : Hp} {a : Addr} {i j : Int} (h : SqT K H a [.int i, .int j]) : Dp K H (.ref a) (pairP (i, j)) := .tup h (dpAll_ints K H [i, j])
theorem eqv_pair (p q : Int × Int) : PyData.eqv (pairP p) (pairP q) = decide (p = q) := by
  simp only [pairP, PyData.eqv, PyData.eqvAll, Bool.and_true]
  rw [Bool.eq_iff_iff]
  simp [Prod.ext_iff]
theorem eqvAll_prs : ∀ l m : Prs, PyData.eqvAll (l.map pairP) (m.map pairP) = decide (l = m)
  | [], [] => by simp [PyData.eqvAll]
  | [], q :: m => by simp [PyData.eqvAll]
  | p :: l, [] => by simp [PyData.eqvAll]
  | p :: l, q :: m => by
    simp only [List.map_cons, PyData.eqvAll]
    rw [eqv_pair, eqvAll_prs l m, Bool.eq_iff_iff]
    simp
theorem eqv_prs (l m : Prs) : PyData.eqv (prsD l) (prsD m) = decide (l = m) := by
  unfold prsD
  rw [PyData.eqv]
  exact eqvAll_prs l m
/-! ### tables by number -/
def putP (l : Prs) (t h : Int) : Prs := if (l.any fun p => decide (p.1 = t)) = true then l.map (fun p => if p.1 = t then (p.1, h) else p) else l ++ [(t, h)]
def valP (l : Prs) (t : Int) : Option Int := (l.find? fun p => decide (p.1 = t)).map (·.2)
def mergeP (l more : Prs) : Prs := more.foldl (fun acc p => putP acc p.1 p.2) l
def inj (p : Int × Int) : Key × V := (Sum.inl p.1, .int p.2)
theorem any_inj (t : Int) : ∀ l : Prs, ((l.map inj).any fun kv => decide (kv.1 = Sum.inl t)) = l.any fun p => decide (p.1 = t)
  | [] => rfl
  | p :: l => by
    simp only [List.map_cons, List.any_cons, any_inj t l]
    congr 1
    rw [Bool.eq_iff_iff]
    simp [inj]
theorem put_inj (l : Prs) (t h : Int) : putK (l.map inj) (Sum.inl t) (.int h) = (putP l t h).map inj := by
  unfold putK putP
  rw [any_inj]
  split
  · rw [List.map_map, List.map_map]
    refine List.map_congr_left fun p _ => ?_
    show (if (inj p).1 = Sum.inl t then ((inj p).1, V.int h) else inj p) = inj (if p.1 = t then (p.1, h) else p)
    by_cases e : p.1 = t
    · rw [if_pos e, if_pos (by rw [← e]; rfl)]; rfl
    · rw [if_neg e, if_neg (by simpa [inj] using e)]
  · rw [List.map_append]; rfl
theorem merge_inj : ∀ (more l : Prs), mergeK (l.map inj) (more.map inj) = (mergeP l more).map inj
  | [], l => rfl
  | p :: r, l => by
    show mergeK (putK (l.map inj) (inj p).1 (inj p).2) (r.map inj) = (mergeP (putP l p.1 p.2) r).map inj
    rw [show putK (l.map inj) (inj p).1 (inj p).2 = (putP l p.1 p.2).map inj from put_inj l p.1 p.2]
    exact merge_inj r _
theorem val_inj (t : Int) : ∀ l : Prs, valV (l.map inj) (Sum.inl t) = (valP l t).map V.int
  | [] => rfl
  | p :: l => by
    by_cases e : p.1 = t
    · rw [List.map_cons, valV_pos (by rw [← e]; rfl)]
      simp [valP, List.find?_cons, e, inj]
    · rw [List.map_cons, valV_neg (by simpa [inj] using e), val_inj t l]
      simp [valP, List.find?_cons, e]
theorem valP_pos {p : Int × Int} {r : Prs} {k : Int} (e : p.1 = k) : valP (p :: r) k = some p.2 := by simp [valP, List.find?_cons, e]
theorem valP_neg {p : Int × Int} {r : Prs} {k : Int} (e : ¬ p.1 = k) : valP (p :: r) k = valP r k := by simp [valP, List.find?_cons, e]
theorem valP_iff {t h : Int} : ∀ {l : Prs}, (l.map (·.1)).Nodup → (valP l t = some h ↔ (t, h) ∈ l)
  | [], _ => by simp [valP]
  | p :: l, nd => by
    have nd2 := List.nodup_cons.mp nd
    by_cases e : p.1 = t
    · rw [valP_pos e]
      constructor
      · intro z
        have z := Option.some.inj z
        rw [List.mem_cons]
        left
        rw [← e, ← z]
      · intro z
        rcases List.mem_cons.mp z with z | z
        · rw [← z]
        · exact absurd (show p.1 ∈ l.map (·.1) by rw [e]; exact List.mem_map_of_mem (f := (·.1)) z) nd2.1
    · rw [valP_neg e, valP_iff nd2.2]
      constructor
      · exact fun z => List.mem_cons_of_mem _ z
      · intro z
        rcases List.mem_cons.mp z with z | z
        · exact absurd (by rw [← z]) e
        · exact z
theorem any_iff {l : Prs} {t : Int} : (l.any fun p => decide (p.1 = t)) = true ↔ t ∈ l.map (·.1) := by
  simp only [List.any_eq_true, decide_eq_true_eq, List.mem_map]
theorem keys_put (l : Prs) (t h : Int) : (putP l t h).map (·.1) = if t ∈ l.map (·.1) then l.map (·.1) else l.map (·.1) ++ [t] := by
  unfold putP
  by_cases e : t ∈ l.map (·.1)
  · rw [if_pos e, if_pos (any_iff.mpr e), List.map_map]
    refine List.map_congr_left fun p _ => ?_
    show (if p.1 = t then (p.1, h) else p).1 = p.1
    split <;> rfl
  · rw [if_neg e, if_neg (fun z => e (any_iff.mp z)), List.map_append]; rfl
theorem nd_put {l : Prs} (t h : Int) (nd : (l.map (·.1)).Nodup) : ((putP l t h).map (·.1)).Nodup := by
  rw [keys_put]
  split
  · exact nd
  · rename_i e
    rw [List.nodup_append]
    exact ⟨nd, by simp, fun a ha b hb => by simp at hb; subst hb; exact fun z => e (z ▸ ha)⟩
theorem nd_merge : ∀ (more l : Prs), (l.map (·.1)).Nodup → ((mergeP l more).map (·.1)).Nodup
  | [], l, nd => nd
  | p :: r, l, nd => nd_merge r _ (nd_put p.1 p.2 nd)
theorem mem_put {l : Prs} {t h : Int} {p : Int × Int} : p ∈ putP l t h ↔ (p = (t, h)) ∨ (p ∈ l ∧ p.1 ≠ t) := by
  unfold putP
  split
  · rename_i e
    obtain ⟨q, hq, e⟩ := List.any_eq_true.mp e
    have e : q.1 = t := of_decide_eq_true e
    rw [List.mem_map]
    constructor
    · rintro ⟨x, hx, rfl⟩
      by_cases z : x.1 = t
      · rw [if_pos z, z]; exact .inl rfl
      · rw [if_neg z]; exact .inr ⟨hx, z⟩
    · rintro (rfl | ⟨h1, h2⟩)
      · exact ⟨q, hq, by rw [if_pos e, e]⟩
      · exact ⟨p, h1, if_neg h2⟩
  · rename_i e
    rw [List.mem_append, List.mem_singleton]
    constructor
    · rintro (h1 | h1)
      · exact .inr ⟨h1, fun z => e (any_iff.mpr (z ▸ List.mem_map_of_mem h1))⟩
      · exact .inl h1
    · rintro (h1 | ⟨h1, _⟩)
      · exact .inr h1
      · exact .inl h1
/-- p is the last one of its time -/
def Last (l : Prs) (p : Int × Int) : Prop := p ∈ mergeP [] l
theorem merge_snoc (l : Prs) (q : Int × Int) : mergeP [] (l ++ [q]) = putP (mergeP [] l) q.1 q.2 := by
  unfold mergeP
  rw [List.foldl_append]
  rfl
theorem last_snoc {l : Prs} {q p : Int × Int} : Last (l ++ [q]) p ↔ p = q ∨ (Last l p ∧ p.1 ≠ q.1) := by
  unfold Last
  rw [merge_snoc, mem_put]
theorem mem_merge {p : Int × Int} : ∀ (more l : Prs), p ∈ mergeP l more → p ∈ l ∨ p ∈ more
  | [], l, h => .inl h
  | q :: r, l, h => by
    rcases mem_merge r _ h with h | h
    · rcases mem_put.mp h with h | h
      · exact .inr (h ▸ List.mem_cons_self ..)
      · exact .inl h.1
    · exact .inr (List.mem_cons_of_mem _ h)
theorem Last.mem {l : Prs} {p : Int × Int} (h : Last l p) : p ∈ l := by
  rcases mem_merge l [] h with h | h
  · simp at h
  · exact h
theorem len_put (l : Prs) (t h : Int) : (putP l t h).length ≤ l.length + 1 := by
  unfold putP
  split <;> simp
theorem len_merge : ∀ (more l : Prs), (mergeP l more).length ≤ l.length + more.length
  | [], l => Nat.le_refl _
  | p :: r, l => by
    have h1 := len_merge r (putP l p.1 p.2)
    have h2 := len_put l p.1 p.2
    show (mergeP (putP l p.1 p.2) r).length ≤ _
    simp only [List.length_cons]
    omega
/-- c is the curve of the samples l -/
structure IsC (l c : Prs) : Prop where
  up : c.Pairwise fun p q => p.1 < q.1
  mem : ∀ p, p ∈ c ↔ Last l p
  len0 : c.length = (mergeP [] l).length
theorem IsC.len {l c : Prs} (h : IsC l c) : c.length ≤ l.length := by
  rw [h.len0]
  have := len_merge l []
  simpa using this
theorem up_ext : ∀ {l l' : Prs}, (l.Pairwise fun p q => p.1 < q.1) → (l'.Pairwise fun p q => p.1 < q.1) → (∀ p, p ∈ l ↔ p ∈ l') → l = l'
  | [], [], _, _, _ => rfl
  | [], q :: r, _, _, h => by have := (h q).mpr (List.mem_cons_self ..); simp at this
  | p :: r, [], _, _, h => by have := (h p).mp (List.mem_cons_self ..); simp at this
  | p :: r, q :: r', h1, h2, h => by
    obtain ⟨a1, a2⟩ := List.pairwise_cons.mp h1
    obtain ⟨b1, b2⟩ := List.pairwise_cons.mp h2
    have e : p = q := by
      rcases List.mem_cons.mp ((h p).mp (List.mem_cons_self ..)) with z | z
      · exact z
      · rcases List.mem_cons.mp ((h q).mpr (List.mem_cons_self ..)) with y | y
        · exact y.symm
        · have := a1 q y; have := b1 p z; omega
    subst e
    congr 1
    refine up_ext a2 b2 fun x => ⟨fun hx => ?_, fun hx => ?_⟩
    · rcases List.mem_cons.mp ((h x).mp (List.mem_cons_of_mem _ hx)) with z | z
      · subst z; have := a1 _ hx; omega
      · exact z
    · rcases List.mem_cons.mp ((h x).mpr (List.mem_cons_of_mem _ hx)) with z | z
      · subst z; have := b1 _ hx; omega
      · exact z
theorem IsC.uniq {l c c' : Prs} (h : IsC l c) (h' : IsC l c') : c = c' := up_ext h.up h'.up fun p => (h.mem p).trans (h'.mem p).symm
/-- what dict and sorted make -/
def outOf (m : Prs) (ys : List Int) : Prs := ys.map fun t => (t, (valP m t).getD 0)
theorem isC_out {l : Prs} {ys : List Int} (hp : ys.Perm ((mergeP [] l).map (·.1))) (hs : ys.Pairwise (· ≤ ·)) : IsC l (outOf (mergeP [] l) ys) := by
  have nd := nd_merge l [] (by simp)
  have ndy : ys.Nodup := hp.nodup_iff.mpr nd
  refine ⟨?_, fun p => ?_, ?_⟩
  · unfold outOf
    rw [List.pairwise_map]
    refine List.Pairwise.imp₂ (fun a b h1 h2 => ?_) hs ndy
    show a < b
    have : a ≠ b := h2
    omega
  · unfold outOf Last
    rw [List.mem_map]
    constructor
    · rintro ⟨t, ht, rfl⟩
      obtain ⟨q, hq, e⟩ := List.mem_map.mp (hp.mem_iff.mp ht)
      have e2 : valP (mergeP [] l) t = some q.2 := (valP_iff nd).mpr (by rw [← e]; exact hq)
      rw [e2]
      rw [← e]
      exact hq
    · intro h
      refine ⟨p.1, hp.mem_iff.mpr (List.mem_map_of_mem h), ?_⟩
      have e2 : valP (mergeP [] l) p.1 = some p.2 := (valP_iff nd).mpr h
      rw [e2]
      rfl
  · unfold outOf
    rw [List.length_map, hp.length_eq, List.length_map]
/-- samples each of its own time, rising: their own curve -/
theorem last_nodup : ∀ {l : Prs} {p : Int × Int}, (l.map (·.1)).Nodup → (Last l p ↔ p ∈ l) := by
  intro l
  suffices h : ∀ n, ∀ l : Prs, l.length = n → ∀ p, (l.map (·.1)).Nodup → (Last l p ↔ p ∈ l) from fun {p} nd => h _ l rfl p nd
  intro n
  induction n with
  | zero =>
    intro l hl p _
    have : l = [] := List.length_eq_zero_iff.mp hl
    subst this
    simp [Last, mergeP]
  | succ n ih =>
    intro l hl p nd
    have hne : l ≠ [] := by intro z; subst z; simp at hl
    rw [← List.dropLast_concat_getLast hne] at nd ⊢
    rw [List.map_append, List.nodup_append] at nd
    rw [last_snoc, ih _ (by simp [hl]) p nd.1, List.mem_append, List.mem_singleton]
    constructor
    · rintro (h | h)
      · exact .inr h
      · exact .inl h.1
    · rintro (h | h)
      · exact .inr ⟨h, nd.2.2 _ (List.mem_map_of_mem h) _ (by simp)⟩
      · exact .inl h
theorem up_nodup {c : Prs} (h : c.Pairwise fun p q => p.1 < q.1) : (c.map (·.1)).Nodup := by
  unfold List.Nodup
  rw [List.pairwise_map]
  exact h.imp fun h => by omega
theorem keys_in {t : Int} : ∀ (more l : Prs), t ∈ l.map (·.1) ∨ t ∈ more.map (·.1) → t ∈ (mergeP l more).map (·.1)
  | [], l, h => by
    rcases h with h | h
    · exact h
    · simp at h
  | p :: r, l, h => by
    refine keys_in r (putP l p.1 p.2) ?_
    rw [keys_put]
    rcases h with h | h
    · left
      split
      · exact h
      · exact List.mem_append_left _ h
    · rw [List.map_cons, List.mem_cons] at h
      rcases h with h | h
      · left
        subst h
        split
        · assumption
        · exact List.mem_append_right _ (by simp)
      · exact .inr h
theorem nodup_of_len : ∀ n, ∀ l : Prs, l.length = n → (mergeP [] l).length = l.length → (l.map (·.1)).Nodup := by
  intro n
  induction n with
  | zero =>
    intro l hl _
    have : l = [] := List.length_eq_zero_iff.mp hl
    subst this
    exact List.Pairwise.nil
  | succ n ih =>
    intro l hl h
    have hne : l ≠ [] := by intro z; subst z; simp at hl
    rw [← List.dropLast_concat_getLast hne] at h ⊢
    have hd : l.dropLast.length = n := by simp [hl]
    generalize l.dropLast = d at *
    generalize l.getLast hne = q at *
    rw [merge_snoc] at h
    have e := congrArg List.length (keys_put (mergeP [] d) q.1 q.2)
    simp only [List.length_map] at e
    have hb := len_merge d []
    rw [h] at e
    simp only [List.length_append, List.length_cons, List.length_nil] at e hb
    by_cases hq : q.1 ∈ (mergeP [] d).map (·.1)
    · rw [if_pos hq, List.length_map] at e
      omega
    · rw [if_neg hq, List.length_append, List.length_map] at e
      simp only [List.length_cons, List.length_nil] at e
      rw [List.map_append, List.nodup_append]
      refine ⟨ih d hd (by omega), by simp, fun a ha b hb2 => ?_⟩
      simp at hb2
      subst hb2
      intro z
      subst z
      exact hq (keys_in d [] (.inr ha))
theorem IsC.again {l l' c c' : Prs} (h : IsC l c) (nd : (l.map (·.1)).Nodup) (h' : IsC l' c') (nd' : (l'.map (·.1)).Nodup) (hm : ∀ p, p ∈ l' ↔ p ∈ l) : c' = c :=
  up_ext h'.up h.up fun p => by rw [h'.mem, h.mem, last_nodup nd, last_nodup nd', hm]
theorem IsC.self {c c' : Prs} (hc : c.Pairwise fun p q => p.1 < q.1) (h : IsC c c') : c' = c := up_ext h.up hc fun p => by rw [h.mem, last_nodup (up_nodup hc)]
def prsLD (l : Prs) : PyData := .list (l.map pairP)
theorem shp_prsL (l : Prs) : Shp 2 (prsLD l) := Shp.listM (n := 1) shp_pair
theorem shaped_prsL (l : Prs) : SeqAt.shaped (prsLD l) = true := (shp_prsL l).ok
theorem eqv_prsL (l m : Prs) : PyData.eqv (prsLD l) (prsLD m) = decide (l = m) := by
  unfold prsLD
  rw [PyData.eqv]
  exact eqvAll_prs l m
theorem merge_take {l : Prs} {i : Nat} {p : Int × Int} (h : l[i]? = some p) : mergeP [] (l.take (i + 1)) = putP (mergeP [] (l.take i)) p.1 p.2 := by
  rw [take_snoc h, merge_snoc]
theorem dpAll_rev {K : PySem.W.Frag} {H : Hp} : ∀ {ws : List V} {ds : List PyData}, DpAll K H ws ds → DpAll K H ws.reverse ds.reverse
  | _, _, .nil => .nil
  | _, _, .cons h1 h2 => by
    rw [List.reverse_cons, List.reverse_cons]
    exact dpAll_snoc (dpAll_rev h2) h1
theorem out_up {m : Prs} {ys : List Int} (nd : (m.map (·.1)).Nodup) (hp : ys.Perm (m.map (·.1))) (hs : ys.Pairwise (· ≤ ·)) : (outOf m ys).Pairwise fun p q => p.1 < q.1 := by
  unfold outOf
  rw [List.pairwise_map]
  refine List.Pairwise.imp₂ (fun a b h1 h2 => ?_) hs (hp.nodup_iff.mpr nd)
  show a < b
  have : a ≠ b := h2
  omega
theorem out_mem {m : Prs} {ys : List Int} (nd : (m.map (·.1)).Nodup) (hp : ys.Perm (m.map (·.1))) {p : Int × Int} : p ∈ outOf m ys ↔ p ∈ m := by
  unfold outOf
  rw [List.mem_map]
  constructor
  · rintro ⟨t, ht, rfl⟩
    obtain ⟨q, hq, e⟩ := List.mem_map.mp (hp.mem_iff.mp ht)
    have e2 : valP m t = some q.2 := (valP_iff nd).mpr (by rw [← e]; exact hq)
    rw [e2, ← e]
    exact hq
  · intro h
    refine ⟨p.1, hp.mem_iff.mpr (List.mem_map_of_mem h), ?_⟩
    have e2 : valP m p.1 = some p.2 := (valP_iff nd).mpr h
    rw [e2]
    rfl
/-! ### dicts, step by step -/
section
variable {X : Cx} {K : PySem.W.Frag} {σ : St} {H H' : Hp} {Q : VK} {td ty tv te : TE} {nx bk ct : St → Hp → Prop} {rt : VK} {a : Addr} {kvs : List (Key × V)} {k : Key} {v x y : V}
def uDGet (x y : V) (H : Hp) (Q : VK) : Prop := ∃ a v, x = .ref a ∧ DGet H a y (some v) ∧ Q v H
theorem r_dget (q : td σ H fun x H1 => ty σ H1 fun y H2 => uDGet x y H2 Q) : tDGet td ty σ H Q := q
theorem r_dgeti {m : Prs} {t h : Int} (hd : H a = some (.dK (m.map inj))) (e : valP m t = some h) (q : Q (.int h) H) : uDGet (.ref a) (.int t) H Q := by
  refine ⟨a, .int h, rfl, ?_, q⟩
  have z := DGet.k (k := Sum.inl t) hd
  rw [val_inj, e] at z
  exact z
def uDPut (x y v : V) (H : Hp) (R : Hp → Prop) : Prop := ∃ a H4, x = .ref a ∧ DPut H a y v H4 ∧ R H4
theorem r_dput (q : tv σ H fun v H1 => td σ H1 fun x H2 => ty σ H2 fun y H3 => uDPut x y v H3 fun H4 => nx σ H4) : sDPut td ty tv ⟨nx, rt, bk, ct⟩ σ H := q
theorem r_dputi {m : Prs} {t h : Int} {R : Hp → Prop} (hd : H a = some (.dK (m.map inj))) (hl : m.length ≤ 100000) (q : ∀ H', Keep (At a) H H' → H' a = some (.dK ((putP m t h).map inj)) → R H') : uDPut (.ref a) (.int t) (.int h) H R := by
  refine ⟨a, _, rfl, DPut.k (k := Sum.inl t) hd (by rw [sizeLine_eq, List.length_map]; omega), q _ Keep.at_ ?_⟩
  rw [upd_same, put_inj]
theorem r_dnew (q : ∀ p H', H p = none → Same H H' → H' p = some (.dK []) → Q (.ref p) H') : tDNewK σ H Q := fun p hp => q p _ hp (Keep.same (Keep.new hp)) upd_same
def uDictP (K : PySem.W.Frag) : List V → Hp → VK → Prop := fun xs H Q => ∃ (a : Addr) (ps : List Addr) (kvs : List (Key × V)), xs = [.ref a] ∧ SqL K H a (ps.map V.ref) ∧ Paired (fun p kv => SqT K H p [kV kv.1, kv.2]) ps kvs ∧ ∀ p, H p = none → Q (.ref p) (upd H p (.dK (mergeK [] kvs)))
theorem c_dictP (hcalm : X.calm = true) : CallR X (.type "dict") (uDictP X.K) := call_dictP hcalm
theorem dp_pairs : ∀ {ws : List V} {l : Prs}, DpAll K H ws (l.map pairP) → ∃ ps : List Addr, ws = ps.map V.ref ∧ Paired (fun p kv => SqT K H p [kV kv.1, kv.2]) ps (l.map inj)
  | _, [], .nil => ⟨[], rfl, .nil⟩
  | _, p :: l, .cons h1 h2 => by
    obtain ⟨b, rfl, hb⟩ := dp_pair h1
    obtain ⟨ps, rfl, hp⟩ := dp_pairs h2
    exact ⟨b :: ps, rfl, .cons hb hp⟩
theorem r_dict {l : Prs} {ws : List V} (h : SqL K H a ws) (hd : DpAll K H ws (l.map pairP)) (q : ∀ p H', H p = none → Same H H' → H' p = some (.dK ((mergeP [] l).map inj)) → Q (.ref p) H') : uDictP K [.ref a] H Q := by
  obtain ⟨ps, rfl, hp⟩ := dp_pairs hd
  refine ⟨a, ps, l.map inj, rfl, h, hp, fun p hn => q p _ hn (Keep.same (Keep.new hn)) ?_⟩
  rw [upd_same]
  congr 2
  exact merge_inj l []
def uSortedD : List V → Hp → VK → Prop := fun xs H Q => ∃ (a : Addr) (kvs : List (Key × V)) (ks : List Int), xs = [.ref a] ∧ Rd H a (.dK kvs) ∧ kvs.map (·.1) = ks.map Sum.inl ∧ ks.length < 64 ∧
    ∀ (ys : List Int) (p : Addr), ys.Perm ks → ys.Pairwise (· ≤ ·) → H p = none → Q (.ref p) (upd H p (.lst (ys.map V.int)))
theorem c_sortedD (hcalm : X.calm = true) : CallR X (.builtin "sorted") uSortedD := call_sortedDI hcalm
theorem r_sortedD {m : Prs} (hd : H a = some (.dK (m.map inj))) (hl : m.length < 64) (q : ∀ (ys : List Int) p H', ys.Perm (m.map (·.1)) → ys.Pairwise (· ≤ ·) → H p = none → Same H H' → H' p = some (.lst (ys.map V.int)) → Q (.ref p) H') : uSortedD [.ref a] H Q :=
  ⟨a, m.map inj, m.map (·.1), rfl, .inl hd, by rw [List.map_map, List.map_map]; rfl, by simpa using hl, fun ys p h1 h2 h3 => q ys p _ h1 h2 h3 (Keep.same (Keep.new h3)) upd_same⟩
end
/-! ### parts of a curve -/
def partL (c : Prs) (b e : Int) : Prs := c.filter fun p => decide (b ≤ p.1) && decide (p.1 < e)
theorem partL_app {c : Prs} {a b d : Int} (hc : c.Pairwise fun p q => p.1 < q.1) (h1 : a ≤ b) (h2 : b ≤ d) : partL c a b ++ partL c b d = partL c a d := by
  induction c with
  | nil => rfl
  | cons p r ih =>
    obtain ⟨c1, c2⟩ := List.pairwise_cons.mp hc
    have ih := ih c2
    unfold partL at *
    by_cases h3 : p.1 < b
    · have e2 : (p :: r).filter (fun p => decide (b ≤ p.1) && decide (p.1 < d)) = r.filter (fun p => decide (b ≤ p.1) && decide (p.1 < d)) := List.filter_cons_of_neg (by simp; omega)
      rw [e2]
      by_cases h4 : a ≤ p.1
      · rw [List.filter_cons_of_pos (by simp; omega), List.filter_cons_of_pos (by simp; omega)]
        simp only [List.cons_append]
        rw [← ih]
      · rw [List.filter_cons_of_neg (by simp; omega), List.filter_cons_of_neg (by simp; omega)]
        exact ih
    · have e1 : r.filter (fun p => decide (a ≤ p.1) && decide (p.1 < b)) = [] := by
        rw [List.filter_eq_nil_iff]
        intro q hq
        have := c1 q hq
        simp
        omega
      rw [List.filter_cons_of_neg (by simp; omega), e1, List.nil_append]
      rw [e1, List.nil_append] at ih
      by_cases h4 : p.1 < d
      · rw [List.filter_cons_of_pos (by simp; omega), List.filter_cons_of_pos (by simp; omega), ih]
      · rw [List.filter_cons_of_neg (by simp; omega), List.filter_cons_of_neg (by simp; omega), ih]
theorem partL_self (c : Prs) (a b : Int) : partL (partL c a b) a b = partL c a b := by
  unfold partL
  rw [List.filter_filter]
  simp
theorem partL_len (c : Prs) (a b : Int) : (partL c a b).length ≤ c.length := List.length_filter_le _ _
theorem zip_up {c : Prs} (h : c.Pairwise fun p q => p.1 < q.1) : ∀ pq ∈ c.zip (c.drop 1), pq.1.1 < pq.2.1 := by
  intro pq hpq
  obtain ⟨i, hi⟩ := List.getElem?_of_mem hpq
  rw [List.getElem?_zip_eq_some] at hi
  obtain ⟨h1, h2⟩ := hi
  rw [List.getElem?_drop] at h2
  obtain ⟨i1, e1⟩ := List.getElem?_eq_some_iff.mp h1
  obtain ⟨i2, e2⟩ := List.getElem?_eq_some_iff.mp h2
  have := List.pairwise_iff_getElem.mp h i (1 + i) i1 i2 (by omega)
  rw [e1, e2] at this
  exact this
/-! ### pairs that stand in memory as tuples -/
def RawP (H : Hp) (ws : List V) (l : Prs) : Prop := Paired (fun v (q : Int × Int) => ∃ a, v = V.ref a ∧ H a = some (.tup [.int q.1, .int q.2])) ws l
theorem RawP.keep {F : Addr → Prop} {H H' : Hp} {ws : List V} {l : Prs} (h : RawP H ws l) (k : Keep F H H') (m : ∀ b, F b → Mut (H b)) : RawP H' ws l :=
  Paired.mapP h fun v q ⟨a, e, z⟩ => ⟨a, e, k a _ z fun n => by have := m a n; rw [z] at this; exact this⟩
theorem RawP.same {H H' : Hp} {ws : List V} {l : Prs} (h : RawP H ws l) (s : Same H H') : RawP H' ws l := Paired.mapP h fun v q ⟨a, e, z⟩ => ⟨a, e, s a _ z⟩
theorem RawP.dp {K : PySem.W.Frag} {H : Hp} : ∀ {ws : List V} {l : Prs}, RawP H ws l → DpAll K H ws (l.map pairP)
  | _, _, .nil => .nil
  | _, _, .cons ⟨a, e, z⟩ h => by
    subst e
    exact .cons (dp_of_pair (SqT.of z)) (RawP.dp h)
theorem RawP.len {H : Hp} {ws : List V} {l : Prs} (h : RawP H ws l) : ws.length = l.length := Paired.length h
theorem RawP.at_ {H : Hp} : ∀ {ws : List V} {l : Prs}, RawP H ws l → ∀ {i : Nat} {x : V}, ws[i]? = some x → ∃ q a, l[i]? = some q ∧ x = V.ref a ∧ H a = some (.tup [.int q.1, .int q.2])
  | _, _, .nil, i, x, h => by simp at h
  | _, _, .cons (b := q) ⟨a, e, z⟩ r, 0, x, h => by
    have e2 := Option.some.inj h
    subst e2
    exact ⟨q, a, rfl, e, z⟩
  | _, _, .cons _ r, i + 1, x, h => RawP.at_ r (i := i) (x := x) h
/-! ### bounds -/
/-- numbers that the laws draw -/
def big : Int := 1000000000000000000000000000000000000000000000000000000000000
structure Bd (p : Int × Int) : Prop where
  t : -big ≤ p.1 ∧ p.1 ≤ big
  h : -big ≤ p.2 ∧ p.2 ≤ big
end Fp
/-! stretches of times, in plain numbers -/
namespace Fp
open PySem PySem.Spec PyProof.Rows L2
def lvlF (b e : Int) : Nat → Nat → Nat
  | 0, l => l
  | n + 1, l => if b % 2 ^ (l + 1) = 0 ∧ b + 2 ^ (l + 1) ≤ e then lvlF b e n (l + 1) else l
def lvl (b e : Int) : Nat := lvlF b e 40 0
theorem two_mono {n m : Nat} (h : n ≤ m) : (2 : Int) ^ n ≤ 2 ^ m := by
  obtain ⟨k, rfl⟩ := Nat.exists_eq_add_of_le h
  rw [Int.pow_add]
  have h1 := two_pos n
  have h2 := two_pos k
  have : (2 : Int) ^ n * 1 ≤ 2 ^ n * 2 ^ k := Int.mul_le_mul_of_nonneg_left (by omega) (by omega)
  omega
theorem two_lt {n m : Nat} (h : (2 : Int) ^ n < 2 ^ m) : n < m := by
  rcases Nat.lt_or_ge n m with z | z
  · exact z
  · have := two_mono z; omega
theorem two_dvd {n m : Nat} (h : n ≤ m) : (2 : Int) ^ n ∣ 2 ^ m := by
  obtain ⟨k, rfl⟩ := Nat.exists_eq_add_of_le h
  rw [Int.pow_add]
  exact Int.dvd_mul_right ..
theorem lvlF_facts (b e : Int) : ∀ n l, n + l = 40 → b % 2 ^ l = 0 → b + 2 ^ l ≤ e → lvlF b e n l ≤ 40 ∧ b % 2 ^ lvlF b e n l = 0 ∧ b + 2 ^ lvlF b e n l ≤ e ∧ (lvlF b e n l < 40 → ¬ (b % 2 ^ (lvlF b e n l + 1) = 0 ∧ b + 2 ^ (lvlF b e n l + 1) ≤ e))
  | 0, l, h, h1, h2 => ⟨by unfold lvlF; omega, by unfold lvlF; exact h1, by unfold lvlF; exact h2, by unfold lvlF; omega⟩
  | n + 1, l, h, h1, h2 => by
    unfold lvlF
    by_cases c : b % 2 ^ (l + 1) = 0 ∧ b + 2 ^ (l + 1) ≤ e
    · rw [if_pos c]
      exact lvlF_facts b e n (l + 1) (by omega) c.1 c.2
    · rw [if_neg c]
      exact ⟨by omega, h1, h2, fun _ => c⟩
theorem lvlF_le (b e : Int) : ∀ n l, lvlF b e n l ≤ n + l
  | 0, l => by unfold lvlF; omega
  | n + 1, l => by
    unfold lvlF
    split
    · have := lvlF_le b e n (l + 1); omega
    · omega
theorem lvl_le (b e : Int) : lvl b e ≤ 40 := lvlF_le b e 40 0
theorem lvl_facts {b e : Int} (h : b < e) : b % 2 ^ lvl b e = 0 ∧ b + 2 ^ lvl b e ≤ e ∧ (lvl b e < 40 → ¬ (b % 2 ^ (lvl b e + 1) = 0 ∧ b + 2 ^ (lvl b e + 1) ≤ e)) :=
  (lvlF_facts b e 40 0 rfl (by simp) (by simp; omega)).2
/-- the stretches -/
def strF (e : Int) : Nat → Int → Prs
  | 0, _ => []
  | n + 1, b => if b < e then ((lvl b e : Int), b / 2 ^ lvl b e) :: strF e n (b + 2 ^ lvl b e) else []
def strL (b e : Int) : Prs := strF e (e - b).toNat b
theorem strF_fuel (e : Int) : ∀ n m b, (e - b).toNat ≤ n → (e - b).toNat ≤ m → strF e n b = strF e m b
  | 0, 0, _, _, _ => rfl
  | 0, m + 1, b, h, _ => by unfold strF; rw [if_neg (by omega)]
  | n + 1, 0, b, _, h => by unfold strF; rw [if_neg (by omega)]
  | n + 1, m + 1, b, h1, h2 => by
    unfold strF
    have := two_pos (lvl b e)
    split
    · rw [strF_fuel e n m _ (by omega) (by omega)]
    · rfl
theorem str_nil {b e : Int} (h : ¬ b < e) : strL b e = [] := by
  unfold strL
  rw [show (e - b).toNat = 0 by omega]
  rfl
theorem str_cons {b e : Int} (h : b < e) : strL b e = ((lvl b e : Int), b / 2 ^ lvl b e) :: strL (b + 2 ^ lvl b e) e := by
  have := two_pos (lvl b e)
  unfold strL
  obtain ⟨n, hn⟩ : ∃ n, (e - b).toNat = n + 1 := ⟨(e - b).toNat - 1, by omega⟩
  rw [hn]
  show (if b < e then ((lvl b e : Int), b / 2 ^ lvl b e) :: strF e n (b + 2 ^ lvl b e) else []) = _
  rw [if_pos h, strF_fuel e n (e - (b + 2 ^ lvl b e)).toNat _ (by omega) (by omega)]
theorem str_fall : ∀ k, k ≤ 40 → ∀ b e : Int, (2 : Int) ^ k ∣ b → e - b < 2 ^ k → (strL b e).length ≤ k := by
  intro k
  induction k using Nat.strongRecOn with
  | _ k ih =>
    intro hk b e hd hl
    by_cases h : b < e
    · obtain ⟨h1, h2, h3⟩ := lvl_facts h
      have hlk : lvl b e < k := two_lt (by omega)
      have h4 := h3 (by omega)
      have h5 : (2 : Int) ^ (lvl b e + 1) ∣ b := Int.dvd_trans (two_dvd hlk) hd
      have h6 : ¬ b + 2 ^ (lvl b e + 1) ≤ e := fun z => h4 ⟨Int.emod_eq_zero_of_dvd h5, z⟩
      rw [two_succ] at h6
      rw [str_cons h, List.length_cons]
      have := ih _ hlk (by omega) (b + 2 ^ lvl b e) e (Int.dvd_add (Int.dvd_of_emod_eq_zero h1) (Int.dvd_refl _)) (by omega)
      omega
    · rw [str_nil h]; simp
theorem dvd_next {l : Nat} {b : Int} (h1 : b % 2 ^ l = 0) (h2 : ¬ b % 2 ^ (l + 1) = 0) : (2 : Int) ^ (l + 1) ∣ b + 2 ^ l := by
  obtain ⟨m, rfl⟩ := Int.dvd_of_emod_eq_zero h1
  have hm : m % 2 = 1 := by
    rcases Int.emod_two_eq m with z | z
    · exfalso
      apply h2
      obtain ⟨j, rfl⟩ := Int.dvd_of_emod_eq_zero z
      rw [← Int.mul_assoc, ← Int.pow_succ]
      exact Int.mul_emod_right _ _
    · exact z
  refine ⟨(m + 1) / 2, ?_⟩
  rw [Int.pow_succ, Int.mul_assoc]
  have : 2 * ((m + 1) / 2) = m + 1 := by omega
  rw [this, Int.mul_add, Int.mul_one]
theorem str_rise : ∀ j k : Nat, j + k = 40 → ∀ b e : Int, (2 : Int) ^ k ∣ b → -(2 ^ 40) < b → e ≤ 2 ^ 40 → (strL b e).length ≤ 80 - k := by
  intro j
  induction j using Nat.strongRecOn with
  | _ j ih =>
    intro k hj b e hd hb he
    by_cases h : b < e
    · obtain ⟨h1, h2, h3⟩ := lvl_facts h
      have hle := lvl_le b e
      rw [str_cons h, List.length_cons]
      by_cases hl : lvl b e < 40
      · have h4 := h3 hl
        by_cases h5 : b + 2 ^ (lvl b e + 1) ≤ e
        · have h6 : ¬ b % 2 ^ (lvl b e + 1) = 0 := fun z => h4 ⟨z, h5⟩
          have hkl : k ≤ lvl b e := by
            rcases Nat.lt_or_ge (lvl b e) k with z | z
            · exact absurd (Int.emod_eq_zero_of_dvd (Int.dvd_trans (two_dvd z) hd)) h6
            · exact z
          have := two_pos (lvl b e)
          have := ih (40 - (lvl b e + 1)) (by omega) (lvl b e + 1) (by omega) (b + 2 ^ lvl b e) e (dvd_next h1 h6) (by omega) he
          omega
        · rw [two_succ] at h5
          have := str_fall (lvl b e) (by omega) (b + 2 ^ lvl b e) e (Int.dvd_add (Int.dvd_of_emod_eq_zero h1) (Int.dvd_refl _)) (by omega)
          omega
      · have e40 : lvl b e = 40 := by omega
        rw [e40] at h1 h2 ⊢
        rw [str_nil (by omega)]
        simp
        omega
    · rw [str_nil h]; simp
theorem str_len {b e : Int} (hb : -(2 ^ 40) ≤ b) (he : e ≤ 2 ^ 40) : (strL b e).length ≤ 80 := by
  by_cases h0 : b = -(2 ^ 40)
  · subst h0
    by_cases h : (-(2 ^ 40) : Int) < e
    · obtain ⟨h1, h2, h3⟩ := lvl_facts h
      have hle := lvl_le (-(2 ^ 40)) e
      rw [str_cons h, List.length_cons]
      generalize lvl (-(2 ^ 40)) e = l at *
      by_cases hl : l < 40
      · have h4 := h3 hl
        have h5 : ¬ -(2 ^ 40) + 2 ^ (l + 1) ≤ e := fun z => h4 ⟨Int.emod_eq_zero_of_dvd (Int.dvd_neg.mpr (two_dvd (by omega))), z⟩
        rw [two_succ] at h5
        have := str_fall l (by omega) (-(2 ^ 40) + 2 ^ l) e (Int.dvd_add (Int.dvd_of_emod_eq_zero h1) (Int.dvd_refl _)) (by omega)
        omega
      · have e40 : l = 40 := by omega
        subst e40
        have := str_rise 0 40 rfl (-(2 ^ 40) + 2 ^ 40) e ⟨0, by omega⟩ (by omega) he
        omega
    · rw [str_nil h]; simp
  · exact str_rise 40 0 rfl b e (by rw [Int.pow_zero]; exact Int.one_dvd b) (by omega) he
theorem str_mem {e : Int} : ∀ n : Nat, ∀ b : Int, (strL b e).length = n → ∀ q ∈ strL b e, ∃ l : Nat, l ≤ 40 ∧ q.1 = (l : Int) := by
  intro n
  induction n with
  | zero =>
    intro b h q hq
    rw [List.length_eq_zero_iff.mp h] at hq
    simp at hq
  | succ n ih =>
    intro b h q hq
    by_cases hb : b < e
    · rw [str_cons hb] at h hq
      rcases List.mem_cons.mp hq with rfl | hq
      · exact ⟨_, lvl_le b e, rfl⟩
      · exact ih _ (by simpa using h) q hq
    · rw [str_nil hb] at h
      simp at h
end Fp
/-! fours: first, last, lowest, highest; tables of fours by stretches -/
namespace Fp
open PySem PySem.Spec PyProof.Rows L2
structure Four where
  f : Int × Int
  l : Int × Int
  lo : Int × Int
  hi : Int × Int
def four4 (F : Four) : PyData := .tuple [pairP F.f, pairP F.l, pairP F.lo, pairP F.hi]
def fourD : Option Four → PyData
  | none => .none
  | some F => four4 F
theorem imm_four (F : Option Four) : imm (fourD F) = true := by
  cases F with
  | none => rfl
  | some F => simp [fourD, four4, imm, immAll, imm_pair]
theorem dp4 {K : PySem.W.Frag} {H : Hp} {ws : List V} {a b c d : PyData} (h : DpAll K H ws [a, b, c, d]) : ∃ w x y z, ws = [w, x, y, z] ∧ Dp K H w a ∧ Dp K H x b ∧ Dp K H y c ∧ Dp K H z d := by
  cases h with
  | cons h1 h =>
    cases h with
    | cons h2 h =>
      cases h with
      | cons h3 h =>
        cases h with
        | cons h4 h =>
          cases h
          exact ⟨_, _, _, _, rfl, h1, h2, h3, h4⟩
theorem shp_four (F : Option Four) : Shp 2 (fourD F) := by
  cases F with
  | none => exact .none
  | some F => exact Shp.t4 (shp_pair _) (shp_pair _) (shp_pair _) (shp_pair _)
def lowP (a b : Int × Int) : Int × Int := if b.2 < a.2 then b else a
def highP (a b : Int × Int) : Int × Int := if b.2 > a.2 then b else a
def joinF : Option Four → Option Four → Option Four
  | none, b => b
  | some a, none => some a
  | some a, some b => some ⟨a.f, b.l, lowP a.lo b.lo, highP a.hi b.hi⟩
theorem lowP_assoc (a b c : Int × Int) : lowP (lowP a b) c = lowP a (lowP b c) := by
  unfold lowP
  by_cases h1 : b.2 < a.2 <;> by_cases h2 : c.2 < b.2 <;> by_cases h3 : c.2 < a.2 <;> simp [h1, h2, h3] <;> (exfalso; omega)
theorem highP_assoc (a b c : Int × Int) : highP (highP a b) c = highP a (highP b c) := by
  unfold highP
  by_cases h1 : b.2 > a.2 <;> by_cases h2 : c.2 > b.2 <;> by_cases h3 : c.2 > a.2 <;> simp [h1, h2, h3] <;> (exfalso; omega)
theorem joinF_none (a : Option Four) : joinF a none = a := by cases a <;> rfl
theorem joinF_assoc (a b c : Option Four) : joinF (joinF a b) c = joinF a (joinF b c) := by
  cases a with
  | none => rfl
  | some a =>
    cases b with
    | none => rfl
    | some b =>
      cases c with
      | none => rfl
      | some c => simp only [joinF, lowP_assoc, highP_assoc]
def oneF (p : Int × Int) : Option Four := some ⟨p, p, p, p⟩
def fourL (c : Prs) : Option Four := c.foldl (fun a p => joinF a (oneF p)) none
theorem fold_join (c : Prs) : ∀ a : Option Four, c.foldl (fun a p => joinF a (oneF p)) a = joinF a (fourL c) := by
  induction c with
  | nil => intro a; exact (joinF_none a).symm
  | cons p r ih =>
    intro a
    show r.foldl (fun a p => joinF a (oneF p)) (joinF a (oneF p)) = joinF a (r.foldl (fun a p => joinF a (oneF p)) (joinF none (oneF p)))
    rw [ih, ih, joinF_assoc]
    rfl
theorem fourL_app (c d : Prs) : fourL (c ++ d) = joinF (fourL c) (fourL d) := by
  show (c ++ d).foldl (fun a p => joinF a (oneF p)) none = _
  rw [List.foldl_append, fold_join]
  rfl
theorem fourL_nil : fourL [] = none := rfl
theorem fourL_one (p : Int × Int) : fourL [p] = oneF p := rfl
theorem fourL_cons (p : Int × Int) (c : Prs) : fourL (p :: c) = joinF (oneF p) (fourL c) := fourL_app [p] c
theorem fourL_none {c : Prs} (h : fourL c = none) : c = [] := by
  cases c with
  | nil => rfl
  | cons p r =>
    rw [fourL_cons] at h
    unfold oneF at h
    cases e : fourL r with
    | none => rw [e] at h; cases h
    | some F => rw [e] at h; cases h
theorem fold_some (r : Prs) : ∀ F : Four, r.foldl (fun a p => joinF a (oneF p)) (some F) = some ⟨F.f, (r.getLast?).getD F.l, r.foldl lowP F.lo, r.foldl highP F.hi⟩ := by
  induction r with
  | nil => intro F; rfl
  | cons p r ih =>
    intro F
    show r.foldl (fun a p => joinF a (oneF p)) (some ⟨F.f, p, lowP F.lo p, highP F.hi p⟩) = _
    rw [ih]
    cases r with
    | nil => rfl
    | cons q r =>
      have e : ∀ z : Int × Int, ((q :: r).getLast?).getD z = (q :: r).getLast (by simp) := fun z => by rw [List.getLast?_eq_some_getLast (by simp)]; rfl
      have e2 : ((p :: q :: r).getLast?).getD F.l = (q :: r).getLast (by simp) := by rw [List.getLast?_eq_some_getLast (by simp)]; rfl
      rw [e2]
      show some (Four.mk F.f (((q :: r).getLast?).getD p) _ _) = _
      rw [e]
      rfl
theorem fourL_eq (f : Int × Int) (r : Prs) : fourL (f :: r) = some ⟨f, (r.getLast?).getD f, r.foldl lowP f, r.foldl highP f⟩ := fold_some r ⟨f, f, f, f⟩
theorem lowP_self (f : Int × Int) : lowP f f = f := by unfold lowP; split <;> rfl
theorem highP_self (f : Int × Int) : highP f f = f := by unfold highP; split <;> rfl
/-! ### the times of a stretch -/
def seg (c : Prs) (l : Nat) (s : Int) : Prs := partL c (s * 2 ^ l) (s * 2 ^ l + 2 ^ l)
theorem seg_succ {c : Prs} (hc : c.Pairwise fun p q => p.1 < q.1) (l : Nat) (s : Int) : seg c (l + 1) s = seg c l (2 * s) ++ seg c l (2 * s + 1) := by
  have h := two_pos l
  have e1 : s * 2 ^ (l + 1) = 2 * s * 2 ^ l := by rw [two_succ, ← Int.mul_assoc, Int.mul_comm s 2]
  have e2 : (2 * s + 1) * 2 ^ l = 2 * s * 2 ^ l + 2 ^ l := by rw [Int.add_mul, Int.one_mul]
  unfold seg
  rw [e1, e2, partL_app hc (by omega) (by omega), two_succ]
  congr 1
  omega
theorem partL_none {c : Prs} {b e : Int} (h : ¬ b < e) : partL c b e = [] := by
  unfold partL
  rw [List.filter_eq_nil_iff]
  intro p _
  simp
  omega
/-- the stretches' fours, joined -/
theorem str_four {c : Prs} (hc : c.Pairwise fun p q => p.1 < q.1) (e : Int) : ∀ n : Nat, ∀ b : Int, (strL b e).length = n → (strL b e).foldl (fun a p => joinF a (fourL (seg c p.1.toNat p.2))) none = fourL (partL c b e) := by
  have gen : ∀ (l : Prs) (a : Option Four), l.foldl (fun a p => joinF a (fourL (seg c p.1.toNat p.2))) a = joinF a (l.foldl (fun a p => joinF a (fourL (seg c p.1.toNat p.2))) none) := by
    intro l
    induction l with
    | nil => intro a; exact (joinF_none a).symm
    | cons p r ih =>
      intro a
      simp only [List.foldl_cons]
      rw [ih, ih (joinF none _), joinF_assoc]
      rfl
  intro n
  induction n with
  | zero =>
    intro b h
    have hb : ¬ b < e := fun z => by rw [str_cons z] at h; simp at h
    rw [str_nil hb, partL_none hb]
    rfl
  | succ n ih =>
    intro b h
    by_cases hb : b < e
    · obtain ⟨h1, h2, _⟩ := lvl_facts hb
      have hm : b / 2 ^ lvl b e * 2 ^ lvl b e = b := Int.ediv_mul_cancel_of_emod_eq_zero h1
      have hp := two_pos (lvl b e)
      rw [str_cons hb] at h ⊢
      simp only [List.length_cons, Nat.add_right_cancel_iff] at h
      rw [List.foldl_cons, gen, ih _ h]
      show joinF (joinF none (fourL (seg c ((lvl b e : Nat) : Int).toNat (b / 2 ^ lvl b e)))) _ = _
      rw [show ((lvl b e : Nat) : Int).toNat = lvl b e from rfl]
      unfold seg
      rw [hm]
      show joinF (fourL (partL c b (b + 2 ^ lvl b e))) _ = _
      rw [← fourL_app, partL_app hc (by omega) h2]
    · rw [str_nil hb] at h
      simp at h
/-! ### tables of fours by stretches -/
def skey (l : Nat) (s : Int) : List Key := [Sum.inl (l : Int), Sum.inl s]
theorem skey_inj {l l' : Nat} {s s' : Int} : skey l s = skey l' s' ↔ l = l' ∧ s = s' := by
  unfold skey
  simp
  intro _
  omega
inductive Fits (K : PySem.W.Frag) (H : Hp) : Option V → Option Four → Prop
  | none : Fits K H none none
  | some {v : V} {F : Four} : Dp K H v (four4 F) → Fits K H (some v) (some F)
theorem Fits.text {K : PySem.W.Frag} {H H' : Hp} {o : Option V} {F : Option Four} (h : Fits K H o F) (e : TExt H H') : Fits K H' o F := by
  cases h with
  | none => exact .none
  | some d => exact .some (Dp.text e _ _ (imm_four (Option.some _)) d)
theorem Fits.getD {K : PySem.W.Frag} {H : Hp} {o : Option V} {F : Option Four} (h : Fits K H o F) : Dp K H (o.getD .non) (fourD F) := by
  cases h with
  | none => exact .non
  | some d => exact d
/-- below level k the fours of c', from there on those of c -/
def Mix (K : PySem.W.Frag) (H : Hp) (kvs : List (List Key × V)) (c c' : Prs) (k : Nat) : Prop :=
  ∀ (l : Nat) (s : Int), l ≤ 40 → Fits K H (valV kvs (skey l s)) (fourL (seg (if l < k then c' else c) l s))
abbrev FourInv (K : PySem.W.Frag) (H : Hp) (kvs : List (List Key × V)) (c : Prs) : Prop := Mix K H kvs c c 0
theorem Mix.text {K : PySem.W.Frag} {H H' : Hp} {kvs : List (List Key × V)} {c c' : Prs} {k : Nat} (h : Mix K H kvs c c' k) (e : TExt H H') : Mix K H' kvs c c' k := fun l s hl => (h l s hl).text e
theorem Mix.zero {K : PySem.W.Frag} {H : Hp} {kvs : List (List Key × V)} {c : Prs} (c' : Prs) (h : FourInv K H kvs c) : Mix K H kvs c c' 0 := fun l s hl => by
  have := h l s hl
  rw [if_neg (by omega)] at this ⊢
  exact this
theorem Mix.full {K : PySem.W.Frag} {H : Hp} {kvs : List (List Key × V)} {c c' : Prs} (h : Mix K H kvs c c' 41) : FourInv K H kvs c' := fun l s hl => by
  have := h l s hl
  rw [if_pos (by omega)] at this
  rw [if_neg (by omega)]
  exact this
/-- c and c' differ at t at most -/
def Beside (t : Int) (c c' : Prs) : Prop := ∀ b e : Int, ¬ (b ≤ t ∧ t < e) → partL c' b e = partL c b e
theorem seg_beside {t : Int} {c c' : Prs} (h : Beside t c c') {l : Nat} {s : Int} (hs : s ≠ t / 2 ^ l) : seg c' l s = seg c l s := by
  refine h _ _ fun z => hs ?_
  exact (div_is (two_pos l) z.1 z.2).symm
/-- one more level is done: what stands at the stretch of t is the four of c' -/
theorem Mix.step {K : PySem.W.Frag} {H H' : Hp} {kvs kvs' : List (List Key × V)} {c c' : Prs} {t : Int} {k : Nat} (hb : Beside t c c') (h : Mix K H kvs c c' k) (e : TExt H H')
    (hv : ∀ j, j ≠ skey k (t / 2 ^ k) → valV kvs' j = valV kvs j) (hn : Fits K H' (valV kvs' (skey k (t / 2 ^ k))) (fourL (seg c' k (t / 2 ^ k)))) : Mix K H' kvs' c c' (k + 1) := by
  intro l s hl
  by_cases hk : skey l s = skey k (t / 2 ^ k)
  · obtain ⟨rfl, rfl⟩ := skey_inj.mp hk
    rw [if_pos (by omega)]
    exact hn
  · rw [hv _ hk]
    have := (h l s hl).text e
    by_cases h1 : l < k
    · rw [if_pos h1] at this
      rw [if_pos (by omega)]
      exact this
    · rw [if_neg h1] at this
      by_cases h2 : l = k
      · rw [if_pos (by omega), seg_beside hb (fun z => hk (skey_inj.mpr ⟨h2, by rw [z, h2]⟩))]
        exact this
      · rw [if_neg (by omega)]
        exact this
/-- the two that are joined at the next level -/
theorem Mix.two {K : PySem.W.Frag} {H : Hp} {kvs : List (List Key × V)} {c c' : Prs} {k : Nat} (h : Mix K H kvs c c' (k + 1)) (hk : k < 40) (s : Int) :
    Fits K H (valV kvs (skey k (2 * s))) (fourL (seg c' k (2 * s))) ∧ Fits K H (valV kvs (skey k (2 * s + 1))) (fourL (seg c' k (2 * s + 1))) := by
  have h1 := h k (2 * s) (by omega)
  have h2 := h k (2 * s + 1) (by omega)
  rw [if_pos (by omega)] at h1 h2
  exact ⟨h1, h2⟩
theorem seg_zero_mem {c : Prs} (hc : c.Pairwise fun p q => p.1 < q.1) {t h : Int} (hm : (t, h) ∈ c) : seg c 0 t = [(t, h)] := by
  refine up_ext (hc.sublist List.filter_sublist) (List.pairwise_singleton _ _) fun p => ?_
  unfold seg partL
  rw [List.mem_filter, List.mem_singleton]
  simp only [Int.pow_zero, Int.mul_one, Bool.and_eq_true, decide_eq_true_eq]
  constructor
  · rintro ⟨hp, h1, h2⟩
    have e1 := (valP_iff (up_nodup hc)).mpr (show (t, h) ∈ c from hm)
    have e2 := (valP_iff (up_nodup hc)).mpr (show (t, p.2) ∈ c by rw [show (t, p.2) = p from Prod.ext (by show t = p.1; omega) rfl]; exact hp)
    rw [e1] at e2
    exact Prod.ext (by show p.1 = t; omega) (Option.some.inj e2).symm
  · rintro rfl
    exact ⟨hm, by omega, by omega⟩
theorem seg_zero_not {c : Prs} {t : Int} (hm : ∀ p ∈ c, p.1 ≠ t) : seg c 0 t = [] := by
  unfold seg partL
  rw [List.filter_eq_nil_iff]
  intro p hp
  have := hm p hp
  simp
  omega
theorem in_stretch (t : Int) (l : Nat) : t / 2 ^ l * 2 ^ l ≤ t ∧ t < t / 2 ^ l * 2 ^ l + 2 ^ l := by
  have hp := two_pos l
  have h1 := Int.ediv_mul_le t (b := 2 ^ l) (by omega)
  have h2 := Int.lt_ediv_add_one_mul_self t hp
  rw [Int.add_mul, Int.one_mul] at h2
  exact ⟨h1, h2⟩
theorem seg_has {c : Prs} {t h : Int} (hm : (t, h) ∈ c) (l : Nat) : (t, h) ∈ seg c l (t / 2 ^ l) := by
  obtain ⟨h1, h2⟩ := in_stretch t l
  unfold seg partL
  rw [List.mem_filter]
  exact ⟨hm, by simp only [Bool.and_eq_true, decide_eq_true_eq]; exact ⟨h1, h2⟩⟩
theorem Fits.of_some {K : PySem.W.Frag} {H : Hp} {v : V} {F : Option Four} (d : Dp K H v (fourD F)) (h : F ≠ Option.none) : Fits K H (Option.some v) F := by
  cases F with
  | none => exact absurd rfl h
  | some F => exact .some d
end Fp
/-! classes of the program: methods, making, fields; dicts by tuples -/
namespace Fp
open PySem PySem.Spec PyProof.Rows L2
/-- a class without bases at the module's name x -/
structure ClT (K : PySem.W.Frag) (mg : Str → Option Value) (x : Str) (C : Addr) : Prop where
  g : mg x = some (.ref C)
  cl : Cls K C
  mks : PySem.W.makesIn K C = true
  kp : PySem.W.keepIn K (.ref C) = true
structure MDef (K : PySem.W.Frag) (C : Addr) (m qual : Str) (st : Stmt) (ps : List Str) : Prop where
  ex : ∃ f fd, Fun K m qual st f fd ∧ Meth K C m f ∧ Binds K fd ps []
structure MFn (P : Program) (w : World) (K : PySem.W.Frag) (mg : Str → Option Value) (base : Heap) (k : Nat) (C : Addr) (m : Str) (ps : List Str) (sp : Sp) : Prop where
  ex : ∃ f fd, Meth K C m f ∧ Binds K fd ps [] ∧ FnOk P w K mg base (L2.CX P w) k f fd ps sp
/-- an __init__ whose last parameter has the default None -/
structure IDef (K : PySem.W.Frag) (C : Addr) (qual : Str) (st : Stmt) (ps : List Str) : Prop where
  ex : ∃ f fd, FunD K "__init__" qual (defArgs st) (defBody st) (defScope st) [.non] [] f fd ∧ Mk K C f ∧ Binds K fd ps [] ∧ KBn K fd ps 1 [ps.getD 1 Str.empty] (fun us ws => us ++ ws) (fun vs zs => vs ++ zs) ∧ ∃ ds, Vals [V.non] ds ∧ Binds K fd ps ds
structure IFn (P : Program) (w : World) (K : PySem.W.Frag) (mg : Str → Option Value) (base : Heap) (k : Nat) (C : Addr) (ps : List Str) (sp : Sp) : Prop where
  ex : ∃ f fd, Mk K C f ∧ Binds K fd ps [] ∧ KBn K fd ps 1 [ps.getD 1 Str.empty] (fun us ws => us ++ ws) (fun vs zs => vs ++ zs) ∧ (∃ ds, Vals [V.non] ds ∧ Binds K fd ps ds) ∧ FnOk P w K mg base (L2.CX P w) k f fd ps sp
/-- an __init__ without defaults -/
structure PDef (K : PySem.W.Frag) (C : Addr) (qual : Str) (st : Stmt) (ps : List Str) : Prop where
  ex : ∃ f fd, Fun K "__init__" qual st f fd ∧ Mk K C f ∧ Binds K fd ps []
structure PFn (P : Program) (w : World) (K : PySem.W.Frag) (mg : Str → Option Value) (base : Heap) (k : Nat) (C : Addr) (ps : List Str) (sp : Sp) : Prop where
  ex : ∃ f fd, Mk K C f ∧ Binds K fd ps [] ∧ FnOk P w K mg base (L2.CX P w) k f fd ps sp
theorem IFn.pos {P : Program} {w : World} {K : PySem.W.Frag} {mg : Str → Option Value} {base : Heap} {k : Nat} {C : Addr} {ps : List Str} {sp : Sp} (G : IFn P w K mg base k C ps sp) : PFn P w K mg base k C ps sp := by
  obtain ⟨f, fd, hm, hb, _, _, F⟩ := G.ex
  exact ⟨f, fd, hm, hb, F⟩
section
variable {P : Program} {w : World} {K : PySem.W.Frag} {mg : Str → Option Value} {base : Heap} {C : Addr}
theorem PDef.ok {qual : Str} {st : Stmt} {N ps : List Str} {k : Nat} {sp : Sp} (D : PDef K C qual st ps) (S : FnScope N ps (defScope st)) (len : ∀ vs H Q E, sp vs H Q E → vs.length = ps.length)
    (hbody : ∀ (f : Addr) (cdv : Value) (A : Around) (outer : List Env) (s : Shared) (H : Hp) (vs : List V) (Q : VK) (E : XK), Room k (A.deeper (envOfC qual (defScope st) s.heap.objs.size f cdv)) → sp vs H Q E →
      ∃ t, PSs (cxOf CX0 P w K mg base N qual (defScope st) f cdv A outer s H E).nox (defBody st) t ∧ t { nx := fun _ H' => Q .non H', rt := Q } (start N vs) H) : PFn P w K mg base (k + 1) C ps sp := by
  obtain ⟨f, fd, F, hm, hb⟩ := D.ex
  exact ⟨f, fd, hm, hb, fn_up (F.ok S len (hbody f))⟩
theorem PDef.okX {qual : Str} {st : Stmt} {N ps : List Str} {k : Nat} {sp : Sp} (D : PDef K C qual st ps) (S : FnScope N ps (defScope st)) (len : ∀ vs H Q E, sp vs H Q E → vs.length = ps.length)
    (hbody : ∀ (f : Addr) (cdv : Value) (A : Around) (outer : List Env) (s : Shared) (H : Hp) (vs : List V) (Q : VK) (E : XK), Room k (A.deeper (envOfC qual (defScope st) s.heap.objs.size f cdv)) → sp vs H Q E →
      ∃ t, PSs (cxOf (L2.CX P w) P w K mg base N qual (defScope st) f cdv A outer s H E) (defBody st) t ∧ t { nx := fun _ H' => Q .non H', rt := Q } (start N vs) H) : PFn P w K mg base (k + 1) C ps sp := by
  obtain ⟨f, fd, F, hm, hb⟩ := D.ex
  exact ⟨f, fd, hm, hb, F.okX S len (hbody f)⟩
theorem MDef.ok {m qual : Str} {st : Stmt} {N ps : List Str} {k : Nat} {sp : Sp} (D : MDef K C m qual st ps) (S : FnScope N ps (defScope st)) (len : ∀ vs H Q E, sp vs H Q E → vs.length = ps.length)
    (hbody : ∀ (f : Addr) (cdv : Value) (A : Around) (outer : List Env) (s : Shared) (H : Hp) (vs : List V) (Q : VK) (E : XK), Room k (A.deeper (envOfC qual (defScope st) s.heap.objs.size f cdv)) → sp vs H Q E →
      ∃ t, PSs (cxOf CX0 P w K mg base N qual (defScope st) f cdv A outer s H E).nox (defBody st) t ∧ t { nx := fun _ H' => Q .non H', rt := Q } (start N vs) H) : MFn P w K mg base (k + 1) C m ps sp := by
  obtain ⟨f, fd, F, hm, hb⟩ := D.ex
  exact ⟨f, fd, hm, hb, fn_up (F.ok S len (hbody f))⟩
theorem MDef.okX {m qual : Str} {st : Stmt} {N ps : List Str} {k : Nat} {sp : Sp} (D : MDef K C m qual st ps) (S : FnScope N ps (defScope st)) (len : ∀ vs H Q E, sp vs H Q E → vs.length = ps.length)
    (hbody : ∀ (f : Addr) (cdv : Value) (A : Around) (outer : List Env) (s : Shared) (H : Hp) (vs : List V) (Q : VK) (E : XK), Room k (A.deeper (envOfC qual (defScope st) s.heap.objs.size f cdv)) → sp vs H Q E →
      ∃ t, PSs (cxOf (L2.CX P w) P w K mg base N qual (defScope st) f cdv A outer s H E) (defBody st) t ∧ t { nx := fun _ H' => Q .non H', rt := Q } (start N vs) H) : MFn P w K mg base (k + 1) C m ps sp := by
  obtain ⟨f, fd, F, hm, hb⟩ := D.ex
  exact ⟨f, fd, hm, hb, F.okX S len (hbody f)⟩
theorem IDef.okX {qual : Str} {st : Stmt} {N ps : List Str} {k : Nat} {sp : Sp} (D : IDef K C qual st ps) (S : FnScope N ps (defScope st)) (len : ∀ vs H Q E, sp vs H Q E → vs.length = ps.length)
    (hbody : ∀ (f : Addr) (cdv : Value) (A : Around) (outer : List Env) (s : Shared) (H : Hp) (vs : List V) (Q : VK) (E : XK), Room k (A.deeper (envOfC qual (defScope st) s.heap.objs.size f cdv)) → sp vs H Q E →
      ∃ t, PSs (cxOf (L2.CX P w) P w K mg base N qual (defScope st) f cdv A outer s H E) (defBody st) t ∧ t { nx := fun _ H' => Q .non H', rt := Q } (start N vs) H) : IFn P w K mg base (k + 1) C ps sp := by
  obtain ⟨f, fd, F, hm, hb, hk, hd⟩ := D.ex
  exact ⟨f, fd, hm, hb, hk, hd, F.ok S len (hbody f)⟩
theorem mdef_mk {m qual : Str} {st : Stmt} {f : Addr} {fd : FuncData} {ps : List Str} (F : Fun K m qual st f fd) (a : PySem.W.findIn K (.ref C) m = some (some (.ref f))) (i : PySem.W.isFn K (.ref f) = true) (k : PySem.W.keepIn K (.ref f) = true) (hb : Binds K fd ps []) : MDef K C m qual st ps := ⟨f, fd, F, ⟨a, i, k⟩, hb⟩
theorem pdef_mk {qual : Str} {st : Stmt} {f : Addr} {fd : FuncData} {ps : List Str} (F : Fun K "__init__" qual st f fd) (M : Mk K C f) (hb : Binds K fd ps []) : PDef K C qual st ps := ⟨f, fd, F, M, hb⟩
theorem idef_mk {qual : Str} {st : Stmt} {f : Addr} {fd : FuncData} {ps : List Str} {n : Nat} (F : FunD K "__init__" qual (defArgs st) (defBody st) (defScope st) [.non] [] f fd) (M : Mk K C f) (hn : n + 1 = ps.length)
    (h0 : ∀ (T : Addr) (kV doc pm : Value) (an : Option Addr) (cdv ct : Value) (us its : List Value), us.length = n → its.length = 1 →
      ∃ k, bindArgs (PySem.W.fnOf "__init__" qual (defArgs st) (defBody st) (defScope st) (.ref T) kV doc pm an cdv ct) ⟨us, []⟩ = seqItems? (.ref T) >>= k ∧ k (some its.toArray) = pure (ps.zip (us ++ its.drop 0)))
    (h1 : ∀ (T : Addr) (kV doc pm : Value) (an : Option Addr) (cdv ct : Value) (us its : List Value), us.length = n + 1 → its.length = 1 →
      ∃ k, bindArgs (PySem.W.fnOf "__init__" qual (defArgs st) (defBody st) (defScope st) (.ref T) kV doc pm an cdv ct) ⟨us, []⟩ = seqItems? (.ref T) >>= k ∧ k (some its.toArray) = pure (ps.zip (us ++ its.drop 1)))
    (h2 : ∀ (T : Addr) (kV doc pm : Value) (an : Option Addr) (cdv ct : Value) (us its ws : List Value), us.length = 1 → its.length = 1 → ws.length = 1 →
      ∃ k, bindArgs (PySem.W.fnOf "__init__" qual (defArgs st) (defBody st) (defScope st) (.ref T) kV doc pm an cdv ct) ⟨us, [ps.getD 1 Str.empty].zip ws⟩ = seqItems? (.ref T) >>= k ∧ k (some its.toArray) = pure (ps.zip (us ++ ws))) : IDef K C qual st ps := by
  obtain ⟨ds, hd, hb⟩ := F.binds1 n 0 (by simp) (by simpa using hn) h0
  obtain ⟨ds1, hd1, hb1⟩ := F.binds1 (n + 1) 1 (by simp) (by simpa using hn) h1
  have e : ds1 = [] := by
    have : Vals [] ds1 := hd1
    cases this
    rfl
  subst e
  obtain ⟨its, hk⟩ := F.kbindsD 1 [ps.getD 1 Str.empty] (fun us _ ws => us ++ ws) (by simp) (fun r1 _ r3 => r1.append r3) h2
  exact ⟨f, fd, F, M, hb1, hk, ds, hd, hb⟩
end
/-! ### calls of methods, making -/
section
variable {X : Cx} {K : PySem.W.Frag} {σ : St} {H H' : Hp} {Q : VK} {k j : Nat} {ps : List Str} {sp : Sp} {E : XK} {x m f : Str} {p pos apos : Pos} {o e : Expr} {es : List Expr} {ta te tv : TE} {t : TA} {C a dx : Addr} {fs : List (Str × V)} {v y z : V} {nx bk ct : St → Hp → Prop} {rt : VK} {vs : List V}
def uMeth (C : Addr) (m : Str) (sp : Sp) (E : XK) (t : TA) (σ : St) (x : V) (H : Hp) (Q : VK) : Prop := ∃ a dx fs, x = .ref a ∧ H a = some (.ins C dx fs) ∧ fs.lookup m = none ∧ t σ H fun vs H2 => sp (x :: vs) H2 Q E
def tMethU (C : Addr) (m : Str) (sp : Sp) (E : XK) (ta : TE) (t : TA) : TE := fun σ H Q => ta σ H fun x H1 => uMeth C m sp E t σ x H1 Q
theorem tMeth_eq : tMeth C m sp [] E ta t = tMethU C m sp E ta t := by
  funext σ H Q
  unfold tMeth tMethU uMeth
  simp only [List.append_nil]
theorem pe_methE {pl : Sem Bool} (G : MFn X.prog X.w X.K X.mg X.base k C m ps sp) (hr : Room j X.A) (hk : k ≤ j) (c : Cls X.K C) (hx : Passes (L2.CX X.prog X.w) X E) (he : PE X o ta) (ha : PA X (e :: es) t)
    (hst : starEach (e :: es) X.env = (false, eval e X.env) :: starEach es X.env := by rfl) (hpl : (backTo pos (starEach es X.env)).any (·.1) = false := by rfl)
    (ht : eval (.Call (.Attribute o m apos) (e :: es) [] pos) X.env = (do
      let ov ← eval o X.env
      standAt apos.atName
      let (f, first) ← holding [ov] (getMethod ov m pl)
      callWith pos f first (backTo pos (starEach (e :: es) X.env)) (backToKw pos (keywordEach [] X.env))) := by rfl) :
    PE X (.Call (.Attribute o m apos) (e :: es) [] pos) (tMethU C m sp E ta t) := by
  obtain ⟨f, fd, hm, hb, F⟩ := G.ex
  have h := pe_meth (dvs := []) he c hm (F.mono hk) hr hb .nil hx ha hst hpl ht
  rw [tMeth_eq] at h
  exact h
theorem pe_meth0E {pl : Sem Bool} (G : MFn X.prog X.w X.K X.mg X.base k C m ps sp) (hr : Room j X.A) (hk : k ≤ j) (c : Cls X.K C) (hx : Passes (L2.CX X.prog X.w) X E) (he : PE X o ta)
    (ht : eval (.Call (.Attribute o m apos) [] [] pos) X.env = (do
      let ov ← eval o X.env
      standAt apos.atName
      let (f, first) ← holding [ov] (getMethod ov m pl)
      callWith pos f first (backTo pos (starEach [] X.env)) (backToKw pos (keywordEach [] X.env))) := by rfl) :
    PE X (.Call (.Attribute o m apos) [] [] pos) (tMethU C m sp E ta tNil) := by
  obtain ⟨f, fd, hm, hb, F⟩ := G.ex
  have h := pe_meth0 (dvs := []) he c hm (F.mono hk) hr hb .nil hx ht
  rw [tMeth_eq] at h
  exact h
theorem pe_methN {pl : Sem Bool} (G : MFn X.prog X.w X.K X.mg X.base k C m ps sp) (hr : Room j X.A) (c : Cls X.K C) (he : PE X o ta) (ha : PA X (e :: es) t) (hk : k ≤ j := by decide)
    (hst : starEach (e :: es) X.env = (false, eval e X.env) :: starEach es X.env := by rfl) (hpl : (backTo pos (starEach es X.env)).any (·.1) = false := by rfl)
    (ht : eval (.Call (.Attribute o m apos) (e :: es) [] pos) X.env = (do
      let ov ← eval o X.env
      standAt apos.atName
      let (f, first) ← holding [ov] (getMethod ov m pl)
      callWith pos f first (backTo pos (starEach (e :: es) X.env)) (backToKw pos (keywordEach [] X.env))) := by rfl) :
    PE X (.Call (.Attribute o m apos) (e :: es) [] pos) (tMethU C m sp E0 ta t) := pe_methE G hr hk c passL he ha hst hpl ht
theorem pe_meth0N {pl : Sem Bool} (G : MFn X.prog X.w X.K X.mg X.base k C m ps sp) (hr : Room j X.A) (c : Cls X.K C) (he : PE X o ta) (hk : k ≤ j := by decide)
    (ht : eval (.Call (.Attribute o m apos) [] [] pos) X.env = (do
      let ov ← eval o X.env
      standAt apos.atName
      let (f, first) ← holding [ov] (getMethod ov m pl)
      callWith pos f first (backTo pos (starEach [] X.env)) (backToKw pos (keywordEach [] X.env))) := by rfl) :
    PE X (.Call (.Attribute o m apos) [] [] pos) (tMethU C m sp E0 ta tNil) := pe_meth0E G hr hk c passL he ht
theorem pe_methX {pl : Sem Bool} (G : MFn X.prog X.w X.K X.mg X.base k C m ps sp) (hr : Room j X.A) (c : Cls X.K C) (tk : Takes X (fun cls d _ H => E cls d H)) (he : PE X o ta) (ha : PA X (e :: es) t) (hk : k ≤ j := by decide)
    (hst : starEach (e :: es) X.env = (false, eval e X.env) :: starEach es X.env := by rfl) (hpl : (backTo pos (starEach es X.env)).any (·.1) = false := by rfl)
    (ht : eval (.Call (.Attribute o m apos) (e :: es) [] pos) X.env = (do
      let ov ← eval o X.env
      standAt apos.atName
      let (f, first) ← holding [ov] (getMethod ov m pl)
      callWith pos f first (backTo pos (starEach (e :: es) X.env)) (backToKw pos (keywordEach [] X.env))) := by rfl) :
    PE X (.Call (.Attribute o m apos) (e :: es) [] pos) (tMethU C m sp E ta t) := pe_methE G hr hk c (passes_call tk fun _ _ _ _ h => h) he ha hst hpl ht
theorem pe_meth0X {pl : Sem Bool} (G : MFn X.prog X.w X.K X.mg X.base k C m ps sp) (hr : Room j X.A) (c : Cls X.K C) (tk : Takes X (fun cls d _ H => E cls d H)) (he : PE X o ta) (hk : k ≤ j := by decide)
    (ht : eval (.Call (.Attribute o m apos) [] [] pos) X.env = (do
      let ov ← eval o X.env
      standAt apos.atName
      let (f, first) ← holding [ov] (getMethod ov m pl)
      callWith pos f first (backTo pos (starEach [] X.env)) (backToKw pos (keywordEach [] X.env))) := by rfl) :
    PE X (.Call (.Attribute o m apos) [] [] pos) (tMethU C m sp E ta tNil) := pe_meth0E G hr hk c (passes_call tk fun _ _ _ _ h => h) he ht
theorem r_meth (q : ta σ H fun x H1 => uMeth C m sp E t σ x H1 Q) : tMethU C m sp E ta t σ H Q := q
theorem r_methi (h : H a = some (.ins C dx fs)) (hn : fs.lookup m = none) (q : t σ H fun vs H2 => sp (.ref a :: vs) H2 Q E) : uMeth C m sp E t σ (.ref a) H Q := ⟨a, dx, fs, rfl, h, hn, q⟩
/-- a new instance -/
def uMake (C : Addr) (sp : Sp) (dvs : List V) (E : XK) (vs : List V) (H : Hp) (Q : VK) : Prop := ∀ x dx, H x = none → H dx = none → dx ≠ x →
  sp (.ref x :: (vs ++ dvs)) (upd (upd H dx (.own x)) x (.ins C dx [])) (fun v H2 => v = .non ∧ Q (.ref x) H2) E
def tMakeU (C : Addr) (sp : Sp) (dvs : List V) (E : XK) (t : TA) : TE := fun σ H Q => t σ H fun vs H1 => uMake C sp dvs E vs H1 Q
theorem pe_makeE (G : IFn X.prog X.w X.K X.mg X.base k C ps sp) (T : ClT X.K X.mg x C) (hr : Room (j + 1) X.A) (hk : k ≤ j) (hg : Gl X x) (hx : Passes (L2.CX X.prog X.w) X E) (ha : PA X (e :: es) t)
    (hdb : (x == ("__debug__" : Str)) = false := by decide) (he : starEach (e :: es) X.env = (false, eval e X.env) :: starEach es X.env := by rfl) (hpl : (backTo pos (starEach es X.env)).any (·.1) = false := by rfl) :
    PE X (.Call (.Name x p) (e :: es) [] pos) (tMakeU C sp [] E t) := by
  obtain ⟨f, fd, hm, hb, _, _, F⟩ := G.ex
  exact pe_make (dvs := []) hm (F.mono hk) hr hg T.g hb .nil hx ha hdb he hpl
theorem pe_make0E (G : IFn X.prog X.w X.K X.mg X.base k C ps sp) (T : ClT X.K X.mg x C) (hr : Room (j + 1) X.A) (hk : k ≤ j) (hg : Gl X x) (hx : Passes (L2.CX X.prog X.w) X E) (hdb : (x == ("__debug__" : Str)) = false := by decide) :
    PE X (.Call (.Name x p) [] [] pos) (tMakeU C sp [.non] E tNil) := by
  obtain ⟨f, fd, hm, _, _, ⟨ds, hd, hb⟩, F⟩ := G.ex
  exact pe_make0 (dvs := [.non]) hm (F.mono hk) hr hg T.g hb hd hx hdb
theorem pe_makeNo (G : IFn X.prog X.w X.K X.mg X.base k C ps sp) (T : ClT X.K X.mg x C) (hr : Room (j + 1) X.A) (ha : PA X (e :: es) t) (hk : k ≤ j := by decide) (hg : Gl X x := by rfl)
    (hdb : (x == ("__debug__" : Str)) = false := by decide) (he : starEach (e :: es) X.env = (false, eval e X.env) :: starEach es X.env := by rfl) (hpl : (backTo pos (starEach es X.env)).any (·.1) = false := by rfl) :
    PE X (.Call (.Name x p) (e :: es) [] pos) (tMakeU C sp [] E0 t) := pe_makeE G T hr hk hg passL ha hdb he hpl
theorem pe_make0No (G : IFn X.prog X.w X.K X.mg X.base k C ps sp) (T : ClT X.K X.mg x C) (hr : Room (j + 1) X.A) (hk : k ≤ j := by decide) (hg : Gl X x := by rfl) (hdb : (x == ("__debug__" : Str)) = false := by decide) :
    PE X (.Call (.Name x p) [] [] pos) (tMakeU C sp [.non] E0 tNil) := pe_make0E G T hr hk hg passL hdb
theorem pe_makePE (G : PFn X.prog X.w X.K X.mg X.base k C ps sp) (T : ClT X.K X.mg x C) (hr : Room (j + 1) X.A) (hk : k ≤ j) (hg : Gl X x) (hx : Passes (L2.CX X.prog X.w) X E) (ha : PA X (e :: es) t)
    (hdb : (x == ("__debug__" : Str)) = false := by decide) (he : starEach (e :: es) X.env = (false, eval e X.env) :: starEach es X.env := by rfl) (hpl : (backTo pos (starEach es X.env)).any (·.1) = false := by rfl) :
    PE X (.Call (.Name x p) (e :: es) [] pos) (tMakeU C sp [] E t) := by
  obtain ⟨f, fd, hm, hb, F⟩ := G.ex
  exact pe_make (dvs := []) hm (F.mono hk) hr hg T.g hb .nil hx ha hdb he hpl
theorem pe_makePNo (G : PFn X.prog X.w X.K X.mg X.base k C ps sp) (T : ClT X.K X.mg x C) (hr : Room (j + 1) X.A) (ha : PA X (e :: es) t) (hk : k ≤ j := by decide) (hg : Gl X x := by rfl)
    (hdb : (x == ("__debug__" : Str)) = false := by decide) (he : starEach (e :: es) X.env = (false, eval e X.env) :: starEach es X.env := by rfl) (hpl : (backTo pos (starEach es X.env)).any (·.1) = false := by rfl) :
    PE X (.Call (.Name x p) (e :: es) [] pos) (tMakeU C sp [] E0 t) := pe_makePE G T hr hk hg passL ha hdb he hpl
theorem pe_makeP0E (G : PFn X.prog X.w X.K X.mg X.base k C ps sp) (T : ClT X.K X.mg x C) (hr : Room (j + 1) X.A) (hk : k ≤ j) (hg : Gl X x) (hx : Passes (L2.CX X.prog X.w) X E) (hdb : (x == ("__debug__" : Str)) = false := by decide) :
    PE X (.Call (.Name x p) [] [] pos) (tMakeU C sp [] E tNil) := by
  obtain ⟨f, fd, hm, hb, F⟩ := G.ex
  exact pe_make0 (dvs := []) hm (F.mono hk) hr hg T.g hb .nil hx hdb
theorem pe_makeP0No (G : PFn X.prog X.w X.K X.mg X.base k C ps sp) (T : ClT X.K X.mg x C) (hr : Room (j + 1) X.A) (hk : k ≤ j := by decide) (hg : Gl X x := by rfl) (hdb : (x == ("__debug__" : Str)) = false := by decide) :
    PE X (.Call (.Name x p) [] [] pos) (tMakeU C sp [] E0 tNil) := pe_makeP0E G T hr hk hg passL hdb
/-- C(k = v) -/
def uMakeK (C : Addr) (sp : Sp) (E : XK) (zs : List V) (H : Hp) (Q : VK) : Prop := ∃ z, zs = [z] ∧ uMake C sp [] E [z] H Q
def tMakeKw (C : Addr) (sp : Sp) (E : XK) (tk : TA) : TE := fun σ H Q => tk σ H fun zs H2 => uMakeK C sp E zs H2 Q
theorem pe_makeKw {kws : List Keyword} {tk : TA} (G : IFn X.prog X.w X.K X.mg X.base k C ps sp) (T : ClT X.K X.mg x C) (hr : Room (j + 1) X.A) (hkw : PK X kws tk) (hk : k ≤ j := by decide) (hg : Gl X x := by rfl)
    (hall : (backToKw pos (keywordEach kws X.env)).all (·.1.isSome) = true := by rfl) (hks : (backToKw pos (keywordEach kws X.env)).filterMap (·.1) = [ps.getD 1 Str.empty] := by rfl) (hdb : (x == ("__debug__" : Str)) = false := by decide)
    (hpl : ((backTo pos (starEach [] X.env)).any (·.1) || (backToKw pos (keywordEach kws X.env)).any (·.1.isNone)) = false := by rfl) :
    PE X (.Call (.Name x p) [] kws pos) (tMakeKw C sp E0 tk) := by
  obtain ⟨f, fd, hm, _, hb, _, F⟩ := G.ex
  have h := pe_makeK0 (p := p) (pos := pos) hm (F.mono hk) hr hg T.g hb passL hkw hall hks hdb hpl
  have e : tMakeK C 0 ([ps.getD 1 Str.empty] : List Str).length sp (fun vs zs => vs ++ zs) E0 tNil tk = tMakeKw C sp E0 tk := by
    funext σ H Q
    show tk σ H (fun zs H2 => ([] : List V).length = 0 ∧ zs.length = 1 ∧ ∀ x dx, H2 x = none → H2 dx = none → dx ≠ x → sp ([.ref x] ++ zs) (upd (upd H2 dx (.own x)) x (.ins C dx [])) (fun v H3 => v = .non ∧ Q (.ref x) H3) E0) = tk σ H (fun zs H2 => uMakeK C sp E0 zs H2 Q)
    congr 1
    funext zs H2
    apply propext
    constructor
    · rintro ⟨_, h1, h2⟩
      obtain ⟨z, rfl⟩ := List.length_eq_one_iff.mp h1
      exact ⟨z, rfl, h2⟩
    · rintro ⟨z, rfl, h2⟩
      exact ⟨rfl, rfl, h2⟩
  rw [e] at h
  exact h
theorem r_makeKw {tk : TA} (q : tk σ H fun zs H2 => uMakeK C sp E zs H2 Q) : tMakeKw C sp E tk σ H Q := q
theorem r_makeKi (q : uMake C sp [] E [z] H Q) : uMakeK C sp E [z] H Q := ⟨z, rfl, q⟩
theorem r_make {dvs : List V} (q : t σ H fun vs H1 => uMake C sp dvs E vs H1 Q) : tMakeU C sp dvs E t σ H Q := q
theorem r_makei {dvs : List V} (q : ∀ x dx H', H x = none → H dx = none → dx ≠ x → Same H H' → H' x = some (.ins C dx []) → sp (.ref x :: (vs ++ dvs)) H' (fun v H2 => v = .non ∧ Q (.ref x) H2) E) : uMake C sp dvs E vs H Q := fun x dx h1 h2 h3 =>
  q x dx _ h1 h2 h3 (fun b o e => by rw [upd_ne (ne_of_none e h1), upd_ne (ne_of_none e h2)]; exact e) upd_same
/-! fields -/
def uFld (K : PySem.W.Frag) (f : Str) (x : V) (H : Hp) (Q : VK) : Prop := ∃ a C dx fs v, x = .ref a ∧ H a = some (.ins C dx fs) ∧ Cls K C ∧ NoAttr K C f ∧ fs.lookup f = some v ∧ Q v H
theorem r_fld (q : ta σ H fun x H1 => uFld K f x H1 Q) : tFld K ta f σ H Q := q
theorem r_fldi (c : Cls K C) (n : NoAttr K C f) (h : H a = some (.ins C dx fs)) (l : fs.lookup f = some v) (q : Q v H) : uFld K f (.ref a) H Q := ⟨a, C, dx, fs, v, rfl, h, c, n, l, q⟩
def uSetF (K : PySem.W.Frag) (f : Str) (x y : V) (H : Hp) (R : Hp → Prop) : Prop := ∃ a C dx fs, x = .ref a ∧ H a = some (.ins C dx fs) ∧ Cls K C ∧ NoAttr K C f ∧ fs.length < 1000 ∧ R (upd H a (.ins C dx (putF f y fs)))
theorem r_sfld (q : tv σ H fun y H1 => ta σ H1 fun x H2 => uSetF K f x y H2 fun H3 => nx σ H3) : sFld K ta tv f ⟨nx, rt, bk, ct⟩ σ H := q
theorem r_sfldi {R : Hp → Prop} {fs' : List (Str × V)} (c : Cls K C) (n : NoAttr K C f) (h : H a = some (.ins C dx fs)) (hl : fs.length < 1000) (e : putF f y fs = fs') (q : ∀ H', Keep (At a) H H' → H' a = some (.ins C dx fs') → R H') : uSetF K f (.ref a) y H R :=
  ⟨a, C, dx, fs, rfl, h, c, n, hl, q _ Keep.at_ (by rw [upd_same, e])⟩
def uFAug (K : PySem.W.Frag) (tv : TE) (f : Str) (x : V) (σ : St) (H : Hp) (R : Hp → Prop) : Prop := ∃ a C dx fs v, x = .ref a ∧ H a = some (.ins C dx fs) ∧ Cls K C ∧ NoAttr K C f ∧ fs.lookup f = some v ∧
  tv σ H fun y H2 => rAdd v y H2 fun z H3 => ∃ dx' fs', H3 a = some (.ins C dx' fs') ∧ fs'.length < 1000 ∧ R (upd H3 a (.ins C dx' (putF f z fs')))
def uEndA (i : Int) (a : Addr) (f : Str) (C : Addr) (y : V) (H : Hp) (R : Hp → Prop) : Prop := rAdd (.int i) y H fun z H3 => ∃ dx' fs', H3 a = some (.ins C dx' fs') ∧ fs'.length < 1000 ∧ R (upd H3 a (.ins C dx' (putF f z fs')))
theorem r_faug (q : ta σ H fun x H1 => uFAug K tv f x σ H1 fun H2 => nx σ H2) : sFldAug K ta tv rAdd f ⟨nx, rt, bk, ct⟩ σ H := q
theorem r_faugi {R : Hp → Prop} {i : Int} (c : Cls K C) (n : NoAttr K C f) (h : H a = some (.ins C dx fs)) (l : fs.lookup f = some (.int i)) (q : tv σ H fun y H2 => uEndA i a f C y H2 R) : uFAug K tv f (.ref a) σ H R := ⟨a, C, dx, fs, .int i, rfl, h, c, n, l, q⟩
theorem r_enda {R : Hp → Prop} {i j : Int} {fs' : List (Str × V)} (h : H a = some (.ins C dx fs)) (hl : fs.length < 1000) (e : putF f (.int (i + j)) fs = fs') (q : ∀ H', Keep (At a) H H' → H' a = some (.ins C dx fs') → R H') : uEndA i a f C (.int j) H R :=
  ⟨i, j, rfl, rfl, dx, fs, h, hl, q _ Keep.at_ (by rw [upd_same, e])⟩
theorem lk_here {k : Str} {r : List (Str × V)} : ((k, v) :: r).lookup k = some v := by simp [List.lookup]
theorem lk_next {k k' : Str} {r : List (Str × V)} {o : Option V} (h : (k == k') = false) (q : r.lookup k = o) : ((k', v) :: r).lookup k = o := by simp [List.lookup, h, q]
theorem lk_nil {k : Str} : ([] : List (Str × V)).lookup k = none := rfl
theorem pf_nil {k : Str} : putF k v [] = [(k, v)] := rfl
theorem pf_here {k : Str} {r : List (Str × V)} : putF k y ((k, v) :: r) = (k, y) :: r := by simp [putF]
theorem pf_next {k g : Str} {r r' : List (Str × V)} (h : (g == k) = false) (q : putF k y r = r') : putF k y ((g, v) :: r) = (g, v) :: r' := by
  have h' : ¬ g = k := by simpa using h
  simp [putF, h', q]
end
/-! ### dicts by tuples of numbers -/
section
variable {X : Cx} {K : PySem.W.Frag} {σ : St} {H H' : Hp} {Q : VK} {td ty : TE} {a b : Addr} {kvs : List (List Key × V)} {l : Nat} {s : Int} {v x y : V}
theorem r_dputT {R : Hp → Prop} {i j : Int} (hd : H a = some (.dT kvs)) (hb : H b = some (.tup [.int i, .int j])) (hl : kvs.length ≤ 10000000) (q : ∀ H', Keep (At a) H H' → H' a = some (.dT (putK kvs [Sum.inl i, Sum.inl j] v)) → R H') : uDPut (.ref a) (.ref b) v H R :=
  ⟨a, _, rfl, DPut.t (k := [Sum.inl i, Sum.inl j]) hd hb (by rw [sizeLine_eq]; omega), q _ Keep.at_ upd_same⟩
def uDG1 (ty : TE) (σ : St) (x : V) (H : Hp) (Q : VK) : Prop := ∃ a, x = .ref a ∧ IsD H a ∧ ty σ H fun y H2 => ∃ o, DGet H2 a y o ∧ Q (o.getD .non) H2
def uDG2 (a : Addr) (y : V) (H : Hp) (Q : VK) : Prop := ∃ o, DGet H a y o ∧ Q (o.getD .non) H
theorem r_dget1 (q : td σ H fun x H1 => uDG1 ty σ x H1 Q) : tDGet1 td ty σ H Q := q
theorem r_dg1T (hd : H a = some (.dT kvs)) (q : ty σ H fun y H2 => uDG2 a y H2 Q) : uDG1 ty σ (.ref a) H Q := ⟨a, rfl, .inr ⟨kvs, .inl hd⟩, q⟩
theorem r_dg2T {i j : Int} (hd : H a = some (.dT kvs)) (hb : H b = some (.tup [.int i, .int j])) (q : Q ((valV kvs [Sum.inl i, Sum.inl j]).getD .non) H) : uDG2 a (.ref b) H Q :=
  ⟨_, DGet.t (k := [Sum.inl i, Sum.inl j]) hd hb, q⟩
theorem r_dg1K {m : Prs} (hd : H a = some (.dK (m.map inj))) (q : ty σ H fun y H2 => uDG2 a y H2 Q) : uDG1 ty σ (.ref a) H Q := ⟨a, rfl, .inl ⟨_, .inl hd⟩, q⟩
theorem r_dg2K {m : Prs} {i : Int} (hd : H a = some (.dK (m.map inj))) (q : Q (((valP m i).map V.int).getD .non) H) : uDG2 a (.int i) H Q := by
  refine ⟨_, DGet.k (k := Sum.inl i) hd, ?_⟩
  rw [val_inj]
  exact q
/-- (x,) * k -/
theorem r_repT {xs : List V} {k : Int} (h : SqT K H a xs) (hn : xs ≠ []) (hk : 2 ≤ k ∧ k ≤ 1000) (hl : xs.length ≤ 1000) (q : ∀ p H', H p = none → Same H H' → H' p = some (.tup (List.replicate k.toNat xs).flatten) → Q (.ref p) H') : rRepT K (.ref a) (.int k) H Q :=
  ⟨a, k, xs, rfl, rfl, h, hn, hk.1, hk.2, hl, fun p hp => q p _ hp (Keep.same (Keep.new hp)) upd_same⟩
end
/-! ### x or y, whatever they are -/
section
variable {X : Cx} {σ : St} {H H' : Hp} {Q : VK} {ta tb : TE} {a : Expr} {b : Expr} {rest : List Expr} {pos : Pos} {p : Addr} {xs : List V}
theorem peK_orT (K : PySem.W.Frag) (ha : PE X a ta) (hb : PE X (.BoolOp .Or (b :: rest) pos) tb) (hK : X.K = K := by rfl) : PE X (.BoolOp .Or (a :: b :: rest) pos) (tOrT K ta tb) := hK ▸ pe_orT ha hb
def uOrT (K : PySem.W.Frag) (tb : TE) (σ : St) (x : V) (H : Hp) (Q : VK) : Prop := ∃ k, TruV K x H k ∧ if k = true then Q x H else tb σ H Q
theorem r_orT {K : PySem.W.Frag} (q : ta σ H fun x H1 => uOrT K tb σ x H1 Q) : tOrT K ta tb σ H Q := q
theorem r_orTn {K : PySem.W.Frag} (q : tb σ H Q) : uOrT K tb σ .non H Q := ⟨false, rfl, by rw [if_neg (by decide)]; exact q⟩
theorem r_orTt {K : PySem.W.Frag} (h : SqT K H p xs) (q1 : xs ≠ [] → Q (.ref p) H) (q2 : xs = [] → tb σ H Q) : uOrT K tb σ (.ref p) H Q := by
  refine ⟨!xs.isEmpty, .inr (.inl ⟨xs, h, rfl⟩), ?_⟩
  cases xs with
  | nil => rw [if_neg (by decide)]; exact q2 rfl
  | cons x r => rw [if_pos (show (!(x :: r).isEmpty) = true from rfl)]; exact q1 (by simp)
theorem r_dnewT (q : ∀ p H', H p = none → Same H H' → H' p = some (.dT []) → Q (.ref p) H') : tDNewT σ H Q := fun p hp => q p _ hp (Keep.same (Keep.new hp)) upd_same
end
/-! ### a sample put into a curve -/
def insC (c : Prs) (t h : Int) : Prs := (c.filter fun p => decide (p.1 < t)) ++ (t, h) :: (c.filter fun p => decide (t < p.1))
theorem insC_mem {c : Prs} {t h : Int} {p : Int × Int} : p ∈ insC c t h ↔ p = (t, h) ∨ (p ∈ c ∧ p.1 ≠ t) := by
  unfold insC
  simp only [List.mem_append, List.mem_cons, List.mem_filter, decide_eq_true_eq]
  constructor
  · rintro (⟨h1, h2⟩ | h1 | ⟨h1, h2⟩)
    · exact .inr ⟨h1, by omega⟩
    · exact .inl h1
    · exact .inr ⟨h1, by omega⟩
  · rintro (h1 | ⟨h1, h2⟩)
    · exact .inr (.inl h1)
    · by_cases z : p.1 < t
      · exact .inl ⟨h1, z⟩
      · exact .inr (.inr ⟨h1, by omega⟩)
theorem insC_up {c : Prs} (hc : c.Pairwise fun p q => p.1 < q.1) (t h : Int) : (insC c t h).Pairwise fun p q => p.1 < q.1 := by
  unfold insC
  rw [List.pairwise_append]
  refine ⟨hc.sublist List.filter_sublist, List.pairwise_cons.mpr ⟨fun p hp => ?_, hc.sublist List.filter_sublist⟩, fun p hp q hq => ?_⟩
  · simpa using (List.mem_filter.mp hp).2
  · have h1 : p.1 < t := by simpa using (List.mem_filter.mp hp).2
    rcases List.mem_cons.mp hq with rfl | hq
    · exact h1
    · have h2 : t < q.1 := by simpa using (List.mem_filter.mp hq).2
      omega
theorem beside_of {c c' : Prs} {t : Int} (hc : c.Pairwise fun p q => p.1 < q.1) (hc' : c'.Pairwise fun p q => p.1 < q.1) (h : ∀ p : Int × Int, p.1 ≠ t → (p ∈ c' ↔ p ∈ c)) : Beside t c c' := by
  intro b e hn
  refine up_ext (hc'.sublist List.filter_sublist) (hc.sublist List.filter_sublist) fun p => ?_
  unfold partL
  rw [List.mem_filter, List.mem_filter]
  by_cases z : p.1 = t
  · simp only [Bool.and_eq_true, decide_eq_true_eq]
    constructor
    · rintro ⟨_, h1, h2⟩; exact absurd ⟨by omega, by omega⟩ hn
    · rintro ⟨_, h1, h2⟩; exact absurd ⟨by omega, by omega⟩ hn
  · rw [h p z]
theorem insC_beside {c : Prs} (hc : c.Pairwise fun p q => p.1 < q.1) (t h : Int) : Beside t c (insC c t h) := beside_of hc (insC_up hc t h) fun p hp => by
  rw [insC_mem]
  constructor
  · rintro (z | z)
    · exact absurd (by rw [z]) hp
    · exact z.1
  · exact fun z => .inr ⟨z, hp⟩
theorem insC_take {c : Prs} (hc : c.Pairwise fun p q => p.1 < q.1) {i : Nat} {q : Int × Int} (h : c[i]? = some q) : insC (c.take i) q.1 q.2 = c.take (i + 1) := by
  have h1 := hc.sublist (List.take_sublist i c)
  refine up_ext (insC_up h1 _ _) (hc.sublist (List.take_sublist _ c)) fun p => ?_
  rw [insC_mem, take_snoc h, List.mem_append, List.mem_singleton]
  have hs := hc.sublist (List.take_sublist (i + 1) c)
  rw [take_snoc h, List.pairwise_append] at hs
  constructor
  · rintro (h2 | ⟨h2, _⟩)
    · exact .inr h2
    · exact .inl h2
  · rintro (h2 | h2)
    · have := hs.2.2 p h2 q (by simp)
      exact .inr ⟨h2, by omega⟩
    · exact .inl h2
theorem fourInv_nil (K : PySem.W.Frag) (H : Hp) : FourInv K H [] [] := fun l s _ => by
  rw [if_neg (by omega)]
  exact .none
end Fp
/-! ### t[::-1] of a tuple -/
namespace FpRev
open PySem PySem.Spec PyProof.Rows HT
section
variable {prog : Program} {w : World} {A : Around} {E : Value → Shared → Prop} {s : Shared}
theorem adj (n : Nat) : Builtin.Slice.sliceAdjust none none (-1) (n : Int) = ((n : Int) - 1, -1) := by
  unfold Builtin.Slice.sliceAdjust
  simp
theorem plc (n : Nat) : Builtin.Slice.slicePlaces ((n : Int) - 1) (-1) (-1) = n := by
  unfold Builtin.Slice.slicePlaces
  simp
  try omega
theorem applied {sp : Addr} {va vb : Value} {tk : Tok} {n : Nat} {Q : Int × Int × Nat → Shared → Prop} (hs : s.heap.IsSliceOf sp va vb (.int (-1) tk)) (pa : IsPart va none) (pb : IsPart vb none)
    (h : Q ((n : Int) - 1, -1, n) s) : wpAny (model prog w) A (Builtin.Slice.sliceApplied (.ref sp) (pure (n : Int))) Q E s := by
  obtain ⟨ob, h1, h2, h3⟩ := id hs
  unfold Builtin.Slice.sliceApplied Builtin.Slice.sliceFields
  refine wpAny_bind (wpAny_bind (wpAny_field h1 h3 (x := va) rfl (wpAny_bind (wpAny_field h1 h3 (x := vb) rfl (wpAny_bind (wpAny_field h1 h3 (x := .int (-1) tk) rfl (wpAny_pure ?_)))))))
  refine wpAny_bind (slicePart_int ?_)
  show wpAny _ _ (if ((-1 : Int) == 0) = true then _ else _) _ _ s
  rw [if_neg (by decide)]
  refine wpAny_bind (slicePart_ pa (wpAny_bind (slicePart_ pb (wpAny_bind (wpAny_pure ?_)))))
  show wpAny _ _ (match Builtin.Slice.sliceAdjust none none (-1) (n : Int) with | (a, b) => pure (a, (-1 : Int), Builtin.Slice.slicePlaces a b (-1))) _ _ s
  rw [adj n]
  show wpAny _ _ (pure ((n : Int) - 1, (-1 : Int), Builtin.Slice.slicePlaces ((n : Int) - 1) (-1) (-1))) _ _ s
  rw [plc]
  exact wpAny_pure h
theorem pickR (xs : Array Value) : ((List.range xs.size).filterMap fun (m : Nat) => xs[(((xs.size : Int) - 1) + (m : Int) * (-1)).toNat]?).toArray = xs.toList.reverse.toArray := by
  congr 1
  have e : ∀ n, n ≤ xs.size → ((List.range n).filterMap fun (m : Nat) => xs[(((xs.size : Int) - 1) + (m : Int) * (-1)).toNat]?) = xs.toList.reverse.take n := by
    intro n
    induction n with
    | zero => intro _; simp
    | succ n ih =>
      intro hn
      rw [List.range_succ, List.filterMap_append, ih (by omega)]
      have h1 : (((xs.size : Int) - 1) + (n : Int) * (-1)).toNat = xs.size - 1 - n := by omega
      have h2 : xs.toList.reverse[n]? = some (xs[xs.size - 1 - n]'(by omega)) := by
        rw [List.getElem?_reverse (by rw [Array.length_toList]; omega)]
        simp
      rw [take_snocR h2]
      congr 1
      simp only [List.filterMap_cons, List.filterMap_nil, h1]
      rw [Array.getElem?_eq_getElem (by omega)]
  rw [e _ (Nat.le_refl _), List.take_of_length_le (by simp)]
where
  take_snocR {l : List Value} {n : Nat} {x : Value} (h : l[n]? = some x) : l.take (n + 1) = l.take n ++ [x] := Fp.take_snoc h
theorem tup_rev {tp sp : Addr} {its : Array Value} {va vb : Value} {tk : Tok} {Q : Value → Shared → Prop} (ht : IsTup s.heap tp its) (hs : s.heap.IsSliceOf sp va vb (.int (-1) tk)) (pa : IsPart va none) (pb : IsPart vb none)
    (h : Q (.ref s.heap.objs.size) { s with heap := s.heap.push { cls := .type "tuple", data := .seq its.toList.reverse.toArray } }) (hz : its.size ≤ sizeLine) : wpAny (model prog w) A (getItem (.ref tp) (.ref sp)) Q E s := by
  have hsz : sizeOk (.seq its.toList.reverse.toArray) := by
    show its.toList.reverse.toArray.size ≤ sizeLine
    rw [List.size_toArray, List.length_reverse, Array.length_toList]
    exact hz
  obtain ⟨ob, h1, h2, h3⟩ := id hs
  have hS : s.TypeIs (.ref sp) "slice" := ⟨ob, h1, h2⟩
  unfold getItem
  try with_reducible refine wpAny_holding ?_
  first | refine wpAny_bind (wpAny_pure ?_) | skip
  refine wpAny_bind (wpAny_sequenceKey ht.typeIs (by decide) ?_)
  refine wpAny_bind (wpAny_callSpecial?_slot (name := Str.ofString "__getitem__") ht.typeIs PyProof.Rows.slot_tuple_getitem (wpAny_call_entry PyProof.Rows.slot_tuple_getitem ht.typeIs entry_tuple_getitem ?_ (args_tuple_getitem _ _)))
  show wpAny _ _ (Builtin.Tuple.tupleItemsOf (.ref tp) >>= _) _ _ s
  refine wpAny_bind (tupleItemsOf_ ht ?_)
  refine wpAny_bind (wpAny_typeOf hS ?_)
  rw [if_pos (by decide)]
  refine wpAny_bind (applied hs pa pb ?_)
  have hno : ¬ ((((its.size : Int) - 1) == 0 && (-1 : Int) == 1 && its.size == its.size) = true) := by simp
  show wpAny _ _ (if (((its.size : Int) - 1) == 0 && (-1 : Int) == 1 && its.size == its.size) = true then _ else _) _ _ s
  rw [if_neg hno, pickR]
  first
    | exact wpAny_bind (m := Builtin.Tuple.tupleExact _) (wpAny_newObj_type (wpAny_pure ⟨_, rfl, wpAny_pure h⟩) hsz)
    | exact wpAny_bind (m := Builtin.Tuple.tupleExact _) (wpAny_newObj_type (wpAny_bind (wpAny_pure (wpAny_pure ⟨_, rfl, wpAny_pure h⟩))) hsz)
    | exact wpAny_bind (wpAny_bind (m := Builtin.Tuple.tupleExact _) (wpAny_newObj_type (wpAny_pure (wpAny_pure ⟨_, rfl, wpAny_pure h⟩)) hsz))
    | exact wpAny_bind (wpAny_bind (m := Builtin.Tuple.tupleExact _) (wpAny_newObj_type (wpAny_pure ⟨_, rfl, wpAny_pure h⟩) hsz))
end
end FpRev
namespace Fp
open PySem PySem.Spec PyProof.Rows L2
section
variable {X : Cx} {K : PySem.W.Frag} {σ : St} {H : Hp} {Q : VK} {te : TE} {e : Expr} {a : Addr} {xs : List V}
def uRevT (K : PySem.W.Frag) (x : V) (H : Hp) (Q : VK) : Prop := ∃ a xs, x = .ref a ∧ SqT K H a xs ∧ ∀ p, H p = none → Q (.ref p) (upd H p (.tup xs.reverse))
def tRevT (K : PySem.W.Frag) (te : TE) : TE := fun σ H Q => te σ H fun x H1 => uRevT K x H1 Q
theorem peK_revT (K : PySem.W.Frag) {k : Nat} {p1 p2 p3 pos : Pos} (he : PE X e te) (hK : X.K = K := by rfl) : PE X (.Subscript e (.Slice none none (some (.UnaryOp .USub (.Constant (.int 1) k p1) p2)) p3) pos) (tRevT K te) := by
  subst hK
  refine ⟨fun pins s σ H Q I h => Subscript_ (thn (he.run pins s σ H _ I h) fun v s1 ⟨x, H1, I1, r1, q1⟩ => ?_)⟩
  obtain ⟨a, xs, ex, hx, q⟩ := q1
  subst ex
  cases r1
  have st : PO X (some (.UnaryOp .USub (.Constant (.int 1) k p1) p2)) (tPart (tUn (rU fun i => .int (-i)) (tC (.int 1)))) := po_some (pe_un un_neg pe_int)
  refine wpAny_Slice (thn (po_none.run pins s1 σ H1 (fun o H2 => o = none ∧ H2 = H1) I1 ⟨rfl, rfl⟩) fun va s2 ⟨l, H2, I2, pl, el, e2⟩ => ?_)
  subst el e2
  refine thn (po_none.run pins s2 σ H2 (fun o H3 => o = none ∧ H3 = H2) I2 ⟨rfl, rfl⟩) fun vb s3 ⟨u, H3, I3, pu, eu, e3⟩ => ?_
  subst eu e3
  refine thn (st.run pins s3 σ H3 (fun o H4 => o = some (-1) ∧ H4 = H3) I3 ⟨1, rfl, -1, rfl, rfl, rfl⟩) fun vc s4 ⟨o, H4, I4, ps, eo, e4⟩ => ?_
  subst eo e4
  cases ps with
  | int _ tk =>
  have I5 : Inv X pins σ H4 { s4 with heap := s4.heap.push { cls := .type "slice", data := .fields #[va, vb, .int (-1) tk] } } := I4.kept (t' := s4.toks) fun b ob q => Heap.get?_push_of_some _ q
  obtain ⟨its, r, ht, hz⟩ := I5.tuple hx
  have hlen : its.toArray.size = xs.length := by rw [List.size_toArray]; exact r.length.symm
  show wpAny (model X.prog X.w) X.A (subscriptTail e (.Slice none none (some (.UnaryOp .USub (.Constant (.int 1) k p1) p2)) p3) (.ref a) (.ref s4.heap.objs.size)) (EP X pins σ Q) X.xe { s4 with heap := s4.heap.push { cls := .type "slice", data := .fields #[va, vb, .int (-1) tk] } }
  refine tail_any (ops := [.ref a, .ref s4.heap.objs.size]) ht.typeIs (PyProof.Rows.slot_tuple_getitem.lookup) ?_ (by with_unfolding_all rfl)
  refine FpRev.tup_rev ht (Heap.IsSliceOf.new _ va vb _) pl pu ?_ (by rw [hlen]; exact hz)
  refine ⟨.ref _, _, I5.laid (t' := s4.toks) (o := .tup xs.reverse) (fun b ob q => Heap.get?_push_of_some _ q) (Nat.le_refl _) ?_, rfl, q _ (I5.hok.fresh (Nat.le_refl _))⟩
  exact ⟨by rw [List.length_reverse]; exact hz, _, r.reverse, IsTup.new _ _⟩
theorem r_revT (q : te σ H fun x H1 => uRevT K x H1 Q) : tRevT K te σ H Q := q
theorem r_revt (h : SqT K H a xs) (q : ∀ p H', H p = none → Same H H' → H' p = some (.tup xs.reverse) → Q (.ref p) H') : uRevT K (.ref a) H Q := ⟨a, xs, rfl, h, fun p hp => q p _ hp (Keep.same (Keep.new hp)) upd_same⟩
end
end Fp
/-! more of dicts by numbers: pop, in, clear, copies, items sorted; lists of pairs sorted -/
namespace Fp
open PySem PySem.Spec PyProof.Rows L2
/-! ### lists of pairs, sorted -/
theorem lexB_irr (p : Int × Int) : SrtO.lexB p p = false := SrtO.lexB_no.mpr (by omega)
abbrev Lex (l : Prs) : Prop := SrtO.Srtd SrtO.lexB l
theorem dp_pair_inj {X : Cx} {pins : List (Addr × Obj)} {σ : St} {H : Hp} {s : Shared} (I : Inv X pins σ H s) {v : V} {p q : Int × Int} (h1 : Dp X.K H v (pairP p)) (h2 : Dp X.K H v (pairP q)) : p = q := by
  obtain ⟨a, rfl, e1⟩ := dp_pair h1
  obtain ⟨b, e, e2⟩ := dp_pair h2
  cases e
  have z := I.tuple_inj e1 e2
  simp only [List.cons.injEq, V.int.injEq, and_true] at z
  exact Prod.ext z.1 z.2
open Classical in
noncomputable def keyOf (K : PySem.W.Frag) (H : Hp) (v : V) : Int × Int := if h : ∃ p, Dp K H v (pairP p) then choose h else (0, 0)
theorem keyOf_is {X : Cx} {pins : List (Addr × Obj)} {σ : St} {H : Hp} {s : Shared} (I : Inv X pins σ H s) {v : V} {p : Int × Int} (h : Dp X.K H v (pairP p)) : keyOf X.K H v = p := by
  have ex : ∃ p, Dp X.K H v (pairP p) := ⟨p, h⟩
  unfold keyOf
  rw [dif_pos ex]
  exact dp_pair_inj I (Classical.choose_spec ex) h
theorem dpAll_keys {X : Cx} {pins : List (Addr × Obj)} {σ : St} {H : Hp} {s : Shared} (I : Inv X pins σ H s) : ∀ {ws : List V} {l : Prs}, DpAll X.K H ws (l.map pairP) → ws.map (keyOf X.K H) = l
  | _, [], .nil => rfl
  | _, p :: l, .cons h1 h2 => by rw [List.map_cons, keyOf_is I h1, dpAll_keys I h2]
theorem dpAll_of_keys {K : PySem.W.Frag} {H : Hp} (f : V → Int × Int) : ∀ {ws : List V}, (∀ x ∈ ws, Dp K H x (pairP (f x))) → DpAll K H ws ((ws.map f).map pairP)
  | [], _ => .nil
  | x :: r, h => .cons (h x (List.mem_cons_self ..)) (dpAll_of_keys f fun y hy => h y (List.mem_cons_of_mem _ hy))
theorem isPair_of {X : Cx} {pins : List (Addr × Obj)} {σ : St} {H : Hp} {s : Shared} (I : Inv X pins σ H s) {a : Addr} {p : Int × Int} (h : Dp X.K H (.ref a) (pairP p)) : Srt.IsPair s.heap (.ref a) p.1 p.2 := by
  obtain ⟨b, e, h1⟩ := dp_pair h
  cases e
  obtain ⟨its, r, ⟨o, ho, hc, n, hd⟩, _⟩ := I.tuple h1
  obtain ⟨u1, u2, rfl, ri, rj⟩ := vals2 r
  obtain ⟨t1, rfl⟩ := ri
  obtain ⟨t2, rfl⟩ := rj
  exact ⟨a, o, t1, t2, n, rfl, ho, hc, hd⟩
def uSortedPD (K : PySem.W.Frag) : List V → Hp → VK → Prop := fun vs H Q => ∃ (a : Addr) (ws : List V) (l : Prs), vs = [.ref a] ∧ SqL K H a ws ∧ DpAll K H ws (l.map pairP) ∧
  ∀ (ys : List V) (l' : Prs) (p : Addr), Lex l' → l'.Perm l → DpAll K H ys (l'.map pairP) → H p = none → Q (.ref p) (upd H p (.lst ys))
theorem c_sortedPD {X : Cx} : CallR X (.builtin "sorted") (uSortedPD X.K) := by
  intro pins s σ H vs us Q I r h
  obtain ⟨a, ws, l, rfl, hs, hd, q⟩ := h
  obtain ⟨its, rv, hl, hz⟩ := I.list hs
  obtain ⟨u, rfl, ru⟩ := vals1 r
  obtain rfl : u = Value.ref a := ru
  have isr : ∀ x ∈ ws, ∃ t p, x = V.ref t ∧ Dp X.K H x (pairP p) := fun x m => by
    obtain ⟨i, hi⟩ := List.getElem?_of_mem m
    obtain ⟨p, _, h2⟩ := dpAll_map_at hd hi
    obtain ⟨t, e, _⟩ := dp_pair h2
    exact ⟨t, p, e, h2⟩
  obtain ⟨e1, e2⟩ := refs_back rv fun x m => by
    obtain ⟨t, _, e, _⟩ := isr x m
    exact ⟨t, e⟩
  refine SrtO.sorted_pairsO (k := fun u => keyOf X.K H (backV u)) hl.isList (by rw [← rv.length]; exact hz) (fun v hv => ?_) fun h' d out h1 h2 kp hd2 hn => ?_
  · obtain ⟨t, rfl⟩ := e2 v hv
    have hm : V.ref t ∈ ws := by rw [e1]; exact List.mem_map.mpr ⟨_, hv, rfl⟩
    obtain ⟨t', p, e, hp⟩ := isr _ hm
    cases e
    show Srt.IsPair s.heap (.ref t) (keyOf X.K H (.ref t)).1 (keyOf X.K H (.ref t)).2
    rw [keyOf_is I hp]
    exact isPair_of I hp
  · have h3 : ∀ u ∈ out, ∃ a, u = Value.ref a := fun u hu => e2 u (h2.perm.mem_iff.mp hu)
    obtain ⟨n, hn⟩ := hn
    have pm : (out.map backV).Perm ws := by rw [e1]; exact h2.perm.map backV
    refine ⟨.ref d, upd H d (.lst (out.map backV)), I.laid (t' := s.toks) kp hd2 ⟨?_, out, n, vals_back h3, hn⟩, rfl, q _ ((out.map backV).map (keyOf X.K H)) d ?_ ?_ (dpAll_of_keys _ fun x hx => ?_) (I.hok.fresh hd2)⟩
    · rw [pm.length_eq]
      exact hz
    · rw [List.map_map]
      exact SrtO.srtd_map h1
    · have := pm.map (keyOf X.K H)
      rw [dpAll_keys I hd] at this
      exact this
    · obtain ⟨t, p, e, hp⟩ := isr x (pm.mem_iff.mp hx)
      rw [keyOf_is I hp]
      exact hp
section
variable {K : PySem.W.Frag} {H : Hp} {Q : VK} {a : Addr}
theorem r_sortedPD {ws : List V} {l : Prs} (h : SqL K H a ws) (hd : DpAll K H ws (l.map pairP)) (q : ∀ (ys : List V) (l' : Prs) p H', Lex l' → l'.Perm l → H p = none → Same H H' → H' p = some (.lst ys) → DpAll K H' ys (l'.map pairP) → Q (.ref p) H') : uSortedPD K [.ref a] H Q :=
  ⟨a, ws, l, rfl, h, hd, fun ys l' p h1 h2 h3 h4 => q ys l' p _ h1 h2 h4 (Keep.same (Keep.new h4)) upd_same (DpAll.same (Keep.same (Keep.new h4)) _ _ h3)⟩
end
/-- sorted, no two of one time: a curve -/
theorem lex_up {l : Prs} (h : Lex l) (nd : (l.map (·.1)).Nodup) : l.Pairwise fun p q => p.1 < q.1 := by
  have h1 : l.Pairwise fun p q => SrtO.lexB q p = false := h
  have h2 : l.Pairwise fun p q => p.1 ≠ q.1 := by
    unfold List.Nodup at nd
    rwa [List.pairwise_map] at nd
  refine (List.Pairwise.and h1 h2).imp fun {p q} z => ?_
  have := SrtO.lexB_no.mp z.1
  have := z.2
  omega
/-! ### sorted(d.items()) -/
section
variable {X : Cx}
def uItems (x : V) (xs : List V) (H : Hp) (Q : VK) : Prop := ∃ (a : Addr) (kvs : List (Key × V)), x = .ref a ∧ xs = [] ∧ H a = some (.dK kvs) ∧ ∀ p, H p = none → Q (.ref p) (upd H p (L2.DX.itemsO p a))
theorem dk_raw {P : Program} {w : World} {H : Hp} {h : Heap} {a : Addr} {kvs : List (Key × V)} (ok : HOk P w H h) (e : H a = some (.dK kvs)) :
    kvs.length ≤ sizeLine ∧ (a == sysModules) = false ∧ ∃ vs, KV kvs vs ∧ ∃ es ep, DT.Raw h a es ep ∧ PySem.Pairs (mixKind P w) es.toList vs := by
  obtain ⟨z, hd, vs, rel, o, es, ep, h1, h2, h3, h4, h5, h6⟩ := dk_of ok e
  exact ⟨z, hd, vs, rel, es, ep, ⟨o, h1, h2, h3⟩, h5⟩
theorem mt_items : MtR X "dict.items" uItems := by
  intro pins s σ H x xs v us Q I rx rxs h
  obtain ⟨a, kvs, rfl, rfl, ha, q⟩ := h
  cases rx
  cases rxs
  obtain ⟨z, hd, vs, rel, es, ep, raw, _⟩ := dk_raw I.hok ha
  refine DT.callItems (es := es) (ep := ep) hd raw ?_
  have hf : H s.heap.objs.size = none := I.hok.fresh (Nat.le_refl _)
  exact ⟨.ref s.heap.objs.size, _, I.laid (t' := s.toks) (fun b u e => Heap.get?_push_of_some _ e) (Nat.le_refl _) (L2.DX.itemsO_ok (Heap.get?_push_size _ rfl)), rfl, q _ hf⟩
end

theorem pairs_at {P : Program} {w : World} : ∀ {es : List DictEntry} {vs : List (Key × Value)}, PySem.Pairs (mixKind P w) es vs → ∀ {j : Nat} {e : DictEntry}, es[j]? = some e → ∃ kv, vs[j]? = some kv ∧ keyIs kv.1 e.key = true ∧ e.val = kv.2
  | _, _, .nil, j, e, hj => by simp at hj
  | _, _, .cons h1 h2 _, 0, e, hj => by
    simp only [List.getElem?_cons_zero, Option.some.injEq] at hj
    subst hj
    exact ⟨_, rfl, h1, h2⟩
  | _, _, .cons _ _ h, j + 1, e, hj => pairs_at h (j := j) (by simpa using hj)
theorem pairs_len {P : Program} {w : World} : ∀ {es : List DictEntry} {vs : List (Key × Value)}, PySem.Pairs (mixKind P w) es vs → es.length = vs.length
  | _, _, .nil => rfl
  | _, _, .cons _ _ h => by simp [pairs_len h]
theorem paired_at {α β : Type} {F : α → β → Prop} : ∀ {l : List α} {l' : List β}, Paired F l l' → ∀ {j : Nat} {y : β}, l'[j]? = some y → ∃ x, l[j]? = some x ∧ F x y
  | _, _, .nil, j, y, h => by simp at h
  | _, _, .cons f _, 0, y, h => by
    simp only [List.getElem?_cons_zero, Option.some.injEq] at h
    subst h
    exact ⟨_, rfl, f⟩
  | _, _, .cons _ t, j + 1, y, h => paired_at t (j := j) (by simpa using h)
theorem isPair_inj {h : Heap} {v : Value} {x y x' y' : Int} (a : Srt.IsPair h v x y) (b : Srt.IsPair h v x' y') : x = x' ∧ y = y' := by
  obtain ⟨c, o, t, u, n, rfl, ho, _, hd⟩ := a
  obtain ⟨c', o', t', u', n', e, ho', _, hd'⟩ := b
  cases e
  rw [ho] at ho'
  cases ho'
  rw [hd] at hd'
  simp at hd'
  exact ⟨hd'.1.1.1, hd'.1.2.1⟩
open Classical in
noncomputable def keyAt (h : Heap) (v : Value) : Int × Int := if z : ∃ p : Int × Int, Srt.IsPair h v p.1 p.2 then choose z else (0, 0)
theorem keyAt_is {h : Heap} {v : Value} {p : Int × Int} (a : Srt.IsPair h v p.1 p.2) : keyAt h v = p := by
  have ex : ∃ p : Int × Int, Srt.IsPair h v p.1 p.2 := ⟨p, a⟩
  unfold keyAt
  rw [dif_pos ex]
  obtain ⟨z1, z2⟩ := isPair_inj (Classical.choose_spec ex) a
  exact Prod.ext z1 z2
theorem list_ext_at {α : Type} {l m : List α} (hl : l.length = m.length) (h : ∀ (j : Nat) (x y : α), l[j]? = some x → m[j]? = some y → x = y) : l = m := by
  refine List.ext_getElem hl fun j h1 h2 => h j _ _ (List.getElem?_eq_getElem h1) (List.getElem?_eq_getElem h2)
def uSortedIt : List V → Hp → VK → Prop := fun vs H Q => ∃ (p a : Addr) (m : Prs), vs = [.ref p] ∧ H p = some (L2.DX.itemsO p a) ∧ H a = some (.dK (m.map inj)) ∧ m.length ≤ 100000 ∧
  ∀ (H' : Hp) (l : Addr) (ys : List V) (l' : Prs), Lex l' → l'.Perm m → H l = none → Same H H' → H' l = some (.lst ys) → RawP H' ys l' → Q (.ref l) H'
theorem c_sortedIt {X : Cx} (hc : X.calm = true) : CallR X (.builtin "sorted") uSortedIt := by
  intro pins s σ H vs us Q I r h
  obtain ⟨p, a, m, rfl, hp, ha, hm, q⟩ := h
  obtain rfl := Vals.ref1 r
  have view : s.heap.IsItemsView p a := (show ObjOk X.prog X.w H s.heap p (L2.DX.itemsO p a) from I.hok p _ hp).1
  obtain ⟨z, hd, ws, rel, es, ep, raw, prs⟩ := dk_raw I.hok ha
  have l1 : m.length = ws.length := by have := Paired.length rel; rwa [List.length_map] at this
  have l2 : es.size = ws.length := by rw [← pairs_len prs, Array.length_toList]
  have hh : X.A.handled = none := I.ok.hd hc
  refine DT.sortedI (es := es) (ep := ep) hh view raw (by rw [sizeLine_eq]; omega) fun h' tk as hk hlt hl hG => ?_
  have lak : as.length = m.length := by omega
  have nd : as.Nodup := List.Pairwise.imp (fun h => Nat.ne_of_lt h) hG.rise
  have pr : ∀ (j : Nat) (b : Addr), as[j]? = some b → ∃ c : Int × Int, m[j]? = some c ∧ ∃ t u, h'.get? b = some { cls := .type "tuple", data := .seq #[Value.int c.1 t, Value.int c.2 u] } := by
    intro j b hj
    obtain ⟨en, he, hg⟩ := hG.pairs j b hj
    obtain ⟨kv, hkv, ek, ev⟩ := pairs_at prs (show es.toList[j]? = some en by simpa using he)
    obtain ⟨x, hx, ex, rx⟩ := paired_at rel hkv
    rw [List.getElem?_map] at hx
    obtain ⟨c, hc, rfl⟩ := Option.map_eq_some_iff.mp hx
    obtain ⟨u, eu⟩ : ∃ u, kv.2 = Value.int c.2 u := rx
    have ex : (Sum.inl c.1 : Key) = kv.1 := ex
    rcases keyIs_shape ek with ⟨i, t, e1, e2⟩ | ⟨_, _, e1, _⟩
    · rw [← ex] at e1
      cases e1
      exact ⟨c, hc, t, u, by rw [hg, e2, ev, eu]⟩
    · rw [← ex] at e1
      cases e1
  have hob : (h'.push { cls := .type "list", data := .seq (as.map Value.ref).toArray }).get? h'.objs.size = some (seqObj "list" (as.map Value.ref).toArray 0) := Heap.get?_push_size _ rfl
  have kb : ∀ b o, s.heap.get? b = some o → (h'.push { cls := .type "list", data := .seq (as.map Value.ref).toArray }).get? b = some o := fun b o e => Heap.get?_push_of_some _ (hk b o e)
  have ne0 : ∀ b o, h'.get? b = some o → b ≠ h'.objs.size := fun b o e => Nat.ne_of_lt (Heap.lt_size e)
  have ka : ∀ b o, h'.get? b = some o → (h'.push { cls := .type "list", data := .seq (as.map Value.ref).toArray }).get? b = some o := fun b o e => Heap.get?_push_of_some _ e
  generalize h'.push { cls := .type "list", data := .seq (as.map Value.ref).toArray } = h2 at hob kb ka ⊢
  have isp : ∀ (j : Nat) (b : Addr) (c : Int × Int), as[j]? = some b → m[j]? = some c → Srt.IsPair h2 (.ref b) c.1 c.2 := by
    intro j b c hj hc
    obtain ⟨c', hc', t, u, hg⟩ := pr j b hj
    rw [hc] at hc'
    cases hc'
    exact ⟨b, _, t, u, 0, rfl, ka _ _ hg, rfl, rfl⟩
  have isv : ∀ v ∈ as.map Value.ref, Srt.IsPair h2 v (keyAt h2 v).1 (keyAt h2 v).2 := by
    intro v hv
    obtain ⟨b, hb, rfl⟩ := List.mem_map.mp hv
    obtain ⟨j, hj⟩ := List.getElem?_of_mem hb
    obtain ⟨c, hc, _⟩ := pr j b hj
    have := isp j b c hj hc
    rw [keyAt_is this]
    exact this
  have keys : (as.map Value.ref).map (keyAt h2) = m := by
    refine list_ext_at (by simpa using lak) fun j x y hx hy => ?_
    rw [List.map_map, List.getElem?_map] at hx
    obtain ⟨b, hb, rfl⟩ := Option.map_eq_some_iff.mp hx
    exact keyAt_is (isp j b y hb hy)
  refine wpAny_call_entry PyProof.Rows.slot_list_sort ⟨_, hob, rfl⟩ PyProof.Rows.entry_list_sort (SrtO.list_sort_ord (s := { s with heap := h2, toks := tk }) (ltv := fun v u => SrtO.lexB (keyAt h2 v) (keyAt h2 u)) (SrtO.swo_lex _) hob (by rw [List.length_map, sizeLine_eq]; omega)
    (fun h2' => SrtO.pairs_sortableO (s := { s with heap := h2, toks := tk }) (by omega) isv fun o e => ?_) fun out o1 o2 => ⟨.none, rfl, ?_⟩) (PyProof.Rows.args_list_sort _)
  · have e' : some o = some (seqObj "list" (as.map Value.ref).toArray 0) := e.symm.trans hob
    cases e'
    intro c
    exact absurd (Value.type.inj c) (by decide)
  show EP X pins σ Q (.ref h'.objs.size) { s with heap := sortedHeap h2 h'.objs.size (as.map Value.ref) out.toArray, toks := tk }
  have pm : out.Perm (as.map Value.ref) := o2.perm
  have allr : ∀ u ∈ out, ∃ a, u = Value.ref a := fun u hu => by
    obtain ⟨b, _, rfl⟩ := List.mem_map.mp (pm.mem_iff.mp hu)
    exact ⟨b, rfl⟩
  have kF : ∀ b o, b ≠ h'.objs.size → h2.get? b = some o → (sortedHeap h2 h'.objs.size (as.map Value.ref) out.toArray).get? b = some o := fun b o hb e => (PyProof.Rows.sortedHeap_old hb (Heap.lt_size e)).trans e
  have kS : ∀ b o, s.heap.get? b = some o → (sortedHeap h2 h'.objs.size (as.map Value.ref) out.toArray).get? b = some o := fun b o e => kF b o (ne0 _ _ (hk b o e)) (kb b o e)
  obtain ⟨eF, heF⟩ := PyProof.Rows.sortedHeap_at (vs := as.map Value.ref) (out := out.toArray) hob
  have I1 : Inv X pins σ H { s with heap := sortedHeap h2 h'.objs.size (as.map Value.ref) out.toArray, toks := tk } := I.kept (t' := tk) kS
  have hn0 : H h'.objs.size = none := I.hok.fresh (Nat.le_of_lt hlt)
  have hlen : (out.map backV).length ≤ sizeLine := by
    rw [List.length_map, pm.length_eq, List.length_map, sizeLine_eq]
    omega
  have I2 : Inv X pins σ (upd H h'.objs.size (.lst (out.map backV))) { s with heap := sortedHeap h2 h'.objs.size (as.map Value.ref) out.toArray, toks := tk } :=
    I1.take (h' := sortedHeap h2 h'.objs.size (as.map Value.ref) out.toArray) (t' := tk) (fun b ob _ e => e) (I.fpOk (Nat.le_of_lt hlt) hn0) ⟨hlen, out, eF, vals_back allr, heF⟩
  obtain ⟨H2, I3, g, qt⟩ := L2.DX.takeT (P := fun b vs => vs = [.int (keyAt h2 (.ref b)).1, .int (keyAt h2 (.ref b)).2]) I as _ I2 nd fun b hb => by
    obtain ⟨j, hj⟩ := List.getElem?_of_mem hb
    obtain ⟨c, hc, t, u, hg⟩ := pr j b hj
    have e : keyAt h2 (.ref b) = c := keyAt_is (isp j b c hj hc)
    have hbl : s.heap.objs.size ≤ b := Nat.le_of_lt (hG.above b hb)
    refine ⟨hbl, ?_, _, rfl, fun H3 => ⟨(by rw [sizeLine_eq]; show 2 ≤ 16777216; omega), [Value.int c.1 t, Value.int c.2 u], ?_, ⟨_, kF _ _ (ne0 _ _ hg) (ka _ _ hg), rfl, 0, rfl⟩⟩⟩
    · rw [upd_ne (ne0 _ _ hg)]
      exact I.hok.fresh hbl
    · rw [e]
      exact .cons ⟨t, rfl⟩ (.cons ⟨u, rfl⟩ .nil)
  have gr : ∀ b o, H b = some o → H2 b = some o := fun b o e => g b o (by rw [upd_ne (ne_of_none e hn0)]; exact e)
  refine ⟨.ref h'.objs.size, H2, I3, rfl, q H2 h'.objs.size (out.map backV) (out.map (keyAt h2)) (SrtO.srtd_map o1) (by rw [← keys]; exact pm.map _) hn0 gr (g _ _ upd_same) ?_⟩
  have all : ∀ u ∈ out, ∃ b, u = Value.ref b ∧ H2 b = some (.tup [.int (keyAt h2 u).1, .int (keyAt h2 u).2]) := fun u hu => by
    obtain ⟨b, hb, rfl⟩ := List.mem_map.mp (pm.mem_iff.mp hu)
    obtain ⟨vs, rfl, h2⟩ := qt b hb
    exact ⟨b, rfl, h2⟩
  have build : ∀ l : List Value, (∀ u ∈ l, ∃ b, u = Value.ref b ∧ H2 b = some (.tup [.int (keyAt h2 u).1, .int (keyAt h2 u).2])) → RawP H2 (l.map backV) (l.map (keyAt h2)) := by
    intro l
    induction l with
    | nil => intro _; exact .nil
    | cons u r ih =>
      intro hall
      obtain ⟨b, e, hb⟩ := hall u (List.mem_cons_self ..)
      refine .cons ⟨b, by rw [e]; rfl, hb⟩ (ih fun y hy => hall y (List.mem_cons_of_mem _ hy))
  exact build out all
section
variable {K : PySem.W.Frag} {H : Hp} {Q : VK} {a : Addr} {σ : St} {te : TE} {td ty tx : TE} {R : Hp → Prop} {v x y : V}
theorem r_items {m : Prs} (hd : H a = some (.dK (m.map inj))) (q : ∀ p H', H p = none → Same H H' → H' p = some (L2.DX.itemsO p a) → Q (.ref p) H') : uItems (.ref a) [] H Q :=
  ⟨a, _, rfl, rfl, hd, fun p hp => q p _ hp (Keep.same (Keep.new hp)) upd_same⟩
theorem r_sortedIt {p : Addr} {m : Prs} (hp : H p = some (L2.DX.itemsO p a)) (hd : H a = some (.dK (m.map inj))) (hm : m.length ≤ 100000)
    (q : ∀ l H' (ys : List V) (l' : Prs), Lex l' → l'.Perm m → H l = none → Same H H' → H' l = some (.lst ys) → RawP H' ys l' → Q (.ref l) H') : uSortedIt [.ref p] H Q := ⟨p, a, m, rfl, hp, hd, hm, fun H' l ys l' h1 h2 h3 h4 h5 h6 => q l H' ys l' h1 h2 h3 h4 h5 h6⟩
theorem r_bm0d {r : V → List V → Hp → VK → Prop} {kvs : List (Key × V)} (h : H a = some (.dK kvs)) (q : r (.ref a) [] H Q) : uBM0 K "dict" r (.ref a) H Q := ⟨.inr (.inr (.inl ⟨rfl, .inl ⟨kvs, h⟩⟩)), q⟩
end
/-! ### pop, in, clear, copies, update -/
def dropP (m : Prs) (t : Int) : Prs := m.filter fun p => decide (p.1 ≠ t)
theorem drop_inj (t : Int) : ∀ m : Prs, dropK (m.map inj) (Sum.inl t) = (dropP m t).map inj
  | [] => rfl
  | p :: m => by
    have ih := drop_inj t m
    unfold dropK dropP at *
    rw [List.map_cons, List.filter_cons, List.filter_cons, ih]
    by_cases e : p.1 = t
    · simp [e, inj]
    · simp [e, inj]
theorem mem_drop {m : Prs} {t : Int} {p : Int × Int} : p ∈ dropP m t ↔ p ∈ m ∧ p.1 ≠ t := by
  unfold dropP
  rw [List.mem_filter]
  simp
theorem nd_drop {m : Prs} (t : Int) (nd : (m.map (·.1)).Nodup) : ((dropP m t).map (·.1)).Nodup := nd.sublist (List.filter_sublist.map _)
theorem len_drop (m : Prs) (t : Int) : (dropP m t).length ≤ m.length := List.length_filter_le _ _
theorem valP_none {t : Int} : ∀ {m : Prs}, valP m t = none ↔ t ∉ m.map (·.1)
  | [] => by simp [valP]
  | p :: m => by
    by_cases e : p.1 = t
    · rw [valP_pos e]
      simp [e]
    · rw [valP_neg e, valP_none (m := m)]
      simp [Ne.symm e]
theorem val_put {m : Prs} (nd : (m.map (·.1)).Nodup) (t h k : Int) : valP (putP m t h) k = if k = t then some h else valP m k := by
  by_cases e : k = t
  · rw [if_pos e, e, valP_iff (nd_put t h nd), mem_put]
    exact .inl rfl
  · rw [if_neg e]
    cases z : valP m k with
    | none =>
      rw [valP_none] at z ⊢
      rw [keys_put]
      split
      · exact z
      · rw [List.mem_append, List.mem_singleton]
        rintro (y | y)
        · exact z y
        · exact e y
    | some v =>
      rw [valP_iff nd] at z
      rw [valP_iff (nd_put t h nd), mem_put]
      exact .inr ⟨z, e⟩
theorem val_drop {m : Prs} (nd : (m.map (·.1)).Nodup) (t k : Int) : valP (dropP m t) k = if k = t then none else valP m k := by
  by_cases e : k = t
  · rw [if_pos e, e, valP_none]
    intro z
    obtain ⟨p, hp, e2⟩ := List.mem_map.mp z
    exact (mem_drop.mp hp).2 e2
  · rw [if_neg e]
    cases z : valP m k with
    | none =>
      rw [valP_none] at z ⊢
      intro y
      obtain ⟨p, hp, e2⟩ := List.mem_map.mp y
      exact z (List.mem_map.mpr ⟨p, (mem_drop.mp hp).1, e2⟩)
    | some v =>
      rw [valP_iff nd] at z
      rw [valP_iff (nd_drop t nd), mem_drop]
      exact ⟨z, e⟩
section
variable {X : Cx} {K : PySem.W.Frag} {H : Hp} {Q : VK} {a b : Addr} {σ : St} {te : TE} {td ty tx : TE} {R : Hp → Prop} {v x y : V} {o : Expr} {apos cpos : Pos}
def uPop1b (a : Addr) (y : V) (H : Hp) (Q : VK) : Prop := ∃ kvs k v, H a = some (.dK kvs) ∧ y = kV k ∧ valV kvs k = some v ∧ Q v (upd H a (.dK (dropK kvs k)))
def uPop1 (ty : TE) (σ : St) (x : V) (H : Hp) (Q : VK) : Prop := ∃ a, x = .ref a ∧ IsD H a ∧ ty σ H fun y H2 => uPop1b a y H2 Q
theorem r_dpop1 (q : td σ H fun x H1 => uPop1 ty σ x H1 Q) : tDPop1 td ty σ H Q := q
theorem r_dpop1i {kvs : List (Key × V)} (hd : H a = some (.dK kvs)) (q : ty σ H fun y H2 => uPop1b a y H2 Q) : uPop1 ty σ (.ref a) H Q := ⟨a, rfl, .inl ⟨_, .inl hd⟩, q⟩
theorem r_dpop1k {m : Prs} {t h : Int} (hd : H a = some (.dK (m.map inj))) (e : valP m t = some h) (q : ∀ H', Keep (At a) H H' → H' a = some (.dK ((dropP m t).map inj)) → Q (.int h) H') : uPop1b a (.int t) H Q :=
  ⟨_, Sum.inl t, .int h, hd, rfl, by rw [val_inj, e]; rfl, q _ Keep.at_ (by rw [upd_same, drop_inj])⟩
def uPop2b (a : Addr) (y z : V) (H : Hp) (Q : VK) : Prop := ∃ kvs k, H a = some (.dK kvs) ∧ y = kV k ∧ (∀ v, valV kvs k = some v → Q v (upd H a (.dK (dropK kvs k)))) ∧ (valV kvs k = none → Q z H)
def uPop2 (ty tx : TE) (σ : St) (x : V) (H : Hp) (Q : VK) : Prop := ∃ a, x = .ref a ∧ IsD H a ∧ ty σ H fun y H2 => tx σ H2 fun z H3 => uPop2b a y z H3 Q
theorem r_dpop2 (q : td σ H fun x H1 => uPop2 ty tx σ x H1 Q) : tDPop2 td ty tx σ H Q := q
theorem r_dpop2i {kvs : List (Key × V)} (hd : H a = some (.dK kvs)) (q : ty σ H fun y H2 => tx σ H2 fun z H3 => uPop2b a y z H3 Q) : uPop2 ty tx σ (.ref a) H Q := ⟨a, rfl, .inl ⟨_, .inl hd⟩, q⟩
theorem r_dpop2k {m : Prs} {t : Int} {z : V} (hd : H a = some (.dK (m.map inj))) (q1 : ∀ h H', valP m t = some h → Keep (At a) H H' → H' a = some (.dK ((dropP m t).map inj)) → Q (.int h) H') (q2 : valP m t = none → Q z H) : uPop2b a (.int t) z H Q := by
  refine ⟨_, Sum.inl t, hd, rfl, fun v e => ?_, fun e => q2 ?_⟩
  · rw [val_inj] at e
    obtain ⟨h, e1, rfl⟩ := Option.map_eq_some_iff.mp e
    exact q1 h _ e1 Keep.at_ (by rw [upd_same, drop_inj])
  · rw [val_inj, Option.map_eq_none_iff] at e
    exact e
/-- d.pop(k, None) of a dict by pairs of numbers -/
theorem r_popT {kvs : List (List Key × V)} {i j : Int} {z : V} (hd : H a = some (.dT kvs)) (hb : H b = some (.tup [.int i, .int j])) (q1 : ∀ v H', valV kvs [Sum.inl i, Sum.inl j] = some v → Keep (At a) H H' → H' a = some (.dT (dropK kvs [Sum.inl i, Sum.inl j])) → Q v H')
    (q2 : valV kvs [Sum.inl i, Sum.inl j] = none → Q z H) : L2.DX.rPopT (.ref a) [.ref b, z] H Q :=
  ⟨a, kvs, [Sum.inl i, Sum.inl j], b, z, rfl, rfl, hd, hb, fun v e => q1 v _ e Keep.at_ upd_same, q2⟩
theorem r_bmdT {r : V → List V → Hp → VK → Prop} {t : TA} {kvs : List (List Key × V)} (h : H a = some (.dT kvs)) (q : t σ H fun xs H2 => r (.ref a) xs H2 Q) : uBM K "dict" r t σ (.ref a) H Q := ⟨.inr (.inr (.inl ⟨rfl, .inr ⟨kvs, h⟩⟩)), q⟩
theorem r_bmdK {r : V → List V → Hp → VK → Prop} {t : TA} {kvs : List (Key × V)} (h : H a = some (.dK kvs)) (q : t σ H fun xs H2 => r (.ref a) xs H2 Q) : uBM K "dict" r t σ (.ref a) H Q := ⟨.inr (.inr (.inl ⟨rfl, .inl ⟨kvs, h⟩⟩)), q⟩
def uDIn (y x : V) (H : Hp) (Q : VK) : Prop := ∃ a o, x = .ref a ∧ DGet H a y o ∧ Q (.bl o.isSome) H
def uDNotIn (y x : V) (H : Hp) (Q : VK) : Prop := ∃ a o, x = .ref a ∧ DGet H a y o ∧ Q (.bl (!o.isSome)) H
theorem r_din (q : ty σ H fun y H1 => td σ H1 fun x H2 => uDIn y x H2 Q) : tDIn ty td σ H Q := q
theorem r_dnotin (q : ty σ H fun y H1 => td σ H1 fun x H2 => uDNotIn y x H2 Q) : tDNotIn ty td σ H Q := q
theorem dget_n {m : Prs} {t : Int} (hd : H a = some (.dK (m.map inj))) : ∃ o, DGet H a (.int t) o ∧ o.isSome = (valP m t).isSome := ⟨_, DGet.k (k := Sum.inl t) hd, by rw [val_inj]; cases valP m t <;> rfl⟩
theorem r_dini {m : Prs} {t : Int} (hd : H a = some (.dK (m.map inj))) (q : Q (.bl (valP m t).isSome) H) : uDIn (.int t) (.ref a) H Q := by
  obtain ⟨o, h1, h2⟩ := dget_n (t := t) hd
  exact ⟨a, o, rfl, h1, by rw [h2]; exact q⟩
theorem r_dnotini {m : Prs} {t : Int} (hd : H a = some (.dK (m.map inj))) (q : Q (.bl (!(valP m t).isSome)) H) : uDNotIn (.int t) (.ref a) H Q := by
  obtain ⟨o, h1, h2⟩ := dget_n (t := t) hd
  exact ⟨a, o, rfl, h1, by rw [h2]; exact q⟩
theorem r_clear {kvs : List (Key × V)} (hd : H a = some (.dK kvs)) (q : ∀ H', Keep (At a) H H' → H' a = some (.dK []) → Q .non H') : rDClear (.ref a) [] H Q := ⟨a, kvs, rfl, rfl, hd, q _ Keep.at_ upd_same⟩
/-- dict(d) -/
def uDictD : List V → Hp → VK → Prop := fun xs H Q => ∃ (a : Addr) (kvs : List (Key × V)), xs = [.ref a] ∧ Rd H a (.dK kvs) ∧ ∀ p, H p = none → Q (.ref p) (upd H p (.dK kvs))
theorem c_dictD : CallR X (.type "dict") uDictD := call_dictD
theorem r_dictD {kvs : List (Key × V)} (hd : H a = some (.dK kvs)) (q : ∀ p H', H p = none → Same H H' → H' p = some (.dK kvs) → Q (.ref p) H') : uDictD [.ref a] H Q := ⟨a, kvs, rfl, .inl hd, fun p hp => q p _ hp (Keep.same (Keep.new hp)) upd_same⟩
/-- d.get(k, x) -/
def uDG2x (a : Addr) (y z : V) (H : Hp) (Q : VK) : Prop := ∃ o, DGet H a y o ∧ Q (o.getD z) H
def uDG2o (ty tx : TE) (σ : St) (x : V) (H : Hp) (Q : VK) : Prop := ∃ a, x = .ref a ∧ IsD H a ∧ ty σ H fun y H2 => tx σ H2 fun z H3 => uDG2x a y z H3 Q
theorem r_dget2 (q : td σ H fun x H1 => uDG2o ty tx σ x H1 Q) : tDGet2 td ty tx σ H Q := q
theorem r_dget2i {kvs : List (Key × V)} (hd : H a = some (.dK kvs)) (q : ty σ H fun y H2 => tx σ H2 fun z H3 => uDG2x a y z H3 Q) : uDG2o ty tx σ (.ref a) H Q := ⟨a, rfl, .inl ⟨_, .inl hd⟩, q⟩
theorem r_dget2k {m : Prs} {t : Int} {z : V} (hd : H a = some (.dK (m.map inj))) (q : Q (((valP m t).map V.int).getD z) H) : uDG2x a (.int t) z H Q := by
  refine ⟨_, DGet.k (k := Sum.inl t) hd, ?_⟩
  rw [val_inj]
  exact q
/-- d.update(e) -/
def uUpd (x : V) (xs : List V) (H : Hp) (Q : VK) : Prop := ∃ (a b : Addr) (kvs more : List (Key × V)), x = .ref a ∧ xs = [.ref b] ∧ a ≠ b ∧ H a = some (.dK kvs) ∧ H b = some (.dK more) ∧ kvs.length + more.length ≤ 1000000 ∧ Q .non (upd H a (.dK (mergeK kvs more)))
theorem mt_update : MtR X "dict.update" uUpd := by
  intro pins s σ H x xs v us Q I rx rxs h
  obtain ⟨a, b, kvs, more, rfl, rfl, hab, ha, hb, hz, q⟩ := h
  obtain rfl : v = Value.ref a := rx
  obtain rfl := Vals.ref1 rxs
  obtain ⟨z1, d1, vs1, rel1, dd1⟩ := dk_of I.hok ha
  obtain ⟨z2, d2, vs2, rel2, dd2⟩ := dk_of I.hok hb
  refine call_meetsIn PySem.F.slot_dict_update dd1.typeIs PySem.F.entry_dict_update (PySem.F.args_dict_update_2 _ _) (meets_dict_update (mixKind X.prog X.w) a b hab d2) ⟨vs1, vs2, dd1, dd2, by rw [← rel1.length, ← rel2.length, sizeLine_eq]; omega, fun h' dd' _ hs => ?_⟩
  have he : ∃ q, h'.get? a = some q := let ⟨q, _, _, hq, _⟩ := dd'; ⟨q, hq⟩
  have hl := length_mergeK more kvs
  exact ⟨.non, _, d_write (t' := s.toks) I (by rw [ha]; exact True.intro) hs he (dk_new (by rw [sizeLine_eq]; omega) d1 (KV.merge rel2 rel1) dd'), rfl, q⟩
theorem r_update {m more : Prs} (ha : H a = some (.dK (m.map inj))) (hb : H b = some (.dK (more.map inj))) (hab : a ≠ b) (hl : m.length + more.length ≤ 1000000) (q : ∀ H', Keep (At a) H H' → H' a = some (.dK ((mergeP m more).map inj)) → Q .non H') : uUpd (.ref a) [.ref b] H Q :=
  ⟨a, b, _, _, rfl, rfl, hab, ha, hb, by simpa using hl, q _ Keep.at_ (by rw [upd_same, merge_inj])⟩
/-- len(d) -/
def uLenD : List V → Hp → VK → Prop := fun xs H Q => ∃ (a : Addr) (kvs : List (Key × V)), xs = [.ref a] ∧ Rd H a (.dK kvs) ∧ Q (.int kvs.length) H
theorem c_lenD : CallR X (.builtin "len") uLenD := by
  intro pins s σ H xs us Q I r h
  obtain ⟨a, kvs, rfl, hd, q⟩ := h
  obtain rfl := Vals.ref1 r
  exact d_len I hd fun t s' I' => ⟨.int kvs.length, H, I', ⟨t, rfl⟩, q⟩
theorem r_lenD {m : Prs} (hd : H a = some (.dK (m.map inj))) (q : Q (.int m.length) H) : uLenD [.ref a] H Q := ⟨a, _, rfl, .inl hd, by rw [List.length_map]; exact q⟩
end
/-! ### xs == [], whatever the list holds -/
section
variable {X : Cx} {K : PySem.W.Frag} {H : Hp} {Q : VK} {a b : Addr} {xs : List V}
def uEqNil (K : PySem.W.Frag) : R2 := fun x y H Q => ∃ a b xs, x = .ref a ∧ y = .ref b ∧ SqL K H a xs ∧ SqL K H b [] ∧ Q (.bl (decide (xs = []))) H
def uNeNil (K : PySem.W.Frag) : R2 := fun x y H Q => ∃ a b xs, x = .ref a ∧ y = .ref b ∧ SqL K H a xs ∧ SqL K H b [] ∧ Q (.bl (!decide (xs = []))) H
theorem o_eqNil (hu : X.A.units + 64 < cLine) : OpR X (compareOp .Eq) (uEqNil X.K) := by
  intro pins s σ H x y v u Q I rx ry h
  obtain ⟨a, b, xs, rfl, rfl, h1, h2, q⟩ := h
  obtain rfl : v = Value.ref a := rx
  obtain rfl : u = Value.ref b := ry
  obtain ⟨i1, r1, l1, z1⟩ := I.list h1
  obtain ⟨i2, r2, l2, z2⟩ := I.list h2
  cases r2
  have hl := r1.length
  cases xs with
  | nil =>
    cases r1
    exact SeqAt.eq_listAt (e := fun _ => true) l1.isList l2.isList rfl (by omega) (fun j h1 _ => by simp at h1) ⟨.bl true, H, I, rfl, q⟩
  | cons x r =>
    refine SeqAt.eq_list_lengthsAt l1.isList l2.isList ?_ (by omega) ⟨.bl false, H, I, rfl, q⟩
    rw [List.size_toArray, ← hl]
    simp
theorem o_neNil (hu : X.A.units + 64 < cLine) : OpR X (compareOp .NotEq) (uNeNil X.K) := by
  intro pins s σ H x y v u Q I rx ry h
  obtain ⟨a, b, xs, rfl, rfl, h1, h2, q⟩ := h
  obtain rfl : v = Value.ref a := rx
  obtain rfl : u = Value.ref b := ry
  obtain ⟨i1, r1, l1, z1⟩ := I.list h1
  obtain ⟨i2, r2, l2, z2⟩ := I.list h2
  cases r2
  have hl := r1.length
  cases xs with
  | nil =>
    cases r1
    exact SeqAt.RcNeAt.lists (e := fun _ => true) l1.isList l2.isList rfl (by omega) (fun j h1 _ => by simp at h1) X.prog X.w _ _ ⟨.bl false, H, I, rfl, q⟩
  | cons x r =>
    refine SeqAt.RcNeAt.lists_lengths l1.isList l2.isList ?_ (by omega) X.prog X.w _ _ ⟨.bl true, H, I, rfl, q⟩
    rw [List.size_toArray, ← hl]
    simp
theorem r_eqNil (h1 : SqL K H a xs) (h2 : SqL K H b []) (q : Q (.bl (decide (xs = []))) H) : uEqNil K (.ref a) (.ref b) H Q := ⟨a, b, xs, rfl, rfl, h1, h2, q⟩
theorem r_neNil (h1 : SqL K H a xs) (h2 : SqL K H b []) (q : Q (.bl (!decide (xs = []))) H) : uNeNil K (.ref a) (.ref b) H Q := ⟨a, b, xs, rfl, rfl, h1, h2, q⟩
end
end Fp
/-! stores: plain; what stands where -/
namespace Fp
open PySem PySem.Spec PyProof.Rows L2
/-- a curve of tree times -/
structure Crv (c : Prs) : Prop where
  up : c.Pairwise fun p q => p.1 < q.1
  rg : ∀ q ∈ c, -1099511627776 ≤ q.1 ∧ q.1 < 1099511627776
theorem Crv.nil : Crv [] := ⟨.nil, by simp⟩
theorem Crv.ext {c c' : Prs} (h : Crv c) (h' : Crv c') (e : ∀ p, p ∈ c ↔ p ∈ c') : c = c' := up_ext h.up h'.up e
def setC (c : Prs) (t : Int) : Option Int → Prs
  | none => dropP c t
  | some h => insC c t h
theorem setC_mem {c : Prs} {t : Int} {o : Option Int} {p : Int × Int} : p ∈ setC c t o ↔ (o = some p.2 ∧ p.1 = t) ∨ (p ∈ c ∧ p.1 ≠ t) := by
  cases o with
  | none =>
    show p ∈ dropP c t ↔ _
    rw [mem_drop]
    simp
  | some h =>
    show p ∈ insC c t h ↔ _
    rw [insC_mem]
    constructor
    · rintro (rfl | z)
      · exact .inl ⟨rfl, rfl⟩
      · exact .inr z
    · rintro (⟨z1, z2⟩ | z)
      · left
        cases z1
        exact Prod.ext z2 rfl
      · exact .inr z
theorem setC_up {c : Prs} (hc : c.Pairwise fun p q => p.1 < q.1) (t : Int) (o : Option Int) : (setC c t o).Pairwise fun p q => p.1 < q.1 := by
  cases o with
  | none => exact hc.sublist List.filter_sublist
  | some h => exact insC_up hc t h
theorem setC_crv {c : Prs} (hc : Crv c) {t : Int} (ht : -1099511627776 ≤ t ∧ t < 1099511627776) (o : Option Int) : Crv (setC c t o) := ⟨setC_up hc.up t o, fun q hq => by
  rcases setC_mem.mp hq with ⟨_, z⟩ | ⟨z, _⟩
  · rw [z]; exact ht
  · exact hc.rg q z⟩
theorem setC_beside {c : Prs} (hc : c.Pairwise fun p q => p.1 < q.1) (t : Int) (o : Option Int) : Beside t c (setC c t o) := beside_of hc (setC_up hc t o) fun p hp => by
  rw [setC_mem]
  constructor
  · rintro (⟨_, z⟩ | z)
    · exact absurd z hp
    · exact z.1
  · exact fun z => .inr ⟨z, hp⟩
theorem val_ext {m m' : Prs} (nd : (m.map (·.1)).Nodup) (nd' : (m'.map (·.1)).Nodup) (h : ∀ q, q ∈ m ↔ q ∈ m') (t : Int) : valP m t = valP m' t := by
  cases e : valP m' t with
  | none =>
    rw [valP_none] at e ⊢
    intro z
    obtain ⟨q, hq, e2⟩ := List.mem_map.mp z
    exact e (List.mem_map.mpr ⟨q, (h q).mp hq, e2⟩)
  | some v =>
    rw [valP_iff nd'] at e
    rw [valP_iff nd]
    exact (h _).mpr e
theorem setC_val {c : Prs} (hc : c.Pairwise fun p q => p.1 < q.1) (t : Int) (o : Option Int) (k : Int) : valP (setC c t o) k = if k = t then o else valP c k := by
  have nd := up_nodup hc
  have nd' := up_nodup (setC_up hc t o)
  by_cases e : k = t
  · rw [if_pos e, e]
    cases o with
    | none =>
      rw [valP_none]
      intro z
      obtain ⟨q, hq, e2⟩ := List.mem_map.mp z
      rcases setC_mem.mp hq with ⟨z1, _⟩ | ⟨_, z2⟩
      · cases z1
      · exact z2 e2
    | some h =>
      rw [valP_iff nd', setC_mem]
      exact .inl ⟨rfl, rfl⟩
  · rw [if_neg e]
    cases z : valP c k with
    | none =>
      rw [valP_none] at z ⊢
      intro y
      obtain ⟨q, hq, e2⟩ := List.mem_map.mp y
      rcases setC_mem.mp hq with ⟨_, z2⟩ | ⟨z1, _⟩
      · exact e (e2.symm.trans z2)
      · exact z (List.mem_map.mpr ⟨q, z1, e2⟩)
    | some v =>
      rw [valP_iff nd] at z
      rw [valP_iff nd', setC_mem]
      exact .inr ⟨z, e⟩
/-- c comes of c0 by one deed at t -/
structure Deed (c0 : Prs) (t : Int) (c : Prs) : Prop where
  same : ∀ p : Int × Int, p.1 ≠ t → (p ∈ c ↔ p ∈ c0)
  some : valP c t = none → (valP c0 t).isSome = true
theorem setC_back {c0 c : Prs} {t : Int} (h0 : Crv c0) (h : Crv c) (d : Deed c0 t c) : setC c t (valP c0 t) = c0 := by
  refine up_ext (setC_up h.up t _) h0.up fun p => ?_
  rw [setC_mem]
  constructor
  · rintro (⟨z1, z2⟩ | ⟨z1, z2⟩)
    · rw [← z2, valP_iff (up_nodup h0.up)] at z1
      exact z1
    · exact (d.same p z2).mp z1
  · intro hp
    by_cases e : p.1 = t
    · exact .inl ⟨by rw [← e, valP_iff (up_nodup h0.up)]; exact hp, e⟩
    · exact .inr ⟨(d.same p e).mpr hp, e⟩
theorem deed_put {c : Prs} (hc : Crv c) (t h : Int) : Deed c t (insC c t h) := ⟨fun p hp => by
    rw [insC_mem]
    constructor
    · rintro (z | z)
      · exact absurd (by rw [z]) hp
      · exact z.1
    · exact fun z => .inr ⟨z, hp⟩, fun z => by
    have := setC_val hc.up t (Option.some h) t
    rw [if_pos rfl] at this
    rw [show setC c t (Option.some h) = insC c t h from rfl, z] at this
    cases this⟩
theorem deed_take {c : Prs} {t h : Int} (e : valP c t = Option.some h) : Deed c t (dropP c t) := ⟨fun p hp => by rw [mem_drop]; exact ⟨fun z => z.1, fun z => ⟨z, hp⟩⟩, fun _ => by rw [e]; rfl⟩
/-- the deeds not undone yet, the last one first, each with the curve ahead of it -/
def Chain : List (Int × Prs) → Prs → Prop
  | [], c => Crv c
  | d :: r, c => Crv c ∧ (-1099511627776 ≤ d.1 ∧ d.1 < 1099511627776) ∧ Deed d.2 d.1 c ∧ Chain r d.2
theorem Chain.crv {hs : List (Int × Prs)} {c : Prs} (h : Chain hs c) : Crv c := by
  cases hs with
  | nil => exact h
  | cons d r => exact h.1
def optD : Option Int → PyData
  | none => .none
  | some h => .int h
def optV : Option Int → V
  | none => .non
  | some h => .int h
theorem opt_val (o : Option Int) : (o.map V.int).getD .non = optV o := by cases o <;> rfl
theorem dp_opt {K : PySem.W.Frag} {H : Hp} {v : V} {o : Option Int} (h : Dp K H v (optD o)) : v = optV o := by
  cases o with
  | none => exact dp_non h
  | some i => exact dp_int h
theorem dp_optV (K : PySem.W.Frag) (H : Hp) (o : Option Int) : Dp K H (optV o) (optD o) := by
  cases o with
  | none => exact .non
  | some i => exact .int i
def deedD (d : Int × Prs) : PyData := .tuple [.int d.1, optD (valP d.2 d.1)]
theorem imm_opt (o : Option Int) : imm (optD o) = true := by cases o <;> rfl
theorem imm_deed (d : Int × Prs) : imm (deedD d) = true := by simp [deedD, imm, immAll, imm_opt]
theorem shp_deed (d : Int × Prs) : Shp 1 (deedD d) := Shp.t2 (.int _) (by unfold optD; split; exact .none; exact .int _)
theorem dp_deed {K : PySem.W.Frag} {H : Hp} {v : V} {d : Int × Prs} (h : Dp K H v (deedD d)) : ∃ a, v = .ref a ∧ SqT K H a [.int d.1, optV (valP d.2 d.1)] := by
  obtain ⟨p, ws, rfl, h1, h2⟩ := dp_tup h
  cases h2 with
  | cons h3 h4 =>
    cases h4 with
    | cons h5 h6 =>
      cases h6
      rw [dp_int h3, dp_opt h5] at h1
      exact ⟨p, rfl, h1⟩
theorem eqv_nil {d : List PyData} : PyData.eqv (.list d) (.list []) = decide (d = []) := by
  rw [PyData.eqv]
  cases d with
  | nil => simp [PyData.eqvAll]
  | cons x r => simp [PyData.eqvAll]
theorem valV_drop {κ : Type} [DecidableEq κ] (k j : κ) : ∀ kvs : List (κ × V), valV (dropK kvs k) j = if j = k then none else valV kvs j
  | [] => by simp [dropK, valV]
  | p :: r => by
    have ih := valV_drop k j r
    unfold dropK at *
    by_cases e : p.1 = k
    · rw [List.filter_cons_of_neg (by simp [e]), ih]
      by_cases e2 : j = k
      · rw [if_pos e2, if_pos e2]
      · rw [if_neg e2, if_neg e2, valV_neg (by rw [e]; exact fun z => e2 z.symm)]
    · rw [List.filter_cons_of_pos (by simp [e])]
      by_cases e2 : p.1 = j
      · rw [valV_pos e2, valV_pos e2, if_neg (by rw [← e2]; exact e)]
      · rw [valV_neg e2, valV_neg e2, ih]
theorem dropK_len {κ : Type} [DecidableEq κ] (kvs : List (κ × V)) (k : κ) : (dropK kvs k).length ≤ kvs.length := List.length_filter_le _ _
/-! ### columns' fours -/
def winS (b w : Int) (k : Nat) : Int × Int := (b + (k : Int) * w, b + (k : Int) * w + w)
def foursS (c : Prs) (b w : Int) (n : Nat) : List (Option Four) := (List.range n).map fun k => fourL (partL c (winS b w k).1 (winS b w k).2)
def foursDS (c : Prs) (b w : Int) (n : Nat) : PyData := .tuple ((foursS c b w n).map fourD)
theorem imm_foursS (c : Prs) (b w : Int) (n : Nat) : imm (foursDS c b w n) = true := by
  unfold foursDS
  simp only [imm]
  exact immAll_map _ imm_four _
theorem shp_foursS (c : Prs) (b w : Int) (n : Nat) : Shp 3 (foursDS c b w n) := Shp.tupleM shp_four
/-! ### where a store stands -/
structure SA where
  p : Addr
  hd : Addr
  bd : Addr
  dd : Addr
  td : Addr
  wd : Addr
  was : List Addr
def SA.all (a : SA) : List Addr := a.p :: a.hd :: a.bd :: a.dd :: a.td :: a.wd :: a.was
structure Watch where
  b : Int
  w : Int
  m : Int
  c : Prs
structure WatchAt (K : PySem.W.Frag) (H : Hp) (x : Addr) (W : Watch) : Prop where
  ex : ∃ (wn : Addr) (y : V), H x = some (.lst [.ref wn, y]) ∧ SqT K H wn [.int W.b, .int W.w, .int W.m] ∧ Dp K H y (foursDS W.c W.b W.w W.m.toNat)
  win : -1099511627776 ≤ W.b ∧ W.b + W.w * W.m ≤ 1099511627776 ∧ 1 ≤ W.w ∧ W.w ≤ 1000000000000000 ∧ 1 ≤ W.m ∧ W.m ≤ 1000
  crv : Crv W.c
theorem WatchAt.keep {K : PySem.W.Frag} {H H' : Hp} {x : Addr} {W : Watch} {F : Addr → Prop} (h : WatchAt K H x W) (k : Keep F H H') (t : TExt H H') (n : ¬ F x) : WatchAt K H' x W := by
  obtain ⟨wn, y, e, h1, h2⟩ := h.ex
  exact ⟨⟨wn, y, k _ _ e n, SqT.text t h1, Dp.text t _ _ (imm_foursS ..) h2⟩, h.win, h.crv⟩
structure CoreAt (K : PySem.W.Frag) (H : Hp) (hd bd : Addr) (c : Prs) (z : Nat) : Prop where
  hh : ∃ m : Prs, H hd = some (.dK (m.map inj)) ∧ (m.map (·.1)).Nodup ∧ (∀ q, q ∈ m ↔ q ∈ c) ∧ m.length ≤ z
  bb : ∃ kvs, H bd = some (.dT kvs) ∧ FourInv K H kvs c ∧ kvs.length ≤ 41 * z
  crv : Crv c
theorem CoreAt.keep {K : PySem.W.Frag} {H H' : Hp} {hd bd : Addr} {c : Prs} {z : Nat} {F : Addr → Prop} (h : CoreAt K H hd bd c z) (k : Keep F H H') (t : TExt H H') (n1 : ¬ F hd) (n2 : ¬ F bd) : CoreAt K H' hd bd c z := by
  obtain ⟨⟨m, h1, h2⟩, ⟨kvs, b1, b2, b3⟩, cr⟩ := h
  exact ⟨⟨m, k _ _ h1 n1, h2⟩, ⟨kvs, k _ _ b1 n2, b2.text t, b3⟩, cr⟩
theorem CoreAt.mono {K : PySem.W.Frag} {H : Hp} {hd bd : Addr} {c : Prs} {z z' : Nat} (h : CoreAt K H hd bd c z) (hz : z ≤ z') : CoreAt K H hd bd c z' := by
  obtain ⟨⟨m, h1, h2, h3, h4⟩, ⟨kvs, b1, b2, b3⟩, cr⟩ := h
  exact ⟨⟨m, h1, h2, h3, by omega⟩, ⟨kvs, b1, b2, by omega⟩, cr⟩
def stF (a : SA) : List (Str × V) := [("heights", .ref a.hd), ("by_stretches", .ref a.bd), ("deeds", .ref a.dd), ("deed_times", .ref a.td), ("watches", .ref a.wd)]
structure StoreAt (K : PySem.W.Frag) (C : Addr) (H : Hp) (a : SA) (c : Prs) (hs : List (Int × Prs)) (ts : List Int) (ws : List Watch) (z : Nat) : Prop where
  ob : ∃ dx, H a.p = some (.ins C dx [("heights", .ref a.hd), ("by_stretches", .ref a.bd), ("deeds", .ref a.dd), ("deed_times", .ref a.td), ("watches", .ref a.wd)])
  core : CoreAt K H a.hd a.bd c z
  dl : ∃ vs, H a.dd = some (.lst vs) ∧ DpAll K H vs (hs.reverse.map deedD)
  tl : H a.td = some (.lst (ts.map V.int))
  wl : H a.wd = some (.lst (a.was.map V.ref)) ∧ Paired (fun b W => WatchAt K H b W) a.was ws
  ne : a.dd ≠ a.td ∧ a.dd ≠ a.wd ∧ a.td ≠ a.wd ∧ ∀ b ∈ a.was, b ≠ a.dd ∧ b ≠ a.td ∧ b ≠ a.wd
  ch : Chain hs c
  sz : hs.length ≤ z ∧ ts.length ≤ z ∧ ws.length ≤ 1000 ∧ z ≤ 10000
section
variable {K : PySem.W.Frag} {C : Addr} {H H' : Hp} {a : SA} {c : Prs} {hs : List (Int × Prs)} {ts : List Int} {ws : List Watch} {z : Nat} {F : Addr → Prop}
theorem mem_all {a : SA} {b : Addr} : b ∈ a.all ↔ b = a.p ∨ b = a.hd ∨ b = a.bd ∨ b = a.dd ∨ b = a.td ∨ b = a.wd ∨ b ∈ a.was := by
  unfold SA.all
  simp only [List.mem_cons]
theorem StoreAt.keep (S : StoreAt K C H a c hs ts ws z) (k : Keep F H H') (t : TExt H H') (n : ∀ b ∈ a.all, ¬ F b) : StoreAt K C H' a c hs ts ws z := by
  obtain ⟨⟨dx, ob⟩, core, ⟨vs, d1, d2⟩, tl, ⟨w1, w2⟩, ne, ch, sz⟩ := S
  have nn : ∀ {b}, (b = a.p ∨ b = a.hd ∨ b = a.bd ∨ b = a.dd ∨ b = a.td ∨ b = a.wd ∨ b ∈ a.was) → ¬ F b := fun h => n _ (mem_all.mpr h)
  refine ⟨⟨dx, k _ _ ob (nn (by simp))⟩, core.keep k t (nn (by simp)) (nn (by simp)), ⟨vs, k _ _ d1 (nn (by simp)), DpAll.text t _ _ (immAll_map _ imm_deed _) d2⟩, k _ _ tl (nn (by simp)), ⟨k _ _ w1 (nn (by simp)), ?_⟩, ne, ch, sz⟩
  have go : ∀ {l : List Addr} {m : List Watch}, Paired (fun b W => WatchAt K H b W) l m → (∀ b ∈ l, ¬ F b) → Paired (fun b W => WatchAt K H' b W) l m := by
    intro l m h
    induction h with
    | nil => intro _; exact .nil
    | cons h1 _ ih => intro hn; exact .cons (h1.keep k t (hn _ (List.mem_cons_self ..))) (ih fun b hb => hn b (List.mem_cons_of_mem _ hb))
  exact go w2 fun b hb => nn (by simp [hb])
theorem StoreAt.same (S : StoreAt K C H a c hs ts ws z) (s : Same H H') : StoreAt K C H' a c hs ts ws z := S.keep (F := No) (Keep.of_same s) (TExt.of_same s) (fun _ _ h => h)
theorem StoreAt.text (S : StoreAt K C H a c hs ts ws z) (k : Keep (· ∈ a.all) H H') : TExt H H' := by
  obtain ⟨⟨dx, ob⟩, ⟨⟨m, h1, _⟩, ⟨kvs, b1, _⟩, _⟩, ⟨vs, d1, d2⟩, tl, ⟨w1, w2⟩, ne, ch, sz⟩ := S
  refine k.text fun b hb => ?_
  rcases mem_all.mp hb with rfl | rfl | rfl | rfl | rfl | rfl | hb
  · rw [ob]; trivial
  · rw [h1]; trivial
  · rw [b1]; trivial
  · rw [d1]; trivial
  · rw [tl]; trivial
  · rw [w1]; trivial
  · obtain ⟨i, hi⟩ := List.getElem?_of_mem hb
    have go : ∀ {l : List Addr} {m : List Watch}, Paired (fun b W => WatchAt K H b W) l m → b ∈ l → Mut (H b) := by
      intro l m h
      induction h with
      | nil => intro hb; simp at hb
      | cons h1 _ ih =>
        intro hb
        rcases List.mem_cons.mp hb with rfl | hb
        · obtain ⟨wn, y, e, _⟩ := h1.ex
          rw [e]; trivial
        · exact ih hb
    exact go w2 hb
theorem StoreAt.mut (S : StoreAt K C H a c hs ts ws z) {b : Addr} (hb : b ∈ a.all) : Mut (H b) := by
  obtain ⟨⟨dx, ob⟩, ⟨⟨m, h1, _⟩, ⟨kvs, b1, _⟩, _⟩, ⟨vs, d1, d2⟩, tl, ⟨w1, w2⟩, ne, ch, sz⟩ := S
  rcases mem_all.mp hb with rfl | rfl | rfl | rfl | rfl | rfl | hb
  · rw [ob]; trivial
  · rw [h1]; trivial
  · rw [b1]; trivial
  · rw [d1]; trivial
  · rw [tl]; trivial
  · rw [w1]; trivial
  · have go : ∀ {l : List Addr} {m : List Watch}, Paired (fun b W => WatchAt K H b W) l m → b ∈ l → Mut (H b) := by
      intro l m h
      induction h with
      | nil => intro hb; simp at hb
      | cons h1 _ ih =>
        intro hb
        rcases List.mem_cons.mp hb with rfl | hb
        · obtain ⟨wn, y, e, _⟩ := h1.ex
          rw [e]; trivial
        · exact ih hb
    exact go w2 hb
/-- all of it stands -/
theorem StoreAt.live (S : StoreAt K C H a c hs ts ws z) {b : Addr} (hb : b ∈ a.all) : H b ≠ none := by
  obtain ⟨⟨dx, ob⟩, ⟨⟨m, h1, _⟩, ⟨kvs, b1, _⟩, _⟩, ⟨vs, d1, d2⟩, tl, ⟨w1, w2⟩, ne, ch, sz⟩ := S
  rcases mem_all.mp hb with rfl | rfl | rfl | rfl | rfl | rfl | hb
  · rw [ob]; simp
  · rw [h1]; simp
  · rw [b1]; simp
  · rw [d1]; simp
  · rw [tl]; simp
  · rw [w1]; simp
  · have go : ∀ {l : List Addr} {m : List Watch}, Paired (fun b W => WatchAt K H b W) l m → b ∈ l → H b ≠ none := by
      intro l m h
      induction h with
      | nil => intro hb; simp at hb
      | cons h1 _ ih =>
        intro hb
        rcases List.mem_cons.mp hb with rfl | hb
        · obtain ⟨wn, y, e, _⟩ := h1.ex
          rw [e]; simp
        · exact ih hb
    exact go w2 hb
theorem StoreAt.new_ne (S : StoreAt K C H a c hs ts ws z) {b q : Addr} (hq : H q = none) (hb : b ∈ a.all) : b ≠ q := fun e => S.live hb (by rw [e]; exact hq)
theorem StoreAt.new_not (S : StoreAt K C H a c hs ts ws z) {q : Addr} (hq : H q = none) : q ∉ a.all := fun hb => S.live hb hq
/-- another object, at q, is written -/
theorem StoreAt.other (S : StoreAt K C H a c hs ts ws z) {q : Addr} (k : Keep (At q) H H') (t : TExt H H') (n : q ∉ a.all) : StoreAt K C H' a c hs ts ws z := S.keep k t fun b hb e => n (by rw [← show b = q from e]; exact hb)
theorem StoreAt.crv (S : StoreAt K C H a c hs ts ws z) : Crv c := S.core.crv
end
theorem StoreAt.step {K : PySem.W.Frag} {C : Addr} {H H' : Hp} {a : SA} {c c' : Prs} {hs hs' : List (Int × Prs)} {ts ts' : List Int} {ws : List Watch} {z : Nat} {vs : List V} (S : StoreAt K C H a c hs ts ws z) (k : Keep (fun b => b = a.hd ∨ b = a.bd ∨ b = a.dd ∨ b = a.td) H H') (t : TExt H H') (core : CoreAt K H' a.hd a.bd c' (z + 1))
    (d1 : H' a.dd = some (.lst vs)) (d2 : DpAll K H' vs (hs'.reverse.map deedD)) (t1 : H' a.td = some (.lst (ts'.map V.int))) (ch : Chain hs' c') (l1 : hs'.length ≤ z + 1) (l2 : ts'.length ≤ z + 1) (hz : z + 1 ≤ 10000) : StoreAt K C H' a c' hs' ts' ws (z + 1) := by
  obtain ⟨⟨dx, ob⟩, ⟨⟨m, h1, _⟩, ⟨kvs, b1, _⟩, _⟩, ⟨vs, e1, e2⟩, tl, ⟨w1, w2⟩, ne, _, sz⟩ := S
  have nw : ∀ b l, H b = some (.lst l) → b ≠ a.dd → b ≠ a.td → ¬ (b = a.hd ∨ b = a.bd ∨ b = a.dd ∨ b = a.td) := by
    rintro b l e n1 n2 (rfl | rfl | rfl | rfl)
    · rw [h1] at e; cases e
    · rw [b1] at e; cases e
    · exact n1 rfl
    · exact n2 rfl
  refine ⟨⟨dx, k _ _ ob ?_⟩, core, ⟨_, d1, d2⟩, t1, ⟨k _ _ w1 (nw _ _ w1 (Ne.symm ne.2.1) (Ne.symm ne.2.2.1)), ?_⟩, ne, ch, ⟨l1, l2, sz.2.2.1, hz⟩⟩
  · rintro (z | z | z | z)
    · rw [z, h1] at ob; cases ob
    · rw [z, b1] at ob; cases ob
    · rw [z, e1] at ob; cases ob
    · rw [z, tl] at ob; cases ob
  · have go : ∀ {l : List Addr} {m : List Watch}, Paired (fun b W => WatchAt K H b W) l m → (∀ b ∈ l, b ∈ a.was) → Paired (fun b W => WatchAt K H' b W) l m := by
      intro l m h
      induction h with
      | nil => intro _; exact .nil
      | cons h1 _ ih =>
        intro hn
        obtain ⟨wn, y, e, _⟩ := h1.ex
        have := ne.2.2.2 _ (hn _ (List.mem_cons_self ..))
        exact .cons (h1.keep k t (nw _ _ e this.1 this.2.1)) (ih fun b hb => hn b (List.mem_cons_of_mem _ hb))
    exact go w2 fun b hb => hb
theorem StoreAt.four_all {a : SA} {H H' : Hp} (k : Keep (fun b => b = a.hd ∨ b = a.bd ∨ b = a.dd ∨ b = a.td) H H') : Keep (· ∈ a.all) H H' := k.mono fun b h => mem_all.mpr (by
  rcases h with h | h | h | h
  · exact .inr (.inl h)
  · exact .inr (.inr (.inl h))
  · exact .inr (.inr (.inr (.inl h)))
  · exact .inr (.inr (.inr (.inr (.inl h)))))
theorem val_range {c : Prs} (hc : Crv c) {t h : Int} (e : valP c t = some h) : -1099511627776 ≤ t ∧ t < 1099511627776 := hc.rg _ ((valP_iff (up_nodup hc.up)).mp e)
section
variable {K : PySem.W.Frag} {H : Hp} {Q : VK} {a : Addr} {xs : List V} {y : V}
theorem r_pop (h : H a = some (.lst (xs ++ [y]))) (q : ∀ H', Keep (At a) H H' → H' a = some (.lst xs) → Q y H') : rPop (.ref a) [] H Q :=
  ⟨a, xs ++ [y], y, rfl, rfl, h, by simp, q _ Keep.at_ (by rw [upd_same]; simp)⟩
end
theorem paired_snoc {α β : Type} {R : α → β → Prop} : ∀ {l : List α} {m : List β} {x : α} {y : β}, Paired R l m → R x y → Paired R (l ++ [x]) (m ++ [y])
  | _, _, _, _, .nil, h => .cons h .nil
  | _, _, _, _, .cons h1 h2, h => .cons h1 (paired_snoc h2 h)
theorem paired_set {α β : Type} {R : α → β → Prop} {x : α} {y : β} (h : R x y) : ∀ {l : List α} {m : List β} (i : Nat), Paired R l m → Paired R (l.set i x) (m.set i y)
  | _, _, _, .nil => .nil
  | _, _, 0, .cons _ h2 => .cons h h2
  | _, _, i + 1, .cons h1 h2 => .cons h1 (paired_set h i h2)
def SA.more (a : SA) (x : Addr) : SA := { a with was := a.was ++ [x] }
def SA.put (a : SA) (i : Nat) (x : Addr) : SA := { a with was := a.was.set i x }
abbrev InWin (b w m : Int) : Prop := -1099511627776 ≤ b ∧ b + w * m ≤ 1099511627776 ∧ 1 ≤ w ∧ w ≤ 1000000000000000 ∧ 1 ≤ m ∧ m ≤ 1000
theorem StoreAt.watch {K : PySem.W.Frag} {C : Addr} {H H' : Hp} {a : SA} {c : Prs} {hs : List (Int × Prs)} {ts : List Int} {ws ws' : List Watch} {z : Nat} {was' : List Addr} (S : StoreAt K C H a c hs ts ws z) (k : Keep (At a.wd) H H') (t : TExt H H') (e : H' a.wd = some (.lst (was'.map V.ref)))
    (w : Paired (fun b W => WatchAt K H' b W) was' ws') (n : ∀ b ∈ was', b ≠ a.dd ∧ b ≠ a.td ∧ b ≠ a.wd) (hl : ws'.length ≤ 1000) : StoreAt K C H' { a with was := was' } c hs ts ws' z := by
  obtain ⟨⟨dx, ob⟩, core, ⟨vs, d1, d2⟩, tl, ⟨w1, w2⟩, ne, ch, sz⟩ := S
  have nw : ∀ b o, H b = some o → (∀ l, o ≠ .lst l) → b ≠ a.wd := fun b o e hn z => by rw [z, w1] at e; cases e; exact hn _ rfl
  obtain ⟨⟨m, h1, _⟩, ⟨kvs, b1, _⟩, _⟩ := id core
  exact ⟨⟨dx, k _ _ ob (nw _ _ ob (by intros; intro z; cases z))⟩, core.keep k t (nw _ _ h1 (by intros; intro z; cases z)) (nw _ _ b1 (by intros; intro z; cases z)), ⟨vs, k _ _ d1 ne.2.1, DpAll.text t _ _ (immAll_map _ imm_deed _) d2⟩, k _ _ tl ne.2.2.1, ⟨e, w⟩, ⟨ne.1, ne.2.1, ne.2.2.1, n⟩, ch, ⟨sz.1, sz.2.1, hl, sz.2.2.2⟩⟩
theorem WatchAts.keep {K : PySem.W.Frag} {H H' : Hp} {F : Addr → Prop} (k : Keep F H H') (t : TExt H H') : ∀ {l : List Addr} {m : List Watch}, Paired (fun b W => WatchAt K H b W) l m → (∀ b ∈ l, ¬ F b) → Paired (fun b W => WatchAt K H' b W) l m
  | _, _, .nil, _ => .nil
  | _, _, .cons h1 h2, n => .cons (h1.keep k t (n _ (List.mem_cons_self ..))) (WatchAts.keep k t h2 fun b hb => n b (List.mem_cons_of_mem _ hb))
/-- the columns whose four is another -/
def newsL (c0 c : Prs) (b w : Int) (n : Nat) : List Nat := (List.range n).filter fun k => !PyData.eqv (fourD (fourL (partL c (winS b w k).1 (winS b w k).2))) (fourD (fourL (partL c0 (winS b w k).1 (winS b w k).2)))
theorem ixN_nat {n j : Nat} (h : j < n) : ixN n (j : Int) = some j := by
  unfold ixN
  rw [if_pos (by omega), if_pos (by omega)]
  rfl
/-- the last one of a row -/
theorem dp_last {K : PySem.W.Frag} {H : Hp} {y0 : V} {yr : List V} {f : Int × Int} {r : Prs} (d0 : Dp K H y0 (pairP f)) (dr : DpAll K H yr (r.map pairP)) : ∃ yl, atI (y0 :: yr) (-1) = some yl ∧ Dp K H yl (pairP ((r.getLast?).getD f)) := by
  have hyl : yr.length = r.length := by rw [dpAll_len dr, List.length_map]
  rcases List.eq_nil_or_concat yr with rfl | ⟨yi, yl, rfl⟩
  · have : r = [] := List.length_eq_zero_iff.mp (by simpa using hyl.symm)
    subst this
    exact ⟨y0, atI_last [] y0, d0⟩
  · rw [List.concat_eq_append] at *
    refine ⟨yl, atI_last (y0 :: yi) yl, ?_⟩
    obtain ⟨q, hq, hd⟩ := dpAll_map_at dr (i := yi.length) (x := yl) (by simp)
    have : r.getLast? = some q := by
      rw [List.getLast?_eq_getElem?]
      have : r.length - 1 = yi.length := by simp at hyl; omega
      rw [this]
      exact hq
    rw [this]
    exact hd
end Fp
/-! try, and what a suite asks of the error that it caught -/
namespace Fp
open PySem PySem.Spec PyProof.Rows L2
section
variable {X : Cx} {K : PySem.W.Frag} {σ : L2.St} {H H' : Hp} {Q : VK} {k j : Nat} {ps : List Str} {sp : Sp} {E : L2.St → XK} {x m n : Str} {p np pos pos' apos : Pos} {o e : Expr} {es : List Expr} {ta : TE} {t : TA} {C a : Addr} {c : Value} {i : Nat} {body suite : List Stmt} {b₀ : Stmt} {tb : WX → TS} {ts : Addr → Value → Option Addr → TS} {Wout : WX} {cls : Value} {d : Option Addr} {D : Ends}
/-- o.m(..) whose exceptions are wished for at the slots -/
def tMethUS (C : Addr) (m : Str) (sp : Sp) (E : L2.St → XK) (ta : TE) (t : TA) : TE := fun σ H Q => ta σ H fun x H1 => uMeth C m sp (E σ) t σ x H1 Q
theorem pe_methS {pl : Sem Bool} (G : MFn X.prog X.w X.K X.mg X.base k C m ps sp) (hr : Room j X.A) (c : Cls X.K C) (hx : ∀ σ, PassesAt (L2.CX X.prog X.w) X σ (E σ)) (he : PE X o ta) (ha : PA X (e :: es) t) (hk : k ≤ j := by decide)
    (hst : starEach (e :: es) X.env = (false, eval e X.env) :: starEach es X.env := by rfl) (hpl : (backTo pos (starEach es X.env)).any (·.1) = false := by rfl)
    (ht : eval (.Call (.Attribute o m apos) (e :: es) [] pos) X.env = (do
      let ov ← eval o X.env
      standAt apos.atName
      let (f, first) ← holding [ov] (getMethod ov m pl)
      callWith pos f first (backTo pos (starEach (e :: es) X.env)) (backToKw pos (keywordEach [] X.env))) := by rfl) :
    PE X (.Call (.Attribute o m apos) (e :: es) [] pos) (tMethUS C m sp E ta t) := by
  obtain ⟨f, fd, hm, hb, F⟩ := G.ex
  refine ⟨fun pins s σ H Q I h => ?_⟩
  refine PySem.W.methodCall_KW (pl := pl) (thn (he.run pins s σ H _ I h) fun u s1 ⟨x, H1, I1, rx, a, dx, fs, ex, ea, l, q⟩ => ?_) ht
  subst ex
  obtain rfl : u = Value.ref a := rx
  refine getmeth_ok I1 ea c hm l ?_
  refine PySem.W.callWith_K (first := [.ref a]) (h₀ := X.base) I.ok.mod.kin hm.kp (thn (ha.run pos pins s1 σ H1 _ I1 q) fun us s2 ⟨vs, H2, I2, r, q2⟩ => ⟨I2.kIn, ?_⟩) hst hpl
  exact run_fnS (us := .ref a :: us) (vs := .ref a :: vs) (F.mono hk) hr hb (hx σ) I2 (.cons rfl r) q2
theorem r_methS (q : ta σ H fun x H1 => uMeth C m sp (E σ) t σ x H1 Q) : tMethUS C m sp E ta t σ H Q := q
/-- try: .. except c as n: .. -/
def tTryAs (K : PySem.W.Frag) (c : Value) (i : Nat) (ts : Addr → Value → Option Addr → TS) (tb : WX → TS) : TS := fun D σ H => tb (wAs K c i ts (fun _ _ _ _ => False) D) D σ H
theorem ps_tryAs (hK : X.K = K) (hs : X.stack = X.env :: X.outer) (hf : X.env.frame = some X.env.locals) (hN : X.N.Nodup) (hi : X.N[i]? = some n) (hln : X.env.kindOf n = some .local) (hc : Names X x c)
    (hb : ∀ (W : WX) (pn : List (Addr × Obj)) (xe : Value → Shared → Prop), Takes (X.tr pn xe) W → PSs (X.tr pn xe) body (tb W))
    (hsu : ∀ (a : Addr) (oe : Obj) (cls : Value) (d : Option Addr) (pn : List (Addr × Obj)), Zc cls d oe → (∃ vs, oe.data = .fields vs) → PSs (X.suite a ((a, oe) :: pn)) (b₀ :: suite) (ts a cls d)) :
    PS X (.Try body [.ExceptHandler (some (.Name x np)) (some n) (b₀ :: suite) pos'] [] [] pos) (tTryAs K c i ts tb) := by
  subst hK
  exact L2.ps_try_as hs hf hN hi hln hc takes0 (fun W pn xe tk _ => hb W pn xe tk) hsu
theorem r_tryAs (q : tb (wAs K c i ts (fun _ _ _ _ => False) D) D σ H) : tTryAs K c i ts tb D σ H := q
theorem r_wAs {R : Addr} (e : PySem.W.exmOne K (.ref R) c = some true) (q : ∀ a, H a = none → ts a (.ref R) none { nx := fun σ' H' => D.nx (σ'.set i none) H', rt := D.rt, bk := fun σ' H' => D.bk (σ'.set i none) H', ct := fun σ' H' => D.ct (σ'.set i none) H' } (σ.set i (some (.ref a))) H) :
    WE (wAs K c i ts Wout D) σ (.ref R) none H := ⟨true, e, fun _ => q, fun z => by cases z⟩
/-- try: .. except c: .. -/
def tTryOnly (K : PySem.W.Frag) (c : Value) (ts : Addr → Value → Option Addr → TS) (tb : WX → TS) : TS := fun D σ H => tb (wOnly K c ts (fun _ _ _ _ => False) D) D σ H
theorem ps_tryOnly (hK : X.K = K) (hs : X.stack = X.env :: X.outer) (hf : X.env.frame = some X.env.locals) (hc : Names X x c)
    (hb : ∀ (W : WX) (pn : List (Addr × Obj)) (xe : Value → Shared → Prop), Takes (X.tr pn xe) W → PSs (X.tr pn xe) body (tb W))
    (hsu : ∀ (a : Addr) (oe : Obj) (cls : Value) (d : Option Addr) (pn : List (Addr × Obj)), Zc cls d oe → (∃ vs, oe.data = .fields vs) → PSs (X.suite a ((a, oe) :: pn)) (b₀ :: suite) (ts a cls d)) :
    PS X (.Try body [.ExceptHandler (some (.Name x np)) none (b₀ :: suite) pos'] [] [] pos) (tTryOnly K c ts tb) := by
  subst hK
  exact L2.ps_try_only hs hf hc takes0 (fun W pn xe tk _ => hb W pn xe tk) hsu
theorem r_tryOnly (q : tb (wOnly K c ts (fun _ _ _ _ => False) D) D σ H) : tTryOnly K c ts tb D σ H := q
theorem r_wOnly {R : Addr} (e : PySem.W.exmOne K (.ref R) c = some true) (q : ∀ a, H a = none → ts a (.ref R) none D σ H) :
    WE (wOnly K c ts Wout D) σ (.ref R) none H := ⟨true, e, fun _ => q, fun z => by cases z⟩
/-- isinstance(e, c), e the error that the suite holds at a -/
def uIsE (K : PySem.W.Frag) (cls : Value) (d : Option Addr) (a : Addr) : List V → Hp → VK → Prop := fun xs H Q => ∃ D, cls = .ref D ∧ d = none ∧ ExcC K D ∧ rIsE K D a xs H Q
theorem c_isE {oe : Obj} {pn : List (Addr × Obj)} (hz : Zc cls d oe) (hf : ∃ vs, oe.data = .fields vs) : CallR (X.suite a ((a, oe) :: pn)) (.builtin "isinstance") (uIsE X.K cls d a) := by
  intro pins s σ H xs us Q I r h
  obtain ⟨D, rfl, rfl, Cc, h⟩ := h
  exact L2.call_isE Cc hz hf pins s σ H xs us Q I r h
theorem c_isEK (K : PySem.W.Frag) {oe : Obj} {pn : List (Addr × Obj)} (hz : Zc cls d oe) (hf : ∃ vs, oe.data = .fields vs) (hK : X.K = K := by rfl) : CallR (X.suite a ((a, oe) :: pn)) (.builtin "isinstance") (uIsE K cls d a) := by
  subst hK
  exact c_isE hz hf
theorem r_isE {R T : Addr} {b : Bool} (Cc : ExcC K R) (e : PySem.W.kitOne K (.ref R) (.ref T) = some b) (q : Q (.bl b) H) : uIsE K (.ref R) none a [.ref a, .ref T] H Q :=
  ⟨R, rfl, rfl, Cc, .ref T, .ref T, b, rfl, fun _ r => r, e, q⟩
end
/-! ### of classes -/
theorem kit_true {K : PySem.W.Frag} {R T : Addr} (hd : PySem.W.hasDictIn K T = true) (ht : PySem.W.typeIn K (.ref T) = some (.type "type")) (h : PySem.W.subIn K (.ref R) (.ref T) = some true) : PySem.W.kitOne K (.ref R) (.ref T) = some true := by
  obtain ⟨cd, hc, _⟩ := PySem.W.any_some hd
  have e2 : ((PySem.W.clsIn K T).isSome && PySem.W.typeIn K (.ref T) == some (.type "type")) = true := by rw [hc, ht] <;> rfl
  unfold PySem.W.kitOne
  split
  · rfl
  · show (if ((PySem.W.clsIn K T).isSome && PySem.W.typeIn K (.ref T) == some (.type "type")) = true then PySem.W.subIn K (.ref R) (.ref T) else none) = some true
    rw [if_pos e2]
    exact h
theorem kit_false {K : PySem.W.Frag} {R T : Addr} (hd : PySem.W.hasDictIn K T = true) (ht : PySem.W.typeIn K (.ref T) = some (.type "type")) (hs : PySem.W.subIn K (.ref R) (.ref R) = some true) (h : PySem.W.subIn K (.ref R) (.ref T) = some false) : PySem.W.kitOne K (.ref R) (.ref T) = some false := by
  obtain ⟨cd, hc, _⟩ := PySem.W.any_some hd
  have e2 : ((PySem.W.clsIn K T).isSome && PySem.W.typeIn K (.ref T) == some (.type "type")) = true := by rw [hc, ht] <;> rfl
  have ne : ¬ ((Value.ref R == Value.ref T) = true) := fun z => by
    have e : R = T := Value.ref.inj (beq_iff_eq.mp z)
    subst e
    rw [hs] at h
    cases h
  unfold PySem.W.kitOne
  rw [if_neg ne]
  show (if ((PySem.W.clsIn K T).isSome && PySem.W.typeIn K (.ref T) == some (.type "type")) = true then PySem.W.subIn K (.ref R) (.ref T) else none) = some false
  rw [if_pos e2]
  exact h
/-! ### sorted(d), d by numbers, any number of them -/
def uSortedDW : List V → Hp → VK → Prop := fun xs H Q => ∃ (a : Addr) (kvs : List (Key × V)) (ks : List Int), xs = [.ref a] ∧ Rd H a (.dK kvs) ∧ kvs.map (·.1) = ks.map Sum.inl ∧ ks.length ≤ 100000 ∧
    ∀ (ys : List Int) (p : Addr), ys.Perm ks → ys.Pairwise (· ≤ ·) → H p = none → Q (.ref p) (upd H p (.lst (ys.map V.int)))
theorem c_sortedDW {X : Cx} (hcalm : X.calm = true) : CallR X (.builtin "sorted") uSortedDW := by
  intro pins s σ H xs us Q I r q
  obtain ⟨a, kvs, ks, ex, hd, hks, h64, q⟩ := q
  subst ex
  obtain ⟨u, eu, rx⟩ := vals1 r
  subst eu
  cases rx
  obtain ⟨z, lo, vs, rel, dd⟩ := dk_rd I.hok hd
  obtain ⟨ep, hat⟩ := dd.dictAt
  have hkeys : vs.map (·.1) = ks.map Sum.inl := rel.keys.symm.trans hks
  have hl : vs.length = ks.length := by
    have e := congrArg List.length hkeys
    rw [List.length_map, List.length_map] at e
    exact e
  have h16 : vs.length ≤ sizeLine := by rw [hl, sizeLine_eq]; omega
  refine Calls.call_function_entry PyProof.Rows.kind_sorted PyProof.Rows.plain_sorted PyProof.Rows.entry_sorted (PyProof.Rows.args_sorted1 _) ?_
  unfold Builtin.«sorted»
  refine wpAny_bind (m := checkCount "sorted" 1 1 _) (wpAny_pure ?_)
  refine wpAny_bind (PySem.W.kdu_collect (A := X.A.in1) (PySem.W.kdl_dict (knd := mixKind X.prog X.w) (kvs := vs) (ep := ep) lo) (I.ok.hd hcalm) hat h16 fun h' tk acc hk hacc => ?_)
  have hal : acc.toList.length = ks.length := by rw [Array.length_toList, hacc.1, hl]
  have hS : IntsAre acc.toList ks := ints_each hal fun j v e => by
    obtain ⟨k, x, e1, e2⟩ := hacc.2 j v (by rw [← Array.getElem?_toList]; exact e)
    have e3 : (vs.map (·.1))[j]? = some k := by rw [List.getElem?_map, e1]; rfl
    rw [hkeys, List.getElem?_map] at e3
    cases e4 : ks[j]? with
    | none => rw [e4] at e3; cases e3
    | some y =>
      rw [e4] at e3
      have e5 : Sum.inl y = k := Option.some.inj e3
      subst e5
      rcases keyIs_shape (show keyIs (Sum.inl y) v = true from e2) with ⟨i, t, ek, ev⟩ | ⟨z, t, ek, ev⟩
      · cases ek
        exact ⟨y, t, rfl, ev⟩
      · cases ek
  have I1 : Inv X pins σ H { s with heap := h', toks := tk } := I.kept hk
  have hz : acc.toList.length ≤ sizeLine := by rw [hal, sizeLine_eq]; omega
  refine wpAny_bind (wpAny_newList ?_ hz)
  have hoL : (h'.push (seqObj "list" acc.toList.toArray 0)).get? h'.objs.size = some (seqObj "list" acc.toList.toArray 0) := Heap.get?_push_size _ rfl
  show wpAny _ _ _ _ _ { s with heap := h'.push (seqObj "list" acc.toList.toArray 0), toks := tk }
  refine wpAny_bind (wpAny_holding (wpAny_call_entry PyProof.Rows.slot_list_sort ⟨_, hoL, rfl⟩ PyProof.Rows.entry_list_sort
    (SrtO.list_sort_ord (s := { s with heap := h'.push (seqObj "list" acc.toList.toArray 0), toks := tk }) SrtO.swo_int hoL hz (fun h2 => SrtO.ints_sortable hS h2) fun out o1 o2 => ⟨_, rfl, ?_⟩) (PyProof.Rows.args_list_sort _)))
  obtain ⟨k1, k2, k3⟩ := SrtO.ints_out hS o1 o2
  obtain ⟨e', he'⟩ := PyProof.Rows.sortedHeap_at (vs := acc.toList) (out := out.toArray) hoL
  have hlen : ((out.map SrtO.iv).map V.int).length ≤ sizeLine := by
    rw [List.length_map, k2.length_eq, sizeLine_eq]
    omega
  refine wpAny_pure ⟨_, rfl, .ref h'.objs.size, upd H h'.objs.size (.lst ((out.map SrtO.iv).map V.int)), I1.laid (t' := tk) (fun b u e => ?_) (Nat.le_refl _)
    (show ObjOk X.prog X.w _ _ _ (.lst ((out.map SrtO.iv).map V.int)) from ⟨hlen, out, e', vals_of_ints k1, he'⟩), rfl, q _ _ k2 k3 (I1.hok.fresh (Nat.le_refl _))⟩
  have hb : b < h'.objs.size := Heap.lt_size e
  rw [PyProof.Rows.sortedHeap_old (Nat.ne_of_lt hb) (by rw [size_push']; exact Nat.lt_succ_of_lt hb)]
  exact Heap.get?_push_of_some _ e
theorem r_sortedDW {H : Hp} {Q : VK} {a : Addr} {m : Prs} (hd : H a = some (.dK (m.map inj))) (hl : m.length ≤ 100000) (q : ∀ (ys : List Int) p H', ys.Perm (m.map (·.1)) → ys.Pairwise (· ≤ ·) → H p = none → Same H H' → H' p = some (.lst (ys.map V.int)) → Q (.ref p) H') : uSortedDW [.ref a] H Q :=
  ⟨a, m.map inj, m.map (·.1), rfl, .inl hd, by rw [List.map_map, List.map_map]; rfl, by simpa using hl, fun ys p h1 h2 h3 => q ys p _ h1 h2 h3 (Keep.same (Keep.new h3)) upd_same⟩
/-! ### d == {} -/
section
variable {X : Cx} {H : Hp} {Q : VK} {a b : Addr}
def uEqNoD : R2 := fun x y H Q => ∃ (a b : Addr) (kvs : List (Key × V)), x = .ref a ∧ y = .ref b ∧ H a = some (.dK kvs) ∧ H b = some (.dK []) ∧ Q (.bl (decide (kvs = []))) H
theorem o_eqNoD (hu : X.A.units + 64 < cLine) : OpR X (compareOp .Eq) uEqNoD := by
  intro pins s σ H x y v u Q I rx ry h
  obtain ⟨a, b, kvs, rfl, rfl, ha, hb, q⟩ := h
  obtain rfl : v = Value.ref a := rx
  obtain rfl : u = Value.ref b := ry
  obtain ⟨_, ya, va, ra, da⟩ := (show ObjOk X.prog X.w H s.heap a (.dK kvs) from I.hok a _ ha)
  obtain ⟨_, yb, vb, rb, db⟩ := (show ObjOk X.prog X.w H s.heap b (.dK []) from I.hok b _ hb)
  cases rb
  cases kvs with
  | nil =>
    cases ra
    exact PySem.W.rcP_dicts (knd := mixKind X.prog X.w) (r := true) ya yb da db (by omega) (fun _ => .nil) _ _ ⟨.bl true, H, I, rfl, q⟩
  | cons x r =>
    have hl := ra.length
    refine PySem.W.rcP_dicts (knd := mixKind X.prog X.w) (r := true) ya yb da db (by omega) (fun z => ?_) _ _ ⟨.bl false, H, I, ?_, q⟩
    · rw [← hl] at z
      simp at z
    · rw [← hl]
      rfl
theorem r_eqNoD {m : Prs} (ha : H a = some (.dK (m.map inj))) (hb : H b = some (.dK [])) (q : Q (.bl (decide (m = []))) H) : uEqNoD (.ref a) (.ref b) H Q := by
  refine ⟨a, b, _, rfl, rfl, ha, hb, ?_⟩
  have e : decide (m.map inj = []) = decide (m = []) := by cases m <;> rfl
  rw [e]
  exact q
end
/-! ### a comprehension, one object p being changed in each turn, the turns counted -/
section
variable {K : PySem.W.Frag} {σ : L2.St} {H H' : Hp} {Q : VK} {te : TE} {tt : TT} {g : TG} {vs : List Nat} {J : It} {src : Hp → Prop} {item : Nat → Hp → V → Hp → Prop} {a : Addr}
theorem lc_genKi {α : Type} {p : Addr} (I : Nat → Hp → Prop) (h0 : I 0 H) (hne : ∀ D, H D = none → D ≠ p) (hU : ∀ i H1 D ys, H D = none → I i H1 → (H1 D = none ∨ ∃ l, H1 D = some (.lst l)) → I i (upd H1 D (.lst ys))) (hT : ∀ i H1 H2, I i H1 → Keep (At p) H1 H2 → TExt H1 H2)
    (as : List α) (It1 : α → V → Hp → Prop) (w : Wk J as.length src item) (hit : ∀ i H x H', i < as.length → item i H x H' → ∃ c, as[i]? = some c ∧ H' = H ∧ It1 c x H') (hsrc : ∀ H', Keep (At p) H H' → (∃ i, I i H') → src H')
    (hn : as.length ≤ 16777216) (R : Hp → α → V → Prop) (hR : ∀ H H' c y, TExt H H' → R H c y → R H' c y)
    (hs : ∀ j c x H2 (S : VK) (N : Hp → Prop), as[j]? = some c → Keep (At p) H H2 → I j H2 → It1 c x H2 → (∀ y H3, Keep (At p) H2 H3 → I (j + 1) H3 → R H3 c y → S y H3) →
      g x (wipe σ vs) H2 fun σ2 H3 => wipe σ2 vs = wipe σ vs ∧ tYes σ2 H3 fun b H4 => if b = true then te σ2 H4 S else N H4)
    (q : ∀ D H' ys, H D = none → Keep (At p) H H' → I as.length H' → H' D = some (.lst ys) → Paired (R H') as ys → Q (.ref D) H') : LcW J g tYes te vs σ H Q := by
  refine lc_wk w (fun D i H' => H D = none ∧ Keep (At p) H H' ∧ I i H' ∧ ∃ ys, H' D = some (.lst ys) ∧ Paired (R H') (as.take i) ys) (fun D hD => ⟨hD, fun b o e _ => by rw [upd_ne (ne_of_none e hD)]; exact e, hU _ _ _ _ hD h0 (.inl hD), [], by simp [upd_same], by simpa using Paired.nil⟩)
    (fun D i H' _ p => hsrc H' p.2.1 ⟨_, p.2.2.1⟩) ?_ (fun D H' hD p => by obtain ⟨p1, p2, p3, ys, p4, p5⟩ := p; rw [List.take_length] at p5; exact q D H' ys hD p2 p3 p4 p5)
  rintro D i x H2 H' hD hi ⟨p1, p2, p3, ys, p4, p5⟩ hx
  obtain ⟨c, hc, rfl, hI⟩ := hit i H2 x H' hi hx
  refine hs i c x H' _ _ hc p2 p3 hI (fun y H3 k3 i3 r3 => ⟨ys, k3 _ _ p4 (hne D hD), by rw [sizeLine_eq, ← p5.length, List.length_take]; omega, hD, ?_, hU _ _ _ _ hD i3 (.inr ⟨ys, k3 _ _ p4 (hne D hD)⟩), ys ++ [y], upd_same, ?_⟩)
  · exact (p2.trans k3).free hD
  · have e3 := k3 _ _ p4 (hne D hD)
    have t3 := hT _ _ _ p3 k3
    have t4 : TExt H3 (upd H3 D (.lst (ys ++ [y]))) := TExt.lst Keep.at_ e3
    rw [take_snoc hc]
    exact (Paired.mapP p5 fun u z r => hR _ _ _ _ (t3.trans t4) r).snoc (hR _ _ _ _ t4 r3)
end
/-! ### isinstance of the caught error: a built-in class, a tuple of classes -/
section
variable {X : Cx} {K : PySem.W.Frag} {H : Hp} {Q : VK} {a : Addr} {cls : Value} {d : Option Addr}
/-- isinstance(e, T), T a built-in class -/
theorem r_isET {R : Addr} {T : String} {b : Bool} (Cc : ExcC K R) (e : PySem.W.kitOne K (.ref R) (.type T) = some b) (q : Q (.bl b) H) : uIsE K (.ref R) none a [.ref a, .ty T] H Q :=
  ⟨R, rfl, rfl, Cc, .ty T, .type T, b, rfl, fun _ r => r, e, q⟩
/-- isinstance(e, (c1, c2, ..)) -/
def uIsEA (K : PySem.W.Frag) (cls : Value) (d : Option Addr) (a : Addr) : List V → Hp → VK → Prop := fun xs H Q => ∃ (D tp : Addr) (cs : List V) (us : List Value) (b : Bool), cls = .ref D ∧ d = none ∧ ExcC K D ∧ xs = [.ref a, .ref tp] ∧ H tp = some (.tup cs) ∧ Paired ClsV cs us ∧ PySem.W.kitAny K (.ref D) us = some b ∧ Q (.bl b) H
theorem c_isEA {oe : Obj} {pn : List (Addr × Obj)} (hz : Zc cls d oe) (hf : ∃ vs, oe.data = .fields vs) : CallR (X.suite a ((a, oe) :: pn)) (.builtin "isinstance") (uIsEA X.K cls d a) := by
  intro pins s σ H xs us Q I r h
  obtain ⟨D, tp, cs, ws, b, rfl, rfl, C, rfl, hT, k, e, q⟩ := h
  obtain ⟨u1, u2, rfl, r1, r2⟩ := vals2 r
  cases (show u1 = Value.ref a from r1)
  cases (show u2 = Value.ref tp from r2)
  obtain ⟨hget, _⟩ := I.pin (a, oe) (List.mem_append.mpr (.inl List.mem_cons_self))
  obtain ⟨vs, hv⟩ := hf
  have J : PySem.W.InstAt s.heap a oe D none := by
    obtain ⟨oc, od, oda, osl⟩ := oe
    obtain ⟨h1, h2⟩ := hz
    dsimp only at h1 h2 hv
    subst h1 h2 hv
    exact ⟨hget, rfl, rfl, trivial⟩
  obtain ⟨_, its, rv, o, h1, h2, n, h3⟩ := (show ObjOk X.prog X.w H s.heap tp (.tup cs) from I.hok tp _ hT)
  have e3 := ClsV.all k rv
  subst e3
  obtain ⟨oc, od, dt, sl⟩ := o
  simp only at h2 h3
  subst h2 h3
  exact PySem.W.kia_tup (PySem.W.handS_kitx_exc C.hg C.hk C.hs C.hd C.ha C.hn C.ht C.hm) I.kIn J h1 e (fun z => nomatch z) fun tk => ⟨.bl b, H, I.kept (t' := tk) fun _ _ z => z, rfl, q⟩
theorem c_isEAK (K : PySem.W.Frag) {oe : Obj} {pn : List (Addr × Obj)} (hz : Zc cls d oe) (hf : ∃ vs, oe.data = .fields vs) (hK : X.K = K := by rfl) : CallR (X.suite a ((a, oe) :: pn)) (.builtin "isinstance") (uIsEA K cls d a) := by
  subst hK
  exact c_isEA hz hf
/-- of classes none of which the error is of -/
inductive NoneOf (K : PySem.W.Frag) (R : Addr) : List Addr → Prop where
  | nil : NoneOf K R []
  | cons {T : Addr} {Ts : List Addr} : PySem.W.kitOne K (.ref R) (.ref T) = some false → NoneOf K R Ts → NoneOf K R (T :: Ts)
theorem NoneOf.any {R : Addr} : ∀ {Ts : List Addr}, NoneOf K R Ts → PySem.W.kitAny K (.ref R) (Ts.map Value.ref) = some false
  | _, .nil => rfl
  | _, .cons h t => kitAny_cons h (fun _ => t.any) (fun z => by cases z)
theorem clsV_refs : ∀ Ts : List Addr, Paired ClsV (Ts.map V.ref) (Ts.map Value.ref)
  | [] => .nil
  | T :: Ts => .cons (.own T) (clsV_refs Ts)
theorem r_isEA {R tp : Addr} {Ts : List Addr} (Cc : ExcC K R) (h : H tp = some (.tup (Ts.map V.ref))) (n : NoneOf K R Ts) (q : Q (.bl false) H) : uIsEA K (.ref R) none a [.ref a, .ref tp] H Q :=
  ⟨R, tp, _, _, false, rfl, rfl, Cc, rfl, h, clsV_refs Ts, n.any, q⟩
end
/-! rules whose K is told (a suite's context hides it) -/
theorem o_eqK {X : Cx} (K : PySem.W.Frag) (hu : X.A.units + 64 < cLine) (hK : X.K = K := by rfl) : OpR X (compareOp .Eq) (uEq K) := hK ▸ o_eq hu
theorem o_neK {X : Cx} (K : PySem.W.Frag) (hu : X.A.units + 64 < cLine) (hK : X.K = K := by rfl) : OpR X (compareOp .NotEq) (uNe K) := hK ▸ o_ne hu
theorem o_inSeq {X : Cx} (K : PySem.W.Frag) (hK : X.K = K := by rfl) : OpR X (compareOp .In) (rIn K false) := hK ▸ op_in_seq
/-! C(..) within a try -/
section
variable {X : Cx} {σ : L2.St} {H : Hp} {Q : VK} {k j : Nat} {ps : List Str} {sp : Sp} {E : L2.St → XK} {x : Str} {p pos : Pos} {e : Expr} {es : List Expr} {t : TA} {C : Addr}
def tMakeUS (C : Addr) (sp : Sp) (E : L2.St → XK) (t : TA) : TE := fun σ H Q => t σ H fun vs H1 => uMake C sp [] (E σ) vs H1 Q
theorem r_makeS (q : t σ H fun vs H1 => uMake C sp [] (E σ) vs H1 Q) : tMakeUS C sp E t σ H Q := q
theorem pe_makeS (G : PFn X.prog X.w X.K X.mg X.base k C ps sp) (T : ClT X.K X.mg x C) (hr : Room (j + 1) X.A) (hx : ∀ σ, PassesAt (L2.CX X.prog X.w) X σ (E σ)) (ha : PA X (e :: es) t) (hk : k ≤ j := by decide) (hg : Gl X x := by rfl)
    (hdb : (x == ("__debug__" : Str)) = false := by decide) (he : starEach (e :: es) X.env = (false, eval e X.env) :: starEach es X.env := by rfl) (hpl : (backTo pos (starEach es X.env)).any (·.1) = false := by rfl) :
    PE X (.Call (.Name x p) (e :: es) [] pos) (tMakeUS C sp E t) := by
  obtain ⟨f, fd, M, hb, F0⟩ := G.ex
  have F := F0.mono hk
  refine ⟨fun pins s σ H Q I h => ?_⟩
  refine wpAny_Call_Name_kw (ld_glob I hg T.g ?_ hdb)
  refine PySem.W.callWith_K (h₀ := X.base) I.ok.mod.kin M.kp (thn (ha.run pos pins s σ H _ I h) fun us s1 ⟨vs, H1, I1, r, q⟩ => ⟨I1.kIn, ?_⟩) he hpl
  -- the instance is made, then __init__ runs on it
  have hq := q (s1.heap.objs.size + 1) s1.heap.objs.size (I1.hok.fresh (Nat.le_succ _)) (I1.hok.fresh (Nat.le_refl _)) (Nat.ne_of_lt (Nat.lt_succ_self _))
  rw [List.append_nil] at hq
  have I2 := Inv.made (C := C) I1
  have r2 : Vals (V.ref (s1.heap.objs.size + 1) :: vs) (Value.ref (s1.heap.objs.size + 1) :: us) := .cons rfl r
  have hl : (Value.ref (s1.heap.objs.size + 1) :: us).length = ps.length := by
    rw [← r2.length, F.len _ _ _ _ hq]
  have bnd := hb _ (Value.ref (s1.heap.objs.size + 1) :: us) I2.kIn (by simpa using hl)
  rw [List.append_nil] at bnd
  refine wpAny_call (make_map (f := f) I1.kIn M.makes M.init (beq_iff_eq.mp M.fn) (codeAny_mono (F.run _ X.stack _ _ ⟨Value.ref (s1.heap.objs.size + 1) :: us, []⟩ (Value.ref (s1.heap.objs.size + 1) :: us) _ _ (E σ) (hr.make C us [])
    (I2.env0.make C us []) bnd r2 hq) fun r s' hq' => ?_))
  cases r with
  | error e => exact hx σ pins _ _ e s' I2 hq'
  | ok fl =>
    cases fl with
    | ret u =>
      obtain ⟨v, H', I3, rv, ev, q3⟩ := I2.after hq'
      subst ev
      exact ⟨rv, ⟨V.ref (s1.heap.objs.size + 1), H', I3, rfl, q3⟩⟩
    | next => exact False.elim hq'
    | brk => exact False.elim hq'
    | cont => exact False.elim hq'
end
end Fp
/-! tuples without a dict of their own; dict(a tuple of pairs) -/
namespace Fp
open PySem PySem.Spec PyProof.Rows L2
/-- a tuple that is known to have no dict of its own -/
def BareT (H : Hp) (a : Addr) (xs : List V) : Prop := ∃ o, H a = some (.frz o (.tup xs)) ∧ o.dict = none
theorem BareT.sqt {K : PySem.W.Frag} {H : Hp} {a : Addr} {xs : List V} (h : BareT H a xs) : SqT K H a xs := by
  obtain ⟨o, e, _⟩ := h
  exact .inl (.inr ⟨o, e⟩)
theorem BareT.text {H H' : Hp} {a : Addr} {xs : List V} (h : BareT H a xs) (t : TExt H H') : BareT H' a xs := by
  obtain ⟨o, e, d⟩ := h
  exact ⟨o, t.f _ _ _ e, d⟩
theorem BareT.same {H H' : Hp} {a : Addr} {xs : List V} (h : BareT H a xs) (s : Same H H') : BareT H' a xs := h.text (TExt.of_same s)
def uNewB (xs : List V) (H : Hp) (Q : VK) : Prop := xs.length ≤ sizeLine ∧ ∀ p o, H p = none → o.dict = none → Q (.ref p) (upd H p (.frz o (.tup xs)))
theorem r_newB {xs : List V} {H : Hp} {Q : VK} (hn : xs.length ≤ sizeLine) (q : ∀ p H', H p = none → Same H H' → BareT H' p xs → Q (.ref p) H') : uNewB xs H Q :=
  ⟨hn, fun p o hp ho => q p _ hp (Keep.same (Keep.new hp)) ⟨o, upd_same, ho⟩⟩
def tTupB (t : TA) : TE := fun σ H Q => t σ H fun xs H1 => uNewB xs H1 Q
section
variable {X : Cx} {es : List Expr} {t : TA} {pos : Pos} {σ : St} {H : Hp} {Q : VK}
theorem pe_tupB {x1} (h : PA X es t) : PE X (.Tuple es x1 pos) (tTupB t) := by
  refine ⟨fun pins s σ H Q I hq => ?_⟩
  refine wpAny_Tuple_spliced (thn (h.run pos pins s σ H _ I hq) fun us s1 ⟨xs, H1, I1, r, z, q⟩ => ⟨by rw [← r.length]; exact z, ?_⟩)
  have hf : H1 s1.heap.objs.size = none := I1.hok.fresh (Nat.le_refl _)
  refine ⟨.ref s1.heap.objs.size, upd H1 s1.heap.objs.size (.frz { cls := .type "tuple", data := .seq us.toArray } (.tup xs)), I1.laid (t' := s1.toks) (fun b u e => Heap.get?_push_of_some _ e) (Nat.le_refl _) ?_, rfl, q _ _ hf rfl⟩
  exact ⟨Heap.get?_push_size _ rfl, z, us, r, ⟨_, Heap.get?_push_size _ rfl, rfl, _, rfl⟩⟩
theorem r_tupB (q : t σ H fun xs H1 => uNewB xs H1 Q) : tTupB t σ H Q := q
/-- a + b of tuples, b not empty -/
def rCatB (K : PySem.W.Frag) : V → V → Hp → VK → Prop := fun x y H Q => ∃ a b xs ys, x = .ref a ∧ y = .ref b ∧ SqT K H a xs ∧ SqT K H b ys ∧ ys ≠ [] ∧ xs.length + ys.length ≤ sizeLine ∧ (xs = [] → Q (.ref b) H) ∧ (xs ≠ [] → uNewB (xs ++ ys) H Q)
theorem op_catB : OpR X (binaryOp .Add) (rCatB X.K) := by
  intro pins s σ H x y v u Q I rx ry h
  obtain ⟨a, b, xs, ys, rfl, rfl, ha, hb, hy, hz, q1, q2⟩ := h
  cases rx
  cases ry
  obtain ⟨its, r1, p1, _⟩ := I.tuple ha
  obtain ⟨its2, r2, p2, _⟩ := I.tuple hb
  by_cases hx : xs = []
  · subst hx
    cases r1
    exact cat_tup0 p1 p2 ⟨.ref b, H, I, rfl, q1 rfl⟩
  · refine HT.cat_tup p1 p2 (fun z => hx (r1.nil_iff.mp z)) (fun z => absurd (r2.nil_iff.mp z) hy) (fun z => ?_) (by rw [← r1.length, ← r2.length]; exact hz)
    refine ⟨.ref s.heap.objs.size, upd H s.heap.objs.size (.frz { cls := .type "tuple", data := .seq (its ++ its2).toArray } (.tup (xs ++ ys))), I.laid (t' := s.toks) (fun b ob q => Heap.get?_push_of_some _ q) (Nat.le_refl _) ?_, rfl, (q2 hx).2 _ _ (I.hok.fresh (Nat.le_refl _)) rfl⟩
    exact ⟨Heap.get?_push_size _ rfl, by rw [List.length_append]; exact hz, _, r1.append r2, IsTup.new _ _⟩
theorem r_catB {K : PySem.W.Frag} {a b : Addr} {xs ys : List V} (ha : SqT K H a xs) (hb : BareT H b ys) (hy : ys ≠ []) (hz : xs.length + ys.length ≤ 16777216) (q : ∀ p H', Same H H' → BareT H' p (xs ++ ys) → Q (.ref p) H') : rCatB K (.ref a) (.ref b) H Q := by
  refine ⟨a, b, xs, ys, rfl, rfl, ha, hb.sqt, hy, sz_le hz, fun h => ?_, fun _ => r_newB (sz_le (by rw [List.length_append]; exact hz)) fun p H' _ s e => q p H' s e⟩
  subst h
  exact q b H (Same.refl _) hb
theorem log2_b {i : Int} {n : Nat} (h : i.natAbs < 2 ^ n) (hn : n ≤ 1920 := by decide) : i.natAbs.log2 < 1920 := by
  by_cases z : i.natAbs = 0
  · rw [z]; decide
  · exact Nat.lt_of_lt_of_le ((Nat.log2_lt z).mpr h) hn
/-- tuple(a list) -/
def uTupleB (K : PySem.W.Frag) : List V → Hp → VK → Prop := fun xs H Q => ∃ p ys, xs = [.ref p] ∧ SqL K H p ys ∧ ∀ l o, H l = none → o.dict = none → Q (.ref l) (upd H l (.frz o (.tup ys)))
theorem c_tupleB : CallR X (.type "tuple") (uTupleB X.K) := by
  intro pins s σ H xs us Q I r h
  obtain ⟨p, ys, rfl, hq, q⟩ := h
  obtain ⟨u, rfl, rx⟩ := vals1 r
  cases rx
  obtain ⟨its, r', pl, hz⟩ := I.list hq
  have hlen := r'.length
  refine call_tuple_list pl.isList (fun h' kp => ?_) (by simp only [List.size_toArray] <;> omega)
  have I1 : Inv X pins σ H { s with heap := h' } := I.kept (t' := s.toks) kp
  exact ⟨.ref h'.objs.size, _, I1.laid (t' := s.toks) (fun b o e => Heap.get?_push_of_some _ e) (Nat.le_refl _) (show ObjOk X.prog X.w _ _ _ (.frz _ (.tup ys)) from ⟨Heap.get?_push_size _ rfl, hz, its, r', IsTup.new _ _⟩), rfl, q _ _ (I1.hok.fresh (Nat.le_refl _)) (by rfl)⟩
theorem r_tupleB {K : PySem.W.Frag} {p : Addr} {ys : List V} (h : SqL K H p ys) (q : ∀ l H', H l = none → Same H H' → BareT H' l ys → Q (.ref l) H') : uTupleB K [.ref p] H Q :=
  ⟨p, ys, rfl, h, fun l o hl ho => q l _ hl (Keep.same (Keep.new hl)) ⟨o, upd_same, ho⟩⟩
theorem pairs_of2 {pins : List (Addr × Obj)} {s : Shared} (I : Inv X pins σ H s) : ∀ {ps : List Addr} {kvs : List (Key × V)}, Paired (fun p kv => SqT X.K H p [kV kv.1, kv.2]) ps kvs →
    ∃ (prs : List (Key × Value)) (us : List (Value × Value)), KV kvs prs ∧ prs.length = ps.length ∧ us.length = ps.length ∧ ∀ (j : Nat) (k v : Value), us[j]? = some (k, v) → ∃ (b : Addr) (key : Key), ps[j]? = some b ∧ prs[j]? = some (key, v) ∧ IsTup s.heap b #[k, v] ∧ keyIs key k = true
  | _, _, .nil => ⟨[], [], .nil, rfl, rfl, fun j k v e => by simp at e⟩
  | _, _, .cons (a := p) (b := kv) h t => by
    obtain ⟨prs, us, r, hl, hl2, hp⟩ := pairs_of2 I t
    obtain ⟨its, rv, ht, _⟩ := I.tuple h
    obtain ⟨u, y, ei, ru, ry⟩ := vals2 rv
    subst ei
    refine ⟨(kv.1, y) :: prs, (u, y) :: us, .cons ⟨rfl, ry⟩ r, by simp [hl], by simp [hl2], fun j k v e => ?_⟩
    cases j with
    | zero =>
      have e' : (u, y) = (k, v) := Option.some.inj e
      cases e'
      exact ⟨p, kv.1, rfl, rfl, ht, kV_is (P := X.prog) (w := X.w) ru⟩
    | succ j =>
      obtain ⟨b, key, e1, e2, e3, e4⟩ := hp j k v (by simpa using e)
      exact ⟨b, key, by simpa using e1, by simpa using e2, e3, e4⟩
def uDictB (K : PySem.W.Frag) : List V → Hp → VK → Prop := fun xs H Q => ∃ (a : Addr) (ps : List Addr) (kvs : List (Key × V)), xs = [.ref a] ∧ BareT H a (ps.map V.ref) ∧ Paired (fun p kv => SqT K H p [kV kv.1, kv.2]) ps kvs ∧ ∀ p, H p = none → Q (.ref p) (upd H p (.dK (mergeK [] kvs)))
theorem c_dictB (hcalm : X.calm = true) : CallR X (.type "dict") (uDictB X.K) := by
  intro pins s σ H xs us Q I r q
  obtain ⟨a, ps, kvs, ex, ⟨o, ho, hod⟩, hp, q⟩ := q
  subst ex
  obtain ⟨u, eu, rx⟩ := vals1 r
  subst eu
  cases rx
  obtain ⟨hg, hz, its, rv, o', ho', hc, n, hd⟩ := I.hok _ _ ho
  rw [hg] at ho'
  cases ho'
  have ei := refs_at rv
  subst ei
  rw [List.length_map] at hz
  obtain ⟨prs, us, rel, hl, hl2, hpr⟩ := pairs_of2 I hp
  have hm : (s.heap.objs.size == sysModules) = false := beq_eq_false_iff_ne.mpr (Nat.ne_of_gt I.big)
  have hlen : (mergeK [] kvs).length ≤ sizeLine := by
    refine Nat.le_trans (length_mergeK kvs []) ?_
    rw [List.length_nil, Nat.zero_add, rel.length, hl]
    exact hz
  refine PySem.call_dict_pairs (knd := mixKind X.prog X.w) (kvs := prs) (PairArg.tuple a (ps.map Value.ref).toArray (fun j => ps.getD j 0) us) (I.ok.hd hcalm) ⟨⟨o, n, hg, hc, hod, hd⟩, by simp [hl2], fun j k v e => ?_⟩ ⟨by rw [hl, hl2], fun i key v e => ?_⟩ (by rw [hl2]; exact hz) fun h' tk hd' k => ?_
  · obtain ⟨b, ky, e1, e2, e3, e4⟩ := hpr j k v e
    have hb : ps.getD j 0 = b := by rw [List.getD_eq_getElem?_getD, e1]; rfl
    show (ps.map Value.ref).toArray[j]? = some (Value.ref (ps.getD j 0)) ∧ PairAt s.heap (ps.getD j 0) k v
    rw [hb]
    exact ⟨by simp [e1], .inl e3⟩
  · obtain ⟨b, ky, e1, e2, e3, e4⟩ := hpr i key v e
    exact ⟨ky, e2, e4⟩
  · exact ⟨.ref s.heap.objs.size, upd H s.heap.objs.size (.dK (mergeK [] kvs)), I.laid (t' := tk) (fun b o e => k b o (by simp) e) (Nat.le_refl _) (show ObjOk X.prog X.w _ _ _ (.dK (mergeK [] kvs)) from ⟨hlen, hm, merged [] prs, KV.merge rel .nil, hd'⟩), rfl, q _ (I.hok.fresh (Nat.le_refl _))⟩
theorem r_dictB {K : PySem.W.Frag} {a : Addr} {l : Prs} {ws : List V} (h : BareT H a ws) (hd : DpAll K H ws (l.map pairP)) (q : ∀ p H', H p = none → Same H H' → H' p = some (.dK ((mergeP [] l).map inj)) → Q (.ref p) H') : uDictB K [.ref a] H Q := by
  obtain ⟨ps, rfl, hp⟩ := dp_pairs hd
  refine ⟨a, ps, l.map inj, rfl, h, hp, fun p hn => q p _ hn (Keep.same (Keep.new hn)) ?_⟩
  rw [upd_same]
  congr 2
  exact merge_inj l []
end
end Fp
/-! texts of numbers, of curves -/
namespace Fp
open PySem PySem.Spec PyProof.Rows L2
open TL (tl tl_append mk_tl tl_mk numL numL_digits numL_ne numL_free numL_val numL_len numL_step numL_lt tl_num spl spl_part1 spl_last1 tl_ofString map_tl_inj split_spl kind_ok)
def numT (i : Int) : List Nat := if i < 0 then 45 :: numL i.natAbs else numL i.natAbs
def numS (i : Int) : Str := ⟨(numT i).toArray⟩
theorem tl_numS (i : Int) : tl (numS i) = numT i := tl_mk _
theorem tl_str_int (i : Int) : tl (Str.ofString (toString i)) = numT i := by
  cases i with
  | ofNat n =>
    show tl (Str.ofString (toString ((n : Nat) : Int))) = numT ((n : Nat) : Int)
    rw [tl_num]
    unfold numT
    rw [if_neg (by omega)]
    simp
  | negSucc n =>
    have h : toString (Int.negSucc n) = "-" ++ toString (((n + 1 : Nat) : Int)) := rfl
    rw [h, tl_ofString, String.toList_append, List.map_append, ← tl_ofString, ← tl_ofString, tl_num]
    unfold numT
    rw [if_pos (by omega), show tl (Str.ofString "-") = [45] by decide +kernel]
    rfl
theorem str_int (i : Int) : Str.ofString (toString i) = numS i := tl_inj (by rw [tl_str_int, tl_numS])
theorem numT_free {i : Int} {s : Nat} (h0 : s ≠ 45) (h : s < 48 ∨ 57 < s) : s ∉ numT i := by
  unfold numT
  split
  · intro z
    rcases List.mem_cons.mp z with z | z
    · exact h0 z
    · exact numL_free h z
  · exact numL_free h
theorem pow10_nat (k : Nat) : ((10 ^ k : Nat) : Int) = (10 : Int) ^ k := by exact_mod_cast rfl
theorem numT_len {i : Int} {k : Nat} (hk : 0 < k) (h : i.natAbs < 10 ^ k) : (numT i).length ≤ k + 1 := by
  have := numL_len (n := i.natAbs) hk h
  unfold numT
  split
  · simp only [List.length_cons]; omega
  · omega
theorem int_of_numS {i : Int} (h : (numT i).length ≤ 4300) : intText? (numS i) = some i := by
  unfold numS
  unfold numT at h ⊢
  by_cases z : i < 0
  · rw [if_pos z] at h ⊢
    simp only [List.length_cons] at h
    rw [PySem.intText_neg (cs := numL i.natAbs) (by rfl) (numL_digits _) (numL_ne _) (by simp [Str.length]; omega), numL_val]
    congr 1
    omega
  · rw [if_neg z] at h ⊢
    rw [PySem.intText_digits (by exact numL_digits _) (by exact numL_ne _) (by simp [Str.length]; omega)]
    show some (((NumText.digitsVal (numL i.natAbs) : Nat) : Int)) = some i
    rw [numL_val]
    congr 1
    omega
/-- a line, a text -/
def lineT (p : Int × Int) : List Nat := numT p.1 ++ 32 :: numT p.2
def lineOf (p : Int × Int) : Str := ⟨(lineT p).toArray⟩
def lineNl (p : Int × Int) : Str := ⟨(lineT p ++ [10]).toArray⟩
theorem tl_lineNl (p : Int × Int) : tl (lineNl p) = lineT p ++ [10] := tl_mk _
def textN (c : Prs) : List Nat := (c.map fun p => lineT p ++ [10]).flatten
def textS (c : Prs) : Str := ⟨(textN c).toArray⟩
theorem tl_lineOf (p : Int × Int) : tl (lineOf p) = lineT p := tl_mk _
theorem tl_textS (c : Prs) : tl (textS c) = textN c := tl_mk _
theorem lineT_free (p : Int × Int) : (10 : Nat) ∉ lineT p := by
  unfold lineT
  intro z
  rcases List.mem_append.mp z with z | z
  · exact numT_free (by decide) (by decide) z
  · rcases List.mem_cons.mp z with z | z
    · exact absurd z (by decide)
    · exact numT_free (by decide) (by decide) z
theorem spl_text : ∀ c : Prs, spl [10] 0 [] (textN c) = c.map lineT ++ [[]]
  | [] => by simp [textN, TL.spl_nil]
  | p :: c => by
    have e : textN (p :: c) = lineT p ++ ([10] ++ textN c) := by simp [textN]
    rw [e, spl_part1 (s := 10) (S := []) (lineT_free p), spl_text c]
    rfl
theorem split_text (c : Prs) : Txt.split (textS c) ("\n" : Str) = c.map lineOf ++ [("" : Str)] := by
  refine map_tl_inj ?_
  rw [split_spl _ _ (by decide +kernel) (kind_ok (by decide +kernel)), tl_textS, show tl ("\n" : Str) = [10] by decide +kernel, spl_text, List.map_append, List.map_map]
  congr 1
theorem split_line (p : Int × Int) : Txt.split (lineOf p) (" " : Str) = [numS p.1, numS p.2] := by
  refine map_tl_inj ?_
  rw [split_spl _ _ (by decide +kernel) (kind_ok (by decide +kernel)), tl_lineOf, show tl (" " : Str) = [32] by decide +kernel]
  have e : lineT p = numT p.1 ++ ([32] ++ numT p.2) := by simp [lineT]
  rw [e, spl_part1 (s := 32) (S := []) (numT_free (by decide) (by decide)), spl_last1 (numT_free (by decide) (by decide))]
  simp [tl_numS]
theorem text_snoc {c : Prs} {i : Nat} {p : Int × Int} (h : c[i]? = some p) : textN (c.take (i + 1)) = textN (c.take i) ++ (numT p.1 ++ [32] ++ numT p.2 ++ [10]) := by
  unfold textN
  rw [take_snoc h, List.map_append, List.flatten_append]
  simp [lineT]
/-- numbers of at most k digits -/
structure Bdk (k : Nat) (p : Int × Int) : Prop where
  t : p.1.natAbs < 10 ^ k
  h : p.2.natAbs < 10 ^ k
theorem lineT_len {k : Nat} {p : Int × Int} (hk : 0 < k) (h : Bdk k p) : (lineT p).length ≤ 2 * k + 3 := by
  have h1 := numT_len hk h.t
  have h2 := numT_len hk h.h
  unfold lineT
  simp only [List.length_append, List.length_cons]
  omega
theorem textN_len {k : Nat} (hk : 0 < k) : ∀ {c : Prs}, (∀ p ∈ c, Bdk k p) → (textN c).length ≤ c.length * (2 * k + 4)
  | [], _ => by simp [textN]
  | p :: c, h => by
    have h1 := lineT_len hk (h p (List.mem_cons_self ..))
    have h2 := textN_len hk fun q hq => h q (List.mem_cons_of_mem _ hq)
    have e : textN (p :: c) = lineT p ++ ([10] ++ textN c) := by simp [textN]
    rw [e]
    simp only [List.length_append, List.length_cons, List.length_nil, Nat.add_mul, Nat.one_mul]
    omega
theorem bdk_of {p : Int × Int} (h : Bd p) : Bdk 61 p := by
  have e : (10 : Nat) ^ 61 = 10000000000000000000000000000000000000000000000000000000000000 := by decide
  have h1 := h.t
  have h2 := h.h
  unfold big at h1 h2
  exact ⟨by rw [e]; omega, by rw [e]; omega⟩
/-! ### rules of texts -/
section
variable {X : Cx} {K : PySem.W.Frag} {σ : St} {H H' : Hp} {Q : VK} {te : TE}
theorem r_str {i : Int} (h : i.natAbs < 2 ^ 1920) (q : Q (.str (numS i)) H) : uStr [.int i] H Q := by
  refine ⟨i, rfl, ?_, by rw [show ((toString i : String) : Str) = numS i from str_int i]; exact q⟩
  by_cases z : i.natAbs = 0
  · rw [z]; decide
  · exact (Nat.log2_lt z).mpr h
def uSplit : V → List V → Hp → VK → Prop := fun x xs H Q => ∃ a b, x = .str a ∧ xs = [.str b] ∧ (b.length == 0) = false ∧ a.length + 2 ≤ sizeLine ∧ rNewStrs (Txt.split a b) H Q
theorem pe_splitU {o e : Expr} {to te : TE} {apos pos : Pos} (ho : PE X o to) (he : PE X e te) (hs : starEach [e] X.env = [(false, eval e X.env)] := by rfl) (hbase : attributeBase o "split" X.env (eval o X.env) = eval o X.env := by rfl) (hline : (apos.endLine == pos.line) = true := by rfl) :
    PE X (.Call (.Attribute o "split" apos) [e] [] pos) (tM1 uSplit to te) := pe_split ho he hs hbase hline
theorem r_split {a b : Str} (hb : (b.length == 0) = false) (ha : a.length + 2 ≤ sizeLine) (q : ∀ p H', H p = none → Same H H' → H' p = some (.lst ((Txt.split a b).map V.str)) → Q (.ref p) H') : uSplit (.str a) [.str b] H Q :=
  ⟨a, b, rfl, rfl, hb, ha, fun p hp => q p _ hp (Keep.same (Keep.new hp)) upd_same⟩
def uRep01 : R2 := fun x y H Q => ∃ (z : Str) (k : Int), x = .str z ∧ y = .int k ∧ ((k = 0 ∧ Q (.str Str.empty) H) ∨ (k = 1 ∧ Q (.str z) H))
theorem o_rep01 : OpR X (binaryOp .Mult) uRep01 := by
  intro pins s σ H x y v u Q I rx ry h
  obtain ⟨z, k, rfl, rfl, hq⟩ := h
  obtain ⟨t, rfl⟩ := rx
  obtain ⟨t', rfl⟩ := ry
  rcases hq with ⟨rfl, q⟩ | ⟨rfl, q⟩
  · exact PySem.P.mul_str_none (by decide) (by decide) ⟨.str Str.empty, H, I.tok _, ⟨_, rfl⟩, q⟩
  · refine PySem.P.mul_str (by decide) (fun _ w => by simp at w) (fun _ w => by simp at w) ?_
    rw [if_neg (by decide), if_pos (by simp)]
    exact ⟨.str z, H, I, ⟨_, rfl⟩, q⟩
theorem r_rep0 {z : Str} {k : Int} (e : k = 0) (q : Q (.str ("" : Str)) H) : uRep01 (.str z) (.int k) H Q := ⟨z, k, rfl, rfl, .inl ⟨e, q⟩⟩
theorem r_rep1 {z : Str} {k : Int} (e : k = 1) (q : Q (.str z) H) : uRep01 (.str z) (.int k) H Q := ⟨z, k, rfl, rfl, .inr ⟨e, q⟩⟩
def uInS : R2 := fun x y H Q => ∃ (c : Nat) (z : Str), x = .str ⟨#[c]⟩ ∧ y = .str z ∧ Q (.bl (decide (c ∈ z.cps.toList))) H
theorem o_inS : OpR X (compareOp .In) uInS := op_in_sign
theorem r_inS {c : Nat} {z : Str} (q : Q (.bl (decide (c ∈ tl z))) H) : uInS (.str ⟨#[c]⟩) (.str z) H Q := ⟨c, z, rfl, rfl, q⟩
def uIntS : List V → Hp → VK → Prop := fun xs H Q => ∃ a n, xs = [.str a] ∧ PySem.intText? a = some n ∧ a.length ≤ 640 ∧ Q (.int n) H
theorem c_intS : CallR X (.type "int") uIntS := call_int_str
theorem r_intS {i : Int} (h : (numT i).length ≤ 640) (q : Q (.int i) H) : uIntS [.str (numS i)] H Q := ⟨numS i, i, rfl, int_of_numS (by omega), by rw [len_tl, tl_numS]; exact h, q⟩
def uSlS : V → Option Int → Option Int → Hp → VK → Prop := fun x lo hi H Q => ∃ z, x = .str z ∧ z.length ≤ sizeLine ∧ Q (.str (cutS z lo hi)) H
theorem o_slS : SlR X uSlS := sl_str
theorem r_slS {z : Str} {lo hi : Option Int} (h : z.length ≤ sizeLine) (q : Q (.str (cutS z lo hi)) H) : uSlS (.str z) lo hi H Q := ⟨z, rfl, h, q⟩
theorem cutS_head {c : Nat} {l : List Nat} : cutS (⟨(c :: l).toArray⟩ : Str) none (some 1) = ⟨#[c]⟩ := by
  apply tl_inj
  unfold cutS
  simp [HT.sIx, Str.length, tl]
theorem cutS_tail {c : Nat} {l : List Nat} : cutS (⟨(c :: l).toArray⟩ : Str) (some 1) none = ⟨l.toArray⟩ := by
  apply tl_inj
  unfold cutS
  simp [HT.sIx, Str.length, tl]
def uStrW (v : V) (H : Hp) (R : It → Hp → Prop) : Prop := ∃ x, v = .str x ∧ R (Its x) H
def iStrU (te : TE) : TI := fun σ H R => te σ H fun v H1 => uStrW v H1 R
theorem pi_strU {tg e : Expr} (he : PE X e te) : PI X tg e (iStrU te) := pi_str he
theorem r_istrU {R : It → Hp → Prop} (q : te σ H fun v H1 => uStrW v H1 R) : iStrU te σ H R := q
theorem r_strW {x : Str} {R : It → Hp → Prop} (q : R (Its x) H) : uStrW (.str x) H R := ⟨x, rfl, q⟩
theorem wk_str {x : Str} : Wk (Its x) (tl x).length (fun _ => True) (fun i H v H' => H' = H ∧ ∃ c, (tl x)[i]? = some c ∧ v = .str ⟨#[c]⟩) where
  go := fun i H _ hi => by show i < x.cps.size; simpa [tl] using hi
  stop := fun i H _ hi => by show x.cps.size ≤ i; simpa [tl] using hi
  yld := fun i H v H' _ y => by
    obtain ⟨e, c, h1, h2⟩ := y
    exact ⟨e, c, by simpa [tl] using h1, h2⟩
end
end Fp
namespace Lk11
open PySem PySem.Spec PyProof.Rows L2 Fp
/-! steps by their head -/
local macro_rules | `(tactic| walk_at "s") => `(tactic| first
  | (with_reducible refine' r_seq ?_)
  | (with_reducible refine' r_cons ?_)
  | ((with_reducible refine' r_var ?hvv ?_); (case hvv => exact rfl))
  | (with_reducible refine' r_c ?_)
  | (with_reducible refine' r_nil ?_)
  | (with_reducible refine' r_op ?_)
  | (with_reducible refine' r_tup ?_)
  | (with_reducible refine' r_lst ?_)
  | (with_reducible refine' r_I0 ?_)
  | (with_reducible refine' r_asg ?_)
  | (with_reducible refine' r_fn ?_)
  | (with_reducible refine' r_fnS ?_)
  | (with_reducible refine' r_CB ?_)
  | (with_reducible refine' r_ret ?_)
  | (with_reducible refine' r_ifS ?_)
  | (with_reducible refine' r_test ?_)
  | (with_reducible refine' r_B ?_)
  | (with_reducible refine' r_bl ?_)
  | (with_reducible refine' r_and ?_)
  | (with_reducible refine' r_or ?_)
  | (with_reducible refine' r_not ?_)
  | (with_reducible refine' r_yes ?_)
  | (with_reducible refine' r_andV ?_)
  | (with_reducible refine' r_orV ?_)
  | (with_reducible refine' r_notV ?_)
  | (with_reducible refine' r_if ?_)
  | (with_reducible refine' r_chain ?_)
  | (with_reducible refine' r_eq_i ?_)
  | (with_reducible refine' r_ne_i ?_)
  | (with_reducible refine' r_un ?_)
  | (with_reducible refine' r_U ?_)
  | (with_reducible refine' r_int_i ?_)
  | (with_reducible refine' r_int_b ?_)
  | (with_reducible refine' r_abs ?_)
  | (with_reducible refine' r_max2 ?_)
  | (with_reducible refine' r_min2 ?_)
  | (with_reducible refine' r_isB ?_)
  | (with_reducible refine' r_notB ?_)
  | (with_reducible refine' r_isN_n ?_)
  | (with_reducible refine' r_isN_i ?_)
  | (with_reducible refine' r_isN_r ?_)
  | (with_reducible refine' r_isN_s ?_)
  | (with_reducible refine' r_notN_n ?_)
  | (with_reducible refine' r_notN_i ?_)
  | (with_reducible refine' r_notN_r ?_)
  | (with_reducible refine' r_notN_s ?_)
  | ((with_reducible refine' r_isN ?hvv ?_); (case hvv => exact rfl))
  | ((with_reducible refine' r_notN ?hvv ?_); (case hvv => exact rfl))
  | ((with_reducible refine' r_aug ?hvv ?_); (case hvv => exact rfl))
  | (with_reducible refine' r_ipI ?_)
  | (with_reducible refine' r_next ?_)
  | (with_reducible refine' r_par ?_)
  | (with_reducible refine' r_par2 ?_)
  | (with_reducible refine' r_drop ?_)
  | (with_reducible refine' r_gname ?_)
  | (with_reducible refine' r_asgG ?_)
  | (with_reducible refine' r_gsub ?_)
  | (with_reducible refine' r_gcons ?_)
  | (with_reducible refine' r_gnil ?_)
  | (with_reducible refine' r_retN ?_)
  | (with_reducible refine' r_for ?_)
  | (with_reducible refine' r_lc ?_)
  | (with_reducible refine' r_ilist ?_)
  | (with_reducible refine' r_itup ?_)
  | (with_reducible refine' r_irng1 ?_)
  | (with_reducible refine' r_irng2 ?_)
  | (with_reducible refine' r_izip ?_)
  | (with_reducible refine' r_sl ?_)
  | (with_reducible refine' r_nopart ?_)
  | (with_reducible refine' r_part ?_)
  | (with_reducible refine' r_parti ?_)
  | (with_reducible refine' r_bm ?_)
  | (with_reducible refine' r_m1 ?_)
  | (with_reducible refine' r_m1s ?_)
  | (with_reducible refine' r_irngU ?_)
  | (with_reducible refine' r_bm0 ?_)
  | (with_reducible refine' r_revL ?_)
  | (with_reducible refine' r_isi_ii ?_)
  | (with_reducible refine' r_isi_ib ?_)
  | (with_reducible refine' r_isi_it ?_)
  | (with_reducible refine' r_isi_is ?_)
  | (with_reducible refine' r_isi_ni ?_)
  | (with_reducible refine' r_isi_nt ?_)
  | (with_reducible refine' r_isi_bb ?_)
  | (with_reducible refine' r_isi_bi ?_)
  | (with_reducible refine' r_isi_ss ?_)
  | (with_reducible refine' r_isi_si ?_)
  | (with_reducible refine' r_isi_st ?_)
  | (with_reducible refine' r_brk ?_)
  | (with_reducible refine' r_cont ?_)
  | (with_reducible refine' i_T ?_)
  | (with_reducible refine' i_F ?_)
  | (with_reducible refine' i_NT ?_)
  | (with_reducible refine' i_NF ?_)
  | fail)
/-! sides -/
local macro_rules | `(tactic| walk_at "mul") => `(tactic| first
  | exact mul_r (by decide) (by decide)
  | exact mul_l (by decide) (by decide)
  | exact mul_r (by omega) (by omega)
  | exact mul_l (by omega) (by omega)
  | exact mul_b (n := 256) (m := 256) (by omega) (by omega)
  | fail)
local macro_rules | `(tactic| walk_at "div") => `(tactic| first
  | exact div_b (n := 64) (by decide) (by decide)
  | exact div_b (n := 64) (by omega) (by omega)
  | exact div_b (n := 256) (by omega) (by omega)
  | fail)
local macro_rules | `(tactic| walk_at "ix") => `(tactic| first
  | rfl
  | assumption
  | fail)
/-- what a tuple, a list at an address is: by what is known, the heaps between going on -/
local macro_rules | `(tactic| walk_at "kp") => `(tactic| first
  | assumption
  | exact Keep.of_same (by assumption)
  | exact Keep.refl _
  | (refine' Keep.trans ?hk1 ?hk2; (case hk2 => first | assumption | exact Keep.of_same (by assumption)); (case hk1 => walk_at "kp"))
  | fail)
local macro_rules | `(tactic| walk_at "sm") => `(tactic| first
  | assumption
  | exact Same.refl _
  | (refine' Same.trans ?hk1 ?hk2; (case hk2 => assumption); (case hk1 => walk_at "sm"))
  | fail)
local macro_rules | `(tactic| walk_at "lk") => `(tactic| first
  | assumption
  | (refine' same_app ?hk1 ?hk2; (case hk1 => assumption); (case hk2 => walk_at "lk"))
  | (refine' Keep.app ?hk1 ?hk2 ?hk3; (case hk1 => assumption); (case hk2 => walk_at "lk"); (case hk3 => walk_at "ne"))
  | fail)
local macro_rules | `(tactic| walk_at "sqt") => `(tactic| first
  | assumption
  | (refine' SqT.of ?hk1; (case hk1 => walk_at "lk"))
  | walk_at "st"
  | fail)
local macro_rules | `(tactic| walk_at "sql") => `(tactic| first
  | assumption
  | (refine' SqL.of ?hk1; (case hk1 => walk_at "lk"))
  | (refine' Same.seq ?hk1 ?hk2; (case hk1 => assumption); (case hk2 => walk_at "sql"))
  | (refine' scr_sql ?hk1 ?hk2; (case hk1 => assumption); (case hk2 => walk_at "te"))
  | fail)
local macro_rules | `(tactic| walk_at "i") => `(tactic| first
  | ((with_reducible refine' r_ix01 ?hva ?_); (case hva => walk_at "sql"); intro _ _)
  | ((with_reducible refine' r_gtup ?hva ?hvb ?_); (case hva => walk_at "sqt"); (case hvb => exact rfl))
  | ((with_reducible refine' r_glst ?hva ?hvb ?_); (case hva => walk_at "sql"); (case hvb => exact rfl))
  | ((with_reducible refine' r_new ?hvv ?_); (case hvv => exact sz_lit rfl); intro _ _ _ _ _)
  | ((with_reducible refine' r_I ?hvv ?_); (case hvv => first | (with_reducible show IntMulOk _ _; walk_at "mul") | (with_reducible show CDivW _ _; walk_at "div") | (with_reducible show (0 : Int) < _; first | omega | exact two_pos _) | decide))
  | ((with_reducible refine' r_ixl ?hva ?hvb ?_); (case hva => walk_at "sql"); (case hvb => walk_at "ix"))
  | ((with_reducible refine' r_ixt ?hva ?hvb ?_); (case hva => walk_at "sqt"); (case hvb => walk_at "ix"))
  | ((with_reducible refine' r_len_l ?hva ?hvb ?_); (case hva => walk_at "sql"); (case hvb => first | (simp only [List.length_cons, List.length_nil, List.length_map, Nat.reduceAdd, Nat.zero_add]; exact rfl) | exact rfl))
  | ((with_reducible refine' r_len_t ?hva ?hvb ?_); (case hva => walk_at "sqt"); (case hvb => first | (simp only [List.length_cons, List.length_nil, List.length_map, Nat.reduceAdd, Nat.zero_add]; exact rfl) | exact rfl))
  | ((with_reducible refine' r_isi_tt ?hva ?_); (case hva => walk_at "sqt"))
  | ((with_reducible refine' r_isi_ti ?hva ?_); (case hva => walk_at "sqt"))
  | ((with_reducible refine' r_sll ?hva ?_); (case hva => walk_at "sql"); intro _ _ _ _ _)
  | ((with_reducible refine' r_revl ?hva ?_); (case hva => walk_at "sql"); intro _ _ _ _ _)
  | ((with_reducible refine' r_sla ?hva ?_); (case hva => walk_at "sqt"); intro _ _ _ _)
  | ((with_reducible refine' r_cat ?hva ?hvb ?hvc ?_); (case hva => walk_at "lk"); (case hvb => walk_at "lk"); (case hvc => first | exact sz_lit rfl | (refine sz_le ?_; omega)); intro _ _ _ _ _)
  | ((with_reducible refine' r_catA ?hva ?hvb ?hvc ?_); (case hva => walk_at "sqt"); (case hvb => walk_at "sqt"); (case hvc => first | exact sz_lit rfl | (refine sz_le ?_; omega)); intro _ _ _ _)
  | ((with_reducible refine' r_tuple_l ?hva ?_); (case hva => walk_at "sql"); intro _ _ _ _ _)
  | ((with_reducible refine' r_tuple_t ?hva ?_); (case hva => walk_at "sqt"))
  | ((with_reducible refine' r_list_l ?hva ?_); (case hva => walk_at "sql"); intro _ _ _ _ _)
  | ((with_reducible refine' r_list_t ?hva ?_); (case hva => walk_at "sqt"); intro _ _ _ _ _)
  | ((with_reducible refine' r_shl1 ?hva ?_); (case hva => omega))
  | ((with_reducible refine' r_shl2 ?hva ?_); (case hva => omega))
  | ((with_reducible refine' r_shl ?hva ?_); (case hva => omega))
  | (with_reducible refine' r_shr ?_)
  | ((with_reducible refine' i_pos ?hvv ?_); (case hvv => first | decide | omega))
  | ((with_reducible refine' i_neg ?hvv ?_); (case hvv => first | decide | omega))
  | ((with_reducible refine' i_npos ?hvv ?_); (case hvv => first | decide | omega))
  | ((with_reducible refine' i_nneg ?hvv ?_); (case hvv => first | decide | omega))
  | ((with_reducible refine' r_rng1 ?hva ?hvb ?_); (case hva => omega); (case hvb => omega))
  | ((with_reducible refine' r_rng2 ?hva ?hvb ?hvc ?hvd ?_); (case hva => omega); (case hvb => omega); (case hvc => omega); (case hvd => omega))
  | ((with_reducible refine' r_wl ?hva ?_); (case hva => walk_at "sql"))
  | ((with_reducible refine' r_wt ?hva ?_); (case hva => walk_at "sqt"))
  | fail)
local macro_rules | `(tactic| walk_at "call") => `(tactic| fail)
local macro_rules | `(tactic| walk_at "a") => `(tactic| repeat' (first | walk_at "s" | walk_at "i" | walk_at "call" | fail))

/-! steps of classes -/
local macro_rules | `(tactic| walk_at "flk") => `(tactic| first
  | exact lk_here
  | (refine' lk_next ?hk1 ?hk2; (case hk1 => decide +kernel); (case hk2 => walk_at "flk"))
  | exact lk_nil
  | fail)
local macro_rules | `(tactic| walk_at "fput") => `(tactic| first
  | exact pf_nil
  | exact pf_here
  | (refine' pf_next ?hk1 ?hk2; (case hk1 => decide +kernel); (case hk2 => walk_at "fput"))
  | fail)
local macro_rules | `(tactic| walk_at "call") => `(tactic| first
  | (with_reducible refine' r_meth ?_)
  | ((with_reducible refine' r_methi ?hva ?hvb ?_); (case hva => walk_at "lk"); (case hvb => walk_at "flk"))
  | (with_reducible refine' r_make ?_)
  | (with_reducible refine' r_makeKw ?_)
  | (with_reducible refine' r_makeKi ?_)
  | (with_reducible refine' r_fld ?_)
  | ((with_reducible refine' r_fldi ?hva ?hvb ?hvc ?hvd ?_); (case hvc => walk_at "lk"); (case hva => first | exact ClT.cl (by assumption)); (case hvb => assumption); (case hvd => walk_at "flk"))
  | (with_reducible refine' r_sfld ?_)
  | ((with_reducible refine' r_sfldi ?hva ?hvb ?hvc ?hvd ?hve ?_); (case hvc => walk_at "lk"); (case hva => first | exact ClT.cl (by assumption)); (case hvb => assumption); (case hvd => first | decide | (simp; done)); (case hve => walk_at "fput"); intro _ _ _)
  | (with_reducible refine' r_faug ?_)
  | ((with_reducible refine' r_faugi ?hva ?hvb ?hvc ?hvd ?_); (case hvc => walk_at "lk"); (case hva => first | exact ClT.cl (by assumption)); (case hvb => assumption); (case hvd => walk_at "flk"))
  | ((with_reducible refine' r_enda ?hva ?hvb ?hvc ?_); (case hva => walk_at "lk"); (case hvb => first | decide | (simp; done)); (case hvc => walk_at "fput"); intro _ _ _)
  | (with_reducible refine' r_orT ?_)
  | (with_reducible refine' r_orTn ?_)
  | ((with_reducible refine' r_dnewT ?_); intro _ _ _ _ _)
  | (with_reducible refine' r_revT ?_)
  | ((with_reducible refine' r_revt ?hva ?_); (case hva => walk_at "sqt"); intro _ _ _ _ _)
  | (with_reducible refine' r_dget ?_)
  | (with_reducible refine' r_dget1 ?_)
  | ((with_reducible refine' r_dg1T ?hva ?_); (case hva => walk_at "lk"))
  | ((with_reducible refine' r_dg2T ?hva ?hvb ?_); (case hva => walk_at "lk"); (case hvb => walk_at "lk"))
  | (with_reducible refine' r_dput ?_)
  | ((with_reducible refine' r_dnew ?_); intro _ _ _ _ _)
  | fail)

def top (i : Nat) : Stmt := PySem.Challenge.pw_fourpoints_k11_curves_told_apart.main.body.getD i (.Pass ⟨0, 0, 0, 0⟩)
abbrev s_is_whole : Stmt := top 1
abbrev s_is_sample : Stmt := top 2
abbrev s_is_curve : Stmt := top 3
abbrev s_law_cell : Stmt := top 5
abbrev s_law_pot : Stmt := top 6
abbrev s_law_take : Stmt := top 7
abbrev s_law_number : Stmt := top 8
abbrev s_law_samples : Stmt := top 9
abbrev s_law_curve : Stmt := top 10
abbrev s_law_bad_sample : Stmt := top 11
abbrev s_law_no_curves : Stmt := top 12
abbrev s_law : Stmt := top 13
theorem sc_is_whole : FnScope ["thing"] ["thing"] (defScope s_is_whole) := ⟨rfl, rfl, rfl, by decide +kernel, rfl, by decide +kernel, by decide +kernel⟩
theorem sc_is_sample : FnScope ["thing", "part"] ["thing"] (defScope s_is_sample) := ⟨rfl, rfl, rfl, by decide +kernel, rfl, by decide +kernel, by decide +kernel⟩
theorem sc_is_curve : FnScope ["thing", "one", "other"] ["thing"] (defScope s_is_curve) := ⟨rfl, rfl, rfl, by decide +kernel, rfl, by decide +kernel, by decide +kernel⟩
theorem sc_law_cell : FnScope ["_law_script", "_law_k"] ["_law_script", "_law_k"] (defScope s_law_cell) := ⟨rfl, rfl, rfl, by decide +kernel, rfl, by decide +kernel, by decide +kernel⟩
theorem sc_law_pot : FnScope ["_law_cell_here"] ["_law_cell_here"] (defScope s_law_pot) := ⟨rfl, rfl, rfl, by decide +kernel, rfl, by decide +kernel, by decide +kernel⟩
theorem sc_law_take : FnScope ["_law_pot_here", "_law_many", "_law_digit"] ["_law_pot_here", "_law_many"] (defScope s_law_take) := ⟨rfl, rfl, rfl, by decide +kernel, rfl, by decide +kernel, by decide +kernel⟩
theorem sc_law_number : FnScope ["_law_pot_here", "_law_way"] ["_law_pot_here"] (defScope s_law_number) := ⟨rfl, rfl, rfl, by decide +kernel, rfl, by decide +kernel, by decide +kernel⟩
theorem sc_law_samples : FnScope ["_law_script", "_law_found", "_law_k", "_law_pot_here"] ["_law_script"] (defScope s_law_samples) := ⟨rfl, rfl, rfl, by decide +kernel, rfl, by decide +kernel, by decide +kernel⟩
theorem sc_law_curve : FnScope ["_law_samples_here", "_law_held", "_law_t"] ["_law_samples_here"] (defScope s_law_curve) := ⟨rfl, rfl, rfl, by decide +kernel, rfl, by decide +kernel, by decide +kernel⟩
theorem sc_law_bad_sample : FnScope ["_law_t", "_law_h", "_law_way", "_law_some"] ["_law_t", "_law_h", "_law_way"] (defScope s_law_bad_sample) := ⟨rfl, rfl, rfl, by decide +kernel, rfl, by decide +kernel, by decide +kernel⟩
theorem sc_law_no_curves : FnScope ["_law_curve_here", "_law_bad", "_law_place", "_law_found"] ["_law_curve_here", "_law_bad", "_law_place"] (defScope s_law_no_curves) := ⟨rfl, rfl, rfl, by decide +kernel, rfl, by decide +kernel, by decide +kernel⟩
theorem sc_law : FnScope ["_law_script", "_law_curve_here", "_law_pot_here", "_law_bad", "_law_place", "_law_one", "_law_thing"] ["_law_script"] (defScope s_law) := ⟨rfl, rfl, rfl, by decide +kernel, rfl, by decide +kernel, by decide +kernel⟩
/-! script[k] or 0 -/
def sp_nth (K : PySem.W.Frag) : Sp := fun vs H Q _ => ∃ (a : Addr) (ns : List Int) (k : Nat), vs = [.ref a, .int k] ∧ SqL K H a (ns.map V.int) ∧ Q (.int (ns.getD k 0)) H
theorem getD_map_int {ns : List Int} {k : Nat} (h : k < ns.length) : (ns.map V.int)[k]? = some (V.int (ns.getD k 0)) := by
  rw [List.getElem?_map, List.getElem?_eq_getElem h]
  simp [List.getD, h]
section
variable {P : Program} {w : World} {K : PySem.W.Frag} {mg : Str → Option Value} {base : Heap}
theorem ok_law_cell (B : Blt mg) (D : Def K mg "_law_cell" s_law_cell ["_law_script", "_law_k"]) :
    Fn P w K mg base 1 "_law_cell" ["_law_script", "_law_k"] (sp_nth K) := by
  refine D.ok sc_law_cell (fun vs H Q E h => ?_) (fun f cdv A outer s H vs Q E hr h => ?_)
  · obtain ⟨a, ns, k, rfl, hS, q⟩ := h
    rfl
  · obtain ⟨a, ns, k, rfl, hS, q⟩ := h
    refine ⟨_, (pss_one (ps_ret (pe_ifExp (pt_cmpR op_lt (pv 1) (pe_callB (crK K c_len) rfl B.len (by decide +kernel) (pa_cons (pv 0) pa_nil)) (nomark _)) (pe_ix (ixK K ix_seq) (pv 0) (pv 1) (fun _ _ => rfl)) pe_int))), ?_⟩
    refine r_start (σ' := [some (.ref a), some (.int k)]) rfl ?_
    walk_at "a"
    refine i_cases (fun hk => ?_) (fun hk => ?_)
    · walk_at "a"
      exact r_ixl hS (at_of rfl (getD_map_int (by omega))) q
    · walk_at "a"
      have e0 : ns.getD k 0 = 0 := by
        have h1 : ns.length ≤ k := by omega
        simp [List.getD, h1]
      rw [e0] at q
      exact q
end
theorem use_nth {K : PySem.W.Frag} {H : Hp} {Q : VK} {E : XK} {a : Addr} {ns : List Int} {z : Int} (h : SqL K H a (ns.map V.int)) (h0 : 0 ≤ z) (q : Q (.int (ns.getD z.toNat 0)) H) : sp_nth K [.ref a, .int z] H Q E :=
  ⟨a, ns, z.toNat, by rw [Int.toNat_of_nonneg h0], h, q⟩
local macro_rules | `(tactic| walk_at "call") => `(tactic| ((with_reducible refine' use_nth ?hva ?hvb ?_); (case hva => walk_at "sql"); (case hvb => omega)))

/-! the pot: a list of two numbers -/
structure Pot (H : Hp) (p : Addr) : Prop where
  ex : ∃ a b : Int, H p = some (.lst [.int a, .int b]) ∧ 0 ≤ a ∧ 0 ≤ b ∧ b < 4294967296
theorem Pot.keep {H H' : Hp} {p : Addr} {F : Addr → Prop} (h : Pot H p) (k : Keep F H H') (n : ¬ F p) : Pot H' p := by
  obtain ⟨a, b, e, r⟩ := h.ex
  exact ⟨a, b, k p _ e n, r⟩
theorem Pot.same {H H' : Hp} {p : Addr} (h : Pot H p) (k : Same H H') : Pot H' p := by
  obtain ⟨a, b, e, r⟩ := h.ex
  exact ⟨a, b, k p _ e, r⟩
theorem Pot.text {H H' : Hp} {p : Addr} (h : Pot H p) (k : Keep (At p) H H') : TExt H H' := by
  obtain ⟨a, b, e, r⟩ := h.ex
  exact TExt.lst k e
theorem Pot.ne_new {H : Hp} {p q : Addr} (h : Pot H p) (hn : H q = none) : q ≠ p := by
  obtain ⟨a, b, e, r⟩ := h.ex
  exact fun z => by rw [z, e] at hn; cases hn
def sp_pot (K : PySem.W.Frag) : Sp := fun vs H Q _ => ∃ c : Int, vs = [.int c] ∧ ∀ (p : Addr) (H' : Hp), H p = none → Same H H' → Pot H' p → Q (.ref p) H'
def sp_take (K : PySem.W.Frag) : Sp := fun vs H Q _ => ∃ (p : Addr) (n : Int), vs = [.ref p, .int n] ∧ Pot H p ∧ 0 < n ∧ n ≤ 1000000000000000000000000000000000000000000000000000000000000000000000000000 ∧
  ∀ (r : Int) (H' : Hp), Keep (At p) H H' → Pot H' p → 0 ≤ r → r < n → Q (.int r) H'
section
variable {P : Program} {w : World} {K : PySem.W.Frag} {mg : Str → Option Value} {base : Heap}
theorem ok_law_pot (B : Blt mg) (D : Def K mg "_law_pot" s_law_pot ["_law_cell_here"]) :
    Fn P w K mg base 1 "_law_pot" ["_law_cell_here"] (sp_pot K) := by
  refine D.ok sc_law_pot (fun vs H Q E h => ?_) (fun f cdv A outer s H vs Q E hr h => ?_)
  · obtain ⟨c, rfl, q⟩ := h
    rfl
  · obtain ⟨c, rfl, q⟩ := h
    refine ⟨_, (pss_one (ps_ret (pe_lst (pa_cons (pe_op op_mulY (pv 0) (pe_callTy c_int1 rfl B.int (by decide +kernel) (pa_cons (pe_cmpR op_ge (pv 0) (pe_powC (z := 1000000000000000000) (by decide +kernel) (by decide +kernel)) (nomark _)) pa_nil))) (pa_cons (pe_op op_mod (pe_op op_add (pe_op op_mulY (pv 0) pe_int) pe_int) pe_int) pa_nil))))), ?_⟩
    refine r_start (σ' := [some (.int c)]) rfl ?_
    walk_at "a"
    rename_i p H' hn h1 h2
    refine q p H' hn h1 ⟨_, _, h2, ?_, ?_, ?_⟩
    · split
      · rename_i h3
        have h4 := of_decide_eq_true h3
        omega
      · omega
    · omega
    · omega
end
section
variable {P : Program} {w : World} {K : PySem.W.Frag} {mg : Str → Option Value} {base : Heap}
theorem ok_law_take (B : Blt mg) (D : Def K mg "_law_take" s_law_take ["_law_pot_here", "_law_many"]) :
    Fn P w K mg base 1 "_law_take" ["_law_pot_here", "_law_many"] (sp_take K) := by
  refine D.ok sc_law_take (fun vs H Q E h => ?_) (fun f cdv A outer s H vs Q E hr h => ?_)
  · obtain ⟨p, n, rfl, hp, hn, hb, q⟩ := h
    rfl
  · obtain ⟨p, n, rfl, hp, hn, hb, q⟩ := h
    refine ⟨_, (pss_cons (ps_if (pt_cmpR op_gt (pe_ix (ixK K ix_seq) (pv 0) pe_int (fun _ _ => rfl)) pe_int (nomark _))
      (pss_cons (ps_set (i := 2) sc_law_take.nd rfl (Or.inl rfl) (pe_op op_mod (pe_ix (ixK K ix_seq) (pv 0) pe_int (fun _ _ => rfl)) (pv 1)))
      (pss_cons (ps_asg (pe_op op_fdivW (pe_ix (ixK K ix_seq) (pv 0) pe_int (fun _ _ => rfl)) (pv 1)) (pg_sub (pv 0) pe_int set_list))
      (pss_one (ps_ret (pv 2)))))
      pss_nil)
      (pss_cons (ps_asg (pe_op op_mod (pe_op op_add (pe_op op_mulY (pe_ix (ixK K ix_seq) (pv 0) pe_int (fun _ _ => rfl)) pe_int) pe_int) pe_int) (pg_sub (pv 0) pe_int set_list))
      (pss_one (ps_ret (pe_op op_mod (pe_op op_fdivW (pe_op op_mod (pe_op op_mulY (pe_ix (ixK K ix_seq) (pv 0) pe_int (fun _ _ => rfl)) (pe_ix (ixK K ix_seq) (pv 0) pe_int (fun _ _ => rfl))) pe_int) pe_int) (pv 1)))))), ?_⟩
    refine r_start (σ' := [some (.ref p), some (.int n), none]) rfl ?_
    obtain ⟨a, b, hp, ha, hb0, hb1⟩ := hp.ex
    walk_at "a"
    refine i_cases (fun hk => ?_) (fun hk => ?_)
    · walk_at "a"
      refine r_setl hp rfl fun H' h1 h2 => ?_
      walk_at "a"
      exact q _ H' h1 ⟨_, _, h2, Int.ediv_nonneg ha (by omega), hb0, hb1⟩ (Int.emod_nonneg _ (by omega)) (Int.emod_lt_of_pos _ hn)
    · walk_at "a"
      refine r_setl hp rfl fun H' h1 e2 => ?_
      have e2 : H' p = some (.lst [.int a, .int ((b * 39373 + 7919) % 2147483629)]) := e2
      generalize hc : (b * 39373 + 7919) % 2147483629 = c at e2
      have c0 : 0 ≤ c := by omega
      have c1 : c < 4294967296 := by omega
      clear hc
      walk_at "a"
      exact q _ H' h1 ⟨_, _, e2, ha, c0, c1⟩ (Int.emod_nonneg _ (by omega)) (Int.emod_lt_of_pos _ hn)
end
theorem use_pot {K : PySem.W.Frag} {H : Hp} {Q : VK} {E : XK} {c : Int} (q : ∀ (p : Addr) (H' : Hp), H p = none → Same H H' → Pot H' p → Q (.ref p) H') : sp_pot K [.int c] H Q E := ⟨c, rfl, q⟩
theorem use_take {K : PySem.W.Frag} {H : Hp} {Q : VK} {E : XK} {p : Addr} {n : Int} (h : Pot H p) (h0 : 0 < n) (h1 : n ≤ 1000000000000000000000000000000000000000000000000000000000000000000000000000) (q : ∀ (r : Int) (H' : Hp), Keep (At p) H H' → Pot H' p → 0 ≤ r → r < n → Q (.int r) H') : sp_take K [.ref p, .int n] H Q E :=
  ⟨p, n, rfl, h, h0, h1, q⟩
local macro_rules | `(tactic| walk_at "call") => `(tactic| ((with_reducible refine' use_take ?hva ?hvb ?hvc ?_); (case hva => walk_at "pot"); (case hvb => omega); (case hvc => omega); intro _ _ _ _ _ _))
local macro_rules | `(tactic| walk_at "call") => `(tactic| ((with_reducible refine' use_pot ?_); intro _ _ _ _ _))
local macro_rules | `(tactic| walk_at "pot") => `(tactic| first
  | assumption
  | (refine' Pot.same ?hk1 ?hk2; (case hk2 => assumption); (case hk1 => walk_at "pot"))
  | (refine' Pot.keep ?hk1 ?hk2 ?hk3; (case hk2 => assumption); (case hk1 => walk_at "pot"); (case hk3 => walk_at "ne"))
  | fail)
local macro_rules | `(tactic| walk_at "te") => `(tactic| first
  | assumption
  | exact TExt.refl _
  | exact TExt.of_same (by assumption)
  | (refine' Pot.text ?hk1 ?hk2; (case hk2 => assumption); (case hk1 => assumption))
  | (refine' TExt.trans ?hk1 ?hk2; (case hk2 => first | exact TExt.of_same (by assumption) | (refine' Pot.text ?hk3 ?hk4; (case hk4 => assumption); (case hk3 => walk_at "pot"))); (case hk1 => walk_at "te"))
  | fail)
/-- a tuple through the heaps -/
local macro_rules | `(tactic| walk_at "st") => `(tactic| first
  | assumption
  | exact SqT.of (by assumption)
  | (refine' SqT.text ?hk1 ?hk2; (case hk1 => first | exact TExt.of_same (by assumption) | (refine' Pot.text ?hk3 ?hk4; (case hk4 => assumption); (case hk3 => walk_at "pot"))); (case hk2 => walk_at "st"))
  | fail)
local macro_rules | `(tactic| walk_at "ne") => `(tactic| first
  | assumption
  | exact Ne.symm (by assumption)
  | (refine' Pot.ne_new ?hk1 ?hk2; (case hk2 => assumption); (case hk1 => walk_at "pot"))
  | fail)
/-! the law's promise -/
def sp_law (K : PySem.W.Frag) : Sp := fun vs H Q _ => ∃ a ns, vs = [.ref a] ∧ Scr K H a ns ∧ ns.length ≤ 63 ∧ ∀ H', Q (.bl true) H'
theorem sp_law_top {K : PySem.W.Frag} {H : Hp} {a : Addr} {ns : List Int} {E : XK} (hl : ns.length ≤ 63) (hb : ∀ z ∈ ns, Builtin.Int.intBits z ≤ 1048576) (hO : Only H) (hS : SqL K H a (ns.map V.int)) : sp_law K [.ref a] H (fun v _ => v = .bl true) E :=
  ⟨a, ns, rfl, Scr.of hO hS, hl, fun _ => rfl⟩
/-- a drawn number -/
def sp_drawn (lo hi : Int) (K : PySem.W.Frag) : Sp := fun vs H Q _ => ∃ p, vs = [.ref p] ∧ Pot H p ∧ ∀ (z : Int) (H' : Hp), Keep (At p) H H' → Pot H' p → lo ≤ z → z ≤ hi → Q (.int z) H'
theorem use_drawn {lo hi : Int} {K : PySem.W.Frag} {H : Hp} {Q : VK} {E : XK} {p : Addr} (h : Pot H p) (q : ∀ (z : Int) (H' : Hp), Keep (At p) H H' → Pot H' p → lo ≤ z → z ≤ hi → Q (.int z) H') : sp_drawn lo hi K [.ref p] H Q E := ⟨p, rfl, h, q⟩
local macro_rules | `(tactic| walk_at "call") => `(tactic| ((with_reducible refine' use_drawn ?hva ?_); (case hva => walk_at "pot"); intro _ _ _ _ _ _))
/-- a comprehension over range(n) that draws from the pot -/
theorem lc_pot {σ : L2.St} {H : Hp} {Q : VK} {n : Nat} {lo : Int} {p : Addr} {te : TE} {j : Nat} (hp : Pot H p) (hn : n ≤ 16777216) (R : Hp → Nat → V → Prop) (hR : ∀ H H' i y, TExt H H' → R H i y → R H' i y)
    (hs : ∀ (i : Nat) H2 (S : VK), i < n → Keep (At p) H H2 → Pot H2 p → (∀ y H3, Keep (At p) H2 H3 → Pot H3 p → R H3 i y → S y H3) → te ((wipe σ [j]).set j (some (.int (lo + i)))) H2 S)
    (q : ∀ D H' ys, H D = none → Keep (At p) H H' → Pot H' p → H' D = some (.lst ys) → Paired (R H') (List.range n) ys → Q (.ref D) H') : LcW (Itr lo n) (gName j) tYes te [j] σ H Q :=
  lc_rngK (fun H => Pot H p) hp (fun D hD => hp.ne_new hD) (fun H1 H2 h e => by obtain ⟨a, b, z, r⟩ := h.ex; exact ⟨a, b, by rw [e]; exact z, r⟩) (fun H1 H2 h k => h.text k) hn R hR hs q

/-! a drawn number -/
def sp_number (K : PySem.W.Frag) : Sp := sp_drawn (-1000000000000000000000000000000000000000000000000000000000000) 1000000000000000000000000000000000000000000000000000000000000 K
section
variable {P : Program} {w : World} {K : PySem.W.Frag} {mg : Str → Option Value} {base : Heap}
theorem ok_law_number (B : Blt mg) (D : Def K mg "_law_number" s_law_number ["_law_pot_here"]) (G_law_take : Fn P w K mg base 1 "_law_take" ["_law_pot_here", "_law_many"] (sp_take K)) :
    Fn P w K mg base 2 "_law_number" ["_law_pot_here"] (sp_number K) := by
  refine D.ok sc_law_number (fun vs H Q E h => ?_) (fun f cdv A outer s H vs Q E hr h => ?_)
  · obtain ⟨p, rfl, hp, q⟩ := h
    rfl
  · obtain ⟨p, rfl, hp, q⟩ := h
    refine ⟨_, (pss_cons (ps_set (i := 1) sc_law_number.nd rfl (Or.inl rfl) (pe_fn G_law_take hr (pa_cons (pv 0) (pa_cons pe_int pa_nil))))
      (pss_cons (ps_if (pt_cmpR (opK K (o_eq hr.units)) (pv 1) pe_int (nomark _))
      (pss_one (ps_ret (pe_op op_mulY (pe_op op_add (pe_op op_mulY (pe_fn G_law_take hr (pa_cons (pv 0) (pa_cons (pe_powC (z := 1000000000) (by decide +kernel) (by decide +kernel)) pa_nil))) (pe_powC (z := 100000000000000000000000000000000000000000000000000) (by decide +kernel) (by decide +kernel))) (pe_fn G_law_take hr (pa_cons (pv 0) (pa_cons (pe_powC (z := 1000000000) (by decide +kernel) (by decide +kernel)) pa_nil)))) (pe_op op_sub pe_int (pe_op op_mulY pe_int (pe_fn G_law_take hr (pa_cons (pv 0) (pa_cons pe_int pa_nil))))))))
      pss_nil)
      (pss_cons (ps_if (pt_cmpR (opK K (o_eq hr.units)) (pv 1) pe_int (nomark _))
      (pss_one (ps_ret (pe_op op_sub (pe_fn G_law_take hr (pa_cons (pv 0) (pa_cons (pe_op op_mulY pe_int (pe_powC (z := 1000000) (by decide +kernel) (by decide +kernel))) pa_nil))) (pe_powC (z := 1000000) (by decide +kernel) (by decide +kernel)))))
      pss_nil)
      (pss_one (ps_ret (pe_op op_sub (pe_fn G_law_take hr (pa_cons (pv 0) (pa_cons pe_int pa_nil))) pe_int)))))), ?_⟩
    refine r_start (σ' := [some (.ref p), none]) rfl ?_
    walk_at "a"
    refine i_cases (fun h => ?_) (fun h => ?_)
    · walk_at "a"
      rename_i r H1 k1 p1 r0 r1 s H2 k2 p2 s0 s1 b H3 k3 p3 b0 b1
      obtain rfl | rfl : b = 0 ∨ b = 1 := by omega
      · exact q _ _ (by walk_at "kp") (by walk_at "pot") (by omega) (by omega)
      · exact q _ _ (by walk_at "kp") (by walk_at "pot") (by omega) (by omega)
    walk_at "a"
    refine i_cases (fun h => ?_) (fun h => ?_)
    · walk_at "a"
      exact q _ _ (by walk_at "kp") (by walk_at "pot") (by omega) (by omega)
    walk_at "a"
    exact q _ _ (by walk_at "kp") (by walk_at "pot") (by omega) (by omega)
end
theorem use_number {K : PySem.W.Frag} {H : Hp} {Q : VK} {E : XK} {p : Addr} (h : Pot H p) (q : ∀ (z : Int) (H' : Hp), Keep (At p) H H' → Pot H' p → -1000000000000000000000000000000000000000000000000000000000000 ≤ z → z ≤ 1000000000000000000000000000000000000000000000000000000000000 → Q (.int z) H') : sp_number K [.ref p] H Q E := ⟨p, rfl, h, q⟩
local macro_rules | `(tactic| walk_at "call") => `(tactic| ((with_reducible refine' use_number ?hva ?_); (case hva => walk_at "pot"); intro _ _ _ _ _ _))

/-! the drawn samples, their curve -/
def sp_samples (K : PySem.W.Frag) : Sp := fun vs H Q _ => ∃ (a : Addr) (ns : List Int), vs = [.ref a] ∧ Scr K H a ns ∧ ns.length ≤ 63 ∧
  ∀ (f : Addr) (l : Prs) (ws : List V) (H' : Hp), H f = none → Same H H' → H' f = some (.lst ws) → DpAll K H' ws (l.map pairP) → l.length ≤ 40 → (∀ p ∈ l, Bd p) → Q (.ref f) H'
section
variable {P : Program} {w : World} {K : PySem.W.Frag} {mg : Str → Option Value} {base : Heap}
theorem ok_law_samples (B : Blt mg) (D : Def K mg "_law_samples" s_law_samples ["_law_script"]) (G_law_pot : Fn P w K mg base 1 "_law_pot" ["_law_cell_here"] (sp_pot K)) (G_law_cell : Fn P w K mg base 1 "_law_cell" ["_law_script", "_law_k"] (sp_nth K)) (G_law_number : Fn P w K mg base 2 "_law_number" ["_law_pot_here"] (sp_number K)) :
    Fn P w K mg base 3 "_law_samples" ["_law_script"] (sp_samples K) := by
  refine D.ok sc_law_samples (fun vs H Q E h => ?_) (fun f cdv A outer s H vs Q E hr h => ?_)
  · obtain ⟨a, ns, rfl, hS, hl, q⟩ := h
    rfl
  · obtain ⟨a, ns, rfl, hS, hl, q⟩ := h
    refine ⟨_, (pss_cons (ps_set (i := 1) sc_law_samples.nd rfl (Or.inl rfl) (pe_lst pa_nil))
      (pss_cons (ps_for PassesOwn.never rfl (pi_range1 rfl B.range (pa_cons (pe_callB (c_min2 rfl) rfl B.min (by decide +kernel) (pa_cons pe_int (pa_cons (pe_callB (crK K c_len) rfl B.len (by decide +kernel) (pa_cons (pv 0) pa_nil)) pa_nil))) pa_nil)) (pg_name (i := 2) sc_law_samples.nd rfl (Or.inl rfl))
      (pss_cons (ps_set (i := 3) sc_law_samples.nd rfl (Or.inl rfl) (pe_fn G_law_pot hr (pa_cons (pe_op op_add (pe_fn G_law_cell hr (pa_cons (pv 0) (pa_cons (pv 2) pa_nil))) (pe_op op_mulY (pe_op op_mulY pe_int (pv 2)) (pe_callTy c_int1 rfl B.int (by decide +kernel) (pa_cons (pe_cmpR op_lt (pe_callB c_abs rfl B.abs (by decide +kernel) (pa_cons (pe_fn G_law_cell hr (pa_cons (pv 0) (pa_cons (pv 2) pa_nil))) pa_nil)) (pe_powC (z := 1000000000000000000) (by decide +kernel) (by decide +kernel)) (nomark _)) pa_nil)))) pa_nil)))
      (pss_one (ps_expr (peK_bm K PySem.F.plainAttrs_list PySem.F.slot_list_append PySem.F.type_list_append mt_append (pv 1) (pa_cons (pe_tup (pa_cons (pe_fn G_law_number hr (pa_cons (pv 3) pa_nil)) (pa_cons (pe_fn G_law_number hr (pa_cons (pv 3) pa_nil)) pa_nil))) pa_nil))))))
      (pss_one (ps_ret (pv 1))))), ?_⟩
    refine r_start (σ' := [some (.ref a), none, none, none]) rfl ?_
    have hS0 := hS.1
    walk_at "a"
    rename_i f Hf nf sf ef
    refine for_wk wk_rng (fun i σ H' => (∃ v1 v2 : Option V, σ = [some (.ref a), some (.ref f), v1, v2]) ∧ Same H H' ∧ ∃ ws, ∃ l : Prs, H' f = some (.lst ws) ∧ DpAll K H' ws (l.map pairP) ∧ l.length = i ∧ (∀ p ∈ l, Bd p))
      ⟨⟨_, _, rfl⟩, sf, [], [], ef, .nil, rfl, by simp⟩ (fun _ _ _ _ _ => trivial) ?_ ?_
    · rintro i x σ H1 H1' hi ⟨⟨v1, v2, rfl⟩, s1, ws, l, e1, d1, l1, b1⟩ ⟨rfl, rfl⟩
      have hS1 := (hS.text (TExt.of_same s1)).1
      walk_at "a"
      rename_i p2 H2 n2 s2 hp2
      refine r_bml (SqL.of (s2 _ _ e1)) ?_
      walk_at "a"
      rename_i z H3 k3 hp3 z0 z1 y H4 k4 hp4 y0 y1 p5 H5 n5 s5 e5
      have s4 : Same H1' H4 := same_at s2 n2 (k3.trans k4)
      have e4 := s5 _ _ (s4 _ _ e1)
      have hlw : ws.length = i := by rw [dpAll_len d1, List.length_map, l1]
      refine r_append e4 (by rw [sizeLine_eq]; omega) fun H6 k6 e6 => ?_
      have t6 := TExt.lst k6 e4
      walk_at "a"
      refine ⟨⟨_, _, rfl⟩, same_at ((s1.trans s4).trans s5) nf k6, _, l ++ [(z, y)], e6, ?_, by simp; omega, fun p hp => ?_⟩
      · rw [List.map_append]
        exact dpAll_snoc (DpAll.text t6 _ _ (imm_all _) (DpAll.same (s4.trans s5) _ _ d1)) (dp_of_pair (SqT.text t6 (SqT.of e5)))
      · rcases List.mem_append.mp hp with hp | hp
        · exact b1 p hp
        · have : p = (z, y) := by simpa using hp
          subst this
          exact ⟨by unfold big; exact ⟨z0, z1⟩, by unfold big; exact ⟨y0, y1⟩⟩
    · rintro σ H1 ⟨⟨v1, v2, rfl⟩, s1, ws, l, e1, d1, l1, b1⟩
      walk_at "a"
      exact q f l ws H1 nf s1 e1 d1 (by omega) b1
end
theorem use_samples {K : PySem.W.Frag} {H : Hp} {Q : VK} {E : XK} {a : Addr} {ns : List Int} (hS : Scr K H a ns) (hl : ns.length ≤ 63)
    (q : ∀ (f : Addr) (l : Prs) (ws : List V) (H' : Hp), H f = none → Same H H' → H' f = some (.lst ws) → DpAll K H' ws (l.map pairP) → l.length ≤ 40 → (∀ p ∈ l, Bd p) → Q (.ref f) H') : sp_samples K [.ref a] H Q E := ⟨a, ns, rfl, hS, hl, q⟩
def sp_curve (K : PySem.W.Frag) : Sp := fun vs H Q _ => ∃ (a : Addr) (l : Prs) (ws : List V), vs = [.ref a] ∧ SqL K H a ws ∧ DpAll K H ws (l.map pairP) ∧ l.length < 64 ∧ ∀ (c : Prs) p H', Same H H' → IsC l c → Dp K H' (.ref p) (prsD c) → Q (.ref p) H'
section
variable {P : Program} {w : World} {K : PySem.W.Frag} {mg : Str → Option Value} {base : Heap}
theorem ok_law_curve (B : Blt mg) (D : Def K mg "_law_curve" s_law_curve ["_law_samples_here"]) :
    Fn P w K mg base 1 "_law_curve" ["_law_samples_here"] (sp_curve K) := by
  refine D.ok sc_law_curve (fun vs H Q E h => ?_) (fun f cdv A outer s H vs Q E hr h => ?_)
  · obtain ⟨a, l, ws, rfl, ha, hd, hl, q⟩ := h
    rfl
  · obtain ⟨a, l, ws, rfl, ha, hd, hl, q⟩ := h
    refine ⟨_, (pss_cons (ps_set (i := 1) sc_law_curve.nd rfl (Or.inr rfl) (pe_callTy (crK K (c_dictP rfl)) rfl B.dict (by decide +kernel) (pa_cons (pv 0) pa_nil)))
      (pss_one (ps_ret (pe_callTy (crK K c_tuple) rfl B.tuple (by decide +kernel) (pa_cons (pe_lc (own := [("_law_t", 2)]) (g := gName 2) (tt := tYes) rfl sc_law_curve.nd (piK_list K (pe_callB (c_sortedD rfl) rfl B.sorted (by decide +kernel) (pa_cons (pv 1) pa_nil))) (blkOk_by (N := ["_law_samples_here", "_law_held", "_law_t"]) (sc := defScope s_law_curve) (by decide +kernel)) (fun _ _ _ _ _ => (pg_name (i := 2) sc_law_curve.nd rfl (Or.inl rfl))) (fun _ _ _ _ _ => pts_nil) (fun _ _ _ _ _ => (pe_tup (pa_cons (pv 2) (pa_cons (pe_dget (hu_of hr) (pv 1) (pv 2) (fun _ _ => rfl)) pa_nil))))) pa_nil))))), ?_⟩
    refine r_start (σ' := [some (.ref a), none, none]) rfl ?_
    walk_at "a"
    refine r_dict ha hd fun p1 H1 n1 s1 e1 => ?_
    walk_at "a"
    have hm := len_merge l []
    refine r_sortedD e1 (by simp at hm; omega) fun ys p2 H2 hp hs n2 s2 e2 => ?_
    walk_at "a"
    have nd := nd_merge l [] (by simp)
    refine lc_lstD (K := K) (as := ys) (fa := PyData.int) (SqL.of e2) (dpAll_ints K _ ys) (by rw [hp.length_eq, List.length_map]; simp at hm; omega) (fun _ => true) (fun t => pairP (t, (valP (mergeP [] l) t).getD 0)) (fun c => imm_pair _) (fun t x H3 S N ht s3 hx k1 k2 => ?_) (fun D H3 ys2 hD s3 e3 p3 => ?_)
    · cases dp_int hx
      refine r_gname ⟨wipe_one, ?_⟩
      walk_at "a"
      try refine r_dget ?_
      walk_at "a"
      obtain ⟨h, hh⟩ : ∃ h, valP (mergeP [] l) t = some h := by
        obtain ⟨q, hq, rfl⟩ := List.mem_map.mp (hp.mem_iff.mp ht)
        exact ⟨q.2, (valP_iff nd).mpr hq⟩
      refine r_dgeti (s3 _ _ (s2 _ _ e1)) hh ?_
      walk_at "a"
      rw [hh] at k1
      exact k1 rfl _ _ (by assumption) (dp_of_pair (SqT.of (by assumption)))
    · walk_at "a"
      rename_i p4 H4 n4 s4 e4
      have e : ((ys.filter fun _ => true).map fun t => pairP (t, (valP (mergeP [] l) t).getD 0)) = (outOf (mergeP [] l) ys).map pairP := by
        rw [Fp.filter_all]
        unfold outOf
        rw [List.map_map]
        rfl
      rw [e] at p3
      exact q _ p4 H4 (by walk_at "sm") (isC_out hp hs) (.tup (SqT.of e4) (DpAll.same s4 _ _ p3))
end
theorem use_curve {K : PySem.W.Frag} {H : Hp} {Q : VK} {E : XK} {a : Addr} {l : Prs} {ws : List V} (h : SqL K H a ws) (hd : DpAll K H ws (l.map pairP)) (hl : l.length < 64) (q : ∀ (c : Prs) p H', Same H H' → IsC l c → Dp K H' (.ref p) (prsD c) → Q (.ref p) H') : sp_curve K [.ref a] H Q E := ⟨a, l, ws, rfl, h, hd, hl, q⟩

/-! ### what a curve is -/
def isInt : PyData → Bool
  | .int _ => true
  | _ => false
def isSmp : PyData → Bool
  | .tuple [.int _, .int _] => true
  | _ => false
theorem isInt_not {d : PyData} (h : isT "int" d = false) : isInt d = false := by
  cases d with
  | int i => exact absurd h (by rw [show isT "int" (PyData.int i) = true from (show isK "int" "int" = true by decide +kernel)]; decide)
  | _ => rfl
theorem isInt_not2 {d : PyData} (h : isT "bool" d = true) : isInt d = false := by
  cases d with
  | int i => exact absurd h (by rw [show isT "bool" (PyData.int i) = false from (show isK "bool" "int" = false by decide +kernel)]; decide)
  | _ => rfl
theorem isInt_of {d : PyData} (h1 : isT "int" d = true) (h2 : isT "bool" d = false) : isInt d = true := by
  cases d with
  | int i => rfl
  | none => exact absurd h1 (by rw [show isT "int" PyData.none = false from (show isK "int" "NoneType" = false by decide +kernel)]; decide)
  | bool b => exact absurd h2 (by rw [show isT "bool" (PyData.bool b) = true from (show isK "bool" "bool" = true by decide +kernel)]; decide)
  | str b => exact absurd h1 (by rw [show isT "int" (PyData.str b) = false from (show isK "int" "str" = false by decide +kernel)]; decide)
  | list b => exact absurd h1 (by rw [show isT "int" (PyData.list b) = false from (show isK "int" "list" = false by decide +kernel)]; decide)
  | tuple b => exact absurd h1 (by rw [show isT "int" (PyData.tuple b) = false from (show isK "int" "tuple" = false by decide +kernel)]; decide)
  | dict b => exact absurd h1 (by rw [show isT "int" (PyData.dict b) = false from (show isK "int" "dict" = false by decide +kernel)]; decide)
theorem isTup_not {d : PyData} (h : isT "tuple" d = false) : ∀ ds, d ≠ .tuple ds := fun ds z => by
  subst z
  exact absurd h (by rw [show isT "tuple" (PyData.tuple ds) = true from (show isK "tuple" "tuple" = true by decide +kernel)]; decide)
theorem isTup_of {d : PyData} (h : isT "tuple" d = true) : ∃ ds, d = .tuple ds := by
  cases d with
  | tuple ds => exact ⟨ds, rfl⟩
  | int i => exact absurd h (by rw [show isT "tuple" (PyData.int i) = false from (show isK "tuple" "int" = false by decide +kernel)]; decide)
  | none => exact absurd h (by rw [show isT "tuple" PyData.none = false from (show isK "tuple" "NoneType" = false by decide +kernel)]; decide)
  | bool b => exact absurd h (by rw [show isT "tuple" (PyData.bool b) = false from (show isK "tuple" "bool" = false by decide +kernel)]; decide)
  | str b => exact absurd h (by rw [show isT "tuple" (PyData.str b) = false from (show isK "tuple" "str" = false by decide +kernel)]; decide)
  | list b => exact absurd h (by rw [show isT "tuple" (PyData.list b) = false from (show isK "tuple" "list" = false by decide +kernel)]; decide)
  | dict b => exact absurd h (by rw [show isT "tuple" (PyData.dict b) = false from (show isK "tuple" "dict" = false by decide +kernel)]; decide)
theorem smp_pair (p : Int × Int) : isSmp (pairP p) = true := rfl
theorem smp_get {d : PyData} (h : isSmp d = true) : ∃ p, d = pairP p := by
  unfold isSmp at h
  split at h
  · exact ⟨(_, _), rfl⟩
  · cases h
theorem smp_all : ∀ {ds : List PyData}, ds.all isSmp = true → ∃ c : Prs, ds = c.map pairP
  | [], _ => ⟨[], rfl⟩
  | d :: ds, h => by
    rw [List.all_cons, Bool.and_eq_true] at h
    obtain ⟨p, rfl⟩ := smp_get h.1
    obtain ⟨c, rfl⟩ := smp_all h.2
    exact ⟨p :: c, rfl⟩
theorem all_smp (c : Prs) : (c.map pairP).all isSmp = true := by
  rw [List.all_map]
  exact List.all_eq_true.mpr fun _ _ => rfl
abbrev Up (c : Prs) : Prop := c.Pairwise fun p q => p.1 < q.1
theorem zip_all : ∀ c : Prs, ((c.zip (c.drop 1)).all fun pq => decide (pq.1.1 < pq.2.1)) = true ↔ Up c
  | [] => by simp [Up]
  | [p] => by simp [Up]
  | p :: q :: r => by
    have ih := zip_all (q :: r)
    rw [show (p :: q :: r).drop 1 = q :: r from rfl, List.zip_cons_cons, List.all_cons, Bool.and_eq_true, decide_eq_true_eq]
    rw [show (q :: r).drop 1 = r from rfl] at ih
    rw [ih]
    constructor
    · rintro ⟨h1, h2⟩
      refine List.pairwise_cons.mpr ⟨fun x hx => ?_, h2⟩
      rcases List.mem_cons.mp hx with rfl | hx
      · exact h1
      · exact Int.lt_trans h1 ((List.pairwise_cons.mp h2).1 x hx)
    · intro h
      obtain ⟨h1, h2⟩ := List.pairwise_cons.mp h
      exact ⟨h1 q (List.mem_cons_self ..), h2⟩
theorem pairs_inj {c c' : Prs} (h : c.map pairP = c'.map pairP) : c = c' := by
  refine (List.map_inj_right fun p q e => ?_).mp h
  obtain ⟨a, b⟩ := p
  obtain ⟨a', b'⟩ := q
  injection e with e
  injection e with e1 e2
  injection e1 with e1
  injection e2 with e2 _
  injection e2 with e2
  have e1 : a = a' := e1
  have e2 : b = b' := e2
  rw [e1, e2]
inductive Kd (K : PySem.W.Frag) (H : Hp) : V → Option PyData → Prop where
  | dp {v : V} {d : PyData} (h : Dp K H v d) : Kd K H v (some d)
  | dk {a : Addr} {kvs : List (Key × V)} (h : H a = some (.dK kvs)) : Kd K H (.ref a) none
  | dx {a : Addr} (h : H a = some (DictO a)) : Kd K H (.ref a) none
theorem Kd.same {K : PySem.W.Frag} {H H' : Hp} {v : V} {o : Option PyData} (h : Kd K H v o) (s : Same H H') : Kd K H' v o := by
  cases h with
  | dp h => exact .dp (Dp.same s _ _ h)
  | dk h => exact .dk (s _ _ h)
  | dx h => exact .dx (s _ _ h)
def IsCv (o : Option PyData) : Prop := ∃ c, o = some (prsD c) ∧ Up c
def sp_whole (K : PySem.W.Frag) : Sp := fun vs H Q _ => ∃ (v : V) (d : PyData), vs = [v] ∧ Dp K H v d ∧ Q (.bl (isInt d)) H
section
variable {P : Program} {w : World} {K : PySem.W.Frag} {mg : Str → Option Value} {base : Heap}
theorem ok_is_whole (B : Blt mg) (D : Def K mg "is_whole" s_is_whole ["thing"]) :
    Fn P w K mg base 1 "is_whole" ["thing"] (sp_whole K) := by
  refine D.ok sc_is_whole (fun vs H Q E h => ?_) (fun f cdv A outer s H vs Q E hr h => ?_)
  · obtain ⟨v, d, rfl, hd, q⟩ := h
    rfl
  · obtain ⟨v, d, rfl, hd, q⟩ := h
    refine ⟨_, (pss_one (ps_ret (pe_and (pe_callB (crK K call_isi) rfl B.isinstance (by decide +kernel) (pa_cons (pv 0) (pa_cons (pe_bltn (v := .ty "int") rfl B.int (by decide +kernel) rfl) pa_nil))) (pe_one (pe_not (pe_callB (crK K call_isi) rfl B.isinstance (by decide +kernel) (pa_cons (pv 0) (pa_cons (pe_bltn (v := .ty "bool") rfl B.bool (by decide +kernel) rfl) pa_nil)))))))), ?_⟩
    refine r_start (σ' := [some (v)]) rfl ?_
    walk_at "a"
    refine r_isi hd (by decide) ?_
    cases h1 : isT "int" d with
    | false =>
      walk_at "a"
      rw [isInt_not h1] at q
      exact q
    | true =>
      walk_at "a"
      refine r_isi hd (by decide) ?_
      cases h2 : isT "bool" d with
      | true =>
        walk_at "a"
        rw [isInt_not2 h2] at q
        exact q
      | false =>
        walk_at "a"
        rw [isInt_of h1 h2] at q
        exact q
end
theorem use_whole {K : PySem.W.Frag} {H : Hp} {Q : VK} {E : XK} {v : V} {d : PyData} (hd : Dp K H v d) (q : Q (.bl (isInt d)) H) : sp_whole K [v] H Q E := ⟨v, d, rfl, hd, q⟩
def sp_sample (K : PySem.W.Frag) : Sp := fun vs H Q _ => ∃ (v : V) (d : PyData), vs = [v] ∧ Dp K H v d ∧ (∀ ds, d = .tuple ds → ds.length ≤ 1000) ∧ ∀ H', Same H H' → Q (.bl (isSmp d)) H'
theorem dpAll_bls {K : PySem.W.Frag} {H : Hp} : ∀ {vs : List V} {bs : List Bool}, DpAll K H vs (bs.map PyData.bool) → vs = bs.map V.bl
  | [], [], .nil => rfl
  | _ :: _, _ :: _, .cons h t => by
    cases h
    rw [dpAll_bls t]
    rfl
theorem smp_two {d1 d2 : PyData} : isSmp (.tuple [d1, d2]) = (isInt d1 && isInt d2) := by
  cases d1 <;> cases d2 <;> rfl
theorem smp_len {ds : List PyData} (h : ds.length ≠ 2) : isSmp (.tuple ds) = false := by
  match ds, h with
  | [], _ => rfl
  | [a], _ => cases a <;> rfl
  | [a, b], h => exact absurd rfl h
  | a :: b :: c :: r, _ => cases a <;> cases b <;> rfl
theorem smp_not {d : PyData} (h : ∀ ds, d ≠ .tuple ds) : isSmp d = false := by
  cases d with
  | tuple ds => exact absurd rfl (h ds)
  | _ => rfl
section
variable {P : Program} {w : World} {K : PySem.W.Frag} {mg : Str → Option Value} {base : Heap}
theorem ok_is_sample (B : Blt mg) (D : Def K mg "is_sample" s_is_sample ["thing"]) (G_is_whole : Fn P w K mg base 1 "is_whole" ["thing"] (sp_whole K)) :
    Fn P w K mg base 2 "is_sample" ["thing"] (sp_sample K) := by
  refine D.ok sc_is_sample (fun vs H Q E h => ?_) (fun f cdv A outer s H vs Q E hr h => ?_)
  · obtain ⟨v, d, rfl, hd, hl, q⟩ := h
    rfl
  · obtain ⟨v, d, rfl, hd, hl, q⟩ := h
    refine ⟨_, (pss_one (ps_ret (pe_and (pe_callB (crK K call_isi) rfl B.isinstance (by decide +kernel) (pa_cons (pv 0) (pa_cons (pe_bltn (v := .ty "tuple") rfl B.tuple (by decide +kernel) rfl) pa_nil))) (pe_and (pe_cmpR (opK K (o_eq hr.units)) (pe_callB (crK K c_len) rfl B.len (by decide +kernel) (pa_cons (pv 0) pa_nil)) pe_int (nomark _)) (pe_one (pe_callB (crK K (cr_all rfl)) rfl B.all (by decide +kernel) (pa_cons (pe_lc (own := [("part", 1)]) (g := gName 1) (tt := tYes) rfl sc_is_sample.nd (piK_tup K (pv 0)) (blkOk_by (N := ["thing", "part"]) (sc := defScope s_is_sample) (by decide +kernel)) (fun _ _ _ _ _ => (pg_name (i := 1) sc_is_sample.nd rfl (Or.inl rfl))) (fun _ _ _ _ _ => pts_nil) (fun _ _ _ _ _ => (pe_fn G_is_whole hr (pa_cons (pv 1) pa_nil)))) pa_nil))))))), ?_⟩
    refine r_start (σ' := [some (v), none]) rfl ?_
    walk_at "a"
    refine r_isi hd (by decide) ?_
    cases h1 : isT "tuple" d with
    | false =>
      walk_at "a"
      rw [smp_not (isTup_not h1)] at q
      exact q _ (Same.refl _)
    | true =>
      obtain ⟨ds, rfl⟩ := isTup_of h1
      obtain ⟨a, ws, rfl, ha, hw⟩ := dp_tup hd
      have hwl : ws.length = ds.length := dpAll_len hw
      walk_at "a"
      refine i_cases (fun h2 => ?_) (fun h2 => ?_)
      rotate_left
      · rw [smp_len (by omega)] at q
        exact q _ (Same.refl _)
      obtain ⟨d1, d2, rfl⟩ : ∃ d1 d2, ds = [d1, d2] := by
        match ds, (show ds.length = 2 by omega) with
        | [a, b], _ => exact ⟨a, b, rfl⟩
      rw [smp_two] at q
      walk_at "a"
      refine lc_tupD (K := K) (as := [d1, d2]) (fa := id) ha (by simpa using hw) (by simp) (fun _ => true) (fun d => .bool (isInt d)) (fun _ => rfl) (fun d x H2 S N hd2 s2 hx k1 k2 => ?_) (fun D H2 ys hD s2 e2 p2 => ?_)
      · refine r_gname ⟨wipe_one, ?_⟩
        walk_at "a"
        exact use_whole (d := d) hx (k1 rfl _ _ (Same.refl _) (.bl _))
      rw [Fp.filter_all] at p2
      have ey : ys = [isInt d1, isInt d2].map V.bl := dpAll_bls (bs := [isInt d1, isInt d2]) p2
      rw [ey] at e2
      walk_at "a"
      refine r_all (SqL.of e2) ?_
      have := q H2 s2
      simpa using this
end
theorem use_sample {K : PySem.W.Frag} {H : Hp} {Q : VK} {E : XK} {v : V} {d : PyData} (hd : Dp K H v d) (hl : ∀ ds, d = .tuple ds → ds.length ≤ 1000) (q : ∀ H', Same H H' → Q (.bl (isSmp d)) H') : sp_sample K [v] H Q E := ⟨v, d, rfl, hd, hl, q⟩
def sp_isc (K : PySem.W.Frag) : Sp := fun vs H Q _ => ∃ (v : V) (o : Option PyData), vs = [v] ∧ Kd K H v o ∧ (∀ ds, o = some (.tuple ds) → ds.length ≤ 1000 ∧ ∀ d ∈ ds, ∀ es, d = .tuple es → es.length ≤ 1000) ∧ ∀ (b : Bool) H', Same H H' → (b = true ↔ IsCv o) → Q (.bl b) H'
section
variable {P : Program} {w : World} {K : PySem.W.Frag} {mg : Str → Option Value} {base : Heap}
theorem ok_is_curve (B : Blt mg) (D : Def K mg "is_curve" s_is_curve ["thing"]) (G_is_sample : Fn P w K mg base 2 "is_sample" ["thing"] (sp_sample K)) :
    Fn P w K mg base 3 "is_curve" ["thing"] (sp_isc K) := by
  refine D.ok sc_is_curve (fun vs H Q E h => ?_) (fun f cdv A outer s H vs Q E hr h => ?_)
  · obtain ⟨v, o, rfl, hk, hl, q⟩ := h
    rfl
  · obtain ⟨v, o, rfl, hk, hl, q⟩ := h
    refine ⟨_, (pss_cons (ps_if (PW.pt (pw_or (pt_not (pt_val (pe_callB (crK K call_isiD) rfl B.isinstance (by decide +kernel) (pa_cons (pv 0) (pa_cons (pe_bltn (v := .ty "tuple") rfl B.tuple (by decide +kernel) rfl) pa_nil))))) (pw_or1 (pt_not (pt_val (pe_callB (crK K (cr_all rfl)) rfl B.all (by decide +kernel) (pa_cons (pe_lc (own := [("one", 1)]) (g := gName 1) (tt := tYes) rfl sc_is_curve.nd (piK_tup K (pv 0)) (blkOk_by (N := ["thing", "one", "other"]) (sc := defScope s_is_curve) (by decide +kernel)) (fun _ _ _ _ _ => (pg_name (i := 1) sc_is_curve.nd rfl (Or.inl rfl))) (fun _ _ _ _ _ => pts_nil) (fun _ _ _ _ _ => (pe_fn G_is_sample hr (pa_cons (pv 1) pa_nil)))) pa_nil)))))))
      (pss_one (ps_ret pe_bl))
      pss_nil)
      (pss_one (ps_ret (pe_callB (crK K (cr_all rfl)) rfl B.all (by decide +kernel) (pa_cons (pe_lc (own := [("one", 1), ("other", 2)]) (g := gTup K 2 (gCons (gName 1) (gCons (gName 2) gNil))) (tt := tYes) rfl sc_is_curve.nd (piK_zip K B.zip (pa_cons (pv 0) (pa_cons (pe_slice (slK K sl_tupA) (pv 0) (po_some pe_int) po_none) pa_nil))) (blkOk_by (N := ["thing", "one", "other"]) (sc := defScope s_is_curve) (by decide +kernel)) (fun _ _ _ _ _ => (pgK_tup K (n := 2) rfl (pgs_cons (pg_name (i := 1) sc_is_curve.nd rfl (Or.inl rfl)) (pgs_cons (pg_name (i := 2) sc_is_curve.nd rfl (Or.inl rfl)) pgs_nil)))) (fun _ _ _ _ _ => pts_nil) (fun _ _ _ _ _ => (pe_cmpR op_lt (pe_ix (ixK K ix_seq) (pv 1) pe_int (fun _ _ => rfl)) (pe_ix (ixK K ix_seq) (pv 2) pe_int (fun _ _ => rfl)) (nomark _)))) pa_nil))))), ?_⟩
    refine r_start (σ' := [some (v), none, none]) rfl ?_
    walk_at "a"
    have no : (∀ ds, o ≠ some (.tuple ds)) → Q (.bl false) H := fun h => q false H (Same.refl _) ⟨(fun z => Bool.noConfusion z), fun ⟨c, e, _⟩ => absurd e (h _)⟩
    cases hk with
    | dk h =>
      refine .inl ⟨_, .ty "tuple", .type "dict", .type "tuple", false, rfl, .ty "tuple", .base (.dK h), kit_ty (kit_tab (by decide) (by decide)), ?_⟩
      walk_at "a"
      exact no (by intro ds z; cases z)
    | dx h =>
      refine .inr ⟨_, rfl, h, ?_⟩
      walk_at "a"
      exact no (by intro ds z; cases z)
    | @dp _ d hd =>
      refine .inl (r_isi hd (by decide) ?_)
      cases h1 : isT "tuple" d with
      | false =>
        walk_at "a"
        exact no (by intro ds z; exact isTup_not h1 ds (Option.some.inj z))
      | true =>
        obtain ⟨ds, rfl⟩ := isTup_of h1
        obtain ⟨l1, l2⟩ := hl ds rfl
        obtain ⟨a, ws, rfl, ha, hw⟩ := dp_tup hd
        have hwl : ws.length = ds.length := dpAll_len hw
        walk_at "a"
        refine lc_tupD (K := K) (as := ds) (fa := id) ha (by simpa using hw) (by omega) (fun _ => true) (fun d => .bool (isSmp d)) (fun _ => rfl) (fun d x H2 S N hd2 s2 hx k1 k2 => ?_) (fun D H2 ys hD s2 e2 p2 => ?_)
        · refine r_gname ⟨wipe_one, ?_⟩
          walk_at "a"
          exact use_sample (d := d) hx (l2 d hd2) fun H3 s3 => k1 rfl _ _ s3 (.bl _)
        rw [Fp.filter_all, show (ds.map fun d => PyData.bool (isSmp d)) = (ds.map isSmp).map PyData.bool by rw [List.map_map]; rfl] at p2
        have ey := dpAll_bls p2
        rw [ey] at e2
        walk_at "a"
        refine r_all (SqL.of e2) ?_
        cases hA : ds.all isSmp with
        | false =>
          have hA2 : (ds.map isSmp).all id = false := by rw [List.all_map]; exact hA
          rw [hA2]
          walk_at "a"
          refine q false _ s2 ⟨(fun z => Bool.noConfusion z), fun ⟨c, e, _⟩ => ?_⟩
          have e := Option.some.inj e
          unfold prsD at e
          injection e with e
          rw [e, all_smp] at hA
          cases hA
        | true =>
          obtain ⟨c, rfl⟩ := smp_all hA
          have hA2 : ((c.map pairP).map isSmp).all id = true := by rw [List.all_map]; exact hA
          rw [hA2]
          rw [List.length_map] at l1
          have ha2 := SqT.text (TExt.of_same s2) ha
          have hw2 := DpAll.same s2 _ _ hw
          walk_at "a"
          rename_i p3 H3 s3 e3
          rw [show (1 : Int) = ((1 : Nat) : Int) from rfl, cutV_from] at e3
          have d3 : DpAll K H3 (ws.drop 1) ((c.drop 1).map pairP) := by
            rw [List.map_drop]
            exact dpAll_drop 1 (DpAll.same s3 _ _ hw2)
          refine r_zipT (SqT.text (TExt.of_same s3) ha2) e3 ?_
          refine lc_zipD (SqT.text (TExt.of_same s3) ha2) (DpAll.same s3 _ _ hw2) e3 d3 (by omega) (fun _ => true) (fun pq => .bool (decide (pq.1.1 < pq.2.1))) (fun _ => rfl) (fun pq T x y H4 S N hc4 s4 hT hx hy k1 k2 => ?_) (fun D H4 ys hD s4 e4 p4 => ?_)
          · obtain ⟨px, rfl, hpx⟩ := dp_pair hx
            obtain ⟨py, rfl, hpy⟩ := dp_pair hy
            walk_at "a"
            refine ⟨rfl, ?_⟩
            walk_at "a"
            exact k1 rfl _ _ (Same.refl _) (.bl _)
          · rw [Fp.filter_all, show ((c.zip (c.drop 1)).map fun pq => PyData.bool (decide (pq.1.1 < pq.2.1))) = ((c.zip (c.drop 1)).map fun pq => decide (pq.1.1 < pq.2.1)).map PyData.bool by rw [List.map_map]; rfl] at p4
            have ey4 := dpAll_bls p4
            rw [ey4] at e4
            walk_at "a"
            refine r_all (SqL.of e4) ?_
            refine q _ _ ((s2.trans s3).trans s4) ?_
            rw [List.all_map]
            refine (zip_all c).trans ⟨fun h => ⟨c, rfl, h⟩, fun ⟨c', e, h⟩ => ?_⟩
            have e := Option.some.inj e
            unfold prsD at e
            injection e with e
            rw [pairs_inj e]
            exact h
end
theorem use_isc {K : PySem.W.Frag} {H : Hp} {Q : VK} {E : XK} {v : V} {o : Option PyData} (hk : Kd K H v o) (hl : ∀ ds, o = some (.tuple ds) → ds.length ≤ 1000 ∧ ∀ d ∈ ds, ∀ es, d = .tuple es → es.length ≤ 1000) (q : ∀ (b : Bool) H', Same H H' → (b = true ↔ IsCv o) → Q (.bl b) H') : sp_isc K [v] H Q E := ⟨v, o, rfl, hk, hl, q⟩
/-! ### what is no curve -/
def Short (o : Option PyData) : Prop := ∀ ds, o = some (.tuple ds) → ds.length ≤ 1000 ∧ ∀ d ∈ ds, ∀ es, d = .tuple es → es.length ≤ 1000
def sp_bad (K : PySem.W.Frag) : Sp := fun vs H Q _ => ∃ t h w : Int, vs = [.int t, .int h, .int w] ∧ t.natAbs < 2 ^ 1920 ∧ h.natAbs < 2 ^ 1920 ∧ 0 ≤ w ∧ w < 12 ∧ ∀ (x : V) (d : PyData) H', Same H H' → (∀ H'' p, H p ≠ none → Keep (At p) H' H'' → TExt H' H'' → Dp K H'' x d) → isSmp d = false → (∀ es, d = .tuple es → es.length ≤ 1000) → Q x H'
section
variable {P : Program} {w : World} {K : PySem.W.Frag} {mg : Str → Option Value} {base : Heap}
theorem ok_law_bad_sample (B : Blt mg) (D : Def K mg "_law_bad_sample" s_law_bad_sample ["_law_t", "_law_h", "_law_way"]) :
    Fn P w K mg base 1 "_law_bad_sample" ["_law_t", "_law_h", "_law_way"] (sp_bad K) := by
  refine D.ok sc_law_bad_sample (fun vs H Q E h => ?_) (fun f cdv A outer s H vs Q E hr h => ?_)
  · obtain ⟨t, h, w', rfl, bt, bh, w0, w1, q⟩ := h
    rfl
  · obtain ⟨t, h, w', rfl, bt, bh, w0, w1, q⟩ := h
    refine ⟨_, (pss_cons (ps_set (i := 3) sc_law_bad_sample.nd rfl (Or.inl rfl) (pe_lst (pa_cons (pe_lst (pa_cons (pv 0) (pa_cons (pv 1) pa_nil))) (pa_cons (pe_tup (pa_cons (pv 0) pa_nil)) (pa_cons (pe_tup (pa_cons (pv 0) (pa_cons (pv 1) (pa_cons (pv 1) pa_nil)))) (pa_cons (pe_tup pa_nil) (pa_cons (pe_tup (pa_cons (pv 0) (pa_cons (pe_callTy c_str rfl B.str (by decide +kernel) (pa_cons (pv 1) pa_nil)) pa_nil))) (pa_cons (pe_tup (pa_cons (pv 0) (pa_cons pe_non pa_nil))) (pa_cons (pe_tup (pa_cons (pe_callTy c_str rfl B.str (by decide +kernel) (pa_cons (pv 0) pa_nil)) (pa_cons (pv 1) pa_nil))) (pa_cons (pe_tup (pa_cons pe_bl (pa_cons (pv 1) pa_nil))) (pa_cons (pe_tup (pa_cons (pv 0) (pa_cons pe_bl pa_nil))) (pa_cons pe_non (pa_cons (pv 0) (pa_cons pe_str pa_nil))))))))))))))
      (pss_one (ps_ret (pe_ix (ixK K ix_seq) (pv 3) (pv 2) (fun _ _ => rfl))))), ?_⟩
    refine r_start (σ' := [some (.int t), some (.int h), some (.int w'), none]) rfl ?_
    walk_at "a"
    rename_i l1 H1 n1 s1 e1 t2 H2 n2 s2 e2 t3 H3 n3 s3 e3 t4 H4 n4 s4 e4
    refine r_str bh ?_
    walk_at "a"
    rename_i t5 H5 n5 s5 e5 t6 H6 n6 s6 e6
    refine r_str bt ?_
    walk_at "a"
    rename_i t7 H7 n7 s7 e7 t8 H8 n8 s8 e8 t9 H9 n9 s9 e9 l10 H10 n10 s10 e10
    have q10 := s10
    have q9 := s9.trans q10
    have q8 := s8.trans q9
    have q7 := s7.trans q8
    have q6 := s6.trans q7
    have q5 := s5.trans q6
    have q4 := s4.trans q5
    have q3 := s3.trans q4
    have q2 := s2.trans q3
    have q1 := s1.trans q2
    have fin : ∀ {x : V} {d : PyData}, atI [V.ref l1, V.ref t2, V.ref t3, V.ref t4, V.ref t5, V.ref t6, V.ref t7, V.ref t8, V.ref t9, V.non, V.int t, V.str (Str.ofString "x")] w' = some x → (∀ H'' p, H p ≠ none → Keep (At p) H10 H'' → TExt H10 H'' → Dp K H'' x d) → isSmp d = false → (∀ es, d = .tuple es → es.length ≤ 1000) → rIx K (V.ref l10) (V.int w') H10 Q :=
      fun {x d} hx hd h1 h2 => r_ixl (SqL.of e10) hx (q x d H10 q1 hd h1 h2)
    obtain rfl | rfl | rfl | rfl | rfl | rfl | rfl | rfl | rfl | rfl | rfl | rfl : w' = 0 ∨ w' = 1 ∨ w' = 2 ∨ w' = 3 ∨ w' = 4 ∨ w' = 5 ∨ w' = 6 ∨ w' = 7 ∨ w' = 8 ∨ w' = 9 ∨ w' = 10 ∨ w' = 11 := by omega
    · exact fin (d := .list [.int t, .int h]) rfl (fun H'' p hp k t => .lst (SqL.of (k _ _ (q2 _ _ e1) fun z => hp (by rw [← show l1 = p from z]; exact n1))) (.cons (.int _) (.cons (.int _) .nil))) rfl (by intro es z; cases z)
    · exact fin (d := .tuple [.int t]) rfl (fun H'' p hp k t => .tup (SqT.text t (SqT.of (q3 _ _ e2))) (.cons (.int _) .nil)) rfl (by intro es z; cases z; simp)
    · exact fin (d := .tuple [.int t, .int h, .int h]) rfl (fun H'' p hp k t => .tup (SqT.text t (SqT.of (q4 _ _ e3))) (.cons (.int _) (.cons (.int _) (.cons (.int _) .nil)))) rfl (by intro es z; cases z; simp)
    · exact fin (d := .tuple []) rfl (fun H'' p hp k t => .tup (SqT.text t (SqT.of (q5 _ _ e4))) .nil) rfl (by intro es z; cases z; decide)
    · exact fin (d := .tuple [.int t, .str (numS h)]) rfl (fun H'' p hp k t => .tup (SqT.text t (SqT.of (q6 _ _ e5))) (.cons (.int _) (.cons (.str _) .nil))) rfl (by intro es z; cases z; simp)
    · exact fin (d := .tuple [.int t, .none]) rfl (fun H'' p hp k t => .tup (SqT.text t (SqT.of (q7 _ _ e6))) (.cons (.int _) (.cons .non .nil))) rfl (by intro es z; cases z; simp)
    · exact fin (d := .tuple [.str (numS t), .int h]) rfl (fun H'' p hp k t => .tup (SqT.text t (SqT.of (q8 _ _ e7))) (.cons (.str _) (.cons (.int _) .nil))) rfl (by intro es z; cases z; simp)
    · exact fin (d := .tuple [.bool true, .int h]) rfl (fun H'' p hp k t => .tup (SqT.text t (SqT.of (q9 _ _ e8))) (.cons (.bl _) (.cons (.int _) .nil))) rfl (by intro es z; cases z; simp)
    · exact fin (d := .tuple [.int t, .bool false]) rfl (fun H'' p hp k t => .tup (SqT.text t (SqT.of (q10 _ _ e9))) (.cons (.int _) (.cons (.bl _) .nil))) rfl (by intro es z; cases z; simp)
    · exact fin rfl (fun _ _ _ _ _ => .non) rfl (by intro es z; cases z)
    · exact fin rfl (fun _ _ _ _ _ => .int _) rfl (by intro es z; cases z)
    · exact fin rfl (fun _ _ _ _ _ => .str _) rfl (by intro es z; cases z)
end
theorem use_bad {K : PySem.W.Frag} {H : Hp} {Q : VK} {E : XK} {t h w : Int} (bt : t.natAbs < 2 ^ 1920) (bh : h.natAbs < 2 ^ 1920) (w0 : 0 ≤ w) (w1 : w < 12) (q : ∀ (x : V) (d : PyData) H', Same H H' → (∀ H'' p, H p ≠ none → Keep (At p) H' H'' → TExt H' H'' → Dp K H'' x d) → isSmp d = false → (∀ es, d = .tuple es → es.length ≤ 1000) → Q x H') : sp_bad K [.int t, .int h, .int w] H Q E := ⟨t, h, w, rfl, bt, bh, w0, w1, q⟩
theorem cutV_last {xs : List V} {x : V} : cutV (xs ++ [x]) (some (-1)) none = [x] := by
  unfold cutV
  simp [HT.sIx]
  rw [show (-1 + ((xs.length : Int) + 1)).toNat = xs.length by omega]
  simp
theorem not_up_snoc {c : Prs} {q : Int × Int} (h : q ∈ c) : ¬ Up (c ++ [q]) := fun u => absurd ((List.pairwise_append.mp u).2.2 q h q (List.mem_singleton.mpr rfl)) (Int.lt_irrefl _)
theorem two_of {α : Type} {l : List α} (h : 1 < l.length) : ∃ a b r, l = a :: b :: r := by
  match l, h with
  | a :: b :: r, _ => exact ⟨a, b, r, rfl⟩
theorem cutV_12 {a b : V} {r : List V} : cutV (a :: b :: r) (some 1) (some 2) = [b] := by
  rw [show (1 : Int) = ((1 : Nat) : Int) from rfl, show (2 : Int) = ((2 : Nat) : Int) from rfl]
  unfold cutV
  rw [HT.sIx_nat, HT.sIx_nat, Nat.min_eq_left (by simp), Nat.min_eq_left (by simp)]
  rfl
theorem g_none : Short none ∧ ¬ IsCv none := ⟨(by intro ds z; cases z), fun ⟨c, e, _⟩ => by cases e⟩
theorem g_not {d : PyData} (h : ∀ ds, d ≠ .tuple ds) : Short (some d) ∧ ¬ IsCv (some d) := ⟨fun ds z => absurd (Option.some.inj z) (h ds), fun ⟨c, e, _⟩ => absurd (Option.some.inj e) (h _)⟩
theorem g_bad {ds : List PyData} (h : ds.all isSmp = false) (hl : ds.length ≤ 1000) (hs : ∀ d ∈ ds, ∀ es, d = .tuple es → es.length ≤ 1000) : Short (some (.tuple ds)) ∧ ¬ IsCv (some (.tuple ds)) := by
  refine ⟨fun es z => ?_, fun ⟨c, e, _⟩ => ?_⟩
  · have z := Option.some.inj z
    injection z with z
    subst z
    exact ⟨hl, hs⟩
  · have e := Option.some.inj e
    unfold prsD at e
    injection e with e
    rw [e, all_smp] at h
    cases h
theorem pair_short {p : Int × Int} {es : List PyData} (h : pairP p = .tuple es) : es.length ≤ 1000 := by
  unfold pairP at h
  injection h with h
  subst h
  simp
theorem g_up {c : Prs} (h : ¬ Up c) (hl : c.length ≤ 1000) : Short (some (prsD c)) ∧ ¬ IsCv (some (prsD c)) := by
  refine ⟨fun es z => ?_, fun ⟨c', e, u⟩ => ?_⟩
  · have z := Option.some.inj z
    unfold prsD at z
    injection z with z
    subst z
    refine ⟨by rw [List.length_map]; exact hl, fun d hd es e => ?_⟩
    obtain ⟨p, _, rfl⟩ := List.mem_map.mp hd
    exact pair_short e
  · have e := Option.some.inj e
    unfold prsD at e
    injection e with e
    rw [pairs_inj e] at h
    exact h u
theorem smp_prs (c : Prs) : isSmp (prsD c) = false := by
  match c with
  | [] => rfl
  | [_] => rfl
  | [_, _] => rfl
  | _ :: _ :: _ :: _ => rfl
def Good (K : PySem.W.Frag) (H : Hp) (ws : List V) : Prop := ∀ x ∈ ws, ∃ o, Kd K H x o ∧ Short o ∧ ¬ IsCv o
theorem Good.same {K : PySem.W.Frag} {H H' : Hp} {ws : List V} (g : Good K H ws) (s : Same H H') : Good K H' ws := fun x hx => by
  obtain ⟨o, h1, h2⟩ := g x hx
  exact ⟨o, h1.same s, h2⟩
theorem Good.app {K : PySem.W.Frag} {H : Hp} {ws us : List V} (g : Good K H ws) (h : Good K H us) : Good K H (ws ++ us) := fun x hx => by
  rcases List.mem_append.mp hx with z | z
  · exact g x z
  · exact h x z
theorem Good.nil {K : PySem.W.Frag} {H : Hp} : Good K H [] := fun x hx => by cases hx
theorem Good.cons {K : PySem.W.Frag} {H : Hp} {x : V} {ws : List V} {o : Option PyData} (h : Kd K H x o) (h2 : Short o ∧ ¬ IsCv o) (g : Good K H ws) : Good K H (x :: ws) := fun y hy => by
  rcases List.mem_cons.mp hy with rfl | hy
  · exact ⟨o, h, h2⟩
  · exact g y hy
def sp_no_curves (K : PySem.W.Frag) : Sp := fun vs H Q _ => ∃ (cv bv : V) (c : Prs) (bd : PyData) (k : Nat), vs = [cv, bv, .int (k : Int)] ∧ Dp K H cv (prsD c) ∧ Up c ∧ c.length ≤ 100 ∧ Dp K H bv bd ∧ isSmp bd = false ∧ (∀ es, bd = .tuple es → es.length ≤ 1000) ∧ k ≤ c.length ∧
  ∀ (D : Addr) (ws : List V) H', Same H H' → H' D = some (.lst ws) → ws.length ≤ 30 → (∀ x ∈ ws, ∃ o, Kd K H' x o ∧ Short o ∧ ¬ IsCv o) → Q (.ref D) H'
section
variable {P : Program} {w : World} {K : PySem.W.Frag} {mg : Str → Option Value} {base : Heap}
theorem ok_law_no_curves (B : Blt mg) (D : Def K mg "_law_no_curves" s_law_no_curves ["_law_curve_here", "_law_bad", "_law_place"]) :
    Fn P w K mg base 1 "_law_no_curves" ["_law_curve_here", "_law_bad", "_law_place"] (sp_no_curves K) := by
  refine D.ok sc_law_no_curves (fun vs H Q E h => ?_) (fun f cdv A outer s H vs Q E hr h => ?_)
  · obtain ⟨cv, bv, c, bd, k, rfl, hc, up, lc, hb, nb, lb, hk, q⟩ := h
    rfl
  · obtain ⟨cv, bv, c, bd, k, rfl, hc, up, lc, hb, nb, lb, hk, q⟩ := h
    refine ⟨_, (pss_cons (ps_set (i := 3) sc_law_no_curves.nd rfl (Or.inl rfl) (pe_lst (pa_cons pe_non (pa_cons pe_int (pa_cons pe_str (pa_cons pe_str (pa_cons pe_bl (pa_cons pe_dnewK (pa_cons (pe_callTy (crK K c_list) rfl B.list (by decide +kernel) (pa_cons (pv 0) pa_nil)) (pa_cons (pe_lst pa_nil) (pa_cons (pe_tup (pa_cons (pv 0) pa_nil)) (pa_cons (pe_op (opK K op_catA) (pe_op (opK K op_catA) (pe_slice (slK K sl_tupA) (pv 0) po_none (po_some (pv 2))) (pe_tup (pa_cons (pv 1) pa_nil))) (pe_slice (slK K sl_tupA) (pv 0) (po_some (pv 2)) po_none)) pa_nil))))))))))))
      (Evl.pss_cut (ps_if (pt_cmpR (opK K (o_ne hr.units)) (pv 0) (pe_tup pa_nil) (nomark _))
      (pss_one (ps_set (i := 3) sc_law_no_curves.nd rfl (Or.inl rfl) (pe_op op_cat (pv 3) (pe_lst (pa_cons (pe_op (opK K op_catA) (pv 0) (pe_slice (slK K sl_tupA) (pv 0) (po_some (pe_un un_neg pe_int)) po_none)) (pa_cons (pe_op (opK K op_catA) (pe_slice (slK K sl_tupA) (pv 0) po_none (po_some pe_int)) (pv 0)) (pa_cons (pe_ix (ixK K ix_seq) (pv 0) pe_int (fun _ _ => rfl)) (pa_cons (pe_dispX K hr.units (pe_ix (ixK K ix_seq) (pv 0) pe_int (fun _ _ => rfl)) pe_int) pa_nil))))))))
      pss_nil)
      (Evl.pss_cut (ps_if (pt_cmpR op_gt (pe_callB (crK K c_len) rfl B.len (by decide +kernel) (pa_cons (pv 0) pa_nil)) pe_int (nomark _))
      (pss_cons (ps_set (i := 3) sc_law_no_curves.nd rfl (Or.inl rfl) (pe_op op_cat (pv 3) (pe_lst (pa_cons (peK_revT K (pv 0)) (pa_cons (pe_op (opK K op_catA) (pe_op (opK K op_catA) (pe_slice (slK K sl_tupA) (pv 0) (po_some pe_int) (po_some pe_int)) (pe_slice (slK K sl_tupA) (pv 0) po_none (po_some pe_int))) (pe_slice (slK K sl_tupA) (pv 0) (po_some pe_int) po_none)) (pa_cons (pe_op (opK K op_catA) (pv 0) (pe_slice (slK K sl_tupA) (pv 0) po_none (po_some pe_int))) pa_nil))))))
      (pss_one (ps_expr (peK_bm K PySem.F.plainAttrs_list PySem.F.slot_list_append PySem.F.type_list_append mt_append (pv 3) (pa_cons (pe_op (opK K op_catA) (pe_op (opK K op_catA) (pe_slice (slK K sl_tupA) (pv 0) po_none (po_some pe_int)) (pe_tup (pa_cons (pe_tup (pa_cons (pe_ix (ixK K ix_seq) (pe_ix (ixK K ix_seq) (pv 0) pe_int (fun _ _ => rfl)) pe_int (fun _ _ => rfl)) (pa_cons (pe_op op_add (pe_ix (ixK K ix_seq) (pe_ix (ixK K ix_seq) (pv 0) pe_int (fun _ _ => rfl)) pe_int (fun _ _ => rfl)) pe_int) pa_nil))) pa_nil))) (pe_slice (slK K sl_tupA) (pv 0) (po_some pe_int) po_none)) pa_nil)))))
      pss_nil)
      (pss_one (ps_ret (pv 3)))))), ?_⟩
    refine r_start (σ' := [some (cv), some (bv), some (.int (k : Int)), none]) rfl ?_
    obtain ⟨ca, ws, rfl, hca, hcw⟩ := dp_tup hc
    have hwl : ws.length = c.length := by rw [dpAll_len hcw, List.length_map]
    walk_at "a"
    rename_i d1 H1 n1 s1 e1 l2 H2 n2 s2 e2 l3 H3 n3 s3 e3 t4 H4 n4 s4 e4 t5 H5 s5 e5 t6 H6 n6 s6 e6
    rw [cutV_to] at e5
    refine r_catA (SqT.text (TExt.of_same s6) e5) (SqT.of e6) (by rw [sizeLine_eq, List.length_take]; simp; omega) fun t7 H7 s7 e7 => ?_
    have q06 := (((s1.trans s2).trans (s3.trans s4)).trans (s5.trans s6))
    have hca7 := SqT.text (TExt.of_same (q06.trans s7)) hca
    walk_at "a"
    rename_i t8 H8 s8 e8
    rw [cutV_from] at e8
    refine r_catA (SqT.text (TExt.of_same s8) e7) e8 (by rw [sizeLine_eq]; simp; omega) fun t9 H9 s9 e9 => ?_
    walk_at "a"
    rename_i l10 H10 n10 s10 e10
    have s710 := (s8.trans s9).trans s10
    have s410 := (s5.trans s6).trans (s7.trans s710)
    have s010 := (q06.trans s7).trans s710
    have hca10 := SqT.text (TExt.of_same s010) hca
    have hcw10 := DpAll.same s010 _ _ hcw
    have hb10 := Dp.same s010 _ _ hb
    have G10 : Good K H10 [V.non, V.int 7, V.str (Str.ofString ""), V.str (Str.ofString "1 2"), V.bl true, V.ref d1, V.ref l2, V.ref l3, V.ref t4, V.ref t9] := by
      refine .cons (.dp .non) (g_not (by intro ds z; cases z)) (.cons (.dp (.int 7)) (g_not (by intro ds z; cases z)) (.cons (.dp (.str _)) (g_not (by intro ds z; cases z)) (.cons (.dp (.str _)) (g_not (by intro ds z; cases z)) (.cons (.dp (.bl true)) (g_not (by intro ds z; cases z)) ?_))))
      refine .cons (.dk (((s2.trans s3).trans (s4.trans s410)) _ _ e1)) g_none ?_
      refine .cons (.dp (.lst (SqL.of ((s3.trans (s4.trans s410)) _ _ e2)) hcw10)) (g_not (by intro ds z; cases z)) ?_
      refine .cons (.dp (.lst (SqL.of ((s4.trans s410) _ _ e3)) .nil)) (g_not (by intro ds z; cases z)) ?_
      refine .cons (.dp (d := .tuple [prsD c]) (.tup (SqT.of (s410 _ _ e4)) (.cons (.tup hca10 hcw10) .nil))) (g_bad (by simp [smp_prs]) (by simp) (fun d hd es e => ?_)) ?_
      · rw [List.mem_singleton.mp hd] at e
        unfold prsD at e
        injection e with e
        rw [← e, List.length_map]
        omega
      have dd : Dp K H10 (.ref t9) (.tuple (((c.map pairP).take k ++ [bd]) ++ (c.map pairP).drop k)) := .tup (SqT.text (TExt.of_same s10) e9) (dpAll_app (dpAll_app (dpAll_take k hcw10) (.cons hb10 .nil)) (dpAll_drop k hcw10))
      refine .cons (.dp dd) (g_bad ?_ (by simp; omega) (fun d hd es e => ?_)) .nil
      · rw [List.all_append, List.all_append]
        simp [nb]
      · rcases List.mem_append.mp hd with hd | hd
        · rcases List.mem_append.mp hd with hd | hd
          · obtain ⟨p, _, rfl⟩ := List.mem_map.mp (List.mem_of_mem_take hd)
            exact pair_short e
          · rw [List.mem_singleton.mp hd] at e
            exact lb es e
        · obtain ⟨p, _, rfl⟩ := List.mem_map.mp (List.mem_of_mem_drop hd)
          exact pair_short e
    refine r_cut (fun σ' H' => ∃ D us, σ' = [some (.ref ca), some bv, some (.int (k : Int)), some (.ref D)] ∧ Same H10 H' ∧ H' D = some (.lst us) ∧ us.length ≤ 14 ∧ Good K H' us) ?_ ?_
    · walk_at "a"
      rename_i pe H11 n11 s11 e11
      have hca11 := SqT.text (TExt.of_same s11) hca10
      have hcw11 := DpAll.same s11 _ _ hcw10
      refine r_ne_d (d := prsD c) (e := prsD []) (.tup hca11 hcw11) (.tup (SqT.of e11) .nil) (shaped_prs c) (shaped_prs []) ?_
      rw [eqv_prs]
      walk_at "a"
      refine i_ncases (fun h => ?_) (fun h => ?_)
      · obtain ⟨p0, r0, rfl⟩ : ∃ p0 r0, c = p0 :: r0 := by
          cases c with
          | nil => exact absurd rfl h
          | cons p r => exact ⟨p, r, rfl⟩
        obtain ⟨w0, wr, rfl⟩ : ∃ w0 wr, ws = w0 :: wr := by
          cases ws with
          | nil => simp at hwl
          | cons p r => exact ⟨p, r, rfl⟩
        obtain ⟨px, rfl, hpx⟩ : ∃ px, w0 = .ref px ∧ SqT K H11 px [.int p0.1, .int p0.2] := by
          cases hcw11 with
          | cons h _ => exact dp_pair h
        obtain ⟨wi, wl, ewl⟩ : ∃ wi wl, V.ref px :: wr = wi ++ [wl] := by
          rcases List.eq_nil_or_concat (V.ref px :: wr) with h | ⟨i, l, h⟩
          · cases h
          · exact ⟨i, l, by rw [h, List.concat_eq_append]⟩
        have lr : r0.length ≤ 99 := by simp at lc; omega
        have lw : wr.length = r0.length := by simpa using hwl
        obtain ⟨ci, cl, ecl⟩ : ∃ ci cl, p0 :: r0 = ci ++ [cl] := by
          rcases List.eq_nil_or_concat (p0 :: r0) with h | ⟨i, l, h⟩
          · cases h
          · exact ⟨i, l, by rw [h, List.concat_eq_append]⟩
        walk_at "a"
        rename_i t12 H12 s12 e12
        rw [ewl, cutV_last] at e12
        refine r_catA (SqT.text (TExt.of_same s12) hca11) e12 (by rw [sizeLine_eq]; simp; omega) fun t13 H13 s13 e13 => ?_
        have s1113 := s12.trans s13
        have hca13 := SqT.text (TExt.of_same s1113) hca11
        walk_at "a"
        rename_i t14 H14 s14 e14
        rw [show (1 : Int) = ((1 : Nat) : Int) from rfl, cutV_to] at e14
        have hca14 := SqT.text (TExt.of_same s14) hca13
        refine r_catA e14 hca14 (by rw [sizeLine_eq]; simp; omega) fun t15 H15 s15 e15 => ?_
        have hca15 := SqT.text (TExt.of_same s15) hca14
        walk_at "a"
        refine r_ixt hca15 (atI_nat (j := 0) rfl) ?_
        walk_at "a"
        intro pd npd
        have s16 : Same H15 (upd H15 pd (.dK [])) := Keep.same (Keep.new npd)
        have hca16 := SqT.text (TExt.of_same s16) hca15
        have s1115 := s1113.trans (s14.trans s15)
        have hpx16 := SqT.text (TExt.of_same (s1115.trans s16)) hpx
        walk_at "a"
        refine r_ixt hca16 (atI_nat (j := 0) rfl) ?_
        walk_at "a"
        refine ⟨upd_same, ⟨px, [p0.1, p0.2], rfl, hpx16⟩, ?_⟩
        have s17 : Same H15 (upd (upd H15 pd (.dK [])) pd (DictO pd)) := fun b o e => by
          have nb := ne_of_none e npd
          rw [upd_ne nb, upd_ne nb]
          exact e
        have e17 : (upd (upd H15 pd (.dK [])) pd (DictO pd)) pd = some (DictO pd) := upd_same
        generalize upd (upd H15 pd (.dK [])) pd (DictO pd) = H17 at s17 e17 ⊢
        walk_at "a"
        rename_i l18 H18 n18 s18 e18 l19 H19 n19 s19 e19
        have s1519 : Same H15 H19 := s17.trans (s18.trans s19)
        have s1019 : Same H10 H19 := (s11.trans s1115).trans s1519
        have hcw19 := DpAll.same (s1115.trans s1519) _ _ hcw11
        have hpx19 := SqT.text (TExt.of_same (s1115.trans s1519)) hpx
        obtain ⟨cq, hcq, dcq⟩ := dpAll_map_at hcw19 (i := wi.length) (x := wl) (by rw [ewl]; simp)
        have dA : Dp K H19 (.ref t13) (prsD ((p0 :: r0) ++ [cq])) := .tup (SqT.text (TExt.of_same ((s14.trans s15).trans s1519)) e13) (by rw [List.map_append]; exact dpAll_app hcw19 (.cons dcq .nil))
        have dB : Dp K H19 (.ref t15) (prsD ((p0 :: r0).take 1 ++ (p0 :: r0))) := .tup (SqT.text (TExt.of_same s1519) e15) (by rw [List.map_append, List.map_take]; exact dpAll_app (dpAll_take 1 hcw19) hcw19)
        refine ⟨l19, _, rfl, s1019, e19, by simp, (G10.same s1019).app ?_⟩
        refine .cons (.dp dA) (g_up (not_up_snoc (List.mem_of_getElem? hcq)) (by simp; omega)) (.cons (.dp dB) (g_up (fun u => ?_) (by simp; omega)) (.cons (.dp (dp_of_pair hpx19)) (g_bad (ds := [.int p0.1, .int p0.2]) rfl (by simp) (fun d hd es e => ?_)) (.cons (.dx (s19 _ _ (s18 _ _ e17))) g_none .nil)))
        · have u : Up (p0 :: p0 :: r0) := u
          exact absurd ((List.pairwise_cons.mp u).1 p0 (List.mem_cons_self ..)) (Int.lt_irrefl _)
        · simp only [List.mem_cons, List.not_mem_nil, or_false] at hd
          rcases hd with rfl | rfl <;> cases e
      · walk_at "a"
        exact ⟨l10, _, rfl, s11, s11 _ _ e10, by simp, G10.same s11⟩
    rintro σ' H11 ⟨D11, us11, rfl, s11, e11, lu11, G11⟩
    have hca11 := SqT.text (TExt.of_same s11) hca10
    have hcw11 := DpAll.same s11 _ _ hcw10
    refine r_cut (fun σ' H' => ∃ D us, σ' = [some (.ref ca), some bv, some (.int (k : Int)), some (.ref D)] ∧ Same H11 H' ∧ H' D = some (.lst us) ∧ us.length ≤ 18 ∧ Good K H' us) ?_ ?_
    · walk_at "a"
      refine i_cases (fun h => ?_) (fun h => ?_)
      · obtain ⟨p0, p1, r0, rfl⟩ := two_of (l := c) (by omega)
        obtain ⟨w0, w1, wr, rfl⟩ := two_of (l := ws) (by omega)
        obtain ⟨px, rfl, hpx⟩ : ∃ px, w0 = .ref px ∧ SqT K H11 px [.int p0.1, .int p0.2] := by
          cases hcw11 with
          | cons h _ => exact dp_pair h
        have lr : r0.length ≤ 98 := by simp at lc; omega
        have lw : wr.length = r0.length := by simpa using hwl
        walk_at "a"
        rename_i t12 H12 n12 s12 e12 t13 H13 s13 e13 t14 H14 s14 e14 t15 H15 s15 e15 t16 H16 s16 e16
        rw [cutV_12, show (1 : Int) = ((1 : Nat) : Int) from rfl, cutV_to] at e15
        rw [show (2 : Int) = ((2 : Nat) : Int) from rfl, cutV_from] at e16
        have e15 : SqT K H15 t15 [w1, V.ref px] := e15
        have e16 : SqT K H16 t16 wr := e16
        refine r_catA (SqT.text (TExt.of_same s16) e15) e16 (by rw [sizeLine_eq]; simp; omega) fun t17 H17 s17 e17 => ?_
        have s1117 := ((s12.trans s13).trans (s14.trans s15)).trans (s16.trans s17)
        have hca17 := SqT.text (TExt.of_same s1117) hca11
        walk_at "a"
        rename_i t18 H18 s18 e18
        rw [show (1 : Int) = ((1 : Nat) : Int) from rfl, cutV_to] at e18
        have e18 : SqT K H18 t18 [V.ref px] := e18
        have hca18 := SqT.text (TExt.of_same s18) hca17
        refine r_catA hca18 e18 (by rw [sizeLine_eq]; simp; omega) fun t19 H19 s19 e19 => ?_
        have s1119 := s1117.trans (s18.trans s19)
        have e11b := s1119 _ _ e11
        have hca19 := SqT.text (TExt.of_same s19) hca18
        walk_at "a"
        rename_i l20 H20 n20 s20 e20
        refine r_cat (s20 _ _ e11b) e20 (by rw [sizeLine_eq]; simp; omega) fun l21 H21 n21 s21 e21 => ?_
        have s1121 := s1119.trans (s20.trans s21)
        have hca21 := SqT.text (TExt.of_same s1121) hca11
        walk_at "a"
        refine r_bml (SqL.of e21) ?_
        walk_at "a"
        rename_i t22 H22 s22 e22
        rw [show (1 : Int) = ((1 : Nat) : Int) from rfl, cutV_to] at e22
        have e22 : SqT K H22 t22 [V.ref px] := e22
        have hca22 := SqT.text (TExt.of_same s22) hca21
        have hpx22 := SqT.text (TExt.of_same (s1121.trans s22)) hpx
        refine r_ixt hca22 (atI_nat (j := 0) rfl) ?_
        walk_at "a"
        refine r_ixt hca22 (atI_nat (j := 0) rfl) ?_
        walk_at "a"
        rename_i t23 H23 n23 s23 e23 t24 H24 n24 s24 e24 t25 H25 s25 e25 t26 H26 s26 e26
        have s2225 := (s23.trans s24).trans s25
        rw [show (1 : Int) = ((1 : Nat) : Int) from rfl, cutV_from] at e26
        have e26 : SqT K H26 t26 (w1 :: wr) := e26
        refine r_catA (SqT.text (TExt.of_same s26) e25) e26 (by rw [sizeLine_eq]; simp; omega) fun t27 H27 s27 e27 => ?_
        have s2127 := (s22.trans s2225).trans (s26.trans s27)
        have e21b := s2127 _ _ e21
        walk_at "a"
        refine r_append e21b (by rw [sizeLine_eq]; simp; omega) fun H28 k28 e28 => ?_
        have t28 := TExt.lst k28 e21b
        have s2028 : Same H20 H28 := fun b o e => k28 _ _ (s2127 _ _ (s21 _ _ e)) (ne_of_none e n21)
        have s1120 := s1119.trans s20
        obtain ⟨h0, h1, hr0⟩ : Dp K H11 (.ref px) (pairP p0) ∧ Dp K H11 w1 (pairP p1) ∧ DpAll K H11 wr (r0.map pairP) := by
          cases hcw11 with
          | cons h0 t => cases t with
            | cons h1 t => exact ⟨h0, h1, t⟩
        have lt01 : p0.1 < p1.1 := (List.pairwise_cons.mp up).1 p1 (List.mem_cons_self ..)
        have s1128 := s1120.trans s2028
        have dA : Dp K H28 (.ref t12) (prsD (p0 :: p1 :: r0).reverse) := .tup (SqT.of ((((s13.trans s14).trans (s15.trans s16)).trans (s17.trans ((s18.trans s19).trans (s20.trans s2028)))) _ _ e12)) (by rw [List.map_reverse]; exact DpAll.same s1128 _ _ (dpAll_rev hcw11))
        have dB : Dp K H28 (.ref t17) (prsD (p1 :: p0 :: r0)) := .tup (SqT.text (TExt.of_same ((s18.trans s19).trans (s20.trans s2028))) e17) (.cons (Dp.same s1128 _ _ h1) (.cons (Dp.same s1128 _ _ h0) (DpAll.same s1128 _ _ hr0)))
        have dC : Dp K H28 (.ref t19) (prsD ((p0 :: p1 :: r0) ++ [p0])) := .tup (SqT.text (TExt.of_same (s20.trans s2028)) e19) (by rw [List.map_append]; exact dpAll_app (DpAll.same s1128 _ _ hcw11) (.cons (Dp.same s1128 _ _ h0) .nil))
        have s1127 := s1120.trans (s21.trans s2127)
        have d23 : Dp K H27 (.ref t23) (pairP (p0.1, p0.2 + 1)) := dp_of_pair (SqT.of (((s24.trans s25).trans (s26.trans s27)) _ _ e23))
        have dD : Dp K H28 (.ref t27) (prsD (p0 :: (p0.1, p0.2 + 1) :: p1 :: r0)) := Dp.text t28 _ _ (imm_prs _) (.tup e27 (.cons (Dp.same s1127 _ _ h0) (.cons d23 (.cons (Dp.same s1127 _ _ h1) (DpAll.same s1127 _ _ hr0)))))
        refine ⟨l21, _, rfl, s1128, e28, by simp; omega, ((G11.same s1128).app (.cons (.dp dA) (g_up (fun u => ?_) (by simp; omega)) (.cons (.dp dB) (g_up (fun u => ?_) (by simp; omega)) (.cons (.dp dC) (g_up (not_up_snoc (List.mem_cons_self ..)) (by simp; omega)) .nil)))).app (.cons (.dp dD) (g_up (fun u => ?_) (by simp; omega)) .nil)⟩
        · have u := List.pairwise_reverse.mp u
          have := (List.pairwise_cons.mp u).1 p1 (List.mem_cons_self ..)
          omega
        · have := (List.pairwise_cons.mp u).1 p0 (List.mem_cons_self ..)
          omega
        · have : p0.1 < p0.1 := (List.pairwise_cons.mp u).1 (p0.1, p0.2 + 1) (List.mem_cons_self ..)
          omega
      · walk_at "a"
        exact ⟨D11, us11, rfl, Same.refl _, e11, by omega, G11⟩
    rintro σ' H12 ⟨D12, us12, rfl, s12, e12, lu12, G12⟩
    walk_at "a"
    exact q D12 us12 H12 ((s010.trans s11).trans s12) e12 (by omega) G12
end
theorem use_no_curves {K : PySem.W.Frag} {H : Hp} {Q : VK} {E : XK} {cv bv : V} {c : Prs} {bd : PyData} {k : Nat} (hc : Dp K H cv (prsD c)) (up : Up c) (lc : c.length ≤ 100) (hb : Dp K H bv bd) (nb : isSmp bd = false) (lb : ∀ es, bd = .tuple es → es.length ≤ 1000) (hk : k ≤ c.length)
    (q : ∀ (D : Addr) (ws : List V) H', Same H H' → H' D = some (.lst ws) → ws.length ≤ 30 → Good K H' ws → Q (.ref D) H') : sp_no_curves K [cv, bv, .int (k : Int)] H Q E := ⟨cv, bv, c, bd, k, rfl, hc, up, lc, hb, nb, lb, hk, q⟩
theorem short_prs {c : Prs} (h : c.length ≤ 1000) : Short (some (prsD c)) := fun es z => by
  have z := Option.some.inj z
  unfold prsD at z
  injection z with z
  subst z
  refine ⟨by rw [List.length_map]; exact h, fun d hd es e => ?_⟩
  obtain ⟨p, _, rfl⟩ := List.mem_map.mp hd
  exact pair_short e
theorem use_isT {K : PySem.W.Frag} {H : Hp} {Q : VK} {E : XK} {v : V} {c : Prs} (h : Dp K H v (prsD c)) (hl : c.length ≤ 1000) (up : Up c) (q : ∀ H', Same H H' → Q (.bl true) H') : sp_isc K [v] H Q E :=
  use_isc (.dp h) (short_prs hl) fun b H' s hb => by
    have e : b = true := hb.mpr ⟨c, rfl, up⟩
    subst e
    exact q H' s
theorem use_isF {K : PySem.W.Frag} {H : Hp} {Q : VK} {E : XK} {v : V} {o : Option PyData} (h : Kd K H v o) (hs : Short o) (hn : ¬ IsCv o) (q : ∀ H', Same H H' → Q (.bl false) H') : sp_isc K [v] H Q E :=
  use_isc h hs fun b H' s hb => by
    cases b with
    | true => exact absurd (hb.mp rfl) hn
    | false => exact q H' s
theorem paired_fn {α : Type} {f : α → V} : ∀ {as : List α} {ys : List V}, Paired (fun c y => y = f c) as ys → ys = as.map f
  | _, _, .nil => rfl
  | _, _, .cons h1 h2 => by rw [h1, paired_fn h2]; rfl
section
variable {P : Program} {w : World} {K : PySem.W.Frag} {mg : Str → Option Value} {base : Heap}
theorem ok_law {f : Addr} {fd : FuncData} (B : Blt mg) (F : Fun K "law" "law" s_law f fd) (G_law_curve : Fn P w K mg base 1 "_law_curve" ["_law_samples_here"] (sp_curve K)) (G_law_pot : Fn P w K mg base 1 "_law_pot" ["_law_cell_here"] (sp_pot K)) (G_law_bad_sample : Fn P w K mg base 1 "_law_bad_sample" ["_law_t", "_law_h", "_law_way"] (sp_bad K)) (G_law_take : Fn P w K mg base 1 "_law_take" ["_law_pot_here", "_law_many"] (sp_take K)) (G_law_samples : Fn P w K mg base 3 "_law_samples" ["_law_script"] (sp_samples K)) (G_law_number : Fn P w K mg base 2 "_law_number" ["_law_pot_here"] (sp_number K)) (G_law_cell : Fn P w K mg base 1 "_law_cell" ["_law_script", "_law_k"] (sp_nth K)) (G_is_curve : Fn P w K mg base 3 "is_curve" ["thing"] (sp_isc K)) (G_law_no_curves : Fn P w K mg base 1 "_law_no_curves" ["_law_curve_here", "_law_bad", "_law_place"] (sp_no_curves K)) :
    FnOk P w K mg base (L2.CX P w) 4 f fd ["_law_script"] (sp_law K) := by
  refine fn_up (F.ok sc_law (fun vs H Q E h => ?_) (fun cdv A outer s H vs Q E hr h => ?_))
  · obtain ⟨sa, ns, rfl, hS, hl, q⟩ := h
    rfl
  · obtain ⟨sa, ns, rfl, hS, hl, q⟩ := h
    refine ⟨_, (pss_cons (ps_set (i := 1) sc_law.nd rfl (Or.inl rfl) (pe_fn G_law_curve hr (pa_cons (pe_fn G_law_samples hr (pa_cons (pv 0) pa_nil)) pa_nil)))
      (pss_cons (ps_set (i := 2) sc_law.nd rfl (Or.inl rfl) (pe_fn G_law_pot hr (pa_cons (pe_op op_add (pe_fn G_law_cell hr (pa_cons (pv 0) (pa_cons pe_int pa_nil))) (pe_op op_mulY pe_int (pe_callB (crK K c_len) rfl B.len (by decide +kernel) (pa_cons (pv 0) pa_nil)))) pa_nil)))
      (pss_cons (ps_set (i := 3) sc_law.nd rfl (Or.inl rfl) (pe_fn G_law_bad_sample hr (pa_cons (pe_fn G_law_number hr (pa_cons (pv 2) pa_nil)) (pa_cons (pe_fn G_law_number hr (pa_cons (pv 2) pa_nil)) (pa_cons (pe_fn G_law_take hr (pa_cons (pv 2) (pa_cons pe_int pa_nil))) pa_nil)))))
      (pss_cons (ps_set (i := 4) sc_law.nd rfl (Or.inl rfl) (pe_fn G_law_take hr (pa_cons (pv 2) (pa_cons (pe_op op_add (pe_callB (crK K c_len) rfl B.len (by decide +kernel) (pa_cons (pv 1) pa_nil)) pe_int) pa_nil))))
      (pss_cons (ps_if (PW.pt (pw_or (pt_cmpR o_notB (pe_fn G_is_curve hr (pa_cons (pv 1) pa_nil)) pe_bl (nomark _)) (pw_or1 (pt_cmpR o_notB (pe_fn G_is_curve hr (pa_cons (pe_tup pa_nil) pa_nil)) pe_bl (nomark _)))))
      (pss_one (ps_ret pe_bl))
      pss_nil)
      (pss_cons (ps_if (pt_not (pt_val (pe_callB (crK K (cr_all rfl)) rfl B.all (by decide +kernel) (pa_cons (pe_lc (own := [("_law_one", 5)]) (g := gName 5) (tt := tYes) rfl sc_law.nd (piK_tup K (pv 1)) (blkOk_by (N := ["_law_script", "_law_curve_here", "_law_pot_here", "_law_bad", "_law_place", "_law_one", "_law_thing"]) (sc := defScope s_law) (by decide +kernel)) (fun _ _ _ _ _ => (pg_name (i := 5) sc_law.nd rfl (Or.inl rfl))) (fun _ _ _ _ _ => pts_nil) (fun _ _ _ _ _ => (pe_cmpR o_isB (pe_fn G_is_curve hr (pa_cons (pe_tup (pa_cons (pv 5) pa_nil)) pa_nil)) pe_bl (nomark _)))) pa_nil))))
      (pss_one (ps_ret pe_bl))
      pss_nil)
      (pss_one (ps_ret (pe_callB (crK K (cr_all rfl)) rfl B.all (by decide +kernel) (pa_cons (pe_lc (own := [("_law_thing", 6)]) (g := gName 6) (tt := tYes) rfl sc_law.nd (piK_list K (pe_fn G_law_no_curves hr (pa_cons (pv 1) (pa_cons (pv 3) (pa_cons (pv 4) pa_nil))))) (blkOk_by (N := ["_law_script", "_law_curve_here", "_law_pot_here", "_law_bad", "_law_place", "_law_one", "_law_thing"]) (sc := defScope s_law) (by decide +kernel)) (fun _ _ _ _ _ => (pg_name (i := 6) sc_law.nd rfl (Or.inl rfl))) (fun _ _ _ _ _ => pts_nil) (fun _ _ _ _ _ => (pe_cmpR o_isB (pe_fn G_is_curve hr (pa_cons (pv 6) pa_nil)) pe_bl (nomark _)))) pa_nil)))))))))), ?_⟩
    refine r_start (σ' := [some (.ref sa), none, none, none, none, none, none]) rfl ?_
    have hS0 := hS.1
    walk_at "a"
    refine use_samples hS hl fun f l ws H1 n1 s1 e1 d1 l1 b1 => ?_
    walk_at "a"
    refine use_curve (SqL.of e1) d1 (by omega) fun c p2 H2 s2 hc d2 => ?_
    have hcl : c.length ≤ 40 := Nat.le_trans hc.len l1
    have hS2 := (hS.text (TExt.of_same (s1.trans s2))).1
    walk_at "a"
    rename_i p H3 n3 s3 hp3 z1 H4 k4 hp4 z10 z11 z2 H5 k5 hp5 z20 z21 w' H6 k6 hp6 w0 w1
    have bz : ∀ z : Int, -1000000000000000000000000000000000000000000000000000000000000 ≤ z → z ≤ 1000000000000000000000000000000000000000000000000000000000000 → z.natAbs < 2 ^ 1920 := fun z h1 h2 => by
      have h3 : z.natAbs < 2 ^ 200 := by
        have : (2 : Nat) ^ 200 > 1000000000000000000000000000000000000000000000000000000000000 := by decide +kernel
        omega
      exact Nat.lt_of_lt_of_le h3 (Nat.pow_le_pow_right (by decide) (by decide))
    refine use_bad (bz z1 z10 z11) (bz z2 z20 z21) w0 w1 fun bv bd H7 s7 db nb lb => ?_
    have t37 : TExt H2 H7 := (TExt.of_same s3).trans ((hp3.text (k4.trans (k5.trans k6))).trans (TExt.of_same s7))
    have d7 := Dp.text t37 _ _ (imm_prs c) d2
    have hp7 := hp6.same s7
    obtain ⟨ca, cws, ecv, hca, hcw⟩ := dp_tup d7
    cases ecv
    have hcwl : cws.length = c.length := by rw [dpAll_len hcw, List.length_map]
    walk_at "a"
    rename_i kz H8 k8 hp8 kz0 kz1
    obtain ⟨kn, rfl⟩ := Int.eq_ofNat_of_zero_le kz0
    have t8 := hp7.text k8
    have d8 := Dp.text t8 _ _ (imm_prs c) d7
    have pl : H6 p ≠ none := by
      obtain ⟨_, _, e, _⟩ := hp6.ex
      rw [e]
      simp
    have db8 := db H8 p pl k8 t8
    refine use_isT d8 (by omega) hc.up fun H9 s9 => ?_
    walk_at "a"
    rename_i t10 H10 n10 s10 e10
    refine use_isT (c := []) (.tup (SqT.of e10) .nil) (by decide) List.Pairwise.nil fun H11 s11 => ?_
    have s811 := (s9.trans s10).trans s11
    have d11 := Dp.same s811 _ _ d8
    have hca11 := SqT.text (t8.trans (TExt.of_same s811)) hca
    have hcw11 := DpAll.text (t8.trans (TExt.of_same s811)) _ _ (imm_all c) hcw
    walk_at "a"
    refine lc_tupD (K := K) hca11 hcw11 (by omega) (fun _ => true) (fun _ => .bool true) (fun _ => rfl) (fun pp x H12 S N hpp s12 hx k1 k2 => ?_) (fun D H12 ys hD s12 e12 p12 => ?_)
    · refine r_gname ⟨wipe_one, ?_⟩
      walk_at "a"
      rename_i t13 H13 n13 s13 e13
      refine use_isT (c := [pp]) (.tup (SqT.of e13) (.cons (Dp.same s13 _ _ hx) .nil)) (by simp) (by simp [Up]) fun H14 s14 => ?_
      walk_at "a"
      exact k1 rfl _ _ (s13.trans s14) (.bl true)
    rw [Fp.filter_all] at p12
    walk_at "a"
    refine r_allT (SqL.of e12) (dpAll_trues p12) ?_
    walk_at "a"
    refine use_no_curves (Dp.same s12 _ _ d11) hc.up (by omega) (Dp.same (s811.trans s12) _ _ db8) nb lb (by omega) fun D2 us H15 s15 e15 lu G => ?_
    walk_at "a"
    refine lc_gen (as := us) (fun c x _ => x = c) (wk_list (xs := us)) (fun i H16 x H' hi h => ?_) (fun H' s => SqL.of (s _ _ e15)) (by omega) (fun _ => true) (fun _ _ y => y = .bl true) (fun _ _ _ _ _ h => h) (fun cc x H16 S N hcc s16 hx k1 k2 => ?_) (fun D3 H16 ys hD s16 e16 p16 => ?_)
    · obtain ⟨rfl, hx⟩ := h
      exact ⟨x, hx, Same.refl _, rfl⟩
    · subst hx
      obtain ⟨o, ho, hs, hn⟩ := G x hcc
      refine r_gname ⟨wipe_one, ?_⟩
      walk_at "a"
      refine use_isF (ho.same s16) hs hn fun H17 s17 => ?_
      walk_at "a"
      exact k1 rfl _ _ s17 rfl
    rw [Fp.filter_all] at p16
    have ey : ys = us.map (fun _ => V.bl true) := paired_fn p16
    rw [ey, show (us.map fun _ => V.bl true) = (us.map fun _ => true).map V.bl by rw [List.map_map]; rfl] at e16
    walk_at "a"
    refine r_all (SqL.of e16) ?_
    rw [List.all_map, show us.all (id ∘ fun _ => true) = true from List.all_eq_true.mpr fun _ _ => rfl]
    exact q _
end
theorem all_mk {l : PySem.W.OpenLaw} {w : World} {K : PySem.W.Frag} {h : Heap} {mg : Str → Option Value} {fa : Addr} (X : K.In h) (G : h.Ns mainGlobals mg) (hfa : mg "law" = some (.ref fa))
    {od_is_whole an_is_whole : Option Addr} {sl_is_whole : Array (Option Value)} {f_is_whole : Addr} {oc_is_whole kV_is_whole dc_is_whole pm_is_whole cd_is_whole ct_is_whole : Value}
    (a_is_whole : PySem.W.nsIn K mainGlobals "is_whole" = some (some (.ref f_is_whole)))
    (l_is_whole : K.lookup f_is_whole = some ⟨oc_is_whole, od_is_whole, .func (PySem.W.fnOf "is_whole" "is_whole" (defArgs s_is_whole) (defBody s_is_whole) (defScope s_is_whole) .none kV_is_whole dc_is_whole pm_is_whole an_is_whole cd_is_whole ct_is_whole), sl_is_whole⟩)
    (c_is_whole : PySem.W.codeIn K cd_is_whole "is_whole" = true) (k_is_whole : PySem.W.keepIn K (.ref f_is_whole) = true)
    {od_is_sample an_is_sample : Option Addr} {sl_is_sample : Array (Option Value)} {f_is_sample : Addr} {oc_is_sample kV_is_sample dc_is_sample pm_is_sample cd_is_sample ct_is_sample : Value}
    (a_is_sample : PySem.W.nsIn K mainGlobals "is_sample" = some (some (.ref f_is_sample)))
    (l_is_sample : K.lookup f_is_sample = some ⟨oc_is_sample, od_is_sample, .func (PySem.W.fnOf "is_sample" "is_sample" (defArgs s_is_sample) (defBody s_is_sample) (defScope s_is_sample) .none kV_is_sample dc_is_sample pm_is_sample an_is_sample cd_is_sample ct_is_sample), sl_is_sample⟩)
    (c_is_sample : PySem.W.codeIn K cd_is_sample "is_sample" = true) (k_is_sample : PySem.W.keepIn K (.ref f_is_sample) = true)
    {od_is_curve an_is_curve : Option Addr} {sl_is_curve : Array (Option Value)} {f_is_curve : Addr} {oc_is_curve kV_is_curve dc_is_curve pm_is_curve cd_is_curve ct_is_curve : Value}
    (a_is_curve : PySem.W.nsIn K mainGlobals "is_curve" = some (some (.ref f_is_curve)))
    (l_is_curve : K.lookup f_is_curve = some ⟨oc_is_curve, od_is_curve, .func (PySem.W.fnOf "is_curve" "is_curve" (defArgs s_is_curve) (defBody s_is_curve) (defScope s_is_curve) .none kV_is_curve dc_is_curve pm_is_curve an_is_curve cd_is_curve ct_is_curve), sl_is_curve⟩)
    (c_is_curve : PySem.W.codeIn K cd_is_curve "is_curve" = true) (k_is_curve : PySem.W.keepIn K (.ref f_is_curve) = true)
    {od_law_cell an_law_cell : Option Addr} {sl_law_cell : Array (Option Value)} {f_law_cell : Addr} {oc_law_cell kV_law_cell dc_law_cell pm_law_cell cd_law_cell ct_law_cell : Value}
    (a_law_cell : PySem.W.nsIn K mainGlobals "_law_cell" = some (some (.ref f_law_cell)))
    (l_law_cell : K.lookup f_law_cell = some ⟨oc_law_cell, od_law_cell, .func (PySem.W.fnOf "_law_cell" "_law_cell" (defArgs s_law_cell) (defBody s_law_cell) (defScope s_law_cell) .none kV_law_cell dc_law_cell pm_law_cell an_law_cell cd_law_cell ct_law_cell), sl_law_cell⟩)
    (c_law_cell : PySem.W.codeIn K cd_law_cell "_law_cell" = true) (k_law_cell : PySem.W.keepIn K (.ref f_law_cell) = true)
    {od_law_pot an_law_pot : Option Addr} {sl_law_pot : Array (Option Value)} {f_law_pot : Addr} {oc_law_pot kV_law_pot dc_law_pot pm_law_pot cd_law_pot ct_law_pot : Value}
    (a_law_pot : PySem.W.nsIn K mainGlobals "_law_pot" = some (some (.ref f_law_pot)))
    (l_law_pot : K.lookup f_law_pot = some ⟨oc_law_pot, od_law_pot, .func (PySem.W.fnOf "_law_pot" "_law_pot" (defArgs s_law_pot) (defBody s_law_pot) (defScope s_law_pot) .none kV_law_pot dc_law_pot pm_law_pot an_law_pot cd_law_pot ct_law_pot), sl_law_pot⟩)
    (c_law_pot : PySem.W.codeIn K cd_law_pot "_law_pot" = true) (k_law_pot : PySem.W.keepIn K (.ref f_law_pot) = true)
    {od_law_take an_law_take : Option Addr} {sl_law_take : Array (Option Value)} {f_law_take : Addr} {oc_law_take kV_law_take dc_law_take pm_law_take cd_law_take ct_law_take : Value}
    (a_law_take : PySem.W.nsIn K mainGlobals "_law_take" = some (some (.ref f_law_take)))
    (l_law_take : K.lookup f_law_take = some ⟨oc_law_take, od_law_take, .func (PySem.W.fnOf "_law_take" "_law_take" (defArgs s_law_take) (defBody s_law_take) (defScope s_law_take) .none kV_law_take dc_law_take pm_law_take an_law_take cd_law_take ct_law_take), sl_law_take⟩)
    (c_law_take : PySem.W.codeIn K cd_law_take "_law_take" = true) (k_law_take : PySem.W.keepIn K (.ref f_law_take) = true)
    {od_law_number an_law_number : Option Addr} {sl_law_number : Array (Option Value)} {f_law_number : Addr} {oc_law_number kV_law_number dc_law_number pm_law_number cd_law_number ct_law_number : Value}
    (a_law_number : PySem.W.nsIn K mainGlobals "_law_number" = some (some (.ref f_law_number)))
    (l_law_number : K.lookup f_law_number = some ⟨oc_law_number, od_law_number, .func (PySem.W.fnOf "_law_number" "_law_number" (defArgs s_law_number) (defBody s_law_number) (defScope s_law_number) .none kV_law_number dc_law_number pm_law_number an_law_number cd_law_number ct_law_number), sl_law_number⟩)
    (c_law_number : PySem.W.codeIn K cd_law_number "_law_number" = true) (k_law_number : PySem.W.keepIn K (.ref f_law_number) = true)
    {od_law_samples an_law_samples : Option Addr} {sl_law_samples : Array (Option Value)} {f_law_samples : Addr} {oc_law_samples kV_law_samples dc_law_samples pm_law_samples cd_law_samples ct_law_samples : Value}
    (a_law_samples : PySem.W.nsIn K mainGlobals "_law_samples" = some (some (.ref f_law_samples)))
    (l_law_samples : K.lookup f_law_samples = some ⟨oc_law_samples, od_law_samples, .func (PySem.W.fnOf "_law_samples" "_law_samples" (defArgs s_law_samples) (defBody s_law_samples) (defScope s_law_samples) .none kV_law_samples dc_law_samples pm_law_samples an_law_samples cd_law_samples ct_law_samples), sl_law_samples⟩)
    (c_law_samples : PySem.W.codeIn K cd_law_samples "_law_samples" = true) (k_law_samples : PySem.W.keepIn K (.ref f_law_samples) = true)
    {od_law_curve an_law_curve : Option Addr} {sl_law_curve : Array (Option Value)} {f_law_curve : Addr} {oc_law_curve kV_law_curve dc_law_curve pm_law_curve cd_law_curve ct_law_curve : Value}
    (a_law_curve : PySem.W.nsIn K mainGlobals "_law_curve" = some (some (.ref f_law_curve)))
    (l_law_curve : K.lookup f_law_curve = some ⟨oc_law_curve, od_law_curve, .func (PySem.W.fnOf "_law_curve" "_law_curve" (defArgs s_law_curve) (defBody s_law_curve) (defScope s_law_curve) .none kV_law_curve dc_law_curve pm_law_curve an_law_curve cd_law_curve ct_law_curve), sl_law_curve⟩)
    (c_law_curve : PySem.W.codeIn K cd_law_curve "_law_curve" = true) (k_law_curve : PySem.W.keepIn K (.ref f_law_curve) = true)
    {od_law_bad_sample an_law_bad_sample : Option Addr} {sl_law_bad_sample : Array (Option Value)} {f_law_bad_sample : Addr} {oc_law_bad_sample kV_law_bad_sample dc_law_bad_sample pm_law_bad_sample cd_law_bad_sample ct_law_bad_sample : Value}
    (a_law_bad_sample : PySem.W.nsIn K mainGlobals "_law_bad_sample" = some (some (.ref f_law_bad_sample)))
    (l_law_bad_sample : K.lookup f_law_bad_sample = some ⟨oc_law_bad_sample, od_law_bad_sample, .func (PySem.W.fnOf "_law_bad_sample" "_law_bad_sample" (defArgs s_law_bad_sample) (defBody s_law_bad_sample) (defScope s_law_bad_sample) .none kV_law_bad_sample dc_law_bad_sample pm_law_bad_sample an_law_bad_sample cd_law_bad_sample ct_law_bad_sample), sl_law_bad_sample⟩)
    (c_law_bad_sample : PySem.W.codeIn K cd_law_bad_sample "_law_bad_sample" = true) (k_law_bad_sample : PySem.W.keepIn K (.ref f_law_bad_sample) = true)
    {od_law_no_curves an_law_no_curves : Option Addr} {sl_law_no_curves : Array (Option Value)} {f_law_no_curves : Addr} {oc_law_no_curves kV_law_no_curves dc_law_no_curves pm_law_no_curves cd_law_no_curves ct_law_no_curves : Value}
    (a_law_no_curves : PySem.W.nsIn K mainGlobals "_law_no_curves" = some (some (.ref f_law_no_curves)))
    (l_law_no_curves : K.lookup f_law_no_curves = some ⟨oc_law_no_curves, od_law_no_curves, .func (PySem.W.fnOf "_law_no_curves" "_law_no_curves" (defArgs s_law_no_curves) (defBody s_law_no_curves) (defScope s_law_no_curves) .none kV_law_no_curves dc_law_no_curves pm_law_no_curves an_law_no_curves cd_law_no_curves ct_law_no_curves), sl_law_no_curves⟩)
    (c_law_no_curves : PySem.W.codeIn K cd_law_no_curves "_law_no_curves" = true) (k_law_no_curves : PySem.W.keepIn K (.ref f_law_no_curves) = true)
    {od_law an_law : Option Addr} {sl_law : Array (Option Value)} {f_law : Addr} {oc_law kV_law dc_law pm_law cd_law ct_law : Value}
    (a_law : PySem.W.nsIn K mainGlobals "law" = some (some (.ref f_law)))
    (l_law : K.lookup f_law = some ⟨oc_law, od_law, .func (PySem.W.fnOf "law" "law" (defArgs s_law) (defBody s_law) (defScope s_law) .none kV_law dc_law pm_law an_law cd_law ct_law), sl_law⟩)
    (c_law : PySem.W.codeIn K cd_law "law" = true) (k_law : PySem.W.keepIn K (.ref f_law) = true)
    (z_isinstance : PySem.W.nsIn K mainGlobals "isinstance" = some none)
    (z_len : PySem.W.nsIn K mainGlobals "len" = some none)
    (z_range : PySem.W.nsIn K mainGlobals "range" = some none)
    (z_int : PySem.W.nsIn K mainGlobals "int" = some none)
    (z_bool : PySem.W.nsIn K mainGlobals "bool" = some none)
    (z_str : PySem.W.nsIn K mainGlobals "str" = some none)
    (z_tuple : PySem.W.nsIn K mainGlobals "tuple" = some none)
    (z_list : PySem.W.nsIn K mainGlobals "list" = some none)
    (z_set : PySem.W.nsIn K mainGlobals "set" = some none)
    (z_dict : PySem.W.nsIn K mainGlobals "dict" = some none)
    (z_abs : PySem.W.nsIn K mainGlobals "abs" = some none)
    (z_all : PySem.W.nsIn K mainGlobals "all" = some none)
    (z_any : PySem.W.nsIn K mainGlobals "any" = some none)
    (z_max : PySem.W.nsIn K mainGlobals "max" = some none)
    (z_min : PySem.W.nsIn K mainGlobals "min" = some none)
    (z_sum : PySem.W.nsIn K mainGlobals "sum" = some none)
    (z_sorted : PySem.W.nsIn K mainGlobals "sorted" = some none)
    (z_zip : PySem.W.nsIn K mainGlobals "zip" = some none)
    (z_divmod : PySem.W.nsIn K mainGlobals "divmod" = some none)
    (z_repr : PySem.W.nsIn K mainGlobals "repr" = some none)
    (z_reversed : PySem.W.nsIn K mainGlobals "reversed" = some none)
    (z_ValueError : PySem.W.nsIn K mainGlobals "ValueError" = some none)
    : ∃ fd : FuncData, (∀ (s : Shared) (v : Value), BindsTo s fd ⟨[v], []⟩ [("_law_script", v)]) ∧ ∀ base : Heap, K.In base → base.Ns mainGlobals mg → FnOk l.prog w K mg base (L2.CX l.prog w) 4 fa fd ["_law_script"] (sp_law K) := by
  have e := hfa.symm.trans (PySem.W.mg_of X G a_law)
  cases e
  have B : Blt mg := ⟨PySem.W.mg_none_of X G z_isinstance, PySem.W.mg_none_of X G z_len, PySem.W.mg_none_of X G z_range, PySem.W.mg_none_of X G z_int, PySem.W.mg_none_of X G z_bool, PySem.W.mg_none_of X G z_str, PySem.W.mg_none_of X G z_tuple, PySem.W.mg_none_of X G z_list, PySem.W.mg_none_of X G z_set, PySem.W.mg_none_of X G z_dict, PySem.W.mg_none_of X G z_abs, PySem.W.mg_none_of X G z_all, PySem.W.mg_none_of X G z_any, PySem.W.mg_none_of X G z_max, PySem.W.mg_none_of X G z_min, PySem.W.mg_none_of X G z_sum, PySem.W.mg_none_of X G z_sorted, PySem.W.mg_none_of X G z_zip, PySem.W.mg_none_of X G z_divmod, PySem.W.mg_none_of X G z_repr, PySem.W.mg_none_of X G z_reversed, PySem.W.mg_none_of X G z_ValueError⟩
  have F_is_whole := fun_mk (st := s_is_whole) l_is_whole c_is_whole k_is_whole
  have D_is_whole : Def K mg "is_whole" s_is_whole ["thing"] := def_mk F_is_whole (PySem.W.mg_of X G a_is_whole) (F_is_whole.binds (ps := ["thing"]) fun _ _ _ _ _ _ us hl => match us, hl with | [_], _ => rfl)
  have F_is_sample := fun_mk (st := s_is_sample) l_is_sample c_is_sample k_is_sample
  have D_is_sample : Def K mg "is_sample" s_is_sample ["thing"] := def_mk F_is_sample (PySem.W.mg_of X G a_is_sample) (F_is_sample.binds (ps := ["thing"]) fun _ _ _ _ _ _ us hl => match us, hl with | [_], _ => rfl)
  have F_is_curve := fun_mk (st := s_is_curve) l_is_curve c_is_curve k_is_curve
  have D_is_curve : Def K mg "is_curve" s_is_curve ["thing"] := def_mk F_is_curve (PySem.W.mg_of X G a_is_curve) (F_is_curve.binds (ps := ["thing"]) fun _ _ _ _ _ _ us hl => match us, hl with | [_], _ => rfl)
  have F_law_cell := fun_mk (st := s_law_cell) l_law_cell c_law_cell k_law_cell
  have D_law_cell : Def K mg "_law_cell" s_law_cell ["_law_script", "_law_k"] := def_mk F_law_cell (PySem.W.mg_of X G a_law_cell) (F_law_cell.binds (ps := ["_law_script", "_law_k"]) fun _ _ _ _ _ _ us hl => match us, hl with | [_, _], _ => rfl)
  have F_law_pot := fun_mk (st := s_law_pot) l_law_pot c_law_pot k_law_pot
  have D_law_pot : Def K mg "_law_pot" s_law_pot ["_law_cell_here"] := def_mk F_law_pot (PySem.W.mg_of X G a_law_pot) (F_law_pot.binds (ps := ["_law_cell_here"]) fun _ _ _ _ _ _ us hl => match us, hl with | [_], _ => rfl)
  have F_law_take := fun_mk (st := s_law_take) l_law_take c_law_take k_law_take
  have D_law_take : Def K mg "_law_take" s_law_take ["_law_pot_here", "_law_many"] := def_mk F_law_take (PySem.W.mg_of X G a_law_take) (F_law_take.binds (ps := ["_law_pot_here", "_law_many"]) fun _ _ _ _ _ _ us hl => match us, hl with | [_, _], _ => rfl)
  have F_law_number := fun_mk (st := s_law_number) l_law_number c_law_number k_law_number
  have D_law_number : Def K mg "_law_number" s_law_number ["_law_pot_here"] := def_mk F_law_number (PySem.W.mg_of X G a_law_number) (F_law_number.binds (ps := ["_law_pot_here"]) fun _ _ _ _ _ _ us hl => match us, hl with | [_], _ => rfl)
  have F_law_samples := fun_mk (st := s_law_samples) l_law_samples c_law_samples k_law_samples
  have D_law_samples : Def K mg "_law_samples" s_law_samples ["_law_script"] := def_mk F_law_samples (PySem.W.mg_of X G a_law_samples) (F_law_samples.binds (ps := ["_law_script"]) fun _ _ _ _ _ _ us hl => match us, hl with | [_], _ => rfl)
  have F_law_curve := fun_mk (st := s_law_curve) l_law_curve c_law_curve k_law_curve
  have D_law_curve : Def K mg "_law_curve" s_law_curve ["_law_samples_here"] := def_mk F_law_curve (PySem.W.mg_of X G a_law_curve) (F_law_curve.binds (ps := ["_law_samples_here"]) fun _ _ _ _ _ _ us hl => match us, hl with | [_], _ => rfl)
  have F_law_bad_sample := fun_mk (st := s_law_bad_sample) l_law_bad_sample c_law_bad_sample k_law_bad_sample
  have D_law_bad_sample : Def K mg "_law_bad_sample" s_law_bad_sample ["_law_t", "_law_h", "_law_way"] := def_mk F_law_bad_sample (PySem.W.mg_of X G a_law_bad_sample) (F_law_bad_sample.binds (ps := ["_law_t", "_law_h", "_law_way"]) fun _ _ _ _ _ _ us hl => match us, hl with | [_, _, _], _ => rfl)
  have F_law_no_curves := fun_mk (st := s_law_no_curves) l_law_no_curves c_law_no_curves k_law_no_curves
  have D_law_no_curves : Def K mg "_law_no_curves" s_law_no_curves ["_law_curve_here", "_law_bad", "_law_place"] := def_mk F_law_no_curves (PySem.W.mg_of X G a_law_no_curves) (F_law_no_curves.binds (ps := ["_law_curve_here", "_law_bad", "_law_place"]) fun _ _ _ _ _ _ us hl => match us, hl with | [_, _, _], _ => rfl)
  have F_law := fun_mk (st := s_law) l_law c_law k_law
  have D_law : Def K mg "law" s_law ["_law_script"] := def_mk F_law (PySem.W.mg_of X G a_law) (F_law.binds (ps := ["_law_script"]) fun _ _ _ _ _ _ us hl => match us, hl with | [_], _ => rfl)
  refine ⟨PySem.W.fnOf "law" "law" (defArgs s_law) (defBody s_law) (defScope s_law) .none kV_law dc_law pm_law an_law cd_law ct_law, fun s v => .of_eq rfl, fun base _ _ => ?_⟩
  have G_law_cell := fun base => ok_law_cell (P := l.prog) (w := w) (base := base) B D_law_cell
  have G_law_pot := fun base => ok_law_pot (P := l.prog) (w := w) (base := base) B D_law_pot
  have G_law_take := fun base => ok_law_take (P := l.prog) (w := w) (base := base) B D_law_take
  have G_law_number := fun base => ok_law_number (P := l.prog) (w := w) (base := base) B D_law_number (G_law_take base)
  have G_law_samples := fun base => ok_law_samples (P := l.prog) (w := w) (base := base) B D_law_samples (G_law_pot base) (G_law_cell base) (G_law_number base)
  have G_law_curve := fun base => ok_law_curve (P := l.prog) (w := w) (base := base) B D_law_curve
  have G_is_whole := fun base => ok_is_whole (P := l.prog) (w := w) (base := base) B D_is_whole
  have G_is_sample := fun base => ok_is_sample (P := l.prog) (w := w) (base := base) B D_is_sample (G_is_whole base)
  have G_is_curve := fun base => ok_is_curve (P := l.prog) (w := w) (base := base) B D_is_curve (G_is_sample base)
  have G_law_bad_sample := fun base => ok_law_bad_sample (P := l.prog) (w := w) (base := base) B D_law_bad_sample
  have G_law_no_curves := fun base => ok_law_no_curves (P := l.prog) (w := w) (base := base) B D_law_no_curves
  exact ok_law B F_law (G_law_curve base) (G_law_pot base) (G_law_bad_sample base) (G_law_take base) (G_law_samples base) (G_law_number base) (G_law_cell base) (G_is_curve base) (G_law_no_curves base)

open PySem.W in
theorem walk {l : PySem.W.OpenLaw} {q : Program} {loose : List Str} {XP : (Str → Option Value) → Heap → Prop} {YP : World → Heap → Prop} {d : DefRec} {K : Params → PySem.W.Frag} (hn : l.most = some 63) (hdf : d.params.defaults = [])
    (hY : ∀ (w : World) (h : Heap), YP w h → (K w.params).In h)
    (F : ∀ (w : World) (mg : Str → Option Value) (fa : Addr) (h : Heap), (K w.params).In h → h.Ns mainGlobals mg → mg d.name = some (.ref fa) →
      ∃ fd : FuncData, (∀ (s : Shared) (u : Value), BindsTo s fd ⟨[u], []⟩ [("_law_script", u)]) ∧ ∀ base : Heap, (K w.params).In base → base.Ns mainGlobals mg → FnOk l.prog w (K w.params) mg base (L2.CX l.prog w) 4 fa fd ["_law_script"] (sp_law (K w.params))) :
    PySem.W.WalkO q loose XP YP l.row.toRowW d [] (fun f vs => PySem.call f vs) :=
  L2.walk_ofB (n := 63) (k := 4) (x := "_law_script") (CX := fun w => L2.CX l.prog w) (sp := fun w => sp_law (K w.params)) hn (by decide) hdf ⟨rfl, by decide, by decide⟩ hY F (fun _ H a ns hl hb hO hS => sp_law_top hl hb hO hS)
    fun _ _ _ _ _ z => cx_none z
end Lk11
open PySem PySem.W PyProof.Rows
set_option maxRecDepth 100000 in
set_option maxHeartbeats 0 in
theorem PySem.Challenge.cw_fourpoints_k11_curves_told_apart_holds : PySem.Challenge.rw_fourpoints_k11_curves_told_apart.Holds := by
  w_on; o_law; k_head; (case hw => w_witness2)
  k_fill
  refine Lk11.walk (l := PySem.Challenge.rw_fourpoints_k11_curves_told_apart) rfl rfl (fun w h Y => PySem.W.kIn_of Y) ?F
  case F =>
    intro w mg fa h KX G hmg
    refine' Lk11.all_mk KX G hmg ?a_is_whole ?l_is_whole ?c_is_whole ?k_is_whole ?a_is_sample ?l_is_sample ?c_is_sample ?k_is_sample ?a_is_curve ?l_is_curve ?c_is_curve ?k_is_curve ?a_law_cell ?l_law_cell ?c_law_cell ?k_law_cell ?a_law_pot ?l_law_pot ?c_law_pot ?k_law_pot ?a_law_take ?l_law_take ?c_law_take ?k_law_take ?a_law_number ?l_law_number ?c_law_number ?k_law_number ?a_law_samples ?l_law_samples ?c_law_samples ?k_law_samples ?a_law_curve ?l_law_curve ?c_law_curve ?k_law_curve ?a_law_bad_sample ?l_law_bad_sample ?c_law_bad_sample ?k_law_bad_sample ?a_law_no_curves ?l_law_no_curves ?c_law_no_curves ?k_law_no_curves ?a_law ?l_law ?c_law ?k_law ?z_isinstance ?z_len ?z_range ?z_int ?z_bool ?z_str ?z_tuple ?z_list ?z_set ?z_dict ?z_abs ?z_all ?z_any ?z_max ?z_min ?z_sum ?z_sorted ?z_zip ?z_divmod ?z_repr ?z_reversed ?z_ValueError
    (case a_is_whole => k_is)
    (case l_is_whole => k_is)
    (case c_is_whole => k_is)
    (case k_is_whole => k_is)
    (case a_is_sample => k_is)
    (case l_is_sample => k_is)
    (case c_is_sample => k_is)
    (case k_is_sample => k_is)
    (case a_is_curve => k_is)
    (case l_is_curve => k_is)
    (case c_is_curve => k_is)
    (case k_is_curve => k_is)
    (case a_law_cell => k_is)
    (case l_law_cell => k_is)
    (case c_law_cell => k_is)
    (case k_law_cell => k_is)
    (case a_law_pot => k_is)
    (case l_law_pot => k_is)
    (case c_law_pot => k_is)
    (case k_law_pot => k_is)
    (case a_law_take => k_is)
    (case l_law_take => k_is)
    (case c_law_take => k_is)
    (case k_law_take => k_is)
    (case a_law_number => k_is)
    (case l_law_number => k_is)
    (case c_law_number => k_is)
    (case k_law_number => k_is)
    (case a_law_samples => k_is)
    (case l_law_samples => k_is)
    (case c_law_samples => k_is)
    (case k_law_samples => k_is)
    (case a_law_curve => k_is)
    (case l_law_curve => k_is)
    (case c_law_curve => k_is)
    (case k_law_curve => k_is)
    (case a_law_bad_sample => k_is)
    (case l_law_bad_sample => k_is)
    (case c_law_bad_sample => k_is)
    (case k_law_bad_sample => k_is)
    (case a_law_no_curves => k_is)
    (case l_law_no_curves => k_is)
    (case c_law_no_curves => k_is)
    (case k_law_no_curves => k_is)
    (case a_law => k_is)
    (case l_law => k_is)
    (case c_law => k_is)
    (case k_law => k_is)
    (case z_isinstance => k_is)
    (case z_len => k_is)
    (case z_range => k_is)
    (case z_int => k_is)
    (case z_bool => k_is)
    (case z_str => k_is)
    (case z_tuple => k_is)
    (case z_list => k_is)
    (case z_set => k_is)
    (case z_dict => k_is)
    (case z_abs => k_is)
    (case z_all => k_is)
    (case z_any => k_is)
    (case z_max => k_is)
    (case z_min => k_is)
    (case z_sum => k_is)
    (case z_sorted => k_is)
    (case z_zip => k_is)
    (case z_divmod => k_is)
    (case z_repr => k_is)
    (case z_reversed => k_is)
    (case z_ValueError => k_is)
