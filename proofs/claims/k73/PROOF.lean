import PyProof.Rows.All
import Wide.All
import OpenK.AllK
import Wide.FinOn
import HandS.ForMost
import HandS.ForExc
import HandS.Wide
import HandS.EndBits
import HandS.IsInst
import HandS.TupLe
import HandS.TupAny
import HandS.Zip
import HandS.Flow
import HandS.Evl
import HandS.RevRange
import HandS.WideBits
import HandS.TryOnly
import HandS.Style
import HandS.SortInts
import HandS.More
import PyProof.CallFns
import HandS.Defaults
import HandS.MakeKw
import HandS.MakeKwOnly
import HandS.DictTup
import HandS.TupMul
import HandS.SortRule
import HandS.Finally
import HandS.ExcIs
import HandS.WordsExc
import HandS.DictEq
import HandS.Rev
import KE.KDictCopyH
import HandS.SetKeys
import KE.DataMinMax
import PyProof.ListRange
import PySem.Challenge.RW_fourpoints_k73_whole_views_of_changing_s
set_option Elab.async false
set_option linter.all false
set_option maxRecDepth 100000
set_option maxHeartbeats 4000000
/-! my own base over HandS: defs of the text, heaps that keep, readings taken step by step -/
namespace Fp
open PySem PySem.Spec PyProof.Rows L2
abbrev St := L2.St

/-! ### defs -/
/-- a def of the top that stands at the module's name x -/
structure Def (K : PySem.W.Frag) (mg : Str → Option Value) (x : Str) (st : Stmt) (ps : List Str) : Prop where
  ex : ∃ f fd, Fun K x x st f fd ∧ mg x = some (.ref f) ∧ Binds K fd ps []
/-- .. and its promise -/
structure Fn (P : Program) (w : World) (K : PySem.W.Frag) (mg : Str → Option Value) (base : Heap) (k : Nat) (x : Str) (ps : List Str) (sp : Sp) : Prop where
  ex : ∃ f fd, mg x = some (.ref f) ∧ PySem.W.keepIn K (.ref f) = true ∧ Binds K fd ps [] ∧ FnOk P w K mg base (L2.CX P w) k f fd ps sp

section
variable {P : Program} {w : World} {K : PySem.W.Frag} {mg : Str → Option Value} {base : Heap}
theorem fn_up {k : Nat} {f : Addr} {fd : FuncData} {ps : List Str} {sp : Sp} (F : FnOk P w K mg base CX0 k f fd ps sp) : FnOk P w K mg base (L2.CX P w) k f fd ps sp :=
  ⟨F.len, fun A outer s H args us vs Q E hr he hb hv hs => codeAny_mono (F.run A outer s H args us vs Q E hr he hb hv hs) fun r s' hq => by
    cases r with
    | error e => exact False.elim hq
    | ok fl => cases fl <;> exact hq⟩
/-- a def that lets nothing out -/
theorem Def.ok {x : Str} {st : Stmt} {N ps : List Str} {k : Nat} {sp : Sp} (D : Def K mg x st ps) (S : FnScope N ps (defScope st)) (len : ∀ vs H Q E, sp vs H Q E → vs.length = ps.length)
    (hbody : ∀ (f : Addr) (cdv : Value) (A : Around) (outer : List Env) (s : Shared) (H : Hp) (vs : List V) (Q : VK) (E : XK), Room k (A.deeper (envOfC x (defScope st) s.heap.objs.size f cdv)) → sp vs H Q E →
      ∃ t, PSs (cxOf CX0 P w K mg base N x (defScope st) f cdv A outer s H E).nox (defBody st) t ∧ t { nx := fun _ H' => Q .non H', rt := Q } (start N vs) H) : Fn P w K mg base (k + 1) x ps sp := by
  obtain ⟨f, fd, F, hm, hb⟩ := D.ex
  exact ⟨f, fd, hm, F.kp, hb, fn_up (F.ok S len (hbody f))⟩
/-- a def that may raise -/
theorem Def.okX {x : Str} {st : Stmt} {N ps : List Str} {k : Nat} {sp : Sp} (D : Def K mg x st ps) (S : FnScope N ps (defScope st)) (len : ∀ vs H Q E, sp vs H Q E → vs.length = ps.length)
    (hbody : ∀ (f : Addr) (cdv : Value) (A : Around) (outer : List Env) (s : Shared) (H : Hp) (vs : List V) (Q : VK) (E : XK), Room k (A.deeper (envOfC x (defScope st) s.heap.objs.size f cdv)) → sp vs H Q E →
      ∃ t, PSs (cxOf (L2.CX P w) P w K mg base N x (defScope st) f cdv A outer s H E) (defBody st) t ∧ t { nx := fun _ H' => Q .non H', rt := Q } (start N vs) H) : Fn P w K mg base (k + 1) x ps sp := by
  obtain ⟨f, fd, F, hm, hb⟩ := D.ex
  exact ⟨f, fd, hm, F.kp, hb, F.okX S len (hbody f)⟩
theorem def_mk {x : Str} {st : Stmt} {f : Addr} {fd : FuncData} {ps : List Str} (F : Fun K x x st f fd) (hm : mg x = some (.ref f)) (hb : Binds K fd ps []) : Def K mg x st ps := ⟨f, fd, F, hm, hb⟩
theorem Fn.up {k j : Nat} {x : Str} {ps : List Str} {sp : Sp} (F : Fn P w K mg base k x ps sp) (h : k ≤ j) : Fn P w K mg base j x ps sp := by
  obtain ⟨f, fd, a, b, c, d⟩ := F.ex
  exact ⟨f, fd, a, b, c, d.mono h⟩
theorem Fn.imp {k : Nat} {x : Str} {ps : List Str} {sp sp' : Sp} (F : Fn P w K mg base k x ps sp) (h : ∀ vs H Q E, sp' vs H Q E → sp vs H Q E) : Fn P w K mg base k x ps sp' := by
  obtain ⟨f, fd, a, b, c, d⟩ := F.ex
  exact ⟨f, fd, a, b, c, d.imp h⟩
end

/-! ### a call of such a def, where nothing is let out -/
def tFn (sp : Sp) (E : XK) (t : TA) : TE := fun σ H Q => t σ H fun vs H1 => sp vs H1 Q E
section
variable {X : Cx} {k j : Nat} {ps : List Str} {sp : Sp} {E : XK} {x : Str} {p pos : Pos} {e : Expr} {es : List Expr} {t : TA}
theorem pe_fnE (F : Fn X.prog X.w X.K X.mg X.base k x ps sp) (hr : Room j X.A) (hk : k ≤ j) (hg : Gl X x) (hx : Passes (L2.CX X.prog X.w) X E) (ha : PA X (e :: es) t)
    (hdb : (x == ("__debug__" : Str)) = false := by decide) (he : starEach (e :: es) X.env = (false, eval e X.env) :: starEach es X.env := by rfl) (hpl : (backTo pos (starEach es X.env)).any (·.1) = false := by rfl) :
    PE X (.Call (.Name x p) (e :: es) [] pos) (tFn sp E t) := by
  obtain ⟨f, fd, hm, hkp, hb, G⟩ := F.ex
  have h := pe_call (dvs := []) (p := p) (pos := pos) (G.mono hk) hr hg hm hkp hb .nil hx ha hdb he hpl
  have e1 : tCall sp [] E t = tFn sp E t := by
    funext σ H Q
    show t σ H (fun vs H1 => sp (vs ++ []) H1 Q E) = t σ H (fun vs H1 => sp vs H1 Q E)
    simp only [List.append_nil]
  rw [e1] at h
  exact h
theorem pe_fn0E (F : Fn X.prog X.w X.K X.mg X.base k x ps sp) (hr : Room j X.A) (hk : k ≤ j) (hg : Gl X x) (hx : Passes (L2.CX X.prog X.w) X E)
    (hdb : (x == ("__debug__" : Str)) = false := by decide) :
    PE X (.Call (.Name x p) [] [] pos) (tFn sp E tNil) := by
  obtain ⟨f, fd, hm, hkp, hb, G⟩ := F.ex
  exact pe_call0 (dvs := []) (p := p) (pos := pos) (G.mono hk) hr hg hm hkp hb .nil hx hdb
theorem pe_fn (F : Fn X.prog X.w X.K X.mg X.base k x ps sp) (hr : Room j X.A) (ha : PA X (e :: es) t) (hk : k ≤ j := by decide) (hg : Gl X x := by rfl)
    (hdb : (x == ("__debug__" : Str)) = false := by decide) (he : starEach (e :: es) X.env = (false, eval e X.env) :: starEach es X.env := by rfl) (hpl : (backTo pos (starEach es X.env)).any (·.1) = false := by rfl) :
    PE X (.Call (.Name x p) (e :: es) [] pos) (tFn sp E0 t) := pe_fnE F hr hk hg passL ha hdb he hpl
theorem pe_fn0 (F : Fn X.prog X.w X.K X.mg X.base k x ps sp) (hr : Room j X.A) (hk : k ≤ j := by decide) (hg : Gl X x := by rfl)
    (hdb : (x == ("__debug__" : Str)) = false := by decide) : PE X (.Call (.Name x p) [] [] pos) (tFn sp E0 tNil) := pe_fn0E F hr hk hg passL hdb
/-- f(..) whose exceptions are wished for at the slots (within a try, or out of this def) -/
def tFnS (sp : Sp) (E : St → XK) (t : TA) : TE := fun σ H Q => t σ H fun vs H1 => sp vs H1 Q (E σ)
theorem pe_fnS {E : St → XK} (F : Fn X.prog X.w X.K X.mg X.base k x ps sp) (hr : Room j X.A) (hk : k ≤ j) (hg : Gl X x) (hx : ∀ σ, PassesAt (L2.CX X.prog X.w) X σ (E σ)) (ha : PA X (e :: es) t)
    (hdb : (x == ("__debug__" : Str)) = false := by decide) (he : starEach (e :: es) X.env = (false, eval e X.env) :: starEach es X.env := by rfl) (hpl : (backTo pos (starEach es X.env)).any (·.1) = false := by rfl) :
    PE X (.Call (.Name x p) (e :: es) [] pos) (tFnS sp E t) := by
  obtain ⟨f, fd, hm, hkp, hb, G⟩ := F.ex
  exact pe_callS (p := p) (pos := pos) (G.mono hk) hr hg hm hkp hb hx ha hdb he hpl
end

/-! ### what of the built-ins no name of the module hides -/
structure Blt (mg : Str → Option Value) : Prop where
  isinstance : mg "isinstance" = none
  len : mg "len" = none
  range : mg "range" = none
  int : mg "int" = none
  bool : mg "bool" = none
  str : mg "str" = none
  tuple : mg "tuple" = none
  list : mg "list" = none
  set : mg "set" = none
  dict : mg "dict" = none
  abs : mg "abs" = none
  all : mg "all" = none
  any : mg "any" = none
  max : mg "max" = none
  min : mg "min" = none
  sum : mg "sum" = none
  sorted : mg "sorted" = none
  zip : mg "zip" = none
  divmod : mg "divmod" = none
  repr : mg "repr" = none
  reversed : mg "reversed" = none
  ValueError : mg "ValueError" = none

/-! ### heaps: all stays but what F names -/
def Keep (F : Addr → Prop) (H H' : Hp) : Prop := ∀ b o, H b = some o → ¬ F b → H' b = some o
abbrev No : Addr → Prop := fun _ => False
abbrev At (p : Addr) : Addr → Prop := fun b => b = p
theorem Keep.refl {F : Addr → Prop} (H : Hp) : Keep F H H := fun _ _ h _ => h
theorem Keep.trans {F : Addr → Prop} {H H1 H2 : Hp} (a : Keep F H H1) (b : Keep F H1 H2) : Keep F H H2 := fun c o h n => b c o (a c o h n) n
theorem Keep.mono {F G : Addr → Prop} {H H' : Hp} (a : Keep F H H') (h : ∀ b, F b → G b) : Keep G H H' := fun c o e n => a c o e fun z => n (h c z)
theorem Keep.of_same {F : Addr → Prop} {H H' : Hp} (a : Same H H') : Keep F H H' := fun c o e _ => a c o e
theorem Keep.same {H H' : Hp} (a : Keep No H H') : Same H H' := fun c o e => a c o e fun z => z
theorem Keep.new {F : Addr → Prop} {H : Hp} {p : Addr} {o : HO} (h : H p = none) : Keep F H (upd H p o) := fun b u e _ => by rw [upd_ne (ne_of_none e h)]; exact e
theorem Keep.at_ {H : Hp} {p : Addr} {o : HO} : Keep (At p) H (upd H p o) := fun b u e n => by rw [upd_ne n]; exact e
/-- what was free at the start may change -/
theorem Keep.free {F : Addr → Prop} {H H' : Hp} {p : Addr} {o : HO} (a : Keep F H H') (h : H p = none) : Keep F H (upd H' p o) := fun b u e n => by
  rw [upd_ne (ne_of_none e h)]; exact a b u e n
theorem Keep.put {F : Addr → Prop} {H H' : Hp} {p : Addr} {o : HO} (a : Keep F H H') (h : F p) : Keep F H (upd H' p o) := fun b u e n => by
  rw [upd_ne fun z => n (by rw [z]; exact h)]; exact a b u e n
theorem Keep.back {F : Addr → Prop} {H H' : Hp} (a : Keep F H H') {p : Addr} (h : H' p = none) (n : ¬ F p) : H p = none := by
  cases q : H p with
  | none => rfl
  | some o => rw [a p o q n] at h; cases h
theorem Keep.app {F : Addr → Prop} {H H' : Hp} {a : Addr} {o : HO} (k : Keep F H H') (e : H a = some o) (n : ¬ F a) : H' a = some o := k a o e n
theorem same_app {H H' : Hp} {a : Addr} {o : HO} (k : Same H H') (e : H a = some o) : H' a = some o := k a o e
/-- the tuples, and what is locked, stay, whatever else is done -/
structure TExt (H H' : Hp) : Prop where
  t : ∀ a xs, Rd H a (.tup xs) → Rd H' a (.tup xs)
  f : ∀ a o u, H a = some (.frz o u) → H' a = some (.frz o u)
theorem Keep.text {F : Addr → Prop} {H H' : Hp} (a : Keep F H H') (h : ∀ b, F b → Mut (H b)) : TExt H H' := by
  have nt : ∀ b xs, H b = some (.tup xs) → ¬ F b := fun b xs e z => by have m := h b z; rw [e] at m; exact m
  have nf : ∀ b o u, H b = some (.frz o u) → ¬ F b := fun b o u e z => by have m := h b z; rw [e] at m; exact m
  refine ⟨fun b xs r => ?_, fun b o u e => a b _ e (nf b o u e)⟩
  rcases r with r | ⟨o, r⟩
  · exact .inl (a b _ r (nt b xs r))
  · exact .inr ⟨o, a b _ r (nf b o _ r)⟩
theorem TExt.refl (H : Hp) : TExt H H := ⟨fun _ _ h => h, fun _ _ _ h => h⟩
theorem TExt.trans {H H1 H2 : Hp} (a : TExt H H1) (b : TExt H1 H2) : TExt H H2 := ⟨fun c xs h => b.t c xs (a.t c xs h), fun c o u h => b.f c o u (a.f c o u h)⟩
theorem TExt.of_same {H H' : Hp} (a : Same H H') : TExt H H' := ⟨fun b xs r => by
  rcases r with r | ⟨o, r⟩
  · exact .inl (a b _ r)
  · exact .inr ⟨o, a b _ r⟩, fun b o u e => a b _ e⟩
theorem TExt.lst {H H' : Hp} {p : Addr} {ys : List V} (k : Keep (At p) H H') (h : H p = some (.lst ys)) : TExt H H' := k.text fun b e => by rw [show b = p from e, h]; trivial
theorem SqT.text {K : PySem.W.Frag} {H H' : Hp} {a : Addr} {xs : List V} (e : TExt H H') (h : SqT K H a xs) : SqT K H' a xs := by
  rcases h with h | h
  · exact .inl (e.t a xs h)
  · exact .inr h
/-- the script: locked, or written -/
def Scr (K : PySem.W.Frag) (H : Hp) (a : Addr) (ns : List Int) : Prop := SqL K H a (ns.map V.int) ∧ ∀ H', TExt H H' → SqL K H' a (ns.map V.int)
theorem Scr.text {K : PySem.W.Frag} {H H' : Hp} {a : Addr} {ns : List Int} (h : Scr K H a ns) (e : TExt H H') : Scr K H' a ns := ⟨h.2 H' e, fun H2 e2 => h.2 H2 (e.trans e2)⟩
theorem scr_sql {K : PySem.W.Frag} {H H' : Hp} {a : Addr} {ns : List Int} (h : Scr K H a ns) (e : TExt H H') : SqL K H' a (ns.map V.int) := h.2 H' e
theorem Scr.of {K : PySem.W.Frag} {H : Hp} {a : Addr} {ns : List Int} (hO : Only H) (h : SqL K H a (ns.map V.int)) : Scr K H a ns := by
  refine ⟨h, fun H' e => ?_⟩
  rcases h with (h | ⟨o, h⟩) | h
  · rcases hO a with z | ⟨o, xs, z⟩
    · rw [z] at h; cases h
    · rw [z] at h; cases h
  · exact .inl (.inr ⟨o, e.f a o _ h⟩)
  · exact .inr h

/-! ### data: as L2.Dp tells; data without lists stays where tuples stay -/
mutual
def imm : PyData → Bool
  | .list _ => false
  | .dict _ => false
  | .tuple xs => immAll xs
  | _ => true
def immAll : List PyData → Bool
  | [] => true
  | x :: xs => imm x && immAll xs
end
section
variable {K : PySem.W.Frag} {H H' : Hp}
mutual
theorem Dp.text (e : TExt H H') : ∀ (d : PyData) (v : V), imm d = true → Dp K H v d → Dp K H' v d
  | .none, _, _, h => by cases h; exact .non
  | .bool b, _, _, h => by cases h; exact .bl b
  | .int i, _, _, h => by cases h; exact .int i
  | .str x, _, _, h => by cases h; exact .str x
  | .list _, _, hi, _ => by simp [imm] at hi
  | .dict _, _, hi, _ => by simp [imm] at hi
  | .tuple ds, _, hi, h => by
    cases h with
    | tup hs ha => exact .tup (SqT.text e hs) (DpAll.text e ds _ (by simpa [imm] using hi) ha)
theorem DpAll.text (e : TExt H H') : ∀ (ds : List PyData) (vs : List V), immAll ds = true → DpAll K H vs ds → DpAll K H' vs ds
  | [], _, _, h => by cases h; exact .nil
  | d :: ds, _, hi, h => by
    have hi2 : imm d = true ∧ immAll ds = true := by simpa [immAll] using hi
    cases h with
    | cons h1 h2 => exact .cons (Dp.text e d _ hi2.1 h1) (DpAll.text e ds _ hi2.2 h2)
end
mutual
theorem Dp.same (e : Same H H') : ∀ (d : PyData) (v : V), Dp K H v d → Dp K H' v d
  | .none, _, h => by cases h; exact .non
  | .bool b, _, h => by cases h; exact .bl b
  | .int i, _, h => by cases h; exact .int i
  | .str x, _, h => by cases h; exact .str x
  | .list ds, _, h => by
    cases h with
    | lst hs ha => exact .lst (e.seq hs) (DpAll.same e ds _ ha)
  | .dict _, _, h => by cases h
  | .tuple ds, _, h => by
    cases h with
    | tup hs ha => exact .tup (SqT.text (TExt.of_same e) hs) (DpAll.same e ds _ ha)
theorem DpAll.same (e : Same H H') : ∀ (ds : List PyData) (vs : List V), DpAll K H vs ds → DpAll K H' vs ds
  | [], _, h => by cases h; exact .nil
  | d :: ds, _, h => by
    cases h with
    | cons h1 h2 => exact .cons (Dp.same e d _ h1) (DpAll.same e ds _ h2)
end
end
theorem immAll_map {α : Type} (f : α → PyData) (h : ∀ x, imm (f x) = true) : ∀ xs : List α, immAll (xs.map f) = true
  | [] => rfl
  | x :: xs => by simp [immAll, h x, immAll_map f h xs]

/-! ### readings, one step each: what is left is what follows -/
section
variable {K : PySem.W.Frag} {σ : St} {H : Hp} {Q : VK} {v x y : V} {ta tb tc te : TE} {r : R2} {t : TA} {tt uu : TT} {tu tw : TS} {nx bk ct : St → Hp → Prop} {rt : VK} {A B : Prop}
theorem r_var {i : Nat} (h : σ[i]? = some (some v)) (q : Q v H) : tVar i σ H Q := ⟨v, h, q⟩
theorem r_c (q : Q v H) : tC v σ H Q := q
theorem r_op (q : ta σ H fun x H1 => tb σ H1 fun y H2 => r x y H2 Q) : tOp r ta tb σ H Q := q
theorem r_un {u : V → Hp → VK → Prop} (q : ta σ H fun x H1 => u x H1 Q) : tUn u ta σ H Q := q
theorem r_I0 {g : Int → Int → V} {i j : Int} (q : Q (g i j) H) : rI0 g (.int i) (.int j) H Q := ⟨i, j, rfl, rfl, q⟩
theorem r_I {C : Int → Int → Prop} {g : Int → Int → V} {i j : Int} (hc : C i j) (q : Q (g i j) H) : rI C g (.int i) (.int j) H Q := ⟨i, j, rfl, rfl, hc, q⟩
theorem r_U {g : Int → V} {i : Int} (q : Q (g i) H) : rU g (.int i) H Q := ⟨i, rfl, q⟩
theorem r_eqi {i j : Int} (q : Q (.bl (decide (i = j))) H) : rEq (.int i) (.int j) H Q := ⟨rfl, by
  have e : decide (V.int i = V.int j) = decide (i = j) := by rw [Bool.eq_iff_iff]; simp
  rw [e]; exact q⟩
theorem r_nei {i j : Int} (q : Q (.bl (!decide (i = j))) H) : rNe (.int i) (.int j) H Q := ⟨rfl, by
  have e : decide (V.int i = V.int j) = decide (i = j) := by rw [Bool.eq_iff_iff]; simp
  rw [e]; exact q⟩
theorem r_cons {tr : TA} {Q : List V → Hp → Prop} (q : te σ H fun x H1 => tr σ H1 fun xs H2 => Q (x :: xs) H2) : tCons te tr σ H Q := q
theorem r_nil {Q : List V → Hp → Prop} (q : Q [] H) : tNil σ H Q := q
theorem r_fn {sp : Sp} {E : XK} (q : t σ H fun vs H1 => sp vs H1 Q E) : tFn sp E t σ H Q := q
theorem r_fnS {sp : Sp} {E : St → XK} (q : t σ H fun vs H1 => sp vs H1 Q (E σ)) : tFnS sp E t σ H Q := q
theorem r_CB {u : List V → Hp → VK → Prop} (q : t σ H fun vs H1 => u vs H1 Q) : tCB u t σ H Q := q
/-- a new object -/
def uNew (o : HO) (n : Nat) (H : Hp) (Q : VK) : Prop := n ≤ sizeLine ∧ ∀ p, H p = none → Q (.ref p) (upd H p o)
theorem r_tup (q : t σ H fun xs H1 => uNew (.tup xs) xs.length H1 Q) : tTup t σ H Q := q
theorem r_lst (q : t σ H fun xs H1 => uNew (.lst xs) xs.length H1 Q) : tLst t σ H Q := q
theorem r_new {o : HO} {n : Nat} (hn : n ≤ sizeLine) (q : ∀ p H', H p = none → Same H H' → H' p = some o → Q (.ref p) H') : uNew o n H Q :=
  ⟨hn, fun p hp => q p _ hp (Keep.same (Keep.new hp)) upd_same⟩
theorem sz_lit {n : Nat} (h : Nat.ble n 100000 = true) : n ≤ sizeLine := by
  rw [sizeLine_eq]
  exact Nat.le_trans (Nat.le_of_ble_eq_true h) (by decide)
theorem sz_le {n : Nat} (h : n ≤ 16777216) : n ≤ sizeLine := by rw [sizeLine_eq]; exact h
/-! rules with K by name -/
section
variable {X : Cx}
theorem opK (K : PySem.W.Frag) {f : Value → Value → Sem Value} {r : PySem.W.Frag → R2} (h : OpR X f (r X.K)) (hK : X.K = K := by rfl) : OpR X f (r K) := hK ▸ h
theorem ixK (K : PySem.W.Frag) {r : PySem.W.Frag → R2} (h : IxR X (r X.K)) (hK : X.K = K := by rfl) : IxR X (r K) := hK ▸ h
theorem slK (K : PySem.W.Frag) {r : PySem.W.Frag → V → Option Int → Option Int → Hp → VK → Prop} (h : SlR X (r X.K)) (hK : X.K = K := by rfl) : SlR X (r K) := hK ▸ h
theorem crK (K : PySem.W.Frag) {f : Value} {r : PySem.W.Frag → List V → Hp → VK → Prop} (h : CallR X f (r X.K)) (hK : X.K = K := by rfl) : CallR X f (r K) := hK ▸ h
variable {o e l tg value : Expr} {es : List Expr} {to te tl tv : TE} {t : TA} {ts : TGs} {name f : Str} {apos cpos pos pos' tpos : Pos} {T id : String} {r : V → List V → Hp → VK → Prop} {n k : Nat}
theorem piK_list (K : PySem.W.Frag) (hl : PE X l tl) (hK : X.K = K := by rfl) : PI X tg l (iList K tl) := hK ▸ pi_list hl
theorem piK_tup (K : PySem.W.Frag) (hl : PE X l tl) (hK : X.K = K := by rfl) : PI X tg l (iTup K tl) := hK ▸ pi_tup hl
/-- what is walked is a list or a tuple -/
def iSeq (K : PySem.W.Frag) (tl : TE) : TI := fun σ H R => iList K tl σ H R ∨ iTup K tl σ H R
theorem piK_seq (K : PySem.W.Frag) (hl : PE X l tl) (hK : X.K = K := by rfl) : PI X tg l (iSeq K tl) := by
  subst hK
  exact ⟨fun pins s σ H R I h => h.elim ((pi_list hl).run pins s σ H R I) ((pi_tup hl).run pins s σ H R I)⟩
theorem peK_revL (K : PySem.W.Frag) {kk : Nat} {p1 p2 p3 : Pos} (he : PE X e te) (hK : X.K = K := by rfl) : PE X (.Subscript e (.Slice none none (some (.UnaryOp .USub (.Constant (.int 1) kk p1) p2)) p3) pos) (tRevL K te) := hK ▸ pe_revL he
theorem piK_zip (K : PySem.W.Frag) {e2 : Expr} {kk : Nat} {elts : List Expr} {p : Pos} (hm : X.mg "zip" = none) (ha : PA X [e, e2] t) (hg : Gl X "zip" := by rfl)
    (hs : starEach [e, e2] X.env = (false, eval e X.env) :: starEach [e2] X.env := by rfl) (hpl : (backTo pos (starEach [e2] X.env)).any (·.1) = false := by rfl) (hK : X.K = K := by rfl) :
    PI X (.Tuple elts kk tpos) (.Call (.Name "zip" p) [e, e2] [] pos) (RZ.iZipA K t) := hK ▸ RZ.pi_zipA hg hm ha hs hpl
theorem pgK_tup (K : PySem.W.Frag) (hc : X.calm = true) (h : PGs X es ts) (hn : (assignEach es X.env).length = n := by rfl) (hst : (assignEach es X.env).findIdx? (·.1) = none := by rfl) (hK : X.K = K := by rfl) : PG X (.Tuple es k pos) (gTup K n ts) := hK ▸ pg_tup hc h hn hst
theorem pgK_lst (K : PySem.W.Frag) (hc : X.calm = true) (h : PGs X es ts) (hn : (assignEach es X.env).length = n := by rfl) (hst : (assignEach es X.env).findIdx? (·.1) = none := by rfl) (hK : X.K = K := by rfl) : PG X (.Tuple es k pos) (gLst K n ts) := hK ▸ pg_lst hc h hn hst
theorem peK_fld (K : PySem.W.Frag) (he : PE X e te) (hb : attributeBase e f X.env (eval e X.env) = eval e X.env := by rfl) (hK : X.K = K := by rfl) : PE X (.Attribute e f pos) (tFld K te f) := hK ▸ pe_fld he hb
theorem peK_bm0 (K : PySem.W.Frag) (pa : PlainAttrs T) (slot : Slot T name id) (hty : typeOf (.builtin id) = pure (.type "method_descriptor")) (hm : MtR X id r) (ho : PE X o to)
    (hbase : attributeBase o name X.env (eval o X.env) = eval o X.env := by rfl) (hline : (apos.endLine == cpos.line) = true := by rfl) (hK : X.K = K := by rfl) : PE X (.Call (.Attribute o name apos) [] [] cpos) (tBM0 K T r to) := hK ▸ pe_bm0 pa slot hty hm ho hbase hline
theorem peK_bm (K : PySem.W.Frag) (pa : PlainAttrs T) (slot : Slot T name id) (hty : typeOf (.builtin id) = pure (.type "method_descriptor")) (hm : MtR X id r) (ho : PE X o to) (ha : PA X (e :: es) t)
    (hbase : attributeBase o name X.env (eval o X.env) = eval o X.env := by rfl)
    (hfew : ((backTo cpos (starEach (e :: es) X.env)).all (fun x => !x.1) && (backToKw cpos (keywordEach [] X.env)).all (fun x => x.1.isSome)
      && decide ((e :: es).length + ([] : List Keyword).length + (if ([] : List Keyword).isEmpty then 0 else 1) < 30)) = true := by rfl)
    (hline : (apos.endLine == cpos.line) = true := by rfl) (hs : starEach (e :: es) X.env = (false, eval e X.env) :: starEach es X.env := by rfl) (hplain : (backTo cpos (starEach es X.env)).any (·.1) = false := by rfl) (hK : X.K = K := by rfl) :
    PE X (.Call (.Attribute o name apos) (e :: es) [] cpos) (tBM K T r to t) := hK ▸ pe_bm pa slot hty hm ho ha hbase hfew hline hs hplain
theorem psK_fld (K : PySem.W.Frag) (ha : PE X o to) (hv : PE X value tv) (hs : swapsWith value (some (.Attribute o f pos')) pos.line X.env = pure false := by rfl) (hK : X.K = K := by rfl) : PS X (.Assign [.Attribute o f pos'] value pos) (sFld K to tv f) := hK ▸ ps_fld ha hv hs
theorem psK_fldaug (K : PySem.W.Frag) {op : Operator} {rd : V → V → Hp → VK → Prop} (ha : PE X o to) (hv : PE X value tv) (hop : InOp X op rd) (hK : X.K = K := by rfl) : PS X (.AugAssign (.Attribute o f tpos) op value pos) (sFldAug K to tv rd f) := hK ▸ ps_fldaug ha hv hop
end
/-! tests -/
theorem r_test {Q : Bool → Hp → Prop} (q : te σ H fun x H' => ∃ k, x = .bl k ∧ Q k H') : tTest te σ H Q := q
theorem r_B {Q : Bool → Hp → Prop} (q : te σ H fun x H' => ∃ k, x = .bl k ∧ Q k H') : tB te σ H Q := q
theorem r_bl {b : Bool} {Q : Bool → Prop} (q : Q b) : ∃ k, V.bl b = .bl k ∧ Q k := ⟨b, rfl, q⟩
theorem r_and {Q : Bool → Hp → Prop} (q : tt σ H fun c H1 => if c = true then uu σ H1 Q else Q false H1) : tAnd tt uu σ H Q := q
theorem r_or {Q : Bool → Hp → Prop} (q : tt σ H fun c H1 => if c = true then Q true H1 else uu σ H1 Q) : tOr tt uu σ H Q := q
theorem r_yes {Q : Bool → Hp → Prop} (q : Q true H) : tYes σ H Q := q
theorem r_not {Q : Bool → Hp → Prop} (q : tt σ H fun c H1 => Q (!c) H1) : tNot tt σ H Q := q
theorem r_andV (q : ta σ H fun x H1 => ∃ c, x = .bl c ∧ if c = true then tb σ H1 Q else Q (.bl false) H1) : tAndV ta tb σ H Q := q
theorem r_orV (q : ta σ H fun x H1 => ∃ c, x = .bl c ∧ if c = true then Q (.bl true) H1 else tb σ H1 Q) : tOrV ta tb σ H Q := q
theorem r_notV (q : ta σ H fun x H1 => ∃ c, x = .bl c ∧ Q (.bl (!c)) H1) : tNotV ta σ H Q := q
theorem r_if (q : tt σ H fun c H1 => if c = true then ta σ H1 Q else tb σ H1 Q) : tIf tt ta tb σ H Q := q
theorem r_chain {r' : R2} (q : ta σ H fun x H1 => tb σ H1 fun y H2 => r x y H2 fun z H3 => ∃ k, z = .bl k ∧ (if k = true then tc σ H3 fun w' H4 => r' y w' H4 Q else Q (.bl false) H3)) : tChain r r' ta tb tc σ H Q := q
theorem i_T (q : A) : if true = true then A else B := by rw [if_pos rfl]; exact q
theorem i_F (q : B) : if false = true then A else B := by rw [if_neg Bool.false_ne_true]; exact q
theorem i_NT (q : B) : if (!true) = true then A else B := by rw [if_neg (by decide)]; exact q
theorem i_NF (q : A) : if (!false) = true then A else B := by rw [if_pos (by decide)]; exact q
theorem i_pos {c : Prop} [Decidable c] (h : c) (q : A) : if decide c = true then A else B := by rw [if_pos (decide_eq_true h)]; exact q
theorem i_neg {c : Prop} [Decidable c] (h : ¬ c) (q : B) : if decide c = true then A else B := by rw [if_neg (by simpa using h)]; exact q
theorem i_npos {c : Prop} [Decidable c] (h : ¬ c) (q : A) : if (!decide c) = true then A else B := by rw [if_pos (by simpa using h)]; exact q
theorem i_nneg {c : Prop} [Decidable c] (h : c) (q : B) : if (!decide c) = true then A else B := by rw [if_neg (by simpa using h)]; exact q
theorem i_cases {c : Prop} [Decidable c] (p : c → A) (n : ¬ c → B) : if decide c = true then A else B := by
  by_cases h : c
  · exact i_pos h (p h)
  · exact i_neg h (n h)
theorem i_ncases {c : Prop} [Decidable c] (p : ¬ c → A) (n : c → B) : if (!decide c) = true then A else B := by
  by_cases h : c
  · exact i_nneg h (n h)
  · exact i_npos h (p h)
theorem i_bool {b : Bool} (p : b = true → A) (n : b = false → B) : if b = true then A else B := by
  cases b with
  | true => exact i_T (p rfl)
  | false => exact i_F (n rfl)
/-- two at once -/
def uPar (i j : Nat) (vs : List V) (σ : St) (H : Hp) (nx : St → Hp → Prop) : Prop := ∃ v w, vs = [v, w] ∧ nx ((σ.set i (some v)).set j (some w)) H
/-! statements -/
theorem r_next (q : nx σ H) : tNext ⟨nx, rt, bk, ct⟩ σ H := q
theorem r_brk (q : bk σ H) : tBreak ⟨nx, rt, bk, ct⟩ σ H := q
theorem r_cont (q : ct σ H) : tCont ⟨nx, rt, bk, ct⟩ σ H := q
theorem r_seq (q : tu ⟨tw ⟨nx, rt, bk, ct⟩, rt, bk, ct⟩ σ H) : tSeq tu tw ⟨nx, rt, bk, ct⟩ σ H := q
theorem r_asg {i : Nat} (q : te σ H fun v H1 => nx (σ.set i (some v)) H1) : tAsg te (gName i) ⟨nx, rt, bk, ct⟩ σ H := q
theorem r_asgG {g : TG} (q : te σ H fun v H1 => g v σ H1 nx) : tAsg te g ⟨nx, rt, bk, ct⟩ σ H := q
theorem r_aug {i : Nat} {x : V} {ti : TIp} (h : σ[i]? = some (some x)) (q : te σ H fun y H1 => ti x y H1 fun z H2 => nx (σ.set i (some z)) H2) : tAug i te ti ⟨nx, rt, bk, ct⟩ σ H := ⟨x, h, q⟩
theorem r_ipI {g : Int → Int → Int} {i j : Int} (q : Q (.int (g i j)) H) : ipI g (.int i) (.int j) H Q := ⟨i, j, rfl, rfl, q⟩
theorem r_par {i j : Nat} (q : t σ H fun vs H1 => uPar i j vs σ H1 nx) : tPar i j t ⟨nx, rt, bk, ct⟩ σ H := q
theorem r_par2 {i j : Nat} {R : St → Hp → Prop} (q : R ((σ.set i (some x)).set j (some y)) H) : uPar i j [x, y] σ H R := ⟨x, y, rfl, q⟩
theorem r_drop (q : te σ H fun _ H1 => nx σ H1) : tDrop te ⟨nx, rt, bk, ct⟩ σ H := q
theorem r_ret (q : te σ H rt) : tRet te ⟨nx, rt, bk, ct⟩ σ H := q
theorem r_retN (q : rt .non H) : tRetN ⟨nx, rt, bk, ct⟩ σ H := q
theorem r_ifS (q : tt σ H fun b H1 => if b = true then tu ⟨nx, rt, bk, ct⟩ σ H1 else tw ⟨nx, rt, bk, ct⟩ σ H1) : tIfS tt tu tw ⟨nx, rt, bk, ct⟩ σ H := q
theorem r_start {tu : TS} {D : Ends} {N : List Str} {vs : List V} {σ' : St} (e : start N vs = σ') (q : tu D σ' H) : tu D (start N vs) H := by rw [e]; exact q
theorem r_set {i : Nat} {σ' : St} {P : St → Prop} (e : σ.set i (some v) = σ') (q : P σ') : P (σ.set i (some v)) := by rw [e]; exact q
end

/-! ### numbers of any size -/
theorem intBits_small {i : Int} {n : Nat} (h : i.natAbs < 2 ^ n) : Builtin.Int.intBits i ≤ n := by
  unfold Builtin.Int.intBits
  split
  · omega
  · rename_i h0
    have h1 : i.natAbs ≠ 0 := by simpa using h0
    have := (Nat.log2_lt h1).mpr h
    omega
theorem mul_l {i j : Int} (h1 : -(2 ^ 64) < i) (h2 : i < 2 ^ 64) : IntMulOk i j := .of_left (intBits_le_64 h1 h2)
theorem mul_r {i j : Int} (h1 : -(2 ^ 64) < j) (h2 : j < 2 ^ 64) : IntMulOk i j := .of_right (intBits_le_64 h1 h2)
theorem mul_b {i j : Int} {n m : Nat} (h1 : i.natAbs < 2 ^ n) (h2 : j.natAbs < 2 ^ m) (hn : n ≤ 1048576 := by decide) (hm : m ≤ 1048576 := by decide) : IntMulOk i j :=
  .of_bits (Nat.le_trans (intBits_small h1) (Nat.le_trans hn (by decide))) (Nat.le_trans (intBits_small h2) (Nat.le_trans hm (by decide)))
theorem div_b {i j : Int} {n : Nat} (h0 : 0 < j) (h : j.natAbs < 2 ^ n) (hn : n ≤ 9000 := by decide) (h1 : 0 < n := by decide) : CDivW i j := wide_div h0 h h1 hn
section
variable {X : Cx}
theorem op_mulY : OpR X (binaryOp .Mult) (rI IntMulOk fun i j => .int (i * j)) := opI fun _ _ _ _ _ _ _ hc q => mul_int q hc
theorem pe_powC {i j z : Int} {a b : Nat} {p1 p2 pos : Pos} (h : 0 ≤ j ∧ j ≤ 1000000 ∧ i.natAbs < 2 ^ 64) (e : i ^ j.toNat = z) :
    PE X (.BinOp (.Constant (.int i) a p1) .Pow (.Constant (.int j) b p2) pos) (tC (.int z)) := by
  have h1 : PE X (.BinOp (.Constant (.int i) a p1) .Pow (.Constant (.int j) b p2) pos) (tOp (rI CPow fun i j => .int (i ^ j.toNat)) (tC (.int i)) (tC (.int j))) := pe_op op_pow pe_int pe_int
  exact ⟨fun pins s σ H Q I q => h1.run pins s σ H Q I ⟨i, j, rfl, rfl, h, by
    show Q (.int (i ^ j.toNat)) H
    rw [e]; exact q⟩⟩
/-! ### built-ins by names of mine, that steps may see them -/
def uInt1 : List V → Hp → VK → Prop := fun xs H Q => (∃ i, xs = [.int i] ∧ Q (.int i) H) ∨ ∃ k, xs = [.bl k] ∧ Q (.int (if k then 1 else 0)) H
theorem c_int1 : CallR X (.type "int") uInt1 := call_int1
def uLen (K : PySem.W.Frag) : List V → Hp → VK → Prop := fun xs H Q => ∃ x n, xs = [x] ∧ LenV K x H n ∧ Q (.int n) H
theorem c_len : CallR X (.builtin "len") (uLen X.K) := call_len
def uAbs : List V → Hp → VK → Prop := fun xs H Q => ∃ i, xs = [.int i] ∧ Q (.int (if i < 0 then -i else i)) H
theorem c_abs : CallR X (.builtin "abs") uAbs := call_abs
def uMax2 : List V → Hp → VK → Prop := fun xs H Q => ∃ i j, xs = [.int i, .int j] ∧ Q (.int (if j > i then j else i)) H
theorem c_max2 (hc : X.calm = true) : CallR X (.builtin "max") uMax2 := call_max2 hc
def uMin2 : List V → Hp → VK → Prop := fun xs H Q => ∃ i j, xs = [.int i, .int j] ∧ Q (.int (if j < i then j else i)) H
theorem c_min2 (hc : X.calm = true) : CallR X (.builtin "min") uMin2 := call_min2 hc
def uStr : List V → Hp → VK → Prop := fun xs H Q => ∃ i, xs = [.int i] ∧ i.natAbs.log2 < 1920 ∧ Q (.str (toString i)) H
theorem c_str : CallR X (.type "str") uStr := call_str_int
def uTuple (K : PySem.W.Frag) : List V → Hp → VK → Prop := fun xs H Q => ∃ p ys, xs = [.ref p] ∧ ((SqL K H p ys ∧ ∀ l, H l = none → Q (.ref l) (upd H l (.tup ys))) ∨ (SqT K H p ys ∧ Q (.ref p) H))
theorem c_tuple : CallR X (.type "tuple") (uTuple X.K) := call_tuple_of
def uList (K : PySem.W.Frag) : List V → Hp → VK → Prop := fun xs H Q => ∃ p ys, xs = [.ref p] ∧ (SqL K H p ys ∨ SqT K H p ys) ∧ ∀ l, H l = none → Q (.ref l) (upd H l (.lst ys))
theorem c_list : CallR X (.type "list") (uList X.K) := call_list_of
def uIsB : R2 := fun x y H Q => ∃ a b, x = .bl a ∧ y = .bl b ∧ Q (.bl (decide (a = b))) H
theorem o_isB : OpR X (compareOp .Is) uIsB := op_is_bl
def uNotB : R2 := fun x y H Q => ∃ a b, x = .bl a ∧ y = .bl b ∧ Q (.bl (!decide (a = b))) H
theorem o_notB : OpR X (compareOp .IsNot) uNotB := op_isnot_bl
def uIsN : R2 := fun x y H Q => y = .non ∧ Q (.bl (decide (x = .non))) H
theorem o_isN : OpR X (compareOp .Is) uIsN := op_isN
def uNotN : R2 := fun x y H Q => y = .non ∧ Q (.bl (!decide (x = .non))) H
theorem o_notN : OpR X (compareOp .IsNot) uNotN := op_notN
/-- == of anything: scalars, data -/
def uEq (K : PySem.W.Frag) : R2 := fun x y H Q => rEq x y H Q ∨ rEqD K x y H Q
theorem o_eq (hu : X.A.units + 64 < cLine) : OpR X (compareOp .Eq) (uEq X.K) := op_eq.or (op_eqD hu)
def uNe (K : PySem.W.Frag) : R2 := fun x y H Q => rNe x y H Q ∨ rNeD K x y H Q
theorem o_ne (hu : X.A.units + 64 < cLine) : OpR X (compareOp .NotEq) (uNe X.K) := op_ne.or (op_neD hu)
end
section
variable {K : PySem.W.Frag} {σ : St} {H : Hp} {Q : VK} {v x y : V} {i j : Int} {a p : Addr} {xs : List V}
theorem r_int_i (q : Q (.int i) H) : uInt1 [.int i] H Q := .inl ⟨i, rfl, q⟩
theorem r_int_b {k : Bool} (q : Q (.int (if k = true then 1 else 0)) H) : uInt1 [.bl k] H Q := .inr ⟨k, rfl, q⟩
theorem r_len_l {n : Nat} (h : SqL K H a xs) (e : xs.length = n) (q : Q (.int n) H) : uLen K [.ref a] H Q := ⟨_, _, rfl, .inl ⟨xs, h, e.symm⟩, q⟩
theorem r_len_t {n : Nat} (h : SqT K H a xs) (e : xs.length = n) (q : Q (.int n) H) : uLen K [.ref a] H Q := ⟨_, _, rfl, .inr ⟨xs, h, e.symm⟩, q⟩
theorem r_len_s {z : Str} (h : z.length ≤ sizeLine) (q : Q (.int z.length) H) : uLen K [.str z] H Q := ⟨_, _, rfl, ⟨h, rfl⟩, q⟩
theorem r_abs (q : Q (.int (if i < 0 then -i else i)) H) : uAbs [.int i] H Q := ⟨i, rfl, q⟩
theorem r_max2 (q : Q (.int (if j > i then j else i)) H) : uMax2 [.int i, .int j] H Q := ⟨i, j, rfl, q⟩
theorem r_min2 (q : Q (.int (if j < i then j else i)) H) : uMin2 [.int i, .int j] H Q := ⟨i, j, rfl, q⟩
theorem r_tuple_l (h : SqL K H p xs) (q : ∀ l H', H l = none → Same H H' → H' l = some (.tup xs) → Q (.ref l) H') : uTuple K [.ref p] H Q := ⟨p, xs, rfl, .inl ⟨h, fun l hl => q l _ hl (Keep.same (Keep.new hl)) upd_same⟩⟩
theorem r_tuple_t (h : SqT K H p xs) (q : Q (.ref p) H) : uTuple K [.ref p] H Q := ⟨p, xs, rfl, .inr ⟨h, q⟩⟩
theorem r_list_l (h : SqL K H p xs) (q : ∀ l H', H l = none → Same H H' → H' l = some (.lst xs) → Q (.ref l) H') : uList K [.ref p] H Q := ⟨p, xs, rfl, .inl h, fun l hl => q l _ hl (Keep.same (Keep.new hl)) upd_same⟩
theorem r_list_t (h : SqT K H p xs) (q : ∀ l H', H l = none → Same H H' → H' l = some (.lst xs) → Q (.ref l) H') : uList K [.ref p] H Q := ⟨p, xs, rfl, .inr h, fun l hl => q l _ hl (Keep.same (Keep.new hl)) upd_same⟩
theorem r_isB {b c : Bool} (q : Q (.bl (decide (b = c))) H) : uIsB (.bl b) (.bl c) H Q := ⟨b, c, rfl, rfl, q⟩
theorem r_notB {b c : Bool} (q : Q (.bl (!decide (b = c))) H) : uNotB (.bl b) (.bl c) H Q := ⟨b, c, rfl, rfl, q⟩
theorem r_isN_n (q : Q (.bl true) H) : uIsN .non .non H Q := ⟨rfl, q⟩
theorem r_isN_i (q : Q (.bl false) H) : uIsN (.int i) .non H Q := ⟨rfl, q⟩
theorem r_isN_r (q : Q (.bl false) H) : uIsN (.ref a) .non H Q := ⟨rfl, q⟩
theorem r_isN_s {z : Str} (q : Q (.bl false) H) : uIsN (.str z) .non H Q := ⟨rfl, q⟩
theorem r_notN_n (q : Q (.bl false) H) : uNotN .non .non H Q := ⟨rfl, q⟩
theorem r_notN_i (q : Q (.bl true) H) : uNotN (.int i) .non H Q := ⟨rfl, q⟩
theorem r_notN_r (q : Q (.bl true) H) : uNotN (.ref a) .non H Q := ⟨rfl, q⟩
theorem r_notN_s {z : Str} (q : Q (.bl true) H) : uNotN (.str z) .non H Q := ⟨rfl, q⟩
theorem r_isN {k : Bool} (e : decide (x = V.non) = k) (q : Q (.bl k) H) : uIsN x .non H Q := ⟨rfl, by rw [e]; exact q⟩
theorem r_notN {k : Bool} (e : (!decide (x = V.non)) = k) (q : Q (.bl k) H) : uNotN x .non H Q := ⟨rfl, by rw [e]; exact q⟩
theorem r_eq_i (q : Q (.bl (decide (i = j))) H) : uEq K (.int i) (.int j) H Q := .inl (r_eqi q)
theorem r_ne_i (q : Q (.bl (!decide (i = j))) H) : uNe K (.int i) (.int j) H Q := .inl (r_nei q)
theorem r_eq_s {s t : Str} (q : Q (.bl (decide (s = t))) H) : uEq K (.str s) (.str t) H Q := .inl ⟨rfl, by
  have e : decide (V.str s = V.str t) = decide (s = t) := by rw [Bool.eq_iff_iff]; simp
  rw [e]; exact q⟩
theorem r_ne_s {s t : Str} (q : Q (.bl (!decide (s = t))) H) : uNe K (.str s) (.str t) H Q := .inl ⟨rfl, by
  have e : decide (V.str s = V.str t) = decide (s = t) := by rw [Bool.eq_iff_iff]; simp
  rw [e]; exact q⟩
theorem r_eq_d {d e : PyData} (hd : Dp K H x d) (he : Dp K H y e) (s1 : SeqAt.shaped d = true) (s2 : SeqAt.shaped e = true) (q : Q (.bl (PyData.eqv d e)) H) : uEq K x y H Q := .inr ⟨d, e, hd, he, s1, s2, q⟩
theorem r_ne_d {d e : PyData} (hd : Dp K H x d) (he : Dp K H y e) (s1 : SeqAt.shaped d = true) (s2 : SeqAt.shaped e = true) (q : Q (.bl (!PyData.eqv d e)) H) : uNe K x y H Q := .inr ⟨d, e, hd, he, s1, s2, q⟩
theorem r_ixl (h : SqL K H p xs) (e : atI xs i = some v) (q : Q v H) : rIx K (.ref p) (.int i) H Q := .inl ⟨p, xs, i, v, rfl, rfl, h, e, q⟩
theorem r_ixt (h : SqT K H p xs) (e : atI xs i = some v) (q : Q v H) : rIx K (.ref p) (.int i) H Q := .inr (.inl ⟨p, xs, i, v, rfl, rfl, h, e, q⟩)
theorem r_ixs {z : Str} {c : Nat} (h : z.length ≤ sizeLine) (e : atI z.cps.toList i = some c) (q : Q (.str ⟨#[c]⟩) H) : rIx K (.str z) (.int i) H Q := .inr (.inr ⟨z, i, c, rfl, rfl, h, e, q⟩)
theorem r_gsub {to ti : TE} {t : TSet} {R : St → Hp → Prop} (q : to σ H fun o H1 => ti σ H1 fun i H2 => t o i v H2 fun H3 => R σ H3) : gSub to ti t v σ H R := q
theorem r_gname {i : Nat} {R : St → Hp → Prop} (q : R (σ.set i (some v)) H) : gName i v σ H R := q
theorem r_setl {R : Hp → Prop} {j : Nat} (h : H p = some (.lst xs)) (e : ixN xs.length i = some j) (q : ∀ H', Keep (At p) H H' → H' p = some (.lst (xs.set j v)) → R H') : rSetL (.ref p) (.int i) v H R := ⟨p, xs, i, j, rfl, rfl, h, e, q _ Keep.at_ upd_same⟩
theorem r_gtup {n : Nat} {t : TGs} {R : St → Hp → Prop} (h : SqT K H a xs) (e : xs.length = n) (q : t xs σ H R) : gTup K n t (.ref a) σ H R := ⟨a, xs, rfl, h, e, q⟩
theorem r_glst {n : Nat} {t : TGs} {R : St → Hp → Prop} (h : SqL K H a xs) (e : xs.length = n) (q : t xs σ H R) : gLst K n t (.ref a) σ H R := ⟨a, xs, rfl, h, e, q⟩
theorem r_gcons {t : TG} {u : TGs} {vs : List V} {R : St → Hp → Prop} (q : t v σ H fun σ' H' => u vs σ' H' R) : gCons t u (v :: vs) σ H R := ⟨v, vs, rfl, q⟩
theorem r_gnil {R : St → Hp → Prop} (q : R σ H) : gNil [] σ H R := ⟨rfl, q⟩
theorem r_all {bs : List Bool} (h : SqL K H a (bs.map V.bl)) (q : Q (.bl (bs.all id)) H) : rAll K [.ref a] H Q := ⟨a, bs, rfl, h, q⟩
theorem r_allT (h : SqL K H a xs) (hx : ∀ v ∈ xs, v = V.bl true) (q : Q (.bl true) H) : rAll K [.ref a] H Q := by
  have e : xs = (xs.map fun _ => true).map V.bl := by
    rw [List.map_map]
    have : xs = xs.map id := by simp
    rw [this]
    simp only [List.map_map]
    exact List.map_congr_left fun v hv => hx v hv
  have e2 : (xs.map fun _ => true).all id = true := by simp
  refine r_all (bs := xs.map fun _ => true) (by rw [← e]; exact h) ?_
  rw [e2]
  exact q
theorem r_any {bs : List Bool} (h : SqL K H a (bs.map V.bl)) (q : Q (.bl (bs.any id)) H) : rAny K [.ref a] H Q := ⟨a, bs, rfl, h, q⟩
/-! isinstance -/
def tyN : PyData → String
  | .none => "NoneType"
  | .bool _ => "bool"
  | .int _ => "int"
  | .str _ => "str"
  | .list _ => "list"
  | .tuple _ => "tuple"
  | .dict _ => "dict"
def isK (n t : String) : Bool := n == t || (t == "bool" && n == "int")
def isT (n : String) (d : PyData) : Bool := isK n (tyN d)
def tyD (d : PyData) : Value := .type (tyN d)
theorem kit_tab {t n : String} (ht : t = "NoneType" ∨ t = "bool" ∨ t = "int" ∨ t = "str" ∨ t = "list" ∨ t = "tuple" ∨ t = "dict") (hn : n = "int" ∨ n = "bool" ∨ n = "tuple" ∨ n = "str" ∨ n = "list") : kitB t n = some (isK n t) := by
  rcases ht with rfl | rfl | rfl | rfl | rfl | rfl | rfl <;> rcases hn with rfl | rfl | rfl | rfl | rfl <;> decide +kernel
theorem dp_ty {d : PyData} (h : Dp K H v d) : TyX K H v (tyD d) := by
  cases h with
  | non => exact .base .non
  | bl b => exact .base (.bl b)
  | int i => exact .base (.int i)
  | str s => exact .base (.str s)
  | lst hs _ =>
    rcases hs with (hs | ⟨o, hs⟩) | ⟨o, its, n, hk, hc, _⟩
    · exact .base (.lst hs)
    · exact .base (.frz hs)
    · exact .kList hk hc
  | tup hs _ =>
    rcases hs with (hs | ⟨o, hs⟩) | ⟨o, its, n, hk, hc, _⟩
    · exact .base (.tup hs)
    · exact .fTuple hs
    · exact .kTuple hk hc
theorem r_isi {d : PyData} {n : String} (h : Dp K H v d) (hn : n = "int" ∨ n = "bool" ∨ n = "tuple" ∨ n = "str" ∨ n = "list") (q : Q (.bl (isT n d)) H) : rIsi K [v, .ty n] H Q := by
  refine ⟨v, .ty n, tyD d, .type n, isT n d, rfl, .ty n, dp_ty h, ?_, q⟩
  refine kit_ty (kit_tab ?_ hn)
  cases d <;> simp [tyN]
end

section
variable {K : PySem.W.Frag} {H : Hp} {Q : VK} {a : Addr} {xs : List V} {i : Int} {b : Bool} {z : Str}
theorem r_isi_ii (q : Q (.bl true) H) : rIsi K [.int i, .ty "int"] H Q := r_isi (n := "int") (.int i) (by decide) q
theorem r_isi_ib (q : Q (.bl false) H) : rIsi K [.int i, .ty "bool"] H Q := r_isi (n := "bool") (.int i) (by decide) q
theorem r_isi_it (q : Q (.bl false) H) : rIsi K [.int i, .ty "tuple"] H Q := r_isi (n := "tuple") (.int i) (by decide) q
theorem r_isi_is (q : Q (.bl false) H) : rIsi K [.int i, .ty "str"] H Q := r_isi (n := "str") (.int i) (by decide) q
theorem r_isi_ni (q : Q (.bl false) H) : rIsi K [.non, .ty "int"] H Q := r_isi (n := "int") .non (by decide) q
theorem r_isi_nt (q : Q (.bl false) H) : rIsi K [.non, .ty "tuple"] H Q := r_isi (n := "tuple") .non (by decide) q
theorem r_isi_bb (q : Q (.bl true) H) : rIsi K [.bl b, .ty "bool"] H Q := r_isi (n := "bool") (.bl b) (by decide) q
theorem r_isi_bi (q : Q (.bl true) H) : rIsi K [.bl b, .ty "int"] H Q := r_isi (n := "int") (.bl b) (by decide) q
theorem r_isi_ss (q : Q (.bl true) H) : rIsi K [.str z, .ty "str"] H Q := r_isi (n := "str") (.str z) (by decide) q
theorem r_isi_si (q : Q (.bl false) H) : rIsi K [.str z, .ty "int"] H Q := r_isi (n := "int") (.str z) (by decide) q
theorem r_isi_st (q : Q (.bl false) H) : rIsi K [.str z, .ty "tuple"] H Q := r_isi (n := "tuple") (.str z) (by decide) q
theorem tyX_tup (h : SqT K H a xs) : TyX K H (.ref a) (.type "tuple") := by
  rcases h with (hs | ⟨o, hs⟩) | ⟨o, its, n, hk, hc, _⟩
  · exact .base (.tup hs)
  · exact .fTuple hs
  · exact .kTuple hk hc
theorem tyX_lst (h : SqL K H a xs) : TyX K H (.ref a) (.type "list") := by
  rcases h with (hs | ⟨o, hs⟩) | ⟨o, its, n, hk, hc, _⟩
  · exact .base (.lst hs)
  · exact .base (.frz hs)
  · exact .kList hk hc
theorem r_isi_tt (h : SqT K H a xs) (q : Q (.bl true) H) : rIsi K [.ref a, .ty "tuple"] H Q := ⟨_, _, _, _, true, rfl, .ty "tuple", tyX_tup h, kit_ty (kit_tab (by decide) (by decide)), q⟩
theorem r_isi_ti (h : SqT K H a xs) (q : Q (.bl false) H) : rIsi K [.ref a, .ty "int"] H Q := ⟨_, _, _, _, false, rfl, .ty "int", tyX_tup h, kit_ty (kit_tab (by decide) (by decide)), q⟩
end
/-! ### walks: how many turns, what each turn yields -/
structure Wk (J : It) (n : Nat) (src : Hp → Prop) (item : Nat → Hp → V → Hp → Prop) : Prop where
  go : ∀ i H, src H → i < n → J.go i H
  stop : ∀ i H, src H → n ≤ i → J.stop i H
  yld : ∀ i H x H', src H → J.yld i H x H' → item i H x H'
section
variable {K : PySem.W.Frag} {a b : Addr} {xs ys : List V}
theorem wk_list : Wk (Itl K a) xs.length (fun H => SqL K H a xs) (fun i H x H' => H' = H ∧ xs[i]? = some x) where
  go := fun i H h hi => ⟨xs, xs[i], h, by simp [hi]⟩
  stop := fun i H h hi => ⟨xs, h, hi⟩
  yld := fun i H x H' h y => by obtain ⟨e, y⟩ := y; exact ⟨e, y xs h⟩
theorem wk_tup : Wk (Itt K a) xs.length (fun H => SqT K H a xs) (fun i H x H' => H' = H ∧ xs[i]? = some x) where
  go := fun i H h hi => ⟨xs, xs[i], h, by simp [hi]⟩
  stop := fun i H h hi => ⟨xs, h, hi⟩
  yld := fun i H x H' h y => by obtain ⟨e, y⟩ := y; exact ⟨e, y xs h⟩
theorem wk_rng {lo : Int} {n : Nat} : Wk (Itr lo n) n (fun _ => True) (fun i H x H' => H' = H ∧ x = .int (lo + i)) where
  go := fun i H _ hi => hi
  stop := fun i H _ hi => hi
  yld := fun i H x H' _ y => y
theorem wk_rngC {lo c : Int} {n : Nat} : Wk (Itc lo c n) n (fun _ => True) (fun i H x H' => H' = H ∧ x = .int (lo + (i : Nat) * c)) where
  go := fun i H _ hi => hi
  stop := fun i H _ hi => hi
  yld := fun i H x H' _ y => y
theorem wk_zipL : Wk (Itz K a b) (min xs.length ys.length) (fun H => SqL K H a xs ∧ SqL K H b ys) (fun i H v H' => ∃ T x y, v = .ref T ∧ H T = none ∧ H' = upd H T (.tup [x, y]) ∧ xs[i]? = some x ∧ ys[i]? = some y) where
  go := fun i H h hi => ⟨xs, ys, xs[i]'(by omega), ys[i]'(by omega), h.1, h.2, by simp, by simp⟩
  stop := fun i H h hi => ⟨xs, ys, h.1, h.2, by omega⟩
  yld := fun i H v H' h y => by
    obtain ⟨T, x, z, e1, e2, e3, e4, e5⟩ := y
    exact ⟨T, x, z, e1, e2, e3, e4 xs h.1, e5 ys h.2⟩
theorem wk_zipT : Wk (RZ.ItzT K a b) (min xs.length ys.length) (fun H => SqT K H a xs ∧ SqT K H b ys) (fun i H v H' => ∃ T x y, v = .ref T ∧ H T = none ∧ H' = upd H T (.tup [x, y]) ∧ xs[i]? = some x ∧ ys[i]? = some y) where
  go := fun i H h hi => ⟨xs, ys, xs[i]'(by omega), ys[i]'(by omega), h.1, h.2, by simp, by simp⟩
  stop := fun i H h hi => ⟨xs, ys, h.1, h.2, by omega⟩
  yld := fun i H v H' h y => by
    obtain ⟨T, x, z, e1, e2, e3, e4, e5⟩ := y
    exact ⟨T, x, z, e1, e2, e3, e4 xs h.1, e5 ys h.2⟩
end
/-- what a for asks once it is known what it walks -/
def ForW (J : It) (g : TG) (tb : TS) : TS := fun D σ H => ∃ W : Nat → Nat → St → Hp → Prop, (∃ m, W 0 m σ H) ∧ ∀ i m σ H, W i m σ H →
  (J.stop i H ∧ D.nx σ H) ∨ (J.go i H ∧ ∃ N : St → Hp → Prop, (∀ σ' H', N σ' H' → ∃ m', m' < m ∧ W (i + 1) m' σ' H') ∧ ∀ x H', J.yld i H x H' → g x σ H' fun σ2 H2 => tb { D with nx := N, ct := N, bk := D.nx } σ2 H2)
def LcW (J : It) (g : TG) (tt : TT) (te : TE) (vs : List Nat) : TE := fun σ H1 Q => ∀ D, H1 D = none → ∃ W : Nat → Nat → Hp → Prop, (∃ m, W 0 m (upd H1 D (.lst []))) ∧ ∀ i m H, W i m H →
  (J.stop i H ∧ Q (.ref D) H) ∨ (J.go i H ∧ ∃ Nx : Hp → Prop, (∀ H', Nx H' → ∃ m', m' < m ∧ W (i + 1) m' H') ∧ ∀ x H', J.yld i H x H' → g x (wipe σ vs) H' fun σ2 H2 => wipe σ2 vs = wipe σ vs ∧ tt σ2 H2 fun b H3 =>
    if b = true then te σ2 H3 fun y H4 => ∃ acc, H4 D = some (.lst acc) ∧ acc.length < sizeLine ∧ Nx (upd H4 D (.lst (acc ++ [y]))) else Nx H3)
section
variable {K : PySem.W.Frag} {σ : St} {H : Hp} {Q : VK} {ta tl te : TE} {tt : TT} {tb : TS} {g : TG} {wi : TI} {nx bk ct : St → Hp → Prop} {rt : VK} {vs : List Nat} {J : It} {n : Nat} {src : Hp → Prop} {item : Nat → Hp → V → Hp → Prop} {a b : Addr} {xs ys : List V}
theorem r_for (q : wi σ H fun J H1 => ForW J g tb ⟨nx, rt, bk, ct⟩ σ H1) : tFor wi g tb ⟨nx, rt, bk, ct⟩ σ H := q
theorem r_lc (q : wi σ H fun J H1 => LcW J g tt te vs σ H1 Q) : tLc wi g tt te vs σ H Q := q
/-- a list or a tuple that is walked -/
def uWalk (K : PySem.W.Frag) (x : V) (H : Hp) (R : It → Hp → Prop) (l : Bool) : Prop := ∃ a, x = .ref a ∧ (if l = true then (∃ xs, SqL K H a xs) ∧ R (Itl K a) H else (∃ xs, SqT K H a xs) ∧ R (Itt K a) H)
theorem r_ilist {R : It → Hp → Prop} (q : tl σ H fun x H1 => uWalk K x H1 R true) : iList K tl σ H R := by
  have e : (fun (x : V) (H1 : Hp) => uWalk K x H1 R true) = fun x H1 => ∃ a, x = .ref a ∧ (∃ xs, SqL K H1 a xs) ∧ R (Itl K a) H1 := by
    funext x H1
    simp [uWalk]
  rw [e] at q
  exact q
theorem r_itup {R : It → Hp → Prop} (q : tl σ H fun x H1 => uWalk K x H1 R false) : iTup K tl σ H R := by
  have e : (fun (x : V) (H1 : Hp) => uWalk K x H1 R false) = fun x H1 => ∃ a, x = .ref a ∧ (∃ xs, SqT K H1 a xs) ∧ R (Itt K a) H1 := by
    funext x H1
    simp [uWalk]
  rw [e] at q
  exact q
theorem r_wl {R : It → Hp → Prop} (h : SqL K H a xs) (q : R (Itl K a) H) : uWalk K (.ref a) H R true := ⟨a, rfl, by rw [if_pos rfl]; exact ⟨⟨xs, h⟩, q⟩⟩
theorem r_wt {R : It → Hp → Prop} (h : SqT K H a xs) (q : R (Itt K a) H) : uWalk K (.ref a) H R false := ⟨a, rfl, by rw [if_neg (by decide)]; exact ⟨⟨xs, h⟩, q⟩⟩
def uRng1 (vs : List V) (H : Hp) (R : It → Hp → Prop) : Prop := ∃ j : Int, vs = [.int j] ∧ -(2 ^ 62) ≤ j ∧ j < 2 ^ 62 ∧ R (Itr 0 j.toNat) H
def uRng2 (vs : List V) (H : Hp) (R : It → Hp → Prop) : Prop := ∃ i j : Int, vs = [.int i, .int j] ∧ (-(2 ^ 62) ≤ i ∧ i < 2 ^ 62 ∧ -(2 ^ 62) ≤ j ∧ j < 2 ^ 62) ∧ R (Itr i (j - i).toNat) H
theorem r_irng1 {t : TA} {R : It → Hp → Prop} (q : t σ H fun vs H1 => uRng1 vs H1 R) : iRng1 t σ H R := q
theorem r_irng2 {t : TA} {R : It → Hp → Prop} (q : t σ H fun vs H1 => uRng2 vs H1 R) : iRng2 t σ H R := q
theorem r_rng1 {j : Int} {R : It → Hp → Prop} (h1 : -(2 ^ 62) ≤ j) (h2 : j < 2 ^ 62) (q : R (Itr 0 j.toNat) H) : uRng1 [.int j] H R := ⟨j, rfl, h1, h2, q⟩
theorem r_rng2 {i j : Int} {R : It → Hp → Prop} (h1 : -(2 ^ 62) ≤ i) (h2 : i < 2 ^ 62) (h3 : -(2 ^ 62) ≤ j) (h4 : j < 2 ^ 62) (q : R (Itr i (j - i).toNat) H) : uRng2 [.int i, .int j] H R := ⟨i, j, rfl, ⟨h1, h2, h3, h4⟩, q⟩
def uZip (K : PySem.W.Frag) (vs : List V) (H : Hp) (R : It → Hp → Prop) : Prop := ∃ a b xs ys, vs = [.ref a, .ref b] ∧ ((SqL K H a xs ∧ SqL K H b ys ∧ R (Itz K a b) H) ∨ (SqT K H a xs ∧ SqT K H b ys ∧ R (RZ.ItzT K a b) H))
theorem r_izip {t : TA} {R : It → Hp → Prop} (q : t σ H fun vs H1 => uZip K vs H1 R) : RZ.iZipA K t σ H R := q
theorem r_zipL {R : It → Hp → Prop} (h1 : SqL K H a xs) (h2 : SqL K H b ys) (q : R (Itz K a b) H) : uZip K [.ref a, .ref b] H R := ⟨a, b, xs, ys, rfl, .inl ⟨h1, h2, q⟩⟩
theorem r_zipT {R : It → Hp → Prop} (h1 : SqT K H a xs) (h2 : SqT K H b ys) (q : R (RZ.ItzT K a b) H) : uZip K [.ref a, .ref b] H R := ⟨a, b, xs, ys, rfl, .inr ⟨h1, h2, q⟩⟩

/-- a for by its invariant -/
theorem for_wk (w : Wk J n src item) (Pv : Nat → St → Hp → Prop) (h0 : Pv 0 σ H) (hsrc : ∀ i σ H, i ≤ n → Pv i σ H → src H)
    (hs : ∀ i x σ H H', i < n → Pv i σ H → item i H x H' → g x σ H' fun σ2 H2 => tb ⟨Pv (i + 1), rt, nx, Pv (i + 1)⟩ σ2 H2) (hd : ∀ σ H, Pv n σ H → nx σ H) :
    ForW J g tb ⟨nx, rt, bk, ct⟩ σ H := by
  refine ⟨fun i m σ H => m = n - i ∧ i ≤ n ∧ Pv i σ H, ⟨n, by simp, Nat.zero_le _, h0⟩, ?_⟩
  rintro i m σ H ⟨rfl, hi, p⟩
  have q := hsrc i σ H hi p
  by_cases hlt : i < n
  · refine .inr ⟨w.go i H q hlt, Pv (i + 1), fun σ' H' p' => ⟨n - (i + 1), by omega, rfl, hlt, p'⟩, fun x H' y => ?_⟩
    exact hs i x σ H H' hlt p (w.yld i H x H' q y)
  · have e : i = n := by omega
    subst e
    exact .inl ⟨w.stop i H q (Nat.le_refl _), hd σ H p⟩
theorem lc_wk (w : Wk J n src item) (Pv : Addr → Nat → Hp → Prop) (h0 : ∀ D, H D = none → Pv D 0 (upd H D (.lst []))) (hsrc : ∀ D i H, i ≤ n → Pv D i H → src H)
    (hs : ∀ D i x H2 H', H D = none → i < n → Pv D i H2 → item i H2 x H' → g x (wipe σ vs) H' fun σ2 H2 => wipe σ2 vs = wipe σ vs ∧ tt σ2 H2 fun b H3 =>
      if b = true then te σ2 H3 fun y H4 => ∃ acc, H4 D = some (.lst acc) ∧ acc.length < sizeLine ∧ Pv D (i + 1) (upd H4 D (.lst (acc ++ [y]))) else Pv D (i + 1) H3)
    (hd : ∀ D H', H D = none → Pv D n H' → Q (.ref D) H') : LcW J g tt te vs σ H Q := by
  intro D hD
  refine ⟨fun i m H => m = n - i ∧ i ≤ n ∧ Pv D i H, ⟨n, by simp, Nat.zero_le _, h0 D hD⟩, ?_⟩
  rintro i m H2 ⟨rfl, hi, p⟩
  have q := hsrc D i H2 hi p
  by_cases hlt : i < n
  · refine .inr ⟨w.go i H2 q hlt, Pv D (i + 1), fun H' p' => ⟨n - (i + 1), by omega, rfl, hlt, p'⟩, fun x H' y => ?_⟩
    exact hs D i x H2 H' hD hlt p (w.yld i H2 x H' q y)
  · have e : i = n := by omega
    subst e
    exact .inl ⟨w.stop i H2 q (Nat.le_refl _), hd D H2 hD p⟩
theorem wipe_one {j : Nat} {x : V} : wipe ((wipe σ [j]).set j (some x)) [j] = wipe σ [j] := by
  simp [wipe, List.set_set]
theorem take_snoc {α : Type} : ∀ {l : List α} {i : Nat} {x : α}, l[i]? = some x → l.take (i + 1) = l.take i ++ [x]
  | [], i, x, h => by simp at h
  | a :: l, 0, x, h => by
    have e : a = x := Option.some.inj h
    subst e; rfl
  | a :: l, i + 1, x, h => by
    have ih := take_snoc (l := l) (i := i) (x := x) h
    show a :: l.take (i + 1) = a :: l.take i ++ [x]
    rw [ih]; rfl
/-- a comprehension over one name whose element and test are pure: known values -/
theorem lc_pure {j : Nat} (w : Wk J xs.length src (fun i H x H' => H' = H ∧ xs[i]? = some x)) (hsrc : ∀ H', Same H H' → src H') (hn : xs.length ≤ 16777216) (f : V → Bool) (v : V → V)
    (ht : ∀ x H2 (R : Bool → Hp → Prop), x ∈ xs → Same H H2 → (∀ H3, Same H2 H3 → R (f x) H3) → tt ((wipe σ [j]).set j (some x)) H2 R)
    (he : ∀ x H2 (R : VK), x ∈ xs → f x = true → Same H H2 → (∀ H3, Same H2 H3 → R (v x) H3) → te ((wipe σ [j]).set j (some x)) H2 R)
    (q : ∀ D H', H D = none → Same H H' → H' D = some (.lst ((xs.filter f).map v)) → Q (.ref D) H') : LcW J (gName j) tt te [j] σ H Q := by
  refine lc_wk w (fun D i H' => H D = none ∧ Same H H' ∧ H' D = some (.lst (((xs.take i).filter f).map v))) (fun D hD => ⟨hD, fun b o e => by rw [upd_ne (ne_of_none e hD)]; exact e, by simp [upd_same]⟩)
    (fun D i H' _ p => hsrc H' p.2.1) ?_ (fun D H' hD p => q D H' hD p.2.1 (by have := p.2.2; rw [List.take_length] at this; exact this))
  rintro D i x H2 H' hD hi ⟨p1, p2, p3⟩ ⟨rfl, hx⟩
  have hm : x ∈ xs := List.mem_of_getElem? hx
  show wipe ((wipe σ [j]).set j (some x)) [j] = wipe σ [j] ∧ tt ((wipe σ [j]).set j (some x)) H' _
  refine ⟨wipe_one, ht x H' _ hm p2 fun H3 e3 => ?_⟩
  have t3 := take_snoc hx
  have hl : ((xs.take i).filter f).length ≤ i := Nat.le_trans (List.length_filter_le _ _) (by simp; omega)
  cases hf : f x with
  | true =>
    refine i_T (he x H3 _ hm hf (p2.trans e3) fun H4 e4 => ⟨_, e4 _ _ (e3 _ _ p3), by rw [List.length_map, sizeLine_eq]; omega, hD, fun b o e => ?_, ?_⟩)
    · rw [upd_ne (ne_of_none e hD)]; exact e4 _ _ (e3 _ _ (p2 _ _ e))
    · rw [upd_same, t3, List.filter_append, List.map_append]
      simp [hf]
  | false =>
    refine i_F ⟨hD, p2.trans e3, ?_⟩
    rw [t3, List.filter_append, List.map_append]
    simp [hf]
    exact e3 _ _ p3
/-- .. whose elements are told by a relation that stays where tuples stay -/
theorem lc_rel {j : Nat} (w : Wk J xs.length src (fun i H x H' => H' = H ∧ xs[i]? = some x)) (hsrc : ∀ H', Same H H' → src H') (hn : xs.length ≤ 16777216) (f : V → Bool) (R : Hp → V → V → Prop) (hR : ∀ H H' x y, TExt H H' → R H x y → R H' x y)
    (ht : ∀ x H2 (S : Bool → Hp → Prop), x ∈ xs → Same H H2 → (∀ H3, Same H2 H3 → S (f x) H3) → tt ((wipe σ [j]).set j (some x)) H2 S)
    (he : ∀ x H2 (S : VK), x ∈ xs → f x = true → Same H H2 → (∀ y H3, Same H2 H3 → R H3 x y → S y H3) → te ((wipe σ [j]).set j (some x)) H2 S)
    (q : ∀ D H' ys, H D = none → Same H H' → H' D = some (.lst ys) → Paired (R H') (xs.filter f) ys → Q (.ref D) H') : LcW J (gName j) tt te [j] σ H Q := by
  refine lc_wk w (fun D i H' => H D = none ∧ Same H H' ∧ ∃ ys, H' D = some (.lst ys) ∧ Paired (R H') ((xs.take i).filter f) ys) (fun D hD => ⟨hD, fun b o e => by rw [upd_ne (ne_of_none e hD)]; exact e, [], by simp [upd_same], by simpa using Paired.nil⟩)
    (fun D i H' _ p => hsrc H' p.2.1) ?_ (fun D H' hD p => by obtain ⟨p1, p2, ys, p3, p4⟩ := p; rw [List.take_length] at p4; exact q D H' ys hD p2 p3 p4)
  rintro D i x H2 H' hD hi ⟨p1, p2, ys, p3, p4⟩ ⟨rfl, hx⟩
  have hm : x ∈ xs := List.mem_of_getElem? hx
  show wipe ((wipe σ [j]).set j (some x)) [j] = wipe σ [j] ∧ tt ((wipe σ [j]).set j (some x)) H' _
  refine ⟨wipe_one, ht x H' _ hm p2 fun H3 e3 => ?_⟩
  have t3 := take_snoc hx
  have hl : ((xs.take i).filter f).length ≤ i := Nat.le_trans (List.length_filter_le _ _) (by simp; omega)
  have hl2 := p4.length
  cases hf : f x with
  | true =>
    refine i_T (he x H3 _ hm hf (p2.trans e3) fun y H4 e4 hy => ⟨ys, e4 _ _ (e3 _ _ p3), by rw [sizeLine_eq]; omega, hD, fun b o e => ?_, ys ++ [y], upd_same, ?_⟩)
    · rw [upd_ne (ne_of_none e hD)]; exact e4 _ _ (e3 _ _ (p2 _ _ e))
    · have te2 : TExt H4 (upd H4 D (.lst (ys ++ [y]))) := TExt.lst Keep.at_ (e4 _ _ (e3 _ _ p3))
      rw [t3, List.filter_append]
      simp only [List.filter_cons, hf, List.filter_nil, if_true]
      exact (Paired.mapP p4 fun u z r => hR _ _ _ _ ((TExt.of_same (e3.trans e4)).trans te2) r).snoc (hR _ _ _ _ te2 hy)
  | false =>
    refine i_F ⟨hD, p2.trans e3, ys, e3 _ _ p3, ?_⟩
    rw [t3, List.filter_append]
    simp [hf]
    exact Paired.mapP p4 fun u z r => hR _ _ _ _ (TExt.of_same e3) r
theorem filter_all {α : Type} (l : List α) : l.filter (fun _ => true) = l := List.filter_eq_self.mpr (by simp)
theorem lc_map {j : Nat} (w : Wk J xs.length src (fun i H x H' => H' = H ∧ xs[i]? = some x)) (hsrc : ∀ H', Same H H' → src H') (hn : xs.length ≤ 16777216) (v : V → V)
    (he : ∀ x H2 (R : VK), x ∈ xs → Same H H2 → (∀ H3, Same H2 H3 → R (v x) H3) → te ((wipe σ [j]).set j (some x)) H2 R)
    (q : ∀ D H', H D = none → Same H H' → H' D = some (.lst (xs.map v)) → Q (.ref D) H') : LcW J (gName j) tYes te [j] σ H Q :=
  lc_pure w hsrc hn (fun _ => true) v (fun x H2 R _ _ k => k H2 (Same.refl H2)) (fun x H2 R hx _ e k => he x H2 R hx e k) (fun D H' hD e hl => q D H' hD e (by rw [filter_all] at hl; exact hl))
theorem lc_mapR {j : Nat} (w : Wk J xs.length src (fun i H x H' => H' = H ∧ xs[i]? = some x)) (hsrc : ∀ H', Same H H' → src H') (hn : xs.length ≤ 16777216) (R : Hp → V → V → Prop) (hR : ∀ H H' x y, TExt H H' → R H x y → R H' x y)
    (he : ∀ x H2 (S : VK), x ∈ xs → Same H H2 → (∀ y H3, Same H2 H3 → R H3 x y → S y H3) → te ((wipe σ [j]).set j (some x)) H2 S)
    (q : ∀ D H' ys, H D = none → Same H H' → H' D = some (.lst ys) → Paired (R H') xs ys → Q (.ref D) H') : LcW J (gName j) tYes te [j] σ H Q :=
  lc_rel w hsrc hn (fun _ => true) R hR (fun x H2 S _ _ k => k H2 (Same.refl H2)) (fun x H2 S hx _ e k => he x H2 S hx e k) (fun D H' ys hD e hl hp => q D H' ys hD e hl (by rw [filter_all] at hp; exact hp))
end
/-! ### more steps -/
section
variable {K : PySem.W.Frag} {H H' : Hp} {Q : VK} {p q a b : Addr} {F : Addr → Prop} {xs ys : List V} {σ : St} {te : TE} {tl th : TO} {lo hi : Option Int} {v : V}
theorem r_sl {r : V → Option Int → Option Int → Hp → VK → Prop} (q : te σ H fun x H1 => tl σ H1 fun l H2 => th σ H2 fun u H3 => r x l u H3 Q) : tSl r te tl th σ H Q := q
theorem r_nopart {R : Option Int → Hp → Prop} (q : R none H) : tNoPart σ H R := q
def uPart (x : V) (H : Hp) (R : Option Int → Hp → Prop) : Prop := ∃ i, x = .int i ∧ R (some i) H
theorem r_part {R : Option Int → Hp → Prop} (q : te σ H fun x H1 => uPart x H1 R) : tPart te σ H R := q
theorem r_parti {i : Int} {R : Option Int → Hp → Prop} (q : R (some i) H) : uPart (.int i) H R := ⟨i, rfl, q⟩
theorem r_sll (h : SqL K H a xs) (q : ∀ p H', H p = none → Same H H' → H' p = some (.lst (cutV xs lo hi)) → Q (.ref p) H') : rSlL K (.ref a) lo hi H Q :=
  ⟨a, xs, rfl, h, fun p hp => q p _ hp (Keep.same (Keep.new hp)) upd_same⟩
theorem cutV_from {xs : List V} {k : Nat} : cutV xs (some (k : Int)) none = xs.drop k := by
  unfold cutV
  rw [HT.sIx_nat, HT.sIx_none]
  by_cases h : k ≤ xs.length
  · rw [Nat.min_eq_left h, List.take_of_length_le (by simp)]
  · rw [Nat.min_eq_right (by omega), List.drop_of_length_le (Nat.le_refl _), List.drop_of_length_le (by omega)]
    simp
theorem cutV_to {xs : List V} {k : Nat} : cutV xs none (some (k : Int)) = xs.take k := by
  unfold cutV
  rw [HT.sIx_nat, HT.sIx_none]
  simp only [List.drop_zero, Nat.sub_zero]
  by_cases h : k ≤ xs.length
  · rw [Nat.min_eq_left h]
  · rw [Nat.min_eq_right (by omega), List.take_of_length_le (Nat.le_refl _), List.take_of_length_le (by omega)]
theorem cutV_init {xs : List V} {x : V} : cutV (xs ++ [x]) none (some (-1)) = xs := by
  unfold cutV
  simp [HT.sIx]
  rw [show (-1 + ((xs.length : Int) + 1)).toNat = xs.length by omega, List.take_left']
  rfl
theorem r_sla (h : SqT K H a xs) (q : ∀ p H', Same H H' → SqT K H' p (cutV xs lo hi) → Q (.ref p) H') : rSlA K (.ref a) lo hi H Q := by
  refine ⟨a, xs, rfl, h, fun e => q a H (Same.refl H) ?_, fun _ p hp => q p _ (Keep.same (Keep.new hp)) (SqT.of upd_same)⟩
  unfold cutV
  rw [e.1, e.2]
  simpa using h
theorem r_cat (h1 : H a = some (.lst xs)) (h2 : H b = some (.lst ys)) (hz : xs.length + ys.length ≤ sizeLine) (q : ∀ p H', H p = none → Same H H' → H' p = some (.lst (xs ++ ys)) → Q (.ref p) H') : rCat (.ref a) (.ref b) H Q :=
  ⟨a, b, xs, ys, rfl, rfl, h1, h2, hz, fun p hp => q p _ hp (Keep.same (Keep.new hp)) upd_same⟩
theorem r_catA (h1 : SqT K H a xs) (h2 : SqT K H b ys) (hz : xs.length + ys.length ≤ sizeLine) (q : ∀ p H', Same H H' → SqT K H' p (xs ++ ys) → Q (.ref p) H') : rCatA K (.ref a) (.ref b) H Q := by
  refine ⟨a, b, xs, ys, rfl, rfl, h1, h2, hz, fun e => ?_, fun _ e => ?_, fun _ _ p hp => q p _ (Keep.same (Keep.new hp)) (SqT.of upd_same)⟩
  · subst e
    exact q b H (Same.refl H) (by simpa using h2)
  · subst e
    exact q a H (Same.refl H) (by simpa using h1)
def uBM (K : PySem.W.Frag) (T : String) (r : V → List V → Hp → VK → Prop) (t : TA) (σ : St) (x : V) (H : Hp) (Q : VK) : Prop := tyV K T x H ∧ t σ H fun xs H2 => r x xs H2 Q
theorem r_bm {T : String} {r : V → List V → Hp → VK → Prop} {t : TA} (q : te σ H fun x H1 => uBM K T r t σ x H1 Q) : tBM K T r te t σ H Q := q
def uBM0 (K : PySem.W.Frag) (T : String) (r : V → List V → Hp → VK → Prop) (x : V) (H : Hp) (Q : VK) : Prop := tyV K T x H ∧ r x [] H Q
theorem r_bm0 {T : String} {r : V → List V → Hp → VK → Prop} (q : te σ H fun x H1 => uBM0 K T r x H1 Q) : tBM0 K T r te σ H Q := q
theorem r_bml {r : V → List V → Hp → VK → Prop} {t : TA} (h : SqL K H a xs) (q : t σ H fun vs H2 => r (.ref a) vs H2 Q) : uBM K "list" r t σ (.ref a) H Q := ⟨.inl ⟨rfl, _, h⟩, q⟩
theorem r_bm0l {r : V → List V → Hp → VK → Prop} (h : SqL K H a xs) (q : r (.ref a) [] H Q) : uBM0 K "list" r (.ref a) H Q := ⟨.inl ⟨rfl, _, h⟩, q⟩
def uRevL (K : PySem.W.Frag) (x : V) (H : Hp) (Q : VK) : Prop := ∃ a xs, x = .ref a ∧ SqL K H a xs ∧ ∀ p, H p = none → Q (.ref p) (upd H p (.lst xs.reverse))
theorem r_revL (q : te σ H fun x H1 => uRevL K x H1 Q) : tRevL K te σ H Q := q
theorem r_revl (h : SqL K H a xs) (q : ∀ p H', H p = none → Same H H' → H' p = some (.lst xs.reverse) → Q (.ref p) H') : uRevL K (.ref a) H Q := ⟨a, xs, rfl, h, fun p hp => q p _ hp (Keep.same (Keep.new hp)) upd_same⟩
theorem r_reverse (h : H a = some (.lst xs)) (q : ∀ H', Keep (At a) H H' → H' a = some (.lst xs.reverse) → Q .non H') : rReverse (.ref a) [] H Q := ⟨a, xs, rfl, rfl, h, q _ Keep.at_ upd_same⟩
theorem r_append (h : H a = some (.lst xs)) (hz : xs.length < sizeLine) (q : ∀ H', Keep (At a) H H' → H' a = some (.lst (xs ++ [v])) → Q .non H') : rAppend (.ref a) [v] H Q := ⟨a, xs, v, rfl, rfl, h, hz, q _ Keep.at_ upd_same⟩
theorem r_extend (h : H a = some (.lst xs)) (h2 : H b = some (.lst ys)) (hz : xs.length + ys.length ≤ sizeLine) (q : ∀ H', Keep (At a) H H' → H' a = some (.lst (xs ++ ys)) → Q .non H') : rExtend (.ref a) [.ref b] H Q := ⟨a, b, xs, ys, rfl, rfl, h, h2, hz, q _ Keep.at_ upd_same⟩
theorem r_sortedI {ns : List Int} (h : SqL K H a (ns.map V.int)) (q : ∀ (ms : List Int) p H', ms.Perm ns → ms.Pairwise (· ≤ ·) → H p = none → Same H H' → H' p = some (.lst (ms.map V.int)) → Q (.ref p) H') : rSortedI K [.ref a] H Q :=
  ⟨a, ns, rfl, h, fun ms p h1 h2 h3 => q ms p _ h1 h2 h3 (Keep.same (Keep.new h3)) upd_same⟩
theorem dpAll_ints (K : PySem.W.Frag) (H : Hp) : ∀ ns : List Int, DpAll K H (ns.map V.int) (ns.map PyData.int)
  | [] => .nil
  | n :: ns => .cons (.int n) (dpAll_ints K H ns)
theorem dpAll_len {K : PySem.W.Frag} {H : Hp} : ∀ {vs : List V} {ds : List PyData}, DpAll K H vs ds → vs.length = ds.length
  | _, _, .nil => rfl
  | _, _, .cons _ h => by simp [dpAll_len h]
theorem dpAll_get {K : PySem.W.Frag} {H : Hp} : ∀ {vs : List V} {ds : List PyData}, DpAll K H vs ds → ∀ x ∈ vs, ∃ d, Dp K H x d
  | _, _, .cons h1 h2, x, hx => by
    rcases List.mem_cons.mp hx with rfl | hx
    · exact ⟨_, h1⟩
    · exact dpAll_get h2 x hx
theorem r_ix01 {x y : Int} {b : Bool} (h : SqL K H p [.int x, .int y]) (q : ∀ z, (z = x ∧ b = false) ∨ (z = y ∧ b = true) → Q (.int z) H) : rIx K (.ref p) (.int (if b = true then 1 else 0)) H Q := by
  cases b with
  | true => exact r_ixl h rfl (q y (.inr ⟨rfl, rfl⟩))
  | false => exact r_ixl h rfl (q x (.inl ⟨rfl, rfl⟩))
theorem SqL.keep (h : SqL K H a xs) (k : Keep F H H') (n : ¬ F a) : SqL K H' a xs := by
  rcases h with (h | ⟨o, h⟩) | h
  · exact .inl (.inl (k a _ h n))
  · exact .inl (.inr ⟨o, k a _ h n⟩)
  · exact .inr h
end
/-! ### data that == is told of: small depth -/
structure Shp (n : Nat) (d : PyData) : Prop where
  c : d.canLay0 = true
  d : d.depth ≤ n
theorem Shp.ok {n : Nat} {d : PyData} (h : Shp n d) (hn : n ≤ 64 := by decide) : SeqAt.shaped d = true := by
  unfold SeqAt.shaped
  rw [h.c, Bool.true_and]
  exact decide_eq_true (Nat.le_trans h.d hn)
theorem Shp.int {n : Nat} (i : Int) : Shp n (.int i) := ⟨by simp [PyData.canLay0], by simp [PyData.depth]⟩
theorem Shp.bool {n : Nat} (i : Bool) : Shp n (.bool i) := ⟨by simp [PyData.canLay0], by simp [PyData.depth]⟩
theorem Shp.none {n : Nat} : Shp n .none := ⟨by simp [PyData.canLay0], by simp [PyData.depth]⟩
theorem shp_all {n : Nat} : ∀ {ds : List PyData}, (∀ d ∈ ds, Shp n d) → PyData.canLayAll0 ds = true ∧ PyData.depthAll ds ≤ n
  | [], _ => ⟨by simp [PyData.canLayAll0], by simp [PyData.depthAll]⟩
  | x :: xs, h => by
    have h1 := h x (List.mem_cons_self ..)
    have h2 := shp_all fun d hd => h d (List.mem_cons_of_mem _ hd)
    exact ⟨by simp [PyData.canLayAll0, h1.c, h2.1], by simp only [PyData.depthAll]; exact Nat.max_le.mpr ⟨h1.d, h2.2⟩⟩
theorem Shp.tuple {n : Nat} {ds : List PyData} (h : ∀ d ∈ ds, Shp n d) : Shp (n + 1) (.tuple ds) := ⟨by simp [PyData.canLay0, (shp_all h).1], by have := (shp_all h).2; simp [PyData.depth]; omega⟩
theorem Shp.list {n : Nat} {ds : List PyData} (h : ∀ d ∈ ds, Shp n d) : Shp (n + 1) (.list ds) := ⟨by simp [PyData.canLay0, (shp_all h).1], by have := (shp_all h).2; simp [PyData.depth]; omega⟩
theorem Shp.tupleM {α : Type} {n : Nat} {as : List α} {f : α → PyData} (h : ∀ c, Shp n (f c)) : Shp (n + 1) (.tuple (as.map f)) := Shp.tuple fun d hd => by
  obtain ⟨c, _, rfl⟩ := List.mem_map.mp hd
  exact h c
theorem Shp.listM {α : Type} {n : Nat} {as : List α} {f : α → PyData} (h : ∀ c, Shp n (f c)) : Shp (n + 1) (.list (as.map f)) := Shp.list fun d hd => by
  obtain ⟨c, _, rfl⟩ := List.mem_map.mp hd
  exact h c
theorem Shp.t2 {n : Nat} {a b : PyData} (ha : Shp n a) (hb : Shp n b) : Shp (n + 1) (.tuple [a, b]) := Shp.tuple (by simp; exact ⟨ha, hb⟩)
theorem Shp.t3 {n : Nat} {a b c : PyData} (ha : Shp n a) (hb : Shp n b) (hc : Shp n c) : Shp (n + 1) (.tuple [a, b, c]) := Shp.tuple (by simp; exact ⟨ha, hb, hc⟩)
theorem Shp.t4 {n : Nat} {a b c d : PyData} (ha : Shp n a) (hb : Shp n b) (hc : Shp n c) (hd : Shp n d) : Shp (n + 1) (.tuple [a, b, c, d]) := Shp.tuple (by simp; exact ⟨ha, hb, hc, hd⟩)
/-! ### data in a row: walks and comprehensions over it -/
section
variable {K : PySem.W.Frag} {σ : St} {H H' : Hp} {Q : VK} {te : TE} {tt : TT} {g : TG} {vs : List Nat} {J : It} {src : Hp → Prop} {item : Nat → Hp → V → Hp → Prop} {a : Addr}
theorem dpAll_at : ∀ {ws : List V} {ds : List PyData}, DpAll K H ws ds → ∀ {i : Nat} {x : V}, ws[i]? = some x → ∃ d, ds[i]? = some d ∧ Dp K H x d
  | _, _, .nil, i, x, h => by simp at h
  | _, _, .cons h1 h2, 0, x, h => by
    have e := Option.some.inj h
    subst e
    exact ⟨_, rfl, h1⟩
  | _, _, .cons h1 h2, i + 1, x, h => dpAll_at h2 (i := i) (x := x) h
theorem dpAll_map_at {α : Type} {f : α → PyData} {as : List α} {ws : List V} (h : DpAll K H ws (as.map f)) {i : Nat} {x : V} (e : ws[i]? = some x) : ∃ c, as[i]? = some c ∧ Dp K H x (f c) := by
  obtain ⟨d, h1, h2⟩ := dpAll_at h e
  rw [List.getElem?_map] at h1
  obtain ⟨c, h3, rfl⟩ := Option.map_eq_some_iff.mp h1
  exact ⟨c, h3, h2⟩
theorem same_at {H H1 H2 : Hp} {f : Addr} (s : Same H H1) (hf : H f = none) (k : Keep (At f) H1 H2) : Same H H2 := fun b o e => k b o (s b o e) (ne_of_none e hf)
theorem dpAll_drop : ∀ {ws : List V} {ds : List PyData} (k : Nat), DpAll K H ws ds → DpAll K H (ws.drop k) (ds.drop k)
  | _, _, 0, h => h
  | _, _, k + 1, .nil => .nil
  | _, _, k + 1, .cons h1 h2 => dpAll_drop k h2
theorem dpAll_take : ∀ {ws : List V} {ds : List PyData} (k : Nat), DpAll K H ws ds → DpAll K H (ws.take k) (ds.take k)
  | _, _, 0, h => by simpa using DpAll.nil
  | _, _, k + 1, .nil => .nil
  | _, _, k + 1, .cons h1 h2 => .cons h1 (dpAll_take k h2)
theorem dpAll_snoc : ∀ {ws : List V} {ds : List PyData} {x : V} {d : PyData}, DpAll K H ws ds → Dp K H x d → DpAll K H (ws ++ [x]) (ds ++ [d])
  | _, _, _, _, .nil, h => .cons h .nil
  | _, _, _, _, .cons h1 h2, h => .cons h1 (dpAll_snoc h2 h)
theorem dpAll_app : ∀ {ws : List V} {ds : List PyData} {ws' : List V} {ds' : List PyData}, DpAll K H ws ds → DpAll K H ws' ds' → DpAll K H (ws ++ ws') (ds ++ ds')
  | _, _, _, _, .nil, h => h
  | _, _, _, _, .cons h1 h2, h => .cons h1 (dpAll_app h2 h)
theorem paired_dp {α : Type} {f : α → PyData} : ∀ {as : List α} {ys : List V}, Paired (fun c y => Dp K H y (f c)) as ys → DpAll K H ys (as.map f)
  | _, _, .nil => .nil
  | _, _, .cons h1 h2 => .cons h1 (paired_dp h2)
theorem dp_tup {v : V} {ds : List PyData} (h : Dp K H v (.tuple ds)) : ∃ p ws, v = .ref p ∧ SqT K H p ws ∧ DpAll K H ws ds := by
  cases h with
  | tup hs ha => exact ⟨_, _, rfl, hs, ha⟩
theorem dp_lst {v : V} {ds : List PyData} (h : Dp K H v (.list ds)) : ∃ p ws, v = .ref p ∧ SqL K H p ws ∧ DpAll K H ws ds := by
  cases h with
  | lst hs ha => exact ⟨_, _, rfl, hs, ha⟩
theorem dp_int {v : V} {i : Int} (h : Dp K H v (.int i)) : v = .int i := by cases h; rfl
theorem dp_non {v : V} (h : Dp K H v .none) : v = .non := by cases h; rfl
theorem dp_bool {v : V} {b : Bool} (h : Dp K H v (.bool b)) : v = .bl b := by cases h; rfl
theorem dp_str {v : V} {z : Str} (h : Dp K H v (.str z)) : v = .str z := by cases h; rfl
theorem dpAll_trues {α : Type} : ∀ {as : List α} {ws : List V}, DpAll K H ws (as.map fun _ => PyData.bool true) → ∀ v ∈ ws, v = V.bl true
  | [], _, .nil, v, hv => by simp at hv
  | a :: as, _, .cons h1 h2, v, hv => by
    rcases List.mem_cons.mp hv with rfl | hv
    · exact dp_bool h1
    · exact dpAll_trues h2 v hv
theorem dpAll_all_ints : ∀ {ws : List V} {ns : List Int}, DpAll K H ws (ns.map PyData.int) → ws = ns.map V.int
  | _, [], .nil => rfl
  | _, n :: ns, .cons h1 h2 => by rw [dp_int h1, dpAll_all_ints h2]; rfl
theorem dp_ints {v : V} {ns : List Int} (h : Dp K H v (.tuple (ns.map PyData.int))) : ∃ p, v = .ref p ∧ SqT K H p (ns.map V.int) := by
  obtain ⟨p, ws, rfl, h1, h2⟩ := dp_tup h
  rw [dpAll_all_ints h2] at h1
  exact ⟨p, rfl, h1⟩
theorem mapP_mono {α : Type} {R S : α → V → Prop} {as : List α} {ys : List V} (h : Paired R as ys) (k : ∀ c y, R c y → S c y) : Paired S as ys := Paired.mapP h k
/-- a comprehension over whatever is walked: each kept item's element is told by R, which stays where tuples stay -/
theorem lc_gen {α : Type} (as : List α) (It1 : α → V → Hp → Prop) (w : Wk J as.length src item) (hit : ∀ i H x H', i < as.length → item i H x H' → ∃ c, as[i]? = some c ∧ Same H H' ∧ It1 c x H') (hsrc : ∀ H', Same H H' → src H')
    (hn : as.length ≤ 16777216) (f : α → Bool) (R : Hp → α → V → Prop) (hR : ∀ H H' c y, TExt H H' → R H c y → R H' c y)
    (hs : ∀ c x H2 (S : VK) (N : Hp → Prop), c ∈ as → Same H H2 → It1 c x H2 → (f c = true → ∀ y H3, Same H2 H3 → R H3 c y → S y H3) → (f c = false → ∀ H3, Same H2 H3 → N H3) →
      g x (wipe σ vs) H2 fun σ2 H3 => wipe σ2 vs = wipe σ vs ∧ tt σ2 H3 fun b H4 => if b = true then te σ2 H4 S else N H4)
    (q : ∀ D H' ys, H D = none → Same H H' → H' D = some (.lst ys) → Paired (R H') (as.filter f) ys → Q (.ref D) H') : LcW J g tt te vs σ H Q := by
  refine lc_wk w (fun D i H' => H D = none ∧ Same H H' ∧ ∃ ys, H' D = some (.lst ys) ∧ Paired (R H') ((as.take i).filter f) ys) (fun D hD => ⟨hD, fun b o e => by rw [upd_ne (ne_of_none e hD)]; exact e, [], by simp [upd_same], by simpa using Paired.nil⟩)
    (fun D i H' _ p => hsrc H' p.2.1) ?_ (fun D H' hD p => by obtain ⟨p1, p2, ys, p3, p4⟩ := p; rw [List.take_length] at p4; exact q D H' ys hD p2 p3 p4)
  rintro D i x H2 H' hD hi ⟨p1, p2, ys, p3, p4⟩ hx
  obtain ⟨c, hc, s1, hI⟩ := hit i H2 x H' hi hx
  have t3 := take_snoc hc
  have hl : ((as.take i).filter f).length ≤ i := Nat.le_trans (List.length_filter_le _ _) (by simp; omega)
  have hl2 := p4.length
  have hm : c ∈ as := List.mem_of_getElem? hc
  refine hs c x H' _ _ hm (p2.trans s1) hI (fun hf y H4 e4 hy => ?_) (fun hf H3 e3 => ?_)
  · refine ⟨ys, e4 _ _ (s1 _ _ p3), by rw [sizeLine_eq]; omega, hD, fun b o e => ?_, ys ++ [y], upd_same, ?_⟩
    · rw [upd_ne (ne_of_none e hD)]; exact e4 _ _ (s1 _ _ (p2 _ _ e))
    · have te2 : TExt H4 (upd H4 D (.lst (ys ++ [y]))) := TExt.lst Keep.at_ (e4 _ _ (s1 _ _ p3))
      rw [t3, List.filter_append]
      simp only [List.filter_cons, hf, List.filter_nil, if_true]
      exact (Paired.mapP p4 fun u z r => hR _ _ _ _ ((TExt.of_same (s1.trans e4)).trans te2) r).snoc (hR _ _ _ _ te2 hy)
  · refine ⟨hD, p2.trans (s1.trans e3), ys, e3 _ _ (s1 _ _ p3), ?_⟩
    rw [t3, List.filter_append]
    simp [hf]
    exact Paired.mapP p4 fun u z r => hR _ _ _ _ (TExt.of_same (s1.trans e3)) r
/-- over range(n) -/
theorem lc_rngD {n : Nat} {lo : Int} (hn : n ≤ 16777216) (f : Nat → Bool) (fx : Nat → PyData) (hi : ∀ c, imm (fx c) = true)
    (hs : ∀ (c : Nat) H2 (S : VK) (N : Hp → Prop), c < n → Same H H2 → (f c = true → ∀ y H3, Same H2 H3 → Dp K H3 y (fx c) → S y H3) → (f c = false → ∀ H3, Same H2 H3 → N H3) →
      g (.int (lo + c)) (wipe σ vs) H2 fun σ2 H3 => wipe σ2 vs = wipe σ vs ∧ tt σ2 H3 fun b H4 => if b = true then te σ2 H4 S else N H4)
    (q : ∀ D H' ys, H D = none → Same H H' → H' D = some (.lst ys) → DpAll K H' ys (((List.range n).filter f).map fx) → Q (.ref D) H') : LcW (Itr lo n) g tt te vs σ H Q := by
  have w : Wk (Itr lo n) (List.range n).length (fun _ => True) (fun i H x H' => H' = H ∧ x = .int (lo + i)) := by
    rw [List.length_range]
    exact wk_rng
  refine lc_gen (List.range n) (fun c x H => x = .int (lo + c)) w (fun i H x H' hi h => ⟨i, List.getElem?_range (by simpa using hi), by rw [h.1]; exact Same.refl _, h.2⟩) (fun _ _ => trivial) (by simpa using hn) f (fun H c y => Dp K H y (fx c)) (fun H H' c y e h => Dp.text e _ _ (hi c) h)
    (fun c x H2 S N hc s hx k1 k2 => ?_) (fun D H' ys hD s e p => q D H' ys hD s e (paired_dp p))
  subst hx
  exact hs c H2 S N (by simpa using hc) s k1 k2
/-- over range(n), one object p (a pot) being changed in each turn -/
theorem lc_rngK {n : Nat} {lo : Int} {p : Addr} {te : TE} {j : Nat} (I : Hp → Prop) (h0 : I H) (hne : ∀ D, H D = none → D ≠ p) (hI : ∀ H1 H2 : Hp, I H1 → H2 p = H1 p → I H2) (hT : ∀ H1 H2, I H1 → Keep (At p) H1 H2 → TExt H1 H2)
    (hn : n ≤ 16777216) (R : Hp → Nat → V → Prop) (hR : ∀ H H' i y, TExt H H' → R H i y → R H' i y)
    (hs : ∀ (i : Nat) H2 (S : VK), i < n → Keep (At p) H H2 → I H2 → (∀ y H3, Keep (At p) H2 H3 → I H3 → R H3 i y → S y H3) → te ((wipe σ [j]).set j (some (.int (lo + i)))) H2 S)
    (q : ∀ D H' ys, H D = none → Keep (At p) H H' → I H' → H' D = some (.lst ys) → Paired (R H') (List.range n) ys → Q (.ref D) H') : LcW (Itr lo n) (gName j) tYes te [j] σ H Q := by
  refine lc_wk wk_rng (fun D i H' => H D = none ∧ Keep (At p) H H' ∧ I H' ∧ ∃ ys, H' D = some (.lst ys) ∧ Paired (R H') (List.range i) ys)
    (fun D hD => ⟨hD, fun b o e _ => by rw [upd_ne (ne_of_none e hD)]; exact e, hI _ _ h0 (by rw [upd_ne (Ne.symm (hne D hD))]), [], by simp [upd_same], by simpa using Paired.nil⟩)
    (fun D i H' _ p => trivial) ?_ (fun D H' hD p => by obtain ⟨p1, p2, p3, ys, p4, p5⟩ := p; exact q D H' ys hD p2 p3 p4 p5)
  rintro D i x H2 H' hD hi ⟨p1, p2, p3, ys, p4, p5⟩ ⟨rfl, rfl⟩
  show wipe ((wipe σ [j]).set j _) [j] = wipe σ [j] ∧ _
  refine ⟨wipe_one, ?_⟩
  refine r_yes (i_T (hs i H' _ hi p2 p3 fun y H3 k3 i3 r3 => ⟨ys, k3 _ _ p4 (hne D hD), by rw [sizeLine_eq, ← p5.length, List.length_range]; omega, hD, ?_, hI _ _ i3 (by rw [upd_ne (Ne.symm (hne D hD))]), ys ++ [y], upd_same, ?_⟩))
  · exact (p2.trans k3).free hD
  · have e3 := k3 _ _ p4 (hne D hD)
    have t3 := hT _ _ p3 k3
    have t4 : TExt H3 (upd H3 D (.lst (ys ++ [y]))) := TExt.lst Keep.at_ e3
    rw [List.range_succ]
    exact (Paired.mapP p5 fun u z r => hR _ _ _ _ (t3.trans t4) r).snoc (hR _ _ _ _ t4 r3)
theorem paired_ex {α β : Type} {R : α → β → Prop} {f : β → PyData} : ∀ {as : List α} {ys : List V}, Paired (fun c y => ∃ z, Dp K H y (f z) ∧ R c z) as ys → ∃ zs : List β, DpAll K H ys (zs.map f) ∧ Paired R as zs
  | _, _, .nil => ⟨[], .nil, .nil⟩
  | _, _, .cons h1 h2 => by
    obtain ⟨z, d, r⟩ := h1
    obtain ⟨zs, ds, rs⟩ := paired_ex h2
    exact ⟨z :: zs, .cons d ds, .cons r rs⟩
theorem paired_right {α : Type} {P : V → Prop} : ∀ {as : List α} {ys : List V}, Paired (fun _ y => P y) as ys → ∀ y ∈ ys, P y
  | _, _, .nil, y, h => by simp at h
  | _, _, .cons h1 h2, y, h => by
    rcases List.mem_cons.mp h with rfl | h
    · exact h1
    · exact paired_right h2 y h
theorem paired_ints {α : Type} {R : α → Int → Prop} : ∀ {as : List α} {ys : List V}, Paired (fun c y => ∃ z, y = V.int z ∧ R c z) as ys → ∃ zs : List Int, ys = zs.map V.int ∧ Paired R as zs
  | _, _, .nil => ⟨[], rfl, .nil⟩
  | _, _, .cons h1 h2 => by
    obtain ⟨z, rfl, r⟩ := h1
    obtain ⟨zs, rfl, rs⟩ := paired_ints h2
    exact ⟨z :: zs, rfl, .cons r rs⟩
theorem int_at {zs : List Int} {i : Nat} {x : V} (h : (zs.map V.int)[i]? = some x) : ∃ z, zs[i]? = some z ∧ x = .int z := by
  rw [List.getElem?_map] at h
  obtain ⟨z, h1, h2⟩ := Option.map_eq_some_iff.mp h
  exact ⟨z, h1, h2.symm⟩
/-- over a tuple of data -/
theorem lc_tupD {α : Type} {as : List α} {fa : α → PyData} {ws : List V} (h1 : SqT K H a ws) (h2 : DpAll K H ws (as.map fa)) (hn : as.length ≤ 16777216) (f : α → Bool) (fx : α → PyData) (hi : ∀ c, imm (fx c) = true)
    (hs : ∀ c x H2 (S : VK) (N : Hp → Prop), c ∈ as → Same H H2 → Dp K H2 x (fa c) → (f c = true → ∀ y H3, Same H2 H3 → Dp K H3 y (fx c) → S y H3) → (f c = false → ∀ H3, Same H2 H3 → N H3) →
      g x (wipe σ vs) H2 fun σ2 H3 => wipe σ2 vs = wipe σ vs ∧ tt σ2 H3 fun b H4 => if b = true then te σ2 H4 S else N H4)
    (q : ∀ D H' ys, H D = none → Same H H' → H' D = some (.lst ys) → DpAll K H' ys ((as.filter f).map fx) → Q (.ref D) H') : LcW (Itt K a) g tt te vs σ H Q := by
  have hl : ws.length = as.length := by rw [dpAll_len h2]; simp
  have w : Wk (Itt K a) as.length (fun H' => SqT K H' a ws ∧ Same H H') (fun i H2 x H' => H' = H2 ∧ Same H H2 ∧ ws[i]? = some x) := by
    rw [← hl]
    exact ⟨fun i H e => wk_tup.go i H e.1, fun i H e => wk_tup.stop i H e.1, fun i H2 x H' e y => by have z := wk_tup.yld i H2 x H' e.1 y; exact ⟨z.1, e.2, z.2⟩⟩
  refine lc_gen as (fun c x H2 => Dp K H2 x (fa c)) w (fun i H2 x H' hi h => ?_) (fun H' s => ⟨SqT.text (TExt.of_same s) h1, s⟩) hn f (fun H c y => Dp K H y (fx c)) (fun H H' c y e h => Dp.text e _ _ (hi c) h) hs
    (fun D H' ys hD s e p => q D H' ys hD s e (paired_dp p))
  obtain ⟨rfl, s, hx⟩ := h
  obtain ⟨c, hc, hd⟩ := dpAll_map_at h2 hx
  exact ⟨c, hc, Same.refl _, Dp.same s _ _ hd⟩
/-- over a list of data -/
theorem lc_lstD {α : Type} {as : List α} {fa : α → PyData} {ws : List V} (h1 : SqL K H a ws) (h2 : DpAll K H ws (as.map fa)) (hn : as.length ≤ 16777216) (f : α → Bool) (fx : α → PyData) (hi : ∀ c, imm (fx c) = true)
    (hs : ∀ c x H2 (S : VK) (N : Hp → Prop), c ∈ as → Same H H2 → Dp K H2 x (fa c) → (f c = true → ∀ y H3, Same H2 H3 → Dp K H3 y (fx c) → S y H3) → (f c = false → ∀ H3, Same H2 H3 → N H3) →
      g x (wipe σ vs) H2 fun σ2 H3 => wipe σ2 vs = wipe σ vs ∧ tt σ2 H3 fun b H4 => if b = true then te σ2 H4 S else N H4)
    (q : ∀ D H' ys, H D = none → Same H H' → H' D = some (.lst ys) → DpAll K H' ys ((as.filter f).map fx) → Q (.ref D) H') : LcW (Itl K a) g tt te vs σ H Q := by
  have hl : ws.length = as.length := by rw [dpAll_len h2]; simp
  have w : Wk (Itl K a) as.length (fun H' => SqL K H' a ws ∧ Same H H') (fun i H2 x H' => H' = H2 ∧ Same H H2 ∧ ws[i]? = some x) := by
    rw [← hl]
    exact ⟨fun i H e => wk_list.go i H e.1, fun i H e => wk_list.stop i H e.1, fun i H2 x H' e y => by have z := wk_list.yld i H2 x H' e.1 y; exact ⟨z.1, e.2, z.2⟩⟩
  refine lc_gen as (fun c x H2 => Dp K H2 x (fa c)) w (fun i H2 x H' hi h => ?_) (fun H' s => ⟨s.seq h1, s⟩) hn f (fun H c y => Dp K H y (fx c)) (fun H H' c y e h => Dp.text e _ _ (hi c) h) hs
    (fun D H' ys hD s e p => q D H' ys hD s e (paired_dp p))
  obtain ⟨rfl, s, hx⟩ := h
  obtain ⟨c, hc, hd⟩ := dpAll_map_at h2 hx
  exact ⟨c, hc, Same.refl _, Dp.same s _ _ hd⟩
/-- over whatever is walked, one object p being changed in each turn -/
theorem lc_genK {α : Type} {p : Addr} (I : Hp → Prop) (h0 : I H) (hne : ∀ D, H D = none → D ≠ p) (hU : ∀ H1 D ys, H D = none → I H1 → (H1 D = none ∨ ∃ l, H1 D = some (.lst l)) → I (upd H1 D (.lst ys))) (hT : ∀ H1 H2, I H1 → Keep (At p) H1 H2 → TExt H1 H2)
    (as : List α) (It1 : α → V → Hp → Prop) (w : Wk J as.length src item) (hit : ∀ i H x H', i < as.length → item i H x H' → ∃ c, as[i]? = some c ∧ H' = H ∧ It1 c x H') (hsrc : ∀ H', Keep (At p) H H' → I H' → src H')
    (hn : as.length ≤ 16777216) (R : Hp → α → V → Prop) (hR : ∀ H H' c y, TExt H H' → R H c y → R H' c y)
    (hs : ∀ c x H2 (S : VK) (N : Hp → Prop), c ∈ as → Keep (At p) H H2 → I H2 → It1 c x H2 → (∀ y H3, Keep (At p) H2 H3 → I H3 → R H3 c y → S y H3) →
      g x (wipe σ vs) H2 fun σ2 H3 => wipe σ2 vs = wipe σ vs ∧ tYes σ2 H3 fun b H4 => if b = true then te σ2 H4 S else N H4)
    (q : ∀ D H' ys, H D = none → Keep (At p) H H' → I H' → H' D = some (.lst ys) → Paired (R H') as ys → Q (.ref D) H') : LcW J g tYes te vs σ H Q := by
  refine lc_wk w (fun D i H' => H D = none ∧ Keep (At p) H H' ∧ I H' ∧ ∃ ys, H' D = some (.lst ys) ∧ Paired (R H') (as.take i) ys) (fun D hD => ⟨hD, fun b o e _ => by rw [upd_ne (ne_of_none e hD)]; exact e, hU _ _ _ hD h0 (.inl hD), [], by simp [upd_same], by simpa using Paired.nil⟩)
    (fun D i H' _ p => hsrc H' p.2.1 p.2.2.1) ?_ (fun D H' hD p => by obtain ⟨p1, p2, p3, ys, p4, p5⟩ := p; rw [List.take_length] at p5; exact q D H' ys hD p2 p3 p4 p5)
  rintro D i x H2 H' hD hi ⟨p1, p2, p3, ys, p4, p5⟩ hx
  obtain ⟨c, hc, rfl, hI⟩ := hit i H2 x H' hi hx
  have hm : c ∈ as := List.mem_of_getElem? hc
  refine hs c x H' _ _ hm p2 p3 hI (fun y H3 k3 i3 r3 => ⟨ys, k3 _ _ p4 (hne D hD), by rw [sizeLine_eq, ← p5.length, List.length_take]; omega, hD, ?_, hU _ _ _ hD i3 (.inr ⟨ys, k3 _ _ p4 (hne D hD)⟩), ys ++ [y], upd_same, ?_⟩)
  · exact (p2.trans k3).free hD
  · have e3 := k3 _ _ p4 (hne D hD)
    have t3 := hT _ _ p3 k3
    have t4 : TExt H3 (upd H3 D (.lst (ys ++ [y]))) := TExt.lst Keep.at_ e3
    rw [take_snoc hc]
    exact (Paired.mapP p5 fun u z r => hR _ _ _ _ (t3.trans t4) r).snoc (hR _ _ _ _ t4 r3)
/-- over zip of two tuples of data -/
theorem lc_zipD {α β : Type} {as : List α} {bs : List β} {fa : α → PyData} {fb : β → PyData} {b : Addr} {xs ys : List V} (h1 : SqT K H a xs) (d1 : DpAll K H xs (as.map fa)) (h2 : SqT K H b ys) (d2 : DpAll K H ys (bs.map fb)) (hn : as.length ≤ 16777216)
    (f : α × β → Bool) (fx : α × β → PyData) (hi : ∀ c, imm (fx c) = true)
    (hs : ∀ c T x y H2 (S : VK) (N : Hp → Prop), c ∈ as.zip bs → Same H H2 → H2 T = some (.tup [x, y]) → Dp K H2 x (fa c.1) → Dp K H2 y (fb c.2) → (f c = true → ∀ z H3, Same H2 H3 → Dp K H3 z (fx c) → S z H3) → (f c = false → ∀ H3, Same H2 H3 → N H3) →
      g (.ref T) (wipe σ vs) H2 fun σ2 H3 => wipe σ2 vs = wipe σ vs ∧ tt σ2 H3 fun b H4 => if b = true then te σ2 H4 S else N H4)
    (q : ∀ D H' zs, H D = none → Same H H' → H' D = some (.lst zs) → DpAll K H' zs (((as.zip bs).filter f).map fx) → Q (.ref D) H') : LcW (RZ.ItzT K a b) g tt te vs σ H Q := by
  have l1 : xs.length = as.length := by rw [dpAll_len d1]; simp
  have l2 : ys.length = bs.length := by rw [dpAll_len d2]; simp
  have hl : min xs.length ys.length = (as.zip bs).length := by rw [l1, l2, List.length_zip]
  have w : Wk (RZ.ItzT K a b) (as.zip bs).length (fun H' => (SqT K H' a xs ∧ SqT K H' b ys) ∧ Same H H') (fun i H2 v H' => Same H H2 ∧ ∃ T x y, v = .ref T ∧ H2 T = none ∧ H' = upd H2 T (.tup [x, y]) ∧ xs[i]? = some x ∧ ys[i]? = some y) := by
    rw [← hl]
    exact ⟨fun i H e => wk_zipT.go i H e.1, fun i H e => wk_zipT.stop i H e.1, fun i H2 x H' e y => ⟨e.2, wk_zipT.yld i H2 x H' e.1 y⟩⟩
  refine lc_gen (as.zip bs) (fun c v H2 => ∃ T x y, v = .ref T ∧ H2 T = some (.tup [x, y]) ∧ Dp K H2 x (fa c.1) ∧ Dp K H2 y (fb c.2)) w (fun i H2 v H' hi h => ?_) (fun H' s => ⟨⟨SqT.text (TExt.of_same s) h1, SqT.text (TExt.of_same s) h2⟩, s⟩) (by rw [List.length_zip]; omega) f (fun H c y => Dp K H y (fx c)) (fun H H' c y e h => Dp.text e _ _ (hi c) h)
    (fun c v H2 S N hc s hv k1 k2 => ?_) (fun D H' ys hD s e p => q D H' ys hD s e (paired_dp p))
  · obtain ⟨s, T, x, y, rfl, hT, rfl, hx, hy⟩ := h
    obtain ⟨c, hc, hd⟩ := dpAll_map_at d1 hx
    obtain ⟨c', hc', hd'⟩ := dpAll_map_at d2 hy
    have sT : Same H2 (upd H2 T (.tup [x, y])) := Keep.same (Keep.new hT)
    exact ⟨(c, c'), by rw [List.getElem?_zip_eq_some]; exact ⟨hc, hc'⟩, sT, T, x, y, rfl, upd_same, Dp.same (s.trans sT) _ _ hd, Dp.same (s.trans sT) _ _ hd'⟩
  · obtain ⟨T, x, y, rfl, hT, hx, hy⟩ := hv
    exact hs c T x y H2 S N hc s hT hx hy k1 k2
end
theorem cx_none {P : Program} {w : World} {H : Hp} {s : Shared} {e : Value} {s' : Shared} (h : L2.CX P w [] H s (fun _ _ _ => False) e s') : False := by
  obtain ⟨_, _, _, _, _, _, _, _, _, _, _, _, z⟩ := h
  exact z.elim
/-! ### exceptions of the program's own: classes over ValueError without a body -/
def bmV : List Value := [.type "ValueError", .type "Exception", .type "BaseException", .type "object"]
structure Exc (K : PySem.W.Frag) (mg : Str → Option Value) (x : Str) (C : Addr) : Prop where
  g : mg x = some (.ref C)
  ex : PySem.W.excIn K C bmV "ValueError.__new__" = true
  kp : PySem.W.keepIn K (.ref C) = true
  bs : PySem.W.subIn K (.ref C) (.type "BaseException") = some true
  ty : PySem.W.typeIn K (.ref C) = some (.type "type")
section
variable {X : Cx} {k j : Nat} {ps : List Str} {sp : Sp} {E : XK} {x : Str} {p pos : Pos} {e : Expr} {es : List Expr} {t : TA} {C : Addr}
/-- raise X('..') -/
theorem ps_rs {W : WX} {m : Str} {jj : Nat} {p2 pos2 : Pos} (T : Exc X.K X.mg x C) (tk : Takes X W) (hc : X.calm = true := by rfl) (hg : Gl X x := by rfl) (hdb : (x == ("__debug__" : Str)) = false := by decide) :
    PS X (.Raise (some (.Call (.Name x p) [.Constant (.str m) jj p2] [] pos)) none pos2) (fun _ σ H => W (.ref C) none σ H) :=
  ps_raise hc tk (pmk_own PySem.F.excBase_ValueError T.ex T.g T.kp (raises_own T.bs T.ty) hg hdb)
/-- a call whose exception leaves this def -/
theorem pe_fnX (F : Fn X.prog X.w X.K X.mg X.base k x ps sp) (hr : Room j X.A) (tk : Takes X (fun cls d _ H => E cls d H)) (ha : PA X (e :: es) t) (hk : k ≤ j := by decide) (hg : Gl X x := by rfl)
    (hdb : (x == ("__debug__" : Str)) = false := by decide) (he : starEach (e :: es) X.env = (false, eval e X.env) :: starEach es X.env := by rfl) (hpl : (backTo pos (starEach es X.env)).any (·.1) = false := by rfl) :
    PE X (.Call (.Name x p) (e :: es) [] pos) (tFn sp E t) := pe_fnE F hr hk hg (passes_call tk fun _ _ _ _ h => h) ha hdb he hpl
end
theorem eqv_same {d : PyData} (h : SeqAt.shaped d = true) : PyData.eqv d d = true := SeqAt.eqv_refl d (SeqAt.canLay_of_shaped h)
/-- a statement, then the rest, with a word between -/
theorem r_cut {σ : St} {H : Hp} {tu tw : TS} {nx bk ct : St → Hp → Prop} {rt : VK} (Mid : St → Hp → Prop) (h : tu ⟨Mid, rt, bk, ct⟩ σ H) (k : ∀ σ' H', Mid σ' H' → tw ⟨nx, rt, bk, ct⟩ σ' H') : Evl.tCut tu tw ⟨nx, rt, bk, ct⟩ σ H := ⟨Mid, h, k⟩
/-! ### texts -/
open TL (tl tl_append mk_tl joinL tl_join join_eq)
section
variable {X : Cx} {K : PySem.W.Frag} {σ : St} {H : Hp} {Q : VK} {to te ta tb : TE} {o e : Expr} {a p : Addr}
def uJoin (K : PySem.W.Frag) : V → List V → Hp → VK → Prop := fun x xs H Q => ∃ a p, ∃ ys : List Str, x = .str a ∧ xs = [.ref p] ∧ (SqL K H p (ys.map V.str) ∨ SqT K H p (ys.map V.str)) ∧
  (ys.map (·.length)).sum + ys.length * a.length ≤ 16777216 ∧ Q (.str (Txt.join a ys)) H
theorem pe_joinU (K : PySem.W.Frag) {apos pos : Pos} (ho : PE X o to) (he : PE X e te) (hs : starEach [e] X.env = [(false, eval e X.env)] := by rfl) (hbase : attributeBase o "join" X.env (eval o X.env) = eval o X.env := by rfl) (hline : (apos.endLine == pos.line) = true := by rfl) (hK : X.K = K := by rfl) :
    PE X (.Call (.Attribute o "join" apos) [e] [] pos) (tM1 (uJoin K) to te) := hK ▸ pe_join ho he hs hbase hline
def uM1 (r : V → List V → Hp → VK → Prop) (te : TE) (σ : St) (x : V) (H : Hp) (Q : VK) : Prop := (∃ a, x = .str a) ∧ te σ H fun y H2 => r x [y] H2 Q
theorem r_m1 {r : V → List V → Hp → VK → Prop} (q : to σ H fun x H1 => uM1 r te σ x H1 Q) : tM1 r to te σ H Q := q
theorem r_m1s {r : V → List V → Hp → VK → Prop} {z : Str} (q : te σ H fun y H2 => r (.str z) [y] H2 Q) : uM1 r te σ (.str z) H Q := ⟨⟨z, rfl⟩, q⟩
theorem r_join {z : Str} {ys : List Str} (h : SqL K H p (ys.map V.str)) (hz : (ys.map (·.length)).sum + ys.length * z.length ≤ 16777216) (q : Q (.str (Txt.join z ys)) H) : uJoin K (.str z) [.ref p] H Q := ⟨z, p, ys, rfl, rfl, .inl h, hz, q⟩
def uAddS : R2 := fun x y H Q => ∃ i j, x = .str i ∧ y = .str j ∧ i.length + j.length ≤ sizeLine ∧ Q (.str (i ++ j)) H
theorem o_adds : OpR X (binaryOp .Add) uAddS := op_add_str
theorem r_adds {i j : Str} (h : i.length + j.length ≤ sizeLine) (q : Q (.str (i ++ j)) H) : uAddS (.str i) (.str j) H Q := ⟨i, j, rfl, rfl, h, q⟩
theorem tl_inj {x y : Str} (h : tl x = tl y) : x = y := by
  have := congrArg (fun l => (⟨l.toArray⟩ : Str)) h
  rw [← mk_tl x, ← mk_tl y]
  exact this
theorem len_tl (x : Str) : x.length = (tl x).length := by simp [tl, Str.length]
theorem joinL_nil : ∀ ps : List (List Nat), joinL [] ps = ps.flatten
  | [] => rfl
  | [p] => by simp [joinL]
  | p :: q :: r => by
    show p ++ ([] ++ joinL [] (q :: r)) = _
    rw [joinL_nil (q :: r)]
    simp
theorem sum_lens {B : Nat} : ∀ {l : List Str}, (∀ c ∈ l, c.length ≤ B) → (l.map (·.length)).sum ≤ l.length * B
  | [], _ => by simp
  | c :: l, h => by
    have h1 := h c (List.mem_cons_self ..)
    have h2 := sum_lens fun d hd => h d (List.mem_cons_of_mem _ hd)
    simp only [List.map_cons, List.sum_cons, List.length_cons, Nat.add_mul, Nat.one_mul]
    omega
theorem tl_join0 (ys : List Str) : tl (Txt.join ("" : Str) ys) = (ys.map tl).flatten := by
  rw [join_eq, tl_join, show tl ("" : Str) = [] by decide +kernel, joinL_nil]
theorem dpAll_strs {K : PySem.W.Frag} {H : Hp} : ∀ {ws : List V} {zs : List Str}, DpAll K H ws (zs.map PyData.str) → ws = zs.map V.str
  | _, [], .nil => rfl
  | _, n :: ns, .cons h1 h2 => by rw [dp_str h1, dpAll_strs h2]; rfl
theorem dpAll_ofStrs (K : PySem.W.Frag) (H : Hp) : ∀ zs : List Str, DpAll K H (zs.map V.str) (zs.map PyData.str)
  | [] => .nil
  | n :: ns => .cons (.str n) (dpAll_ofStrs K H ns)
end
/-! ### range with a step -/
section
variable {X : Cx} {σ : St} {H : Hp} {tg a b c : Expr} {ta : TA}
def uRng3 (vs : List V) (H : Hp) (R : It → Hp → Prop) : Prop := ∃ (i j c : Int) (n : Nat), vs = [.int i, .int j, .int c] ∧ RgC i j c n ∧ R (Itc i c n) H
def iRngU (ta : TA) : TI := fun σ H R => ta σ H fun vs H1 => uRng3 vs H1 R
theorem pi_rangeU {p pos : Pos} (hg : Gl X "range") (hm : X.mg "range" = none) (ha : PA X [a, b, c] ta)
    (hs : starEach [a, b, c] X.env = (false, eval a X.env) :: starEach [b, c] X.env := by rfl) (hpl : (backTo pos (starEach [b, c] X.env)).any (·.1) = false := by rfl) :
    PI X tg (.Call (.Name "range" p) [a, b, c] [] pos) (iRngU ta) := pi_range3 hg hm ha hs hpl
theorem r_irngU {R : It → Hp → Prop} (q : ta σ H fun vs H1 => uRng3 vs H1 R) : iRngU ta σ H R := q
theorem r_rngdown {i j : Int} {R : It → Hp → Prop} (h : -1000000 ≤ i ∧ i ≤ 1000000 ∧ -1000000 ≤ j ∧ j ≤ 1000000) (q : R (Itc i (-1) (i - j).toNat) H) : uRng3 [.int i, .int j, .int (-1)] H R :=
  ⟨i, j, -1, _, rfl, RgC.neg (by omega) (by omega) (by omega) (by omega), q⟩
end
/-! ### shifts -/
def uShl : R2 := fun x y H Q => ∃ (i : Int) (k : Nat), x = .int i ∧ y = .int (k : Int) ∧ CShl i (k : Int) ∧ Q (.int (i * 2 ^ k)) H
def uShr : R2 := fun x y H Q => ∃ (i : Int) (k : Nat), x = .int i ∧ y = .int (k : Int) ∧ Q (.int (i / 2 ^ k)) H
theorem o_shl {X : Cx} : OpR X (binaryOp .LShift) uShl := op_shlN
theorem o_shr {X : Cx} : OpR X (binaryOp .RShift) uShr := op_shrN
theorem r_shl {i : Int} {k : Nat} {H : Hp} {Q : VK} (h : i.natAbs < 2 ^ 64 ∧ k ≤ 1000) (q : Q (.int (i * 2 ^ k)) H) : uShl (.int i) (.int (k : Int)) H Q := ⟨i, k, rfl, rfl, shl_ok h.1 (by omega), q⟩
theorem r_shl1 {k : Nat} {H : Hp} {Q : VK} (h : k ≤ 1000) (q : Q (.int (2 ^ k)) H) : uShl (.int 1) (.int (k : Int)) H Q := r_shl ⟨by decide, h⟩ (by rw [Int.one_mul]; exact q)
theorem r_shl2 {k : Nat} {H : Hp} {Q : VK} (h : k ≤ 1000) (q : Q (.int (2 ^ (k + 1))) H) : uShl (.int 2) (.int (k : Int)) H Q := r_shl ⟨by decide, h⟩ (by
  have e : (2 : Int) * 2 ^ k = 2 ^ (k + 1) := by rw [Int.pow_succ]; omega
  rw [e]; exact q)
theorem r_shr {i : Int} {k : Nat} {H : Hp} {Q : VK} (q : Q (.int (i / 2 ^ k)) H) : uShr (.int i) (.int (k : Int)) H Q := ⟨i, k, rfl, rfl, q⟩
/-! ### numbers -/
theorem two_pos (n : Nat) : (0 : Int) < 2 ^ n := Int.pow_pos (by decide)
theorem two_succ (n : Nat) : (2 : Int) ^ (n + 1) = 2 * 2 ^ n := by rw [Int.pow_succ]; omega
theorem div_is {x w i : Int} (hw : 0 < w) (h1 : i * w ≤ x) (h2 : x < i * w + w) : x / w = i := by
  have a : i ≤ x / w := (Int.le_ediv_iff_mul_le hw).mpr h1
  have b : x / w < i + 1 := (Int.ediv_lt_iff_lt_mul hw).mpr (by rw [Int.add_mul, Int.one_mul]; exact h2)
  omega
end Fp
/-! defs that show data (repr): they are called where no object is being shown (guards = some []); call, body and end of a law once more with that premise -/
namespace Fp
open PySem PySem.Spec PyProof.Rows L2
/-- a promise that holds where nothing is being shown -/
structure OkG (P : Program) (w : World) (K : PySem.W.Frag) (mg : Str → Option Value) (base : Heap) (CX : CXT) (k : Nat) (f : Addr) (fd : FuncData) (ps : List Str) (sp : Sp) : Prop where
  len : ∀ vs H Q E, sp vs H Q E → vs.length = ps.length
  run : ∀ (A : Around) (outer : List Env) (s : Shared) (H : Hp) (args : Args) (us : List Value) (vs : List V) (Q : VK) (E : XK), A.guards = some [] → Room k A →
    Env0 P w K mg base A outer s H → BindsTo s fd args (ps.zip us) → Vals vs us → sp vs H Q E → codeAny (model P w) A (.call (.ref f) args) (CR CX outer P w H s Q E) s
structure FnG (P : Program) (w : World) (K : PySem.W.Frag) (mg : Str → Option Value) (base : Heap) (k : Nat) (x : Str) (ps : List Str) (sp : Sp) : Prop where
  ex : ∃ f fd, mg x = some (.ref f) ∧ PySem.W.keepIn K (.ref f) = true ∧ Binds K fd ps [] ∧ OkG P w K mg base (L2.CX P w) k f fd ps sp
section
variable {P : Program} {w : World} {K : PySem.W.Frag} {mg : Str → Option Value} {base : Heap}
theorem OkG.mono {CX : CXT} {j k : Nat} {f : Addr} {fd : FuncData} {ps : List Str} {sp : Sp} (F : OkG P w K mg base CX j f fd ps sp) (h : j ≤ k) : OkG P w K mg base CX k f fd ps sp :=
  ⟨F.len, fun A outer s H args us vs Q E hg hr => F.run A outer s H args us vs Q E hg (hr.mono h)⟩
theorem OkG.up {k : Nat} {f : Addr} {fd : FuncData} {ps : List Str} {sp : Sp} (F : OkG P w K mg base CX0 k f fd ps sp) : OkG P w K mg base (L2.CX P w) k f fd ps sp :=
  ⟨F.len, fun A outer s H args us vs Q E hg hr he hb hv hs => codeAny_mono (F.run A outer s H args us vs Q E hg hr he hb hv hs) fun r s' hq => by
    cases r with
    | error e => exact False.elim hq
    | ok fl => cases fl <;> exact hq⟩
/-- the rule for a def by its body, the guards known -/
theorem ok_bodyG {CX : CXT} {x qual : Str} {st : Stmt} {f : Addr} {fd : FuncData} {N ps : List Str} {k : Nat} {sp : Sp} (F : Fun K x qual st f fd) (S : FnScope N ps (defScope st)) (len : ∀ vs H Q E, sp vs H Q E → vs.length = ps.length)
    (body : ∀ (cdv : Value) (A : Around) (outer : List Env) (s : Shared) (H : Hp) (vs : List V) (Q : VK) (E : XK), A.guards = some [] → Room k (A.deeper (envOfC qual (defScope st) s.heap.objs.size f cdv)) → sp vs H Q E →
      ∃ t, PSs (cxOf CX P w K mg base N qual (defScope st) f cdv A outer s H E) (defBody st) t ∧ t { nx := fun _ H' => Q .non H', rt := Q } (start N vs) H) : OkG P w K mg base CX (k + 1) f fd ps sp := by
  obtain ⟨oc, od, kV, doc, pm, an, cdv, ct, osl, rfl, lk, hcd⟩ := F.ex
  refine ⟨len, fun A outer s H args us vs Q E hg hr e0 hb rv hsp => ?_⟩
  have KX : K.In s.heap := e0.mod.kin.keeps fun b o e => (e0.bs b o e).1
  have lim : s.heap.NoLimit := e0.mod.nolimit.keeps fun b o e => (e0.bs b o e).1
  have kinds : ∀ y ∈ ps.zip us, (defScope st).names.lookup y.1 = some .local ∨ ((defScope st).names.lookup y.1 = some .cell ∧ ((cellsFrom (s.heap.objs.size + 1) (defScope st).names []).lookup y.1).isSome = true) := by
    rintro ⟨n, v⟩ hy
    exact (S.par n (List.of_mem_zip hy).1).elim .inl fun q => .inr ⟨q, PySem.W.cellsFrom_some _ _ _ (.inl q)⟩
  refine codeAny_call_function hr.depth (KX _ _ lk) rfl S.co S.gen rfl (PySem.W.codeRec_of KX hcd) (hb _ _ _ _ (wpAny_newFunctionEnv_cells S.kind kinds ?_))
  intro env he s1 x1
  subst he
  refine ⟨lim.keeps x1.toInCall.keep, codeAny_func ?_⟩
  obtain ⟨t, ht, hq⟩ := body cdv A outer s H vs Q E hg (hr.deeper _) hsp
  have I0 := inv_start (CX := CX) (P := P) (w := w) (K := K) (mg := mg) (base := base) (qual := qual) (f := f) (cd := cdv) (E := E) S hr.hd e0 (len _ _ _ _ hsp) rv x1
  refine wpAny_mono (ht.run [] s1 (start N vs) H _ I0 hq) (fun fl s' hs => ?_) fun e s' hs => hs
  cases fl with
  | next => obtain ⟨σ', H', J, q⟩ := hs; exact ⟨V.non, H', J.os, J.bare, J.base, J.hok, rfl, q⟩
  | ret u => obtain ⟨v, σ', H', J, r', q⟩ := hs; exact ⟨v, H', J.os, J.bare, J.base, J.hok, r', q⟩
  | brk => obtain ⟨_, _, _, q⟩ := hs; exact q.elim
  | cont => obtain ⟨_, _, _, q⟩ := hs; exact q.elim
theorem Fun.okG {x qual : Str} {st : Stmt} {f : Addr} {fd : FuncData} {N ps : List Str} {k : Nat} {sp : Sp} (F : Fun K x qual st f fd) (S : FnScope N ps (defScope st)) (len : ∀ vs H Q E, sp vs H Q E → vs.length = ps.length)
    (body : ∀ (cdv : Value) (A : Around) (outer : List Env) (s : Shared) (H : Hp) (vs : List V) (Q : VK) (E : XK), A.guards = some [] → Room k (A.deeper (envOfC qual (defScope st) s.heap.objs.size f cdv)) → sp vs H Q E →
      ∃ t, PSs (cxOf CX0 P w K mg base N qual (defScope st) f cdv A outer s H E).nox (defBody st) t ∧ t { nx := fun _ H' => Q .non H', rt := Q } (start N vs) H) : OkG P w K mg base (L2.CX P w) (k + 1) f fd ps sp :=
  (ok_bodyG F S len fun cdv A outer s H vs Q E hg hr h => let ⟨t, h1, h2⟩ := body cdv A outer s H vs Q E hg hr h; ⟨t, h1.nox, h2⟩).up
theorem Def.okG {x : Str} {st : Stmt} {N ps : List Str} {k : Nat} {sp : Sp} (D : Def K mg x st ps) (S : FnScope N ps (defScope st)) (len : ∀ vs H Q E, sp vs H Q E → vs.length = ps.length)
    (body : ∀ (f : Addr) (cdv : Value) (A : Around) (outer : List Env) (s : Shared) (H : Hp) (vs : List V) (Q : VK) (E : XK), A.guards = some [] → Room k (A.deeper (envOfC x (defScope st) s.heap.objs.size f cdv)) → sp vs H Q E →
      ∃ t, PSs (cxOf CX0 P w K mg base N x (defScope st) f cdv A outer s H E).nox (defBody st) t ∧ t { nx := fun _ H' => Q .non H', rt := Q } (start N vs) H) : FnG P w K mg base (k + 1) x ps sp := by
  obtain ⟨f, fd, F, hm, hb⟩ := D.ex
  exact ⟨f, fd, hm, F.kp, hb, Fun.okG F S len (body f)⟩
theorem Fun.okGX {x qual : Str} {st : Stmt} {f : Addr} {fd : FuncData} {N ps : List Str} {k : Nat} {sp : Sp} (F : Fun K x qual st f fd) (S : FnScope N ps (defScope st)) (len : ∀ vs H Q E, sp vs H Q E → vs.length = ps.length)
    (body : ∀ (cdv : Value) (A : Around) (outer : List Env) (s : Shared) (H : Hp) (vs : List V) (Q : VK) (E : XK), A.guards = some [] → Room k (A.deeper (envOfC qual (defScope st) s.heap.objs.size f cdv)) → sp vs H Q E →
      ∃ t, PSs (cxOf (L2.CX P w) P w K mg base N qual (defScope st) f cdv A outer s H E) (defBody st) t ∧ t { nx := fun _ H' => Q .non H', rt := Q } (start N vs) H) : OkG P w K mg base (L2.CX P w) (k + 1) f fd ps sp := ok_bodyG F S len body
theorem Def.okGX {x : Str} {st : Stmt} {N ps : List Str} {k : Nat} {sp : Sp} (D : Def K mg x st ps) (S : FnScope N ps (defScope st)) (len : ∀ vs H Q E, sp vs H Q E → vs.length = ps.length)
    (body : ∀ (f : Addr) (cdv : Value) (A : Around) (outer : List Env) (s : Shared) (H : Hp) (vs : List V) (Q : VK) (E : XK), A.guards = some [] → Room k (A.deeper (envOfC x (defScope st) s.heap.objs.size f cdv)) → sp vs H Q E →
      ∃ t, PSs (cxOf (L2.CX P w) P w K mg base N x (defScope st) f cdv A outer s H E) (defBody st) t ∧ t { nx := fun _ H' => Q .non H', rt := Q } (start N vs) H) : FnG P w K mg base (k + 1) x ps sp := by
  obtain ⟨f, fd, F, hm, hb⟩ := D.ex
  exact ⟨f, fd, hm, F.kp, hb, Fun.okGX F S len (body f)⟩
end
section
variable {X : Cx} {k j : Nat} {ps : List Str} {sp : Sp} {E : XK} {x : Str} {p pos : Pos} {e : Expr} {es : List Expr} {t : TA}
/-- a call of such a def -/
theorem pe_fnG (F : FnG X.prog X.w X.K X.mg X.base k x ps sp) (gs : X.A.guards = some []) (hr : Room j X.A) (ha : PA X (e :: es) t) (hk : k ≤ j := by decide) (hg : Gl X x := by rfl)
    (hdb : (x == ("__debug__" : Str)) = false := by decide) (he : starEach (e :: es) X.env = (false, eval e X.env) :: starEach es X.env := by rfl) (hpl : (backTo pos (starEach es X.env)).any (·.1) = false := by rfl) :
    PE X (.Call (.Name x p) (e :: es) [] pos) (tFn sp E0 t) := by
  obtain ⟨f, fd, hm, hkp, hb, G⟩ := F.ex
  refine ⟨fun pins s σ H Q I h => wpAny_Call_Name_kw (ld_glob I hg hm ?_ hdb)⟩
  refine PySem.W.callWith_K (h₀ := X.base) I.ok.mod.kin hkp (thn (ha.run pos pins s σ H _ I h) ?_) he hpl
  rintro us s1 ⟨vs, H1, I1, rv, q⟩
  refine ⟨I1.kIn, ?_⟩
  have lens : us.length = ps.length := rv.length.symm.trans (G.len _ _ _ _ q)
  have bnd := hb s1 us I1.kIn (by simpa using lens)
  rw [List.append_nil] at bnd
  refine wpAny_call (codeAny_mono ((G.mono hk).run X.A X.stack s1 H1 ⟨us, []⟩ us vs Q E0 gs hr I1.env0 bnd rv q) ?_)
  intro r s2 hq
  cases r with
  | error e => exact passL pins σ H1 s1 e s2 I1 hq
  | ok fl =>
    cases fl with
    | ret u => exact I1.after hq
    | next => exact hq.elim
    | brk => exact hq.elim
    | cont => exact hq.elim
/-- repr(..) of data -/
structure Show (d : PyData) : Prop where
  s : d.showable = true
  n : d.hasDict = false
  l : d.shown.length ≤ sizeLine
  d : d.depth ≤ 32
def uRepr (K : PySem.W.Frag) : List V → Hp → VK → Prop := fun xs H Q => ∃ x d, xs = [x] ∧ Dp K H x d ∧ (d = .none ∨ ∃ ds, d = .tuple ds ∨ d = .list ds) ∧ Show d ∧ Q (.str d.shown) H
theorem call_reprD (gs : X.A.guards = some []) (hu : X.A.units + 64 < cLine) : CallR X (.builtin "repr") (uRepr X.K) := by
  intro pins s σ H vs us Q I rv h
  obtain ⟨x, d, rfl, hd, hds, sh, q⟩ := h
  cases rv with
  | cons r1 r2 =>
    cases r2
    rcases hds with rfl | hds
    · cases dp_non hd
      cases r1
      refine PySem.P.repr_of_none ?_
      have e : (PyData.none).shown = "None" := by simp [PyData.shown]
      rw [e] at q
      exact ⟨.str "None", H, I.kept (t' := s.toks + 1) (fun _ _ z => z), ⟨_, rfl⟩, q⟩
    obtain ⟨as, rd⟩ := Dp.reads I d x _ hd r1
    obtain ⟨ds, hds⟩ := hds
    obtain ⟨a, ea⟩ : ∃ a, x = .ref a := by
      rcases hds with rfl | rfl
      · obtain ⟨a, _, e, _⟩ := dp_tup hd; exact ⟨a, e⟩
      · obtain ⟨a, _, e, _⟩ := dp_lst hd; exact ⟨a, e⟩
    subst ea
    cases r1
    have nd : d.hasDict = true → sysModules ∉ as := fun z => by rw [sh.n] at z; cases z
    have dd := sh.d
    refine repr_of_reads' rd sh.s nd gs (by omega) (fun _ _ e => e) (fun h' u tk hk => ?_) sh.l
    exact ⟨.str d.shown, H, I.kept (t' := tk) hk, ⟨u, rfl⟩, q⟩
end
theorem r_repr {K : PySem.W.Frag} {H : Hp} {Q : VK} {x : V} {d : PyData} (hd : Dp K H x d) (hds : d = .none ∨ ∃ ds, d = .tuple ds ∨ d = .list ds) (sh : Show d) (q : Q (.str d.shown) H) : uRepr K [x] H Q := ⟨x, d, rfl, hd, hds, sh, q⟩
/-! ### the end of a law whose def is such a one -/
theorem law_callG {P : Program} {w : World} {K : PySem.W.Frag} {mg mb : Str → Option Value} {k : Nat} {fa a : Addr} {fd : FuncData} {x : Str} {sp : Sp} {s₁ : Shared} {vs : List Value} {ns : List Int}
    (KX : K.In s₁.heap) (hns : s₁.heap.Ns mainGlobals mg) (hb : s₁.heap.Ns builtinsNs mb) (hbb : ∀ x : Str, x ≠ "__name__" → mb x = bootBuiltins x) (hlim : s₁.heap.NoLimit) (hg : s₁.gens = #[])
    (ha : s₁.heap.get? a = some { cls := .type "list", data := .seq vs.toArray }) (hi : IntsAre vs ns) (hl : ns.length ≤ sizeLine) (hr : Room k callerA)
    (F : ∀ base : Heap, K.In base → base.Ns mainGlobals mg → OkG P w K mg base (L2.CX P w) k fa fd [x] sp) (hbind : ∀ (s : Shared) (u : Value), BindsTo s fd ⟨[u], []⟩ [(x, u)])
    (hsp : ∀ H : Hp, Only H → SqL K H a (ns.map V.int) → sp [.ref a] H (fun v _ => v = .bl true) fun _ _ _ => False) :
    codeAny (model P w) callerA (.call (.ref fa) ⟨[.ref a], []⟩) (fun r s' => r = .ok (.ret (.bool true)) ∧ OldK s₁.heap s'.heap ∧ s'.os = s₁.os ∧ AllBare s'.gens) s₁ := by
  have rv := vals_ints hi
  have inner : ∀ H : Hp, Only H → SqL K H a (ns.map V.int) → HOk P w H s₁.heap → (∀ b, H b ≠ none → b = a) → (H a ≠ none → K.lookup a = none) →
      codeAny (model P w) callerA (.call (.ref fa) ⟨[.ref a], []⟩) (fun r s' => r = .ok (.ret (.bool true)) ∧ OldK s₁.heap s'.heap ∧ s'.os = s₁.os ∧ AllBare s'.gens) s₁ := by
    intro H hO hS hok hA hK
    have free : ∀ {b : Addr}, b ≠ a → H b = none := fun {b} n => Classical.byContradiction fun z => n (hA b z)
    have kept : ∀ {b : Addr} {o : Obj}, s₁.heap.get? b = some o → H b = none → (hidT s₁.heap H).get? b = some o := fun e n => hidT_get e n
    have nots : ∀ {b : Addr} {o : Obj} {es : Array DictEntry} {ep : Nat}, s₁.heap.get? b = some o → o.data = .dict es ep → H b = none := by
      intro b o es ep e d
      refine free fun z => ?_
      subst z
      rw [ha] at e
      cases e
      cases d
    have names : ∀ {b : Addr} {m : Str → Option Value}, s₁.heap.Ns b m → (hidT s₁.heap H).Ns b m := by
      rintro b m ⟨o, es, ep, e, d, r⟩
      exact ⟨o, es, ep, kept e (nots e d), d, r⟩
    have hKb : K.In (hidT s₁.heap H) := by
      intro b o e
      refine kept (KX b o e) (Classical.byContradiction fun q => ?_)
      have z := hA b q
      subst z
      rw [hK q] at e
      cases e
    obtain ⟨mc, l1, l2⟩ := hlim
    have e0 : Env0 P w K mg (hidT s₁.heap H) callerA [] s₁ H :=
      ⟨rfl, ⟨hKb, names hns, ⟨mb, names hb, hbb⟩, ⟨mc, names l1, l2⟩⟩, fun b o e => of_hidT e, Nat.le_of_eq (hidT_size _ _), trivial, fun b hb => absurd (show b ∈ ([] : List Addr) from hb) (by simp), hok, .of_eq hg⟩
    refine codeAny_mono ((F _ hKb (names hns)).run callerA [] s₁ H ⟨[.ref a], []⟩ [.ref a] [.ref a] _ _ rfl hr e0 (hbind s₁ (.ref a)) (.cons rfl .nil) (hsp H hO hS)) ?_
    intro r s' h
    cases r with
    | error e => obtain ⟨_, _, _, _, _, _, _, _, _, _, _, _, z⟩ := h; exact z.elim
    | ok fl =>
      cases fl with
      | next => exact h.elim
      | brk => exact h.elim
      | cont => exact h.elim
      | ret u =>
        obtain ⟨v, H', os, bare, un, hok', r', q⟩ := h
        have q' : v = .bl true := q
        subst q'
        have eu : u = Value.bool true := r'
        subst eu
        refine ⟨rfl, OldK.of_keep fun b o e => ?_, os, bare⟩
        by_cases q : H b = none
        · exact un.keep b o e q (by intro z; exact absurd (show b ∈ ([] : List Addr) from z) (by simp)) (by simp)
        · rcases hO b with z | ⟨ob, xs, z⟩
          · exact absurd z q
          · have e1 := (hok b _ z).1
            have e2 := (hok' b _ (un.frzs b ob _ z)).1
            rw [e] at e1
            cases e1
            exact e2
  cases hk : K.lookup a with
  | some o =>
    have e := KX a o hk
    rw [ha] at e
    cases e
    exact inner (fun _ => none) (fun _ => .inl rfl) (.inr ⟨_, vs.toArray, _, hk, rfl, rfl, rfl, by rw [List.size_toArray, hi.length]; exact hl, by simpa using rv⟩) (fun b u z => nomatch (show (none : Option HO) = some u from z)) (fun b z => absurd rfl z) (fun z => absurd rfl z)
  | none =>
    let ob : Obj := { cls := .type "list", data := .seq vs.toArray }
    let H0 : Hp := fun b => if b = a then some (.frz ob (.lst (ns.map V.int))) else none
    have h0 : H0 a = some (.frz ob (.lst (ns.map V.int))) := if_pos rfl
    have h1 : ∀ b, b ≠ a → H0 b = none := fun b hb => if_neg hb
    refine inner H0 (fun b => ?_) (.inl (.inr ⟨ob, h0⟩)) (fun b u z => ?_) (fun b z => Classical.byContradiction fun n => z (h1 b n)) fun _ => hk
    · by_cases hb : b = a
      · subst hb; exact .inr ⟨_, _, h0⟩
      · exact .inl (h1 b hb)
    · by_cases hb : b = a
      · subst hb
        rw [h0] at z
        cases z
        exact ⟨ha, by rw [List.length_map]; exact hl, vs, _, rv, ha⟩
      · rw [h1 b hb] at z
        cases z
theorem walk_ofG {l : PySem.W.OpenLaw} {n k : Nat} {q : Program} {loose : List Str} {XP : (Str → Option Value) → Heap → Prop} {YP : World → Heap → Prop} {d : DefRec} {K : Params → PySem.W.Frag} {sp : World → Sp} {x : Str}
    (hn : l.most = some n) (hn2 : n ≤ sizeLine) (hdf : d.params.defaults = []) (hr : Room k callerA) (hY : ∀ (w : World) (h : Heap), YP w h → (K w.params).In h)
    (F : ∀ (w : World) (mg : Str → Option Value) (fa : Addr) (h : Heap), (K w.params).In h → h.Ns mainGlobals mg → mg d.name = some (.ref fa) →
      ∃ fd : FuncData, (∀ (s : Shared) (u : Value), BindsTo s fd ⟨[u], []⟩ [(x, u)]) ∧ ∀ base : Heap, (K w.params).In base → base.Ns mainGlobals mg → OkG l.prog w (K w.params) mg base (L2.CX l.prog w) k fa fd [x] (sp w))
    (hsp : ∀ (w : World) (H : Hp) (a : Addr) (ns : List Int), ns.length ≤ n → (∀ z ∈ ns, Builtin.Int.intBits z ≤ 1048576) → Only H → SqL (K w.params) H a (ns.map V.int) → sp w [.ref a] H (fun v _ => v = .bl true) fun _ _ _ => False) :
    PySem.W.WalkO q loose XP YP l.row.toRowW d [] (fun f vs => PySem.call f vs) := by
  refine Att.attach_callB hn hdf ?_
  intro w s₀ s₁ mg mb fa o pm cd doc a vs ns G Y ho hd hcd hmg hobj hints hlen hbits hg
  obtain ⟨fd, hb, hF⟩ := F w mg fa _ (hY w _ Y) G.T.g hmg
  exact law_callG (hY w _ Y) G.T.g G.T.b G.T.builtins G.T.nolimit hg hobj hints (Nat.le_trans hlen hn2) hr hF hb fun H hO hS => hsp w H a ns hlen hbits hO hS
/-! ### how long what is shown may be -/
structure Shw (d : PyData) (b : Nat) : Prop where
  s : d.showable = true
  n : d.hasDict = false
  l : d.shown.length ≤ b
theorem Shw.mono {d : PyData} {b b' : Nat} (h : Shw d b) (hb : b ≤ b') : Shw d b' := ⟨h.s, h.n, Nat.le_trans h.l hb⟩
theorem Shw.none : Shw .none 4 := ⟨by simp [PyData.showable], by simp [PyData.hasDict], by rw [PyData.shown_none]; decide⟩
theorem Shw.int {i : Int} (h : i.natAbs < 2 ^ 1919) : Shw (.int i) 1921 := by
  have hl : i.natAbs.log2 < 1920 := Nat.lt_of_lt_of_le (PySem.Flt.log2_lt_of (by decide) h) (by decide)
  refine ⟨by simp [PyData.showable, hl], by simp [PyData.hasDict], ?_⟩
  rw [PyData.shown_int]
  exact PyProof.Rows.int_text_len_1921 hl
theorem piled_le {b : Nat} : ∀ ts : List Str, (∀ t ∈ ts, t.length ≤ b) → PySem.piled ts ≤ ts.length * (b + 2)
  | [], _ => by simp [PySem.piled]
  | t :: ts, h => by
    have h1 := h t (List.mem_cons_self ..)
    have h2 := piled_le ts fun x hx => h x (List.mem_cons_of_mem _ hx)
    have e : PySem.piled (t :: ts) = (t.length + 2) + PySem.piled ts := by simp [PySem.piled]
    rw [e, List.length_cons, Nat.succ_mul]
    omega
theorem shownAll_map : ∀ xs : List PyData, PyData.shownAll xs = xs.map PyData.shown
  | [] => by simp [PyData.shownAll]
  | x :: xs => by simp only [PyData.shownAll, List.map_cons, shownAll_map xs]
theorem showableAll_of : ∀ {xs : List PyData}, (∀ x ∈ xs, x.showable = true) → PyData.showableAll xs = true
  | [], _ => by simp [PyData.showableAll]
  | x :: xs, h => by
    rw [PyData.showableAll, h x (List.mem_cons_self ..), showableAll_of fun y hy => h y (List.mem_cons_of_mem _ hy)]
    rfl
theorem hasDictAll_of : ∀ {xs : List PyData}, (∀ x ∈ xs, x.hasDict = false) → PyData.hasDictAll xs = false
  | [], _ => by simp [PyData.hasDictAll]
  | x :: xs, h => by
    rw [PyData.hasDictAll, h x (List.mem_cons_self ..), hasDictAll_of fun y hy => h y (List.mem_cons_of_mem _ hy)]
    rfl
theorem Shw.tup {xs : List PyData} {b : Nat} (h : ∀ x ∈ xs, Shw x b) : Shw (.tuple xs) (xs.length * (b + 2) + 3) := by
  refine ⟨?_, ?_, ?_⟩
  · rw [PyData.showable]
    exact showableAll_of fun x hx => (h x hx).s
  · rw [PyData.hasDict]
    exact hasDictAll_of fun x hx => (h x hx).n
  · rw [PyData.shown_tuple, shownAll_map]
    have hp := piled_le (b := b) (xs.map PyData.shown) fun t ht => by
      obtain ⟨x, hx, rfl⟩ := List.mem_map.mp ht
      exact (h x hx).l
    rw [List.length_map] at hp
    have hj : (Str.join ", " (xs.map PyData.shown)).length ≤ PySem.piled (xs.map PyData.shown) := by
      cases xs with
      | nil => exact Nat.zero_le _
      | cons x r =>
        have := PySem.join_length_add ((x :: r).map PyData.shown) (by simp)
        omega
    have ha : ∀ a b : Str, (a ++ b).length = a.length + b.length := fun a b => Str.length_append a b
    rw [ha, ha]
    have h1 : (("(" : Str)).length = 1 := by decide
    have h2 : ((if xs.length == 1 then ",)" else ")" : String) : Str).length ≤ 2 := by split <;> decide
    omega
theorem Shw.show {d : PyData} {b : Nat} (h : Shw d b) (hb : b ≤ 16777216) (hd : d.depth ≤ 32) : Show d := ⟨h.s, h.n, by rw [sizeLine_eq]; exact Nat.le_trans h.l hb, hd⟩
end Fp
/-! pairs of numbers, curves: plain lists; dicts by number -/
namespace Fp
open PySem PySem.Spec PyProof.Rows L2
abbrev Prs := List (Int × Int)
def pairP (p : Int × Int) : PyData := .tuple [.int p.1, .int p.2]
def prsD (l : Prs) : PyData := .tuple (l.map pairP)
theorem imm_pair (p : Int × Int) : imm (pairP p) = true := by simp [pairP, imm, immAll]
theorem imm_all (l : Prs) : immAll (l.map pairP) = true := immAll_map _ imm_pair l
theorem imm_prs (l : Prs) : imm (prsD l) = true := by
  unfold prsD
  simp only [imm]
  exact imm_all l
theorem shp_pair (p : Int × Int) : Shp 1 (pairP p) := Shp.t2 (.int _) (.int _)
theorem shp_prs (l : Prs) : Shp 2 (prsD l) := Shp.tupleM (n := 1) shp_pair
theorem shaped_prs (l : Prs) : SeqAt.shaped (prsD l) = true := (shp_prs l).ok
theorem dp_pair {K : PySem.W.Frag} {H : Hp} {v : V} {p : Int × Int} (h : Dp K H v (pairP p)) : ∃ a, v = .ref a ∧ SqT K H a [.int p.1, .int p.2] := dp_ints (ns := [p.1, p.2]) h
theorem dp_of_pair {K : PySem.W.Frag} {H : Hp} {a : Addr} {i j : Int} (h : SqT K H a [.int i, .int j]) : Dp K H (.ref a) (pairP (i, j)) := .tup h (dpAll_ints K H [i, j])
theorem eqv_pair (p q : Int × Int) : PyData.eqv (pairP p) (pairP q) = decide (p = q) := by
  simp only [pairP, PyData.eqv, PyData.eqvAll, Bool.and_true]
  rw [Bool.eq_iff_iff]
  simp [Prod.ext_iff]
theorem eqvAll_prs : ∀ l m : Prs, PyData.eqvAll (l.map pairP) (m.map pairP) = decide (l = m)
  | [], [] => by simp [PyData.eqvAll]
  | [], q :: m => by simp [PyData.eqvAll]
  | p :: l, [] => by simp [PyData.eqvAll]
  | p :: l, q :: m => by
    simp only [List.map_cons, PyData.eqvAll]
    rw [eqv_pair, eqvAll_prs l m, Bool.eq_iff_iff]
    simp
theorem eqv_prs (l m : Prs) : PyData.eqv (prsD l) (prsD m) = decide (l = m) := by
  unfold prsD
  rw [PyData.eqv]
  exact eqvAll_prs l m
/-! ### tables by number -/
def putP (l : Prs) (t h : Int) : Prs := if (l.any fun p => decide (p.1 = t)) = true then l.map (fun p => if p.1 = t then (p.1, h) else p) else l ++ [(t, h)]
def valP (l : Prs) (t : Int) : Option Int := (l.find? fun p => decide (p.1 = t)).map (·.2)
def mergeP (l more : Prs) : Prs := more.foldl (fun acc p => putP acc p.1 p.2) l
def inj (p : Int × Int) : Key × V := (Sum.inl p.1, .int p.2)
theorem any_inj (t : Int) : ∀ l : Prs, ((l.map inj).any fun kv => decide (kv.1 = Sum.inl t)) = l.any fun p => decide (p.1 = t)
  | [] => rfl
  | p :: l => by
    simp only [List.map_cons, List.any_cons, any_inj t l]
    congr 1
    rw [Bool.eq_iff_iff]
    simp [inj]
theorem put_inj (l : Prs) (t h : Int) : putK (l.map inj) (Sum.inl t) (.int h) = (putP l t h).map inj := by
  unfold putK putP
  rw [any_inj]
  split
  · rw [List.map_map, List.map_map]
    refine List.map_congr_left fun p _ => ?_
    show (if (inj p).1 = Sum.inl t then ((inj p).1, V.int h) else inj p) = inj (if p.1 = t then (p.1, h) else p)
    by_cases e : p.1 = t
    · rw [if_pos e, if_pos (by rw [← e]; rfl)]; rfl
    · rw [if_neg e, if_neg (by simpa [inj] using e)]
  · rw [List.map_append]; rfl
theorem merge_inj : ∀ (more l : Prs), mergeK (l.map inj) (more.map inj) = (mergeP l more).map inj
  | [], l => rfl
  | p :: r, l => by
    show mergeK (putK (l.map inj) (inj p).1 (inj p).2) (r.map inj) = (mergeP (putP l p.1 p.2) r).map inj
    rw [show putK (l.map inj) (inj p).1 (inj p).2 = (putP l p.1 p.2).map inj from put_inj l p.1 p.2]
    exact merge_inj r _
theorem val_inj (t : Int) : ∀ l : Prs, valV (l.map inj) (Sum.inl t) = (valP l t).map V.int
  | [] => rfl
  | p :: l => by
    by_cases e : p.1 = t
    · rw [List.map_cons, valV_pos (by rw [← e]; rfl)]
      simp [valP, List.find?_cons, e, inj]
    · rw [List.map_cons, valV_neg (by simpa [inj] using e), val_inj t l]
      simp [valP, List.find?_cons, e]
theorem valP_pos {p : Int × Int} {r : Prs} {k : Int} (e : p.1 = k) : valP (p :: r) k = some p.2 := by simp [valP, List.find?_cons, e]
theorem valP_neg {p : Int × Int} {r : Prs} {k : Int} (e : ¬ p.1 = k) : valP (p :: r) k = valP r k := by simp [valP, List.find?_cons, e]
theorem valP_iff {t h : Int} : ∀ {l : Prs}, (l.map (·.1)).Nodup → (valP l t = some h ↔ (t, h) ∈ l)
  | [], _ => by simp [valP]
  | p :: l, nd => by
    have nd2 := List.nodup_cons.mp nd
    by_cases e : p.1 = t
    · rw [valP_pos e]
      constructor
      · intro z
        have z := Option.some.inj z
        rw [List.mem_cons]
        left
        rw [← e, ← z]
      · intro z
        rcases List.mem_cons.mp z with z | z
        · rw [← z]
        · exact absurd (show p.1 ∈ l.map (·.1) by rw [e]; exact List.mem_map_of_mem (f := (·.1)) z) nd2.1
    · rw [valP_neg e, valP_iff nd2.2]
      constructor
      · exact fun z => List.mem_cons_of_mem _ z
      · intro z
        rcases List.mem_cons.mp z with z | z
        · exact absurd (by rw [← z]) e
        · exact z
theorem any_iff {l : Prs} {t : Int} : (l.any fun p => decide (p.1 = t)) = true ↔ t ∈ l.map (·.1) := by
  simp only [List.any_eq_true, decide_eq_true_eq, List.mem_map]
theorem keys_put (l : Prs) (t h : Int) : (putP l t h).map (·.1) = if t ∈ l.map (·.1) then l.map (·.1) else l.map (·.1) ++ [t] := by
  unfold putP
  by_cases e : t ∈ l.map (·.1)
  · rw [if_pos e, if_pos (any_iff.mpr e), List.map_map]
    refine List.map_congr_left fun p _ => ?_
    show (if p.1 = t then (p.1, h) else p).1 = p.1
    split <;> rfl
  · rw [if_neg e, if_neg (fun z => e (any_iff.mp z)), List.map_append]; rfl
theorem nd_put {l : Prs} (t h : Int) (nd : (l.map (·.1)).Nodup) : ((putP l t h).map (·.1)).Nodup := by
  rw [keys_put]
  split
  · exact nd
  · rename_i e
    rw [List.nodup_append]
    exact ⟨nd, by simp, fun a ha b hb => by simp at hb; subst hb; exact fun z => e (z ▸ ha)⟩
theorem nd_merge : ∀ (more l : Prs), (l.map (·.1)).Nodup → ((mergeP l more).map (·.1)).Nodup
  | [], l, nd => nd
  | p :: r, l, nd => nd_merge r _ (nd_put p.1 p.2 nd)
theorem mem_put {l : Prs} {t h : Int} {p : Int × Int} : p ∈ putP l t h ↔ (p = (t, h)) ∨ (p ∈ l ∧ p.1 ≠ t) := by
  unfold putP
  split
  · rename_i e
    obtain ⟨q, hq, e⟩ := List.any_eq_true.mp e
    have e : q.1 = t := of_decide_eq_true e
    rw [List.mem_map]
    constructor
    · rintro ⟨x, hx, rfl⟩
      by_cases z : x.1 = t
      · rw [if_pos z, z]; exact .inl rfl
      · rw [if_neg z]; exact .inr ⟨hx, z⟩
    · rintro (rfl | ⟨h1, h2⟩)
      · exact ⟨q, hq, by rw [if_pos e, e]⟩
      · exact ⟨p, h1, if_neg h2⟩
  · rename_i e
    rw [List.mem_append, List.mem_singleton]
    constructor
    · rintro (h1 | h1)
      · exact .inr ⟨h1, fun z => e (any_iff.mpr (z ▸ List.mem_map_of_mem h1))⟩
      · exact .inl h1
    · rintro (h1 | ⟨h1, _⟩)
      · exact .inr h1
      · exact .inl h1
/-- p is the last one of its time -/
def Last (l : Prs) (p : Int × Int) : Prop := p ∈ mergeP [] l
theorem merge_snoc (l : Prs) (q : Int × Int) : mergeP [] (l ++ [q]) = putP (mergeP [] l) q.1 q.2 := by
  unfold mergeP
  rw [List.foldl_append]
  rfl
theorem last_snoc {l : Prs} {q p : Int × Int} : Last (l ++ [q]) p ↔ p = q ∨ (Last l p ∧ p.1 ≠ q.1) := by
  unfold Last
  rw [merge_snoc, mem_put]
theorem mem_merge {p : Int × Int} : ∀ (more l : Prs), p ∈ mergeP l more → p ∈ l ∨ p ∈ more
  | [], l, h => .inl h
  | q :: r, l, h => by
    rcases mem_merge r _ h with h | h
    · rcases mem_put.mp h with h | h
      · exact .inr (h ▸ List.mem_cons_self ..)
      · exact .inl h.1
    · exact .inr (List.mem_cons_of_mem _ h)
theorem Last.mem {l : Prs} {p : Int × Int} (h : Last l p) : p ∈ l := by
  rcases mem_merge l [] h with h | h
  · simp at h
  · exact h
theorem len_put (l : Prs) (t h : Int) : (putP l t h).length ≤ l.length + 1 := by
  unfold putP
  split <;> simp
theorem len_merge : ∀ (more l : Prs), (mergeP l more).length ≤ l.length + more.length
  | [], l => Nat.le_refl _
  | p :: r, l => by
    have h1 := len_merge r (putP l p.1 p.2)
    have h2 := len_put l p.1 p.2
    show (mergeP (putP l p.1 p.2) r).length ≤ _
    simp only [List.length_cons]
    omega
/-- c is the curve of the samples l -/
structure IsC (l c : Prs) : Prop where
  up : c.Pairwise fun p q => p.1 < q.1
  mem : ∀ p, p ∈ c ↔ Last l p
  len0 : c.length = (mergeP [] l).length
theorem IsC.len {l c : Prs} (h : IsC l c) : c.length ≤ l.length := by
  rw [h.len0]
  have := len_merge l []
  simpa using this
theorem up_ext : ∀ {l l' : Prs}, (l.Pairwise fun p q => p.1 < q.1) → (l'.Pairwise fun p q => p.1 < q.1) → (∀ p, p ∈ l ↔ p ∈ l') → l = l'
  | [], [], _, _, _ => rfl
  | [], q :: r, _, _, h => by have := (h q).mpr (List.mem_cons_self ..); simp at this
  | p :: r, [], _, _, h => by have := (h p).mp (List.mem_cons_self ..); simp at this
  | p :: r, q :: r', h1, h2, h => by
    obtain ⟨a1, a2⟩ := List.pairwise_cons.mp h1
    obtain ⟨b1, b2⟩ := List.pairwise_cons.mp h2
    have e : p = q := by
      rcases List.mem_cons.mp ((h p).mp (List.mem_cons_self ..)) with z | z
      · exact z
      · rcases List.mem_cons.mp ((h q).mpr (List.mem_cons_self ..)) with y | y
        · exact y.symm
        · have := a1 q y; have := b1 p z; omega
    subst e
    congr 1
    refine up_ext a2 b2 fun x => ⟨fun hx => ?_, fun hx => ?_⟩
    · rcases List.mem_cons.mp ((h x).mp (List.mem_cons_of_mem _ hx)) with z | z
      · subst z; have := a1 _ hx; omega
      · exact z
    · rcases List.mem_cons.mp ((h x).mpr (List.mem_cons_of_mem _ hx)) with z | z
      · subst z; have := b1 _ hx; omega
      · exact z
theorem IsC.uniq {l c c' : Prs} (h : IsC l c) (h' : IsC l c') : c = c' := up_ext h.up h'.up fun p => (h.mem p).trans (h'.mem p).symm
/-- what dict and sorted make -/
def outOf (m : Prs) (ys : List Int) : Prs := ys.map fun t => (t, (valP m t).getD 0)
theorem isC_out {l : Prs} {ys : List Int} (hp : ys.Perm ((mergeP [] l).map (·.1))) (hs : ys.Pairwise (· ≤ ·)) : IsC l (outOf (mergeP [] l) ys) := by
  have nd := nd_merge l [] (by simp)
  have ndy : ys.Nodup := hp.nodup_iff.mpr nd
  refine ⟨?_, fun p => ?_, ?_⟩
  · unfold outOf
    rw [List.pairwise_map]
    refine List.Pairwise.imp₂ (fun a b h1 h2 => ?_) hs ndy
    show a < b
    have : a ≠ b := h2
    omega
  · unfold outOf Last
    rw [List.mem_map]
    constructor
    · rintro ⟨t, ht, rfl⟩
      obtain ⟨q, hq, e⟩ := List.mem_map.mp (hp.mem_iff.mp ht)
      have e2 : valP (mergeP [] l) t = some q.2 := (valP_iff nd).mpr (by rw [← e]; exact hq)
      rw [e2]
      rw [← e]
      exact hq
    · intro h
      refine ⟨p.1, hp.mem_iff.mpr (List.mem_map_of_mem h), ?_⟩
      have e2 : valP (mergeP [] l) p.1 = some p.2 := (valP_iff nd).mpr h
      rw [e2]
      rfl
  · unfold outOf
    rw [List.length_map, hp.length_eq, List.length_map]
/-- samples each of its own time, rising: their own curve -/
theorem last_nodup : ∀ {l : Prs} {p : Int × Int}, (l.map (·.1)).Nodup → (Last l p ↔ p ∈ l) := by
  intro l
  suffices h : ∀ n, ∀ l : Prs, l.length = n → ∀ p, (l.map (·.1)).Nodup → (Last l p ↔ p ∈ l) from fun {p} nd => h _ l rfl p nd
  intro n
  induction n with
  | zero =>
    intro l hl p _
    have : l = [] := List.length_eq_zero_iff.mp hl
    subst this
    simp [Last, mergeP]
  | succ n ih =>
    intro l hl p nd
    have hne : l ≠ [] := by intro z; subst z; simp at hl
    rw [← List.dropLast_concat_getLast hne] at nd ⊢
    rw [List.map_append, List.nodup_append] at nd
    rw [last_snoc, ih _ (by simp [hl]) p nd.1, List.mem_append, List.mem_singleton]
    constructor
    · rintro (h | h)
      · exact .inr h
      · exact .inl h.1
    · rintro (h | h)
      · exact .inr ⟨h, nd.2.2 _ (List.mem_map_of_mem h) _ (by simp)⟩
      · exact .inl h
theorem up_nodup {c : Prs} (h : c.Pairwise fun p q => p.1 < q.1) : (c.map (·.1)).Nodup := by
  unfold List.Nodup
  rw [List.pairwise_map]
  exact h.imp fun h => by omega
theorem keys_in {t : Int} : ∀ (more l : Prs), t ∈ l.map (·.1) ∨ t ∈ more.map (·.1) → t ∈ (mergeP l more).map (·.1)
  | [], l, h => by
    rcases h with h | h
    · exact h
    · simp at h
  | p :: r, l, h => by
    refine keys_in r (putP l p.1 p.2) ?_
    rw [keys_put]
    rcases h with h | h
    · left
      split
      · exact h
      · exact List.mem_append_left _ h
    · rw [List.map_cons, List.mem_cons] at h
      rcases h with h | h
      · left
        subst h
        split
        · assumption
        · exact List.mem_append_right _ (by simp)
      · exact .inr h
theorem nodup_of_len : ∀ n, ∀ l : Prs, l.length = n → (mergeP [] l).length = l.length → (l.map (·.1)).Nodup := by
  intro n
  induction n with
  | zero =>
    intro l hl _
    have : l = [] := List.length_eq_zero_iff.mp hl
    subst this
    exact List.Pairwise.nil
  | succ n ih =>
    intro l hl h
    have hne : l ≠ [] := by intro z; subst z; simp at hl
    rw [← List.dropLast_concat_getLast hne] at h ⊢
    have hd : l.dropLast.length = n := by simp [hl]
    generalize l.dropLast = d at *
    generalize l.getLast hne = q at *
    rw [merge_snoc] at h
    have e := congrArg List.length (keys_put (mergeP [] d) q.1 q.2)
    simp only [List.length_map] at e
    have hb := len_merge d []
    rw [h] at e
    simp only [List.length_append, List.length_cons, List.length_nil] at e hb
    by_cases hq : q.1 ∈ (mergeP [] d).map (·.1)
    · rw [if_pos hq, List.length_map] at e
      omega
    · rw [if_neg hq, List.length_append, List.length_map] at e
      simp only [List.length_cons, List.length_nil] at e
      rw [List.map_append, List.nodup_append]
      refine ⟨ih d hd (by omega), by simp, fun a ha b hb2 => ?_⟩
      simp at hb2
      subst hb2
      intro z
      subst z
      exact hq (keys_in d [] (.inr ha))
theorem IsC.again {l l' c c' : Prs} (h : IsC l c) (nd : (l.map (·.1)).Nodup) (h' : IsC l' c') (nd' : (l'.map (·.1)).Nodup) (hm : ∀ p, p ∈ l' ↔ p ∈ l) : c' = c :=
  up_ext h'.up h.up fun p => by rw [h'.mem, h.mem, last_nodup nd, last_nodup nd', hm]
theorem IsC.self {c c' : Prs} (hc : c.Pairwise fun p q => p.1 < q.1) (h : IsC c c') : c' = c := up_ext h.up hc fun p => by rw [h.mem, last_nodup (up_nodup hc)]
def prsLD (l : Prs) : PyData := .list (l.map pairP)
theorem shp_prsL (l : Prs) : Shp 2 (prsLD l) := Shp.listM (n := 1) shp_pair
theorem shaped_prsL (l : Prs) : SeqAt.shaped (prsLD l) = true := (shp_prsL l).ok
theorem eqv_prsL (l m : Prs) : PyData.eqv (prsLD l) (prsLD m) = decide (l = m) := by
  unfold prsLD
  rw [PyData.eqv]
  exact eqvAll_prs l m
theorem merge_take {l : Prs} {i : Nat} {p : Int × Int} (h : l[i]? = some p) : mergeP [] (l.take (i + 1)) = putP (mergeP [] (l.take i)) p.1 p.2 := by
  rw [take_snoc h, merge_snoc]
theorem dpAll_rev {K : PySem.W.Frag} {H : Hp} : ∀ {ws : List V} {ds : List PyData}, DpAll K H ws ds → DpAll K H ws.reverse ds.reverse
  | _, _, .nil => .nil
  | _, _, .cons h1 h2 => by
    rw [List.reverse_cons, List.reverse_cons]
    exact dpAll_snoc (dpAll_rev h2) h1
theorem out_up {m : Prs} {ys : List Int} (nd : (m.map (·.1)).Nodup) (hp : ys.Perm (m.map (·.1))) (hs : ys.Pairwise (· ≤ ·)) : (outOf m ys).Pairwise fun p q => p.1 < q.1 := by
  unfold outOf
  rw [List.pairwise_map]
  refine List.Pairwise.imp₂ (fun a b h1 h2 => ?_) hs (hp.nodup_iff.mpr nd)
  show a < b
  have : a ≠ b := h2
  omega
theorem out_mem {m : Prs} {ys : List Int} (nd : (m.map (·.1)).Nodup) (hp : ys.Perm (m.map (·.1))) {p : Int × Int} : p ∈ outOf m ys ↔ p ∈ m := by
  unfold outOf
  rw [List.mem_map]
  constructor
  · rintro ⟨t, ht, rfl⟩
    obtain ⟨q, hq, e⟩ := List.mem_map.mp (hp.mem_iff.mp ht)
    have e2 : valP m t = some q.2 := (valP_iff nd).mpr (by rw [← e]; exact hq)
    rw [e2, ← e]
    exact hq
  · intro h
    refine ⟨p.1, hp.mem_iff.mpr (List.mem_map_of_mem h), ?_⟩
    have e2 : valP m p.1 = some p.2 := (valP_iff nd).mpr h
    rw [e2]
    rfl
/-! ### dicts, step by step -/
section
variable {X : Cx} {K : PySem.W.Frag} {σ : St} {H H' : Hp} {Q : VK} {td ty tv te : TE} {nx bk ct : St → Hp → Prop} {rt : VK} {a : Addr} {kvs : List (Key × V)} {k : Key} {v x y : V}
def uDGet (x y : V) (H : Hp) (Q : VK) : Prop := ∃ a v, x = .ref a ∧ DGet H a y (some v) ∧ Q v H
theorem r_dget (q : td σ H fun x H1 => ty σ H1 fun y H2 => uDGet x y H2 Q) : tDGet td ty σ H Q := q
theorem r_dgeti {m : Prs} {t h : Int} (hd : H a = some (.dK (m.map inj))) (e : valP m t = some h) (q : Q (.int h) H) : uDGet (.ref a) (.int t) H Q := by
  refine ⟨a, .int h, rfl, ?_, q⟩
  have z := DGet.k (k := Sum.inl t) hd
  rw [val_inj, e] at z
  exact z
def uDPut (x y v : V) (H : Hp) (R : Hp → Prop) : Prop := ∃ a H4, x = .ref a ∧ DPut H a y v H4 ∧ R H4
theorem r_dput (q : tv σ H fun v H1 => td σ H1 fun x H2 => ty σ H2 fun y H3 => uDPut x y v H3 fun H4 => nx σ H4) : sDPut td ty tv ⟨nx, rt, bk, ct⟩ σ H := q
theorem r_dputi {m : Prs} {t h : Int} {R : Hp → Prop} (hd : H a = some (.dK (m.map inj))) (hl : m.length ≤ 100000) (q : ∀ H', Keep (At a) H H' → H' a = some (.dK ((putP m t h).map inj)) → R H') : uDPut (.ref a) (.int t) (.int h) H R := by
  refine ⟨a, _, rfl, DPut.k (k := Sum.inl t) hd (by rw [sizeLine_eq, List.length_map]; omega), q _ Keep.at_ ?_⟩
  rw [upd_same, put_inj]
theorem r_dnew (q : ∀ p H', H p = none → Same H H' → H' p = some (.dK []) → Q (.ref p) H') : tDNewK σ H Q := fun p hp => q p _ hp (Keep.same (Keep.new hp)) upd_same
def uDictP (K : PySem.W.Frag) : List V → Hp → VK → Prop := fun xs H Q => ∃ (a : Addr) (ps : List Addr) (kvs : List (Key × V)), xs = [.ref a] ∧ SqL K H a (ps.map V.ref) ∧ Paired (fun p kv => SqT K H p [kV kv.1, kv.2]) ps kvs ∧ ∀ p, H p = none → Q (.ref p) (upd H p (.dK (mergeK [] kvs)))
theorem c_dictP (hcalm : X.calm = true) : CallR X (.type "dict") (uDictP X.K) := call_dictP hcalm
theorem dp_pairs : ∀ {ws : List V} {l : Prs}, DpAll K H ws (l.map pairP) → ∃ ps : List Addr, ws = ps.map V.ref ∧ Paired (fun p kv => SqT K H p [kV kv.1, kv.2]) ps (l.map inj)
  | _, [], .nil => ⟨[], rfl, .nil⟩
  | _, p :: l, .cons h1 h2 => by
    obtain ⟨b, rfl, hb⟩ := dp_pair h1
    obtain ⟨ps, rfl, hp⟩ := dp_pairs h2
    exact ⟨b :: ps, rfl, .cons hb hp⟩
theorem r_dict {l : Prs} {ws : List V} (h : SqL K H a ws) (hd : DpAll K H ws (l.map pairP)) (q : ∀ p H', H p = none → Same H H' → H' p = some (.dK ((mergeP [] l).map inj)) → Q (.ref p) H') : uDictP K [.ref a] H Q := by
  obtain ⟨ps, rfl, hp⟩ := dp_pairs hd
  refine ⟨a, ps, l.map inj, rfl, h, hp, fun p hn => q p _ hn (Keep.same (Keep.new hn)) ?_⟩
  rw [upd_same]
  congr 2
  exact merge_inj l []
def uSortedD : List V → Hp → VK → Prop := fun xs H Q => ∃ (a : Addr) (kvs : List (Key × V)) (ks : List Int), xs = [.ref a] ∧ Rd H a (.dK kvs) ∧ kvs.map (·.1) = ks.map Sum.inl ∧ ks.length < 64 ∧
    ∀ (ys : List Int) (p : Addr), ys.Perm ks → ys.Pairwise (· ≤ ·) → H p = none → Q (.ref p) (upd H p (.lst (ys.map V.int)))
theorem c_sortedD (hcalm : X.calm = true) : CallR X (.builtin "sorted") uSortedD := call_sortedDI hcalm
theorem r_sortedD {m : Prs} (hd : H a = some (.dK (m.map inj))) (hl : m.length < 64) (q : ∀ (ys : List Int) p H', ys.Perm (m.map (·.1)) → ys.Pairwise (· ≤ ·) → H p = none → Same H H' → H' p = some (.lst (ys.map V.int)) → Q (.ref p) H') : uSortedD [.ref a] H Q :=
  ⟨a, m.map inj, m.map (·.1), rfl, .inl hd, by rw [List.map_map, List.map_map]; rfl, by simpa using hl, fun ys p h1 h2 h3 => q ys p _ h1 h2 h3 (Keep.same (Keep.new h3)) upd_same⟩
end
/-! ### parts of a curve -/
def partL (c : Prs) (b e : Int) : Prs := c.filter fun p => decide (b ≤ p.1) && decide (p.1 < e)
theorem partL_app {c : Prs} {a b d : Int} (hc : c.Pairwise fun p q => p.1 < q.1) (h1 : a ≤ b) (h2 : b ≤ d) : partL c a b ++ partL c b d = partL c a d := by
  induction c with
  | nil => rfl
  | cons p r ih =>
    obtain ⟨c1, c2⟩ := List.pairwise_cons.mp hc
    have ih := ih c2
    unfold partL at *
    by_cases h3 : p.1 < b
    · have e2 : (p :: r).filter (fun p => decide (b ≤ p.1) && decide (p.1 < d)) = r.filter (fun p => decide (b ≤ p.1) && decide (p.1 < d)) := List.filter_cons_of_neg (by simp; omega)
      rw [e2]
      by_cases h4 : a ≤ p.1
      · rw [List.filter_cons_of_pos (by simp; omega), List.filter_cons_of_pos (by simp; omega)]
        simp only [List.cons_append]
        rw [← ih]
      · rw [List.filter_cons_of_neg (by simp; omega), List.filter_cons_of_neg (by simp; omega)]
        exact ih
    · have e1 : r.filter (fun p => decide (a ≤ p.1) && decide (p.1 < b)) = [] := by
        rw [List.filter_eq_nil_iff]
        intro q hq
        have := c1 q hq
        simp
        omega
      rw [List.filter_cons_of_neg (by simp; omega), e1, List.nil_append]
      rw [e1, List.nil_append] at ih
      by_cases h4 : p.1 < d
      · rw [List.filter_cons_of_pos (by simp; omega), List.filter_cons_of_pos (by simp; omega), ih]
      · rw [List.filter_cons_of_neg (by simp; omega), List.filter_cons_of_neg (by simp; omega), ih]
theorem partL_self (c : Prs) (a b : Int) : partL (partL c a b) a b = partL c a b := by
  unfold partL
  rw [List.filter_filter]
  simp
theorem partL_len (c : Prs) (a b : Int) : (partL c a b).length ≤ c.length := List.length_filter_le _ _
theorem zip_up {c : Prs} (h : c.Pairwise fun p q => p.1 < q.1) : ∀ pq ∈ c.zip (c.drop 1), pq.1.1 < pq.2.1 := by
  intro pq hpq
  obtain ⟨i, hi⟩ := List.getElem?_of_mem hpq
  rw [List.getElem?_zip_eq_some] at hi
  obtain ⟨h1, h2⟩ := hi
  rw [List.getElem?_drop] at h2
  obtain ⟨i1, e1⟩ := List.getElem?_eq_some_iff.mp h1
  obtain ⟨i2, e2⟩ := List.getElem?_eq_some_iff.mp h2
  have := List.pairwise_iff_getElem.mp h i (1 + i) i1 i2 (by omega)
  rw [e1, e2] at this
  exact this
/-! ### pairs that stand in memory as tuples -/
def RawP (H : Hp) (ws : List V) (l : Prs) : Prop := Paired (fun v (q : Int × Int) => ∃ a, v = V.ref a ∧ H a = some (.tup [.int q.1, .int q.2])) ws l
theorem RawP.keep {F : Addr → Prop} {H H' : Hp} {ws : List V} {l : Prs} (h : RawP H ws l) (k : Keep F H H') (m : ∀ b, F b → Mut (H b)) : RawP H' ws l :=
  Paired.mapP h fun v q ⟨a, e, z⟩ => ⟨a, e, k a _ z fun n => by have := m a n; rw [z] at this; exact this⟩
theorem RawP.same {H H' : Hp} {ws : List V} {l : Prs} (h : RawP H ws l) (s : Same H H') : RawP H' ws l := Paired.mapP h fun v q ⟨a, e, z⟩ => ⟨a, e, s a _ z⟩
theorem RawP.dp {K : PySem.W.Frag} {H : Hp} : ∀ {ws : List V} {l : Prs}, RawP H ws l → DpAll K H ws (l.map pairP)
  | _, _, .nil => .nil
  | _, _, .cons ⟨a, e, z⟩ h => by
    subst e
    exact .cons (dp_of_pair (SqT.of z)) (RawP.dp h)
theorem RawP.len {H : Hp} {ws : List V} {l : Prs} (h : RawP H ws l) : ws.length = l.length := Paired.length h
theorem RawP.at_ {H : Hp} : ∀ {ws : List V} {l : Prs}, RawP H ws l → ∀ {i : Nat} {x : V}, ws[i]? = some x → ∃ q a, l[i]? = some q ∧ x = V.ref a ∧ H a = some (.tup [.int q.1, .int q.2])
  | _, _, .nil, i, x, h => by simp at h
  | _, _, .cons (b := q) ⟨a, e, z⟩ r, 0, x, h => by
    have e2 := Option.some.inj h
    subst e2
    exact ⟨q, a, rfl, e, z⟩
  | _, _, .cons _ r, i + 1, x, h => RawP.at_ r (i := i) (x := x) h
/-! ### bounds -/
/-- numbers that the laws draw -/
def big : Int := 1000000000000000000000000000000000000000000000000000000000000
structure Bd (p : Int × Int) : Prop where
  t : -big ≤ p.1 ∧ p.1 ≤ big
  h : -big ≤ p.2 ∧ p.2 ≤ big
end Fp
/-! stretches of times, in plain numbers -/
namespace Fp
open PySem PySem.Spec PyProof.Rows L2
def lvlF (b e : Int) : Nat → Nat → Nat
  | 0, l => l
  | n + 1, l => if b % 2 ^ (l + 1) = 0 ∧ b + 2 ^ (l + 1) ≤ e then lvlF b e n (l + 1) else l
def lvl (b e : Int) : Nat := lvlF b e 40 0
theorem two_mono {n m : Nat} (h : n ≤ m) : (2 : Int) ^ n ≤ 2 ^ m := by
  obtain ⟨k, rfl⟩ := Nat.exists_eq_add_of_le h
  rw [Int.pow_add]
  have h1 := two_pos n
  have h2 := two_pos k
  have : (2 : Int) ^ n * 1 ≤ 2 ^ n * 2 ^ k := Int.mul_le_mul_of_nonneg_left (by omega) (by omega)
  omega
theorem two_lt {n m : Nat} (h : (2 : Int) ^ n < 2 ^ m) : n < m := by
  rcases Nat.lt_or_ge n m with z | z
  · exact z
  · have := two_mono z; omega
theorem two_dvd {n m : Nat} (h : n ≤ m) : (2 : Int) ^ n ∣ 2 ^ m := by
  obtain ⟨k, rfl⟩ := Nat.exists_eq_add_of_le h
  rw [Int.pow_add]
  exact Int.dvd_mul_right ..
theorem lvlF_facts (b e : Int) : ∀ n l, n + l = 40 → b % 2 ^ l = 0 → b + 2 ^ l ≤ e → lvlF b e n l ≤ 40 ∧ b % 2 ^ lvlF b e n l = 0 ∧ b + 2 ^ lvlF b e n l ≤ e ∧ (lvlF b e n l < 40 → ¬ (b % 2 ^ (lvlF b e n l + 1) = 0 ∧ b + 2 ^ (lvlF b e n l + 1) ≤ e))
  | 0, l, h, h1, h2 => ⟨by unfold lvlF; omega, by unfold lvlF; exact h1, by unfold lvlF; exact h2, by unfold lvlF; omega⟩
  | n + 1, l, h, h1, h2 => by
    unfold lvlF
    by_cases c : b % 2 ^ (l + 1) = 0 ∧ b + 2 ^ (l + 1) ≤ e
    · rw [if_pos c]
      exact lvlF_facts b e n (l + 1) (by omega) c.1 c.2
    · rw [if_neg c]
      exact ⟨by omega, h1, h2, fun _ => c⟩
theorem lvlF_le (b e : Int) : ∀ n l, lvlF b e n l ≤ n + l
  | 0, l => by unfold lvlF; omega
  | n + 1, l => by
    unfold lvlF
    split
    · have := lvlF_le b e n (l + 1); omega
    · omega
theorem lvl_le (b e : Int) : lvl b e ≤ 40 := lvlF_le b e 40 0
theorem lvl_facts {b e : Int} (h : b < e) : b % 2 ^ lvl b e = 0 ∧ b + 2 ^ lvl b e ≤ e ∧ (lvl b e < 40 → ¬ (b % 2 ^ (lvl b e + 1) = 0 ∧ b + 2 ^ (lvl b e + 1) ≤ e)) :=
  (lvlF_facts b e 40 0 rfl (by simp) (by simp; omega)).2
/-- the stretches -/
def strF (e : Int) : Nat → Int → Prs
  | 0, _ => []
  | n + 1, b => if b < e then ((lvl b e : Int), b / 2 ^ lvl b e) :: strF e n (b + 2 ^ lvl b e) else []
def strL (b e : Int) : Prs := strF e (e - b).toNat b
theorem strF_fuel (e : Int) : ∀ n m b, (e - b).toNat ≤ n → (e - b).toNat ≤ m → strF e n b = strF e m b
  | 0, 0, _, _, _ => rfl
  | 0, m + 1, b, h, _ => by unfold strF; rw [if_neg (by omega)]
  | n + 1, 0, b, _, h => by unfold strF; rw [if_neg (by omega)]
  | n + 1, m + 1, b, h1, h2 => by
    unfold strF
    have := two_pos (lvl b e)
    split
    · rw [strF_fuel e n m _ (by omega) (by omega)]
    · rfl
theorem str_nil {b e : Int} (h : ¬ b < e) : strL b e = [] := by
  unfold strL
  rw [show (e - b).toNat = 0 by omega]
  rfl
theorem str_cons {b e : Int} (h : b < e) : strL b e = ((lvl b e : Int), b / 2 ^ lvl b e) :: strL (b + 2 ^ lvl b e) e := by
  have := two_pos (lvl b e)
  unfold strL
  obtain ⟨n, hn⟩ : ∃ n, (e - b).toNat = n + 1 := ⟨(e - b).toNat - 1, by omega⟩
  rw [hn]
  show (if b < e then ((lvl b e : Int), b / 2 ^ lvl b e) :: strF e n (b + 2 ^ lvl b e) else []) = _
  rw [if_pos h, strF_fuel e n (e - (b + 2 ^ lvl b e)).toNat _ (by omega) (by omega)]
theorem str_fall : ∀ k, k ≤ 40 → ∀ b e : Int, (2 : Int) ^ k ∣ b → e - b < 2 ^ k → (strL b e).length ≤ k := by
  intro k
  induction k using Nat.strongRecOn with
  | _ k ih =>
    intro hk b e hd hl
    by_cases h : b < e
    · obtain ⟨h1, h2, h3⟩ := lvl_facts h
      have hlk : lvl b e < k := two_lt (by omega)
      have h4 := h3 (by omega)
      have h5 : (2 : Int) ^ (lvl b e + 1) ∣ b := Int.dvd_trans (two_dvd hlk) hd
      have h6 : ¬ b + 2 ^ (lvl b e + 1) ≤ e := fun z => h4 ⟨Int.emod_eq_zero_of_dvd h5, z⟩
      rw [two_succ] at h6
      rw [str_cons h, List.length_cons]
      have := ih _ hlk (by omega) (b + 2 ^ lvl b e) e (Int.dvd_add (Int.dvd_of_emod_eq_zero h1) (Int.dvd_refl _)) (by omega)
      omega
    · rw [str_nil h]; simp
theorem dvd_next {l : Nat} {b : Int} (h1 : b % 2 ^ l = 0) (h2 : ¬ b % 2 ^ (l + 1) = 0) : (2 : Int) ^ (l + 1) ∣ b + 2 ^ l := by
  obtain ⟨m, rfl⟩ := Int.dvd_of_emod_eq_zero h1
  have hm : m % 2 = 1 := by
    rcases Int.emod_two_eq m with z | z
    · exfalso
      apply h2
      obtain ⟨j, rfl⟩ := Int.dvd_of_emod_eq_zero z
      rw [← Int.mul_assoc, ← Int.pow_succ]
      exact Int.mul_emod_right _ _
    · exact z
  refine ⟨(m + 1) / 2, ?_⟩
  rw [Int.pow_succ, Int.mul_assoc]
  have : 2 * ((m + 1) / 2) = m + 1 := by omega
  rw [this, Int.mul_add, Int.mul_one]
theorem str_rise : ∀ j k : Nat, j + k = 40 → ∀ b e : Int, (2 : Int) ^ k ∣ b → -(2 ^ 40) < b → e ≤ 2 ^ 40 → (strL b e).length ≤ 80 - k := by
  intro j
  induction j using Nat.strongRecOn with
  | _ j ih =>
    intro k hj b e hd hb he
    by_cases h : b < e
    · obtain ⟨h1, h2, h3⟩ := lvl_facts h
      have hle := lvl_le b e
      rw [str_cons h, List.length_cons]
      by_cases hl : lvl b e < 40
      · have h4 := h3 hl
        by_cases h5 : b + 2 ^ (lvl b e + 1) ≤ e
        · have h6 : ¬ b % 2 ^ (lvl b e + 1) = 0 := fun z => h4 ⟨z, h5⟩
          have hkl : k ≤ lvl b e := by
            rcases Nat.lt_or_ge (lvl b e) k with z | z
            · exact absurd (Int.emod_eq_zero_of_dvd (Int.dvd_trans (two_dvd z) hd)) h6
            · exact z
          have := two_pos (lvl b e)
          have := ih (40 - (lvl b e + 1)) (by omega) (lvl b e + 1) (by omega) (b + 2 ^ lvl b e) e (dvd_next h1 h6) (by omega) he
          omega
        · rw [two_succ] at h5
          have := str_fall (lvl b e) (by omega) (b + 2 ^ lvl b e) e (Int.dvd_add (Int.dvd_of_emod_eq_zero h1) (Int.dvd_refl _)) (by omega)
          omega
      · have e40 : lvl b e = 40 := by omega
        rw [e40] at h1 h2 ⊢
        rw [str_nil (by omega)]
        simp
        omega
    · rw [str_nil h]; simp
theorem str_len {b e : Int} (hb : -(2 ^ 40) ≤ b) (he : e ≤ 2 ^ 40) : (strL b e).length ≤ 80 := by
  by_cases h0 : b = -(2 ^ 40)
  · subst h0
    by_cases h : (-(2 ^ 40) : Int) < e
    · obtain ⟨h1, h2, h3⟩ := lvl_facts h
      have hle := lvl_le (-(2 ^ 40)) e
      rw [str_cons h, List.length_cons]
      generalize lvl (-(2 ^ 40)) e = l at *
      by_cases hl : l < 40
      · have h4 := h3 hl
        have h5 : ¬ -(2 ^ 40) + 2 ^ (l + 1) ≤ e := fun z => h4 ⟨Int.emod_eq_zero_of_dvd (Int.dvd_neg.mpr (two_dvd (by omega))), z⟩
        rw [two_succ] at h5
        have := str_fall l (by omega) (-(2 ^ 40) + 2 ^ l) e (Int.dvd_add (Int.dvd_of_emod_eq_zero h1) (Int.dvd_refl _)) (by omega)
        omega
      · have e40 : l = 40 := by omega
        subst e40
        have := str_rise 0 40 rfl (-(2 ^ 40) + 2 ^ 40) e ⟨0, by omega⟩ (by omega) he
        omega
    · rw [str_nil h]; simp
  · exact str_rise 40 0 rfl b e (by rw [Int.pow_zero]; exact Int.one_dvd b) (by omega) he
theorem str_mem {e : Int} : ∀ n : Nat, ∀ b : Int, (strL b e).length = n → ∀ q ∈ strL b e, ∃ l : Nat, l ≤ 40 ∧ q.1 = (l : Int) := by
  intro n
  induction n with
  | zero =>
    intro b h q hq
    rw [List.length_eq_zero_iff.mp h] at hq
    simp at hq
  | succ n ih =>
    intro b h q hq
    by_cases hb : b < e
    · rw [str_cons hb] at h hq
      rcases List.mem_cons.mp hq with rfl | hq
      · exact ⟨_, lvl_le b e, rfl⟩
      · exact ih _ (by simpa using h) q hq
    · rw [str_nil hb] at h
      simp at h
end Fp
/-! fours: first, last, lowest, highest; tables of fours by stretches -/
namespace Fp
open PySem PySem.Spec PyProof.Rows L2
structure Four where
  f : Int × Int
  l : Int × Int
  lo : Int × Int
  hi : Int × Int
def four4 (F : Four) : PyData := .tuple [pairP F.f, pairP F.l, pairP F.lo, pairP F.hi]
def fourD : Option Four → PyData
  | none => .none
  | some F => four4 F
theorem imm_four (F : Option Four) : imm (fourD F) = true := by
  cases F with
  | none => rfl
  | some F => simp [fourD, four4, imm, immAll, imm_pair]
theorem dp4 {K : PySem.W.Frag} {H : Hp} {ws : List V} {a b c d : PyData} (h : DpAll K H ws [a, b, c, d]) : ∃ w x y z, ws = [w, x, y, z] ∧ Dp K H w a ∧ Dp K H x b ∧ Dp K H y c ∧ Dp K H z d := by
  cases h with
  | cons h1 h =>
    cases h with
    | cons h2 h =>
      cases h with
      | cons h3 h =>
        cases h with
        | cons h4 h =>
          cases h
          exact ⟨_, _, _, _, rfl, h1, h2, h3, h4⟩
theorem shp_four (F : Option Four) : Shp 2 (fourD F) := by
  cases F with
  | none => exact .none
  | some F => exact Shp.t4 (shp_pair _) (shp_pair _) (shp_pair _) (shp_pair _)
def lowP (a b : Int × Int) : Int × Int := if b.2 < a.2 then b else a
def highP (a b : Int × Int) : Int × Int := if b.2 > a.2 then b else a
def joinF : Option Four → Option Four → Option Four
  | none, b => b
  | some a, none => some a
  | some a, some b => some ⟨a.f, b.l, lowP a.lo b.lo, highP a.hi b.hi⟩
theorem lowP_assoc (a b c : Int × Int) : lowP (lowP a b) c = lowP a (lowP b c) := by
  unfold lowP
  by_cases h1 : b.2 < a.2 <;> by_cases h2 : c.2 < b.2 <;> by_cases h3 : c.2 < a.2 <;> simp [h1, h2, h3] <;> (exfalso; omega)
theorem highP_assoc (a b c : Int × Int) : highP (highP a b) c = highP a (highP b c) := by
  unfold highP
  by_cases h1 : b.2 > a.2 <;> by_cases h2 : c.2 > b.2 <;> by_cases h3 : c.2 > a.2 <;> simp [h1, h2, h3] <;> (exfalso; omega)
theorem joinF_none (a : Option Four) : joinF a none = a := by cases a <;> rfl
theorem joinF_assoc (a b c : Option Four) : joinF (joinF a b) c = joinF a (joinF b c) := by
  cases a with
  | none => rfl
  | some a =>
    cases b with
    | none => rfl
    | some b =>
      cases c with
      | none => rfl
      | some c => simp only [joinF, lowP_assoc, highP_assoc]
def oneF (p : Int × Int) : Option Four := some ⟨p, p, p, p⟩
def fourL (c : Prs) : Option Four := c.foldl (fun a p => joinF a (oneF p)) none
theorem fold_join (c : Prs) : ∀ a : Option Four, c.foldl (fun a p => joinF a (oneF p)) a = joinF a (fourL c) := by
  induction c with
  | nil => intro a; exact (joinF_none a).symm
  | cons p r ih =>
    intro a
    show r.foldl (fun a p => joinF a (oneF p)) (joinF a (oneF p)) = joinF a (r.foldl (fun a p => joinF a (oneF p)) (joinF none (oneF p)))
    rw [ih, ih, joinF_assoc]
    rfl
theorem fourL_app (c d : Prs) : fourL (c ++ d) = joinF (fourL c) (fourL d) := by
  show (c ++ d).foldl (fun a p => joinF a (oneF p)) none = _
  rw [List.foldl_append, fold_join]
  rfl
theorem fourL_nil : fourL [] = none := rfl
theorem fourL_one (p : Int × Int) : fourL [p] = oneF p := rfl
theorem fourL_cons (p : Int × Int) (c : Prs) : fourL (p :: c) = joinF (oneF p) (fourL c) := fourL_app [p] c
theorem fourL_none {c : Prs} (h : fourL c = none) : c = [] := by
  cases c with
  | nil => rfl
  | cons p r =>
    rw [fourL_cons] at h
    unfold oneF at h
    cases e : fourL r with
    | none => rw [e] at h; cases h
    | some F => rw [e] at h; cases h
theorem fold_some (r : Prs) : ∀ F : Four, r.foldl (fun a p => joinF a (oneF p)) (some F) = some ⟨F.f, (r.getLast?).getD F.l, r.foldl lowP F.lo, r.foldl highP F.hi⟩ := by
  induction r with
  | nil => intro F; rfl
  | cons p r ih =>
    intro F
    show r.foldl (fun a p => joinF a (oneF p)) (some ⟨F.f, p, lowP F.lo p, highP F.hi p⟩) = _
    rw [ih]
    cases r with
    | nil => rfl
    | cons q r =>
      have e : ∀ z : Int × Int, ((q :: r).getLast?).getD z = (q :: r).getLast (by simp) := fun z => by rw [List.getLast?_eq_some_getLast (by simp)]; rfl
      have e2 : ((p :: q :: r).getLast?).getD F.l = (q :: r).getLast (by simp) := by rw [List.getLast?_eq_some_getLast (by simp)]; rfl
      rw [e2]
      show some (Four.mk F.f (((q :: r).getLast?).getD p) _ _) = _
      rw [e]
      rfl
theorem fourL_eq (f : Int × Int) (r : Prs) : fourL (f :: r) = some ⟨f, (r.getLast?).getD f, r.foldl lowP f, r.foldl highP f⟩ := fold_some r ⟨f, f, f, f⟩
theorem lowP_self (f : Int × Int) : lowP f f = f := by unfold lowP; split <;> rfl
theorem highP_self (f : Int × Int) : highP f f = f := by unfold highP; split <;> rfl
/-! ### the times of a stretch -/
def seg (c : Prs) (l : Nat) (s : Int) : Prs := partL c (s * 2 ^ l) (s * 2 ^ l + 2 ^ l)
theorem seg_succ {c : Prs} (hc : c.Pairwise fun p q => p.1 < q.1) (l : Nat) (s : Int) : seg c (l + 1) s = seg c l (2 * s) ++ seg c l (2 * s + 1) := by
  have h := two_pos l
  have e1 : s * 2 ^ (l + 1) = 2 * s * 2 ^ l := by rw [two_succ, ← Int.mul_assoc, Int.mul_comm s 2]
  have e2 : (2 * s + 1) * 2 ^ l = 2 * s * 2 ^ l + 2 ^ l := by rw [Int.add_mul, Int.one_mul]
  unfold seg
  rw [e1, e2, partL_app hc (by omega) (by omega), two_succ]
  congr 1
  omega
theorem partL_none {c : Prs} {b e : Int} (h : ¬ b < e) : partL c b e = [] := by
  unfold partL
  rw [List.filter_eq_nil_iff]
  intro p _
  simp
  omega
/-- the stretches' fours, joined -/
theorem str_four {c : Prs} (hc : c.Pairwise fun p q => p.1 < q.1) (e : Int) : ∀ n : Nat, ∀ b : Int, (strL b e).length = n → (strL b e).foldl (fun a p => joinF a (fourL (seg c p.1.toNat p.2))) none = fourL (partL c b e) := by
  have gen : ∀ (l : Prs) (a : Option Four), l.foldl (fun a p => joinF a (fourL (seg c p.1.toNat p.2))) a = joinF a (l.foldl (fun a p => joinF a (fourL (seg c p.1.toNat p.2))) none) := by
    intro l
    induction l with
    | nil => intro a; exact (joinF_none a).symm
    | cons p r ih =>
      intro a
      simp only [List.foldl_cons]
      rw [ih, ih (joinF none _), joinF_assoc]
      rfl
  intro n
  induction n with
  | zero =>
    intro b h
    have hb : ¬ b < e := fun z => by rw [str_cons z] at h; simp at h
    rw [str_nil hb, partL_none hb]
    rfl
  | succ n ih =>
    intro b h
    by_cases hb : b < e
    · obtain ⟨h1, h2, _⟩ := lvl_facts hb
      have hm : b / 2 ^ lvl b e * 2 ^ lvl b e = b := Int.ediv_mul_cancel_of_emod_eq_zero h1
      have hp := two_pos (lvl b e)
      rw [str_cons hb] at h ⊢
      simp only [List.length_cons, Nat.add_right_cancel_iff] at h
      rw [List.foldl_cons, gen, ih _ h]
      show joinF (joinF none (fourL (seg c ((lvl b e : Nat) : Int).toNat (b / 2 ^ lvl b e)))) _ = _
      rw [show ((lvl b e : Nat) : Int).toNat = lvl b e from rfl]
      unfold seg
      rw [hm]
      show joinF (fourL (partL c b (b + 2 ^ lvl b e))) _ = _
      rw [← fourL_app, partL_app hc (by omega) h2]
    · rw [str_nil hb] at h
      simp at h
/-! ### tables of fours by stretches -/
def skey (l : Nat) (s : Int) : List Key := [Sum.inl (l : Int), Sum.inl s]
theorem skey_inj {l l' : Nat} {s s' : Int} : skey l s = skey l' s' ↔ l = l' ∧ s = s' := by
  unfold skey
  simp
  intro _
  omega
inductive Fits (K : PySem.W.Frag) (H : Hp) : Option V → Option Four → Prop
  | none : Fits K H none none
  | some {v : V} {F : Four} : Dp K H v (four4 F) → Fits K H (some v) (some F)
theorem Fits.text {K : PySem.W.Frag} {H H' : Hp} {o : Option V} {F : Option Four} (h : Fits K H o F) (e : TExt H H') : Fits K H' o F := by
  cases h with
  | none => exact .none
  | some d => exact .some (Dp.text e _ _ (imm_four (Option.some _)) d)
theorem Fits.getD {K : PySem.W.Frag} {H : Hp} {o : Option V} {F : Option Four} (h : Fits K H o F) : Dp K H (o.getD .non) (fourD F) := by
  cases h with
  | none => exact .non
  | some d => exact d
/-- below level k the fours of c', from there on those of c -/
def Mix (K : PySem.W.Frag) (H : Hp) (kvs : List (List Key × V)) (c c' : Prs) (k : Nat) : Prop :=
  ∀ (l : Nat) (s : Int), l ≤ 40 → Fits K H (valV kvs (skey l s)) (fourL (seg (if l < k then c' else c) l s))
abbrev FourInv (K : PySem.W.Frag) (H : Hp) (kvs : List (List Key × V)) (c : Prs) : Prop := Mix K H kvs c c 0
theorem Mix.text {K : PySem.W.Frag} {H H' : Hp} {kvs : List (List Key × V)} {c c' : Prs} {k : Nat} (h : Mix K H kvs c c' k) (e : TExt H H') : Mix K H' kvs c c' k := fun l s hl => (h l s hl).text e
theorem Mix.zero {K : PySem.W.Frag} {H : Hp} {kvs : List (List Key × V)} {c : Prs} (c' : Prs) (h : FourInv K H kvs c) : Mix K H kvs c c' 0 := fun l s hl => by
  have := h l s hl
  rw [if_neg (by omega)] at this ⊢
  exact this
theorem Mix.full {K : PySem.W.Frag} {H : Hp} {kvs : List (List Key × V)} {c c' : Prs} (h : Mix K H kvs c c' 41) : FourInv K H kvs c' := fun l s hl => by
  have := h l s hl
  rw [if_pos (by omega)] at this
  rw [if_neg (by omega)]
  exact this
/-- c and c' differ at t at most -/
def Beside (t : Int) (c c' : Prs) : Prop := ∀ b e : Int, ¬ (b ≤ t ∧ t < e) → partL c' b e = partL c b e
theorem seg_beside {t : Int} {c c' : Prs} (h : Beside t c c') {l : Nat} {s : Int} (hs : s ≠ t / 2 ^ l) : seg c' l s = seg c l s := by
  refine h _ _ fun z => hs ?_
  exact (div_is (two_pos l) z.1 z.2).symm
/-- one more level is done: what stands at the stretch of t is the four of c' -/
theorem Mix.step {K : PySem.W.Frag} {H H' : Hp} {kvs kvs' : List (List Key × V)} {c c' : Prs} {t : Int} {k : Nat} (hb : Beside t c c') (h : Mix K H kvs c c' k) (e : TExt H H')
    (hv : ∀ j, j ≠ skey k (t / 2 ^ k) → valV kvs' j = valV kvs j) (hn : Fits K H' (valV kvs' (skey k (t / 2 ^ k))) (fourL (seg c' k (t / 2 ^ k)))) : Mix K H' kvs' c c' (k + 1) := by
  intro l s hl
  by_cases hk : skey l s = skey k (t / 2 ^ k)
  · obtain ⟨rfl, rfl⟩ := skey_inj.mp hk
    rw [if_pos (by omega)]
    exact hn
  · rw [hv _ hk]
    have := (h l s hl).text e
    by_cases h1 : l < k
    · rw [if_pos h1] at this
      rw [if_pos (by omega)]
      exact this
    · rw [if_neg h1] at this
      by_cases h2 : l = k
      · rw [if_pos (by omega), seg_beside hb (fun z => hk (skey_inj.mpr ⟨h2, by rw [z, h2]⟩))]
        exact this
      · rw [if_neg (by omega)]
        exact this
/-- the two that are joined at the next level -/
theorem Mix.two {K : PySem.W.Frag} {H : Hp} {kvs : List (List Key × V)} {c c' : Prs} {k : Nat} (h : Mix K H kvs c c' (k + 1)) (hk : k < 40) (s : Int) :
    Fits K H (valV kvs (skey k (2 * s))) (fourL (seg c' k (2 * s))) ∧ Fits K H (valV kvs (skey k (2 * s + 1))) (fourL (seg c' k (2 * s + 1))) := by
  have h1 := h k (2 * s) (by omega)
  have h2 := h k (2 * s + 1) (by omega)
  rw [if_pos (by omega)] at h1 h2
  exact ⟨h1, h2⟩
theorem seg_zero_mem {c : Prs} (hc : c.Pairwise fun p q => p.1 < q.1) {t h : Int} (hm : (t, h) ∈ c) : seg c 0 t = [(t, h)] := by
  refine up_ext (hc.sublist List.filter_sublist) (List.pairwise_singleton _ _) fun p => ?_
  unfold seg partL
  rw [List.mem_filter, List.mem_singleton]
  simp only [Int.pow_zero, Int.mul_one, Bool.and_eq_true, decide_eq_true_eq]
  constructor
  · rintro ⟨hp, h1, h2⟩
    have e1 := (valP_iff (up_nodup hc)).mpr (show (t, h) ∈ c from hm)
    have e2 := (valP_iff (up_nodup hc)).mpr (show (t, p.2) ∈ c by rw [show (t, p.2) = p from Prod.ext (by show t = p.1; omega) rfl]; exact hp)
    rw [e1] at e2
    exact Prod.ext (by show p.1 = t; omega) (Option.some.inj e2).symm
  · rintro rfl
    exact ⟨hm, by omega, by omega⟩
theorem seg_zero_not {c : Prs} {t : Int} (hm : ∀ p ∈ c, p.1 ≠ t) : seg c 0 t = [] := by
  unfold seg partL
  rw [List.filter_eq_nil_iff]
  intro p hp
  have := hm p hp
  simp
  omega
theorem in_stretch (t : Int) (l : Nat) : t / 2 ^ l * 2 ^ l ≤ t ∧ t < t / 2 ^ l * 2 ^ l + 2 ^ l := by
  have hp := two_pos l
  have h1 := Int.ediv_mul_le t (b := 2 ^ l) (by omega)
  have h2 := Int.lt_ediv_add_one_mul_self t hp
  rw [Int.add_mul, Int.one_mul] at h2
  exact ⟨h1, h2⟩
theorem seg_has {c : Prs} {t h : Int} (hm : (t, h) ∈ c) (l : Nat) : (t, h) ∈ seg c l (t / 2 ^ l) := by
  obtain ⟨h1, h2⟩ := in_stretch t l
  unfold seg partL
  rw [List.mem_filter]
  exact ⟨hm, by simp only [Bool.and_eq_true, decide_eq_true_eq]; exact ⟨h1, h2⟩⟩
theorem Fits.of_some {K : PySem.W.Frag} {H : Hp} {v : V} {F : Option Four} (d : Dp K H v (fourD F)) (h : F ≠ Option.none) : Fits K H (Option.some v) F := by
  cases F with
  | none => exact absurd rfl h
  | some F => exact .some d
end Fp
/-! classes of the program: methods, making, fields; dicts by tuples -/
namespace Fp
open PySem PySem.Spec PyProof.Rows L2
/-- a class without bases at the module's name x -/
structure ClT (K : PySem.W.Frag) (mg : Str → Option Value) (x : Str) (C : Addr) : Prop where
  g : mg x = some (.ref C)
  cl : Cls K C
  mks : PySem.W.makesIn K C = true
  kp : PySem.W.keepIn K (.ref C) = true
structure MDef (K : PySem.W.Frag) (C : Addr) (m qual : Str) (st : Stmt) (ps : List Str) : Prop where
  ex : ∃ f fd, Fun K m qual st f fd ∧ Meth K C m f ∧ Binds K fd ps []
structure MFn (P : Program) (w : World) (K : PySem.W.Frag) (mg : Str → Option Value) (base : Heap) (k : Nat) (C : Addr) (m : Str) (ps : List Str) (sp : Sp) : Prop where
  ex : ∃ f fd, Meth K C m f ∧ Binds K fd ps [] ∧ FnOk P w K mg base (L2.CX P w) k f fd ps sp
/-- an __init__ whose last parameter has the default None -/
structure IDef (K : PySem.W.Frag) (C : Addr) (qual : Str) (st : Stmt) (ps : List Str) : Prop where
  ex : ∃ f fd, FunD K "__init__" qual (defArgs st) (defBody st) (defScope st) [.non] [] f fd ∧ Mk K C f ∧ Binds K fd ps [] ∧ KBn K fd ps 1 [ps.getD 1 Str.empty] (fun us ws => us ++ ws) (fun vs zs => vs ++ zs) ∧ ∃ ds, Vals [V.non] ds ∧ Binds K fd ps ds
structure IFn (P : Program) (w : World) (K : PySem.W.Frag) (mg : Str → Option Value) (base : Heap) (k : Nat) (C : Addr) (ps : List Str) (sp : Sp) : Prop where
  ex : ∃ f fd, Mk K C f ∧ Binds K fd ps [] ∧ KBn K fd ps 1 [ps.getD 1 Str.empty] (fun us ws => us ++ ws) (fun vs zs => vs ++ zs) ∧ (∃ ds, Vals [V.non] ds ∧ Binds K fd ps ds) ∧ FnOk P w K mg base (L2.CX P w) k f fd ps sp
/-- an __init__ without defaults -/
structure PDef (K : PySem.W.Frag) (C : Addr) (qual : Str) (st : Stmt) (ps : List Str) : Prop where
  ex : ∃ f fd, Fun K "__init__" qual st f fd ∧ Mk K C f ∧ Binds K fd ps []
structure PFn (P : Program) (w : World) (K : PySem.W.Frag) (mg : Str → Option Value) (base : Heap) (k : Nat) (C : Addr) (ps : List Str) (sp : Sp) : Prop where
  ex : ∃ f fd, Mk K C f ∧ Binds K fd ps [] ∧ FnOk P w K mg base (L2.CX P w) k f fd ps sp
theorem IFn.pos {P : Program} {w : World} {K : PySem.W.Frag} {mg : Str → Option Value} {base : Heap} {k : Nat} {C : Addr} {ps : List Str} {sp : Sp} (G : IFn P w K mg base k C ps sp) : PFn P w K mg base k C ps sp := by
  obtain ⟨f, fd, hm, hb, _, _, F⟩ := G.ex
  exact ⟨f, fd, hm, hb, F⟩
section
variable {P : Program} {w : World} {K : PySem.W.Frag} {mg : Str → Option Value} {base : Heap} {C : Addr}
theorem PDef.ok {qual : Str} {st : Stmt} {N ps : List Str} {k : Nat} {sp : Sp} (D : PDef K C qual st ps) (S : FnScope N ps (defScope st)) (len : ∀ vs H Q E, sp vs H Q E → vs.length = ps.length)
    (hbody : ∀ (f : Addr) (cdv : Value) (A : Around) (outer : List Env) (s : Shared) (H : Hp) (vs : List V) (Q : VK) (E : XK), Room k (A.deeper (envOfC qual (defScope st) s.heap.objs.size f cdv)) → sp vs H Q E →
      ∃ t, PSs (cxOf CX0 P w K mg base N qual (defScope st) f cdv A outer s H E).nox (defBody st) t ∧ t { nx := fun _ H' => Q .non H', rt := Q } (start N vs) H) : PFn P w K mg base (k + 1) C ps sp := by
  obtain ⟨f, fd, F, hm, hb⟩ := D.ex
  exact ⟨f, fd, hm, hb, fn_up (F.ok S len (hbody f))⟩
theorem PDef.okX {qual : Str} {st : Stmt} {N ps : List Str} {k : Nat} {sp : Sp} (D : PDef K C qual st ps) (S : FnScope N ps (defScope st)) (len : ∀ vs H Q E, sp vs H Q E → vs.length = ps.length)
    (hbody : ∀ (f : Addr) (cdv : Value) (A : Around) (outer : List Env) (s : Shared) (H : Hp) (vs : List V) (Q : VK) (E : XK), Room k (A.deeper (envOfC qual (defScope st) s.heap.objs.size f cdv)) → sp vs H Q E →
      ∃ t, PSs (cxOf (L2.CX P w) P w K mg base N qual (defScope st) f cdv A outer s H E) (defBody st) t ∧ t { nx := fun _ H' => Q .non H', rt := Q } (start N vs) H) : PFn P w K mg base (k + 1) C ps sp := by
  obtain ⟨f, fd, F, hm, hb⟩ := D.ex
  exact ⟨f, fd, hm, hb, F.okX S len (hbody f)⟩
theorem MDef.ok {m qual : Str} {st : Stmt} {N ps : List Str} {k : Nat} {sp : Sp} (D : MDef K C m qual st ps) (S : FnScope N ps (defScope st)) (len : ∀ vs H Q E, sp vs H Q E → vs.length = ps.length)
    (hbody : ∀ (f : Addr) (cdv : Value) (A : Around) (outer : List Env) (s : Shared) (H : Hp) (vs : List V) (Q : VK) (E : XK), Room k (A.deeper (envOfC qual (defScope st) s.heap.objs.size f cdv)) → sp vs H Q E →
      ∃ t, PSs (cxOf CX0 P w K mg base N qual (defScope st) f cdv A outer s H E).nox (defBody st) t ∧ t { nx := fun _ H' => Q .non H', rt := Q } (start N vs) H) : MFn P w K mg base (k + 1) C m ps sp := by
  obtain ⟨f, fd, F, hm, hb⟩ := D.ex
  exact ⟨f, fd, hm, hb, fn_up (F.ok S len (hbody f))⟩
theorem MDef.okX {m qual : Str} {st : Stmt} {N ps : List Str} {k : Nat} {sp : Sp} (D : MDef K C m qual st ps) (S : FnScope N ps (defScope st)) (len : ∀ vs H Q E, sp vs H Q E → vs.length = ps.length)
    (hbody : ∀ (f : Addr) (cdv : Value) (A : Around) (outer : List Env) (s : Shared) (H : Hp) (vs : List V) (Q : VK) (E : XK), Room k (A.deeper (envOfC qual (defScope st) s.heap.objs.size f cdv)) → sp vs H Q E →
      ∃ t, PSs (cxOf (L2.CX P w) P w K mg base N qual (defScope st) f cdv A outer s H E) (defBody st) t ∧ t { nx := fun _ H' => Q .non H', rt := Q } (start N vs) H) : MFn P w K mg base (k + 1) C m ps sp := by
  obtain ⟨f, fd, F, hm, hb⟩ := D.ex
  exact ⟨f, fd, hm, hb, F.okX S len (hbody f)⟩
theorem IDef.okX {qual : Str} {st : Stmt} {N ps : List Str} {k : Nat} {sp : Sp} (D : IDef K C qual st ps) (S : FnScope N ps (defScope st)) (len : ∀ vs H Q E, sp vs H Q E → vs.length = ps.length)
    (hbody : ∀ (f : Addr) (cdv : Value) (A : Around) (outer : List Env) (s : Shared) (H : Hp) (vs : List V) (Q : VK) (E : XK), Room k (A.deeper (envOfC qual (defScope st) s.heap.objs.size f cdv)) → sp vs H Q E →
      ∃ t, PSs (cxOf (L2.CX P w) P w K mg base N qual (defScope st) f cdv A outer s H E) (defBody st) t ∧ t { nx := fun _ H' => Q .non H', rt := Q } (start N vs) H) : IFn P w K mg base (k + 1) C ps sp := by
  obtain ⟨f, fd, F, hm, hb, hk, hd⟩ := D.ex
  exact ⟨f, fd, hm, hb, hk, hd, F.ok S len (hbody f)⟩
theorem mdef_mk {m qual : Str} {st : Stmt} {f : Addr} {fd : FuncData} {ps : List Str} (F : Fun K m qual st f fd) (a : PySem.W.findIn K (.ref C) m = some (some (.ref f))) (i : PySem.W.isFn K (.ref f) = true) (k : PySem.W.keepIn K (.ref f) = true) (hb : Binds K fd ps []) : MDef K C m qual st ps := ⟨f, fd, F, ⟨a, i, k⟩, hb⟩
theorem pdef_mk {qual : Str} {st : Stmt} {f : Addr} {fd : FuncData} {ps : List Str} (F : Fun K "__init__" qual st f fd) (M : Mk K C f) (hb : Binds K fd ps []) : PDef K C qual st ps := ⟨f, fd, F, M, hb⟩
theorem idef_mk {qual : Str} {st : Stmt} {f : Addr} {fd : FuncData} {ps : List Str} {n : Nat} (F : FunD K "__init__" qual (defArgs st) (defBody st) (defScope st) [.non] [] f fd) (M : Mk K C f) (hn : n + 1 = ps.length)
    (h0 : ∀ (T : Addr) (kV doc pm : Value) (an : Option Addr) (cdv ct : Value) (us its : List Value), us.length = n → its.length = 1 →
      ∃ k, bindArgs (PySem.W.fnOf "__init__" qual (defArgs st) (defBody st) (defScope st) (.ref T) kV doc pm an cdv ct) ⟨us, []⟩ = seqItems? (.ref T) >>= k ∧ k (some its.toArray) = pure (ps.zip (us ++ its.drop 0)))
    (h1 : ∀ (T : Addr) (kV doc pm : Value) (an : Option Addr) (cdv ct : Value) (us its : List Value), us.length = n + 1 → its.length = 1 →
      ∃ k, bindArgs (PySem.W.fnOf "__init__" qual (defArgs st) (defBody st) (defScope st) (.ref T) kV doc pm an cdv ct) ⟨us, []⟩ = seqItems? (.ref T) >>= k ∧ k (some its.toArray) = pure (ps.zip (us ++ its.drop 1)))
    (h2 : ∀ (T : Addr) (kV doc pm : Value) (an : Option Addr) (cdv ct : Value) (us its ws : List Value), us.length = 1 → its.length = 1 → ws.length = 1 →
      ∃ k, bindArgs (PySem.W.fnOf "__init__" qual (defArgs st) (defBody st) (defScope st) (.ref T) kV doc pm an cdv ct) ⟨us, [ps.getD 1 Str.empty].zip ws⟩ = seqItems? (.ref T) >>= k ∧ k (some its.toArray) = pure (ps.zip (us ++ ws))) : IDef K C qual st ps := by
  obtain ⟨ds, hd, hb⟩ := F.binds1 n 0 (by simp) (by simpa using hn) h0
  obtain ⟨ds1, hd1, hb1⟩ := F.binds1 (n + 1) 1 (by simp) (by simpa using hn) h1
  have e : ds1 = [] := by
    have : Vals [] ds1 := hd1
    cases this
    rfl
  subst e
  obtain ⟨its, hk⟩ := F.kbindsD 1 [ps.getD 1 Str.empty] (fun us _ ws => us ++ ws) (by simp) (fun r1 _ r3 => r1.append r3) h2
  exact ⟨f, fd, F, M, hb1, hk, ds, hd, hb⟩
end
/-! ### calls of methods, making -/
section
variable {X : Cx} {K : PySem.W.Frag} {σ : St} {H H' : Hp} {Q : VK} {k j : Nat} {ps : List Str} {sp : Sp} {E : XK} {x m f : Str} {p pos apos : Pos} {o e : Expr} {es : List Expr} {ta te tv : TE} {t : TA} {C a dx : Addr} {fs : List (Str × V)} {v y z : V} {nx bk ct : St → Hp → Prop} {rt : VK} {vs : List V}
def uMeth (C : Addr) (m : Str) (sp : Sp) (E : XK) (t : TA) (σ : St) (x : V) (H : Hp) (Q : VK) : Prop := ∃ a dx fs, x = .ref a ∧ H a = some (.ins C dx fs) ∧ fs.lookup m = none ∧ t σ H fun vs H2 => sp (x :: vs) H2 Q E
def tMethU (C : Addr) (m : Str) (sp : Sp) (E : XK) (ta : TE) (t : TA) : TE := fun σ H Q => ta σ H fun x H1 => uMeth C m sp E t σ x H1 Q
theorem tMeth_eq : tMeth C m sp [] E ta t = tMethU C m sp E ta t := by
  funext σ H Q
  unfold tMeth tMethU uMeth
  simp only [List.append_nil]
theorem pe_methE {pl : Sem Bool} (G : MFn X.prog X.w X.K X.mg X.base k C m ps sp) (hr : Room j X.A) (hk : k ≤ j) (c : Cls X.K C) (hx : Passes (L2.CX X.prog X.w) X E) (he : PE X o ta) (ha : PA X (e :: es) t)
    (hst : starEach (e :: es) X.env = (false, eval e X.env) :: starEach es X.env := by rfl) (hpl : (backTo pos (starEach es X.env)).any (·.1) = false := by rfl)
    (ht : eval (.Call (.Attribute o m apos) (e :: es) [] pos) X.env = (do
      let ov ← eval o X.env
      standAt apos.atName
      let (f, first) ← holding [ov] (getMethod ov m pl)
      callWith pos f first (backTo pos (starEach (e :: es) X.env)) (backToKw pos (keywordEach [] X.env))) := by rfl) :
    PE X (.Call (.Attribute o m apos) (e :: es) [] pos) (tMethU C m sp E ta t) := by
  obtain ⟨f, fd, hm, hb, F⟩ := G.ex
  have h := pe_meth (dvs := []) he c hm (F.mono hk) hr hb .nil hx ha hst hpl ht
  rw [tMeth_eq] at h
  exact h
theorem pe_meth0E {pl : Sem Bool} (G : MFn X.prog X.w X.K X.mg X.base k C m ps sp) (hr : Room j X.A) (hk : k ≤ j) (c : Cls X.K C) (hx : Passes (L2.CX X.prog X.w) X E) (he : PE X o ta)
    (ht : eval (.Call (.Attribute o m apos) [] [] pos) X.env = (do
      let ov ← eval o X.env
      standAt apos.atName
      let (f, first) ← holding [ov] (getMethod ov m pl)
      callWith pos f first (backTo pos (starEach [] X.env)) (backToKw pos (keywordEach [] X.env))) := by rfl) :
    PE X (.Call (.Attribute o m apos) [] [] pos) (tMethU C m sp E ta tNil) := by
  obtain ⟨f, fd, hm, hb, F⟩ := G.ex
  have h := pe_meth0 (dvs := []) he c hm (F.mono hk) hr hb .nil hx ht
  rw [tMeth_eq] at h
  exact h
theorem pe_methN {pl : Sem Bool} (G : MFn X.prog X.w X.K X.mg X.base k C m ps sp) (hr : Room j X.A) (c : Cls X.K C) (he : PE X o ta) (ha : PA X (e :: es) t) (hk : k ≤ j := by decide)
    (hst : starEach (e :: es) X.env = (false, eval e X.env) :: starEach es X.env := by rfl) (hpl : (backTo pos (starEach es X.env)).any (·.1) = false := by rfl)
    (ht : eval (.Call (.Attribute o m apos) (e :: es) [] pos) X.env = (do
      let ov ← eval o X.env
      standAt apos.atName
      let (f, first) ← holding [ov] (getMethod ov m pl)
      callWith pos f first (backTo pos (starEach (e :: es) X.env)) (backToKw pos (keywordEach [] X.env))) := by rfl) :
    PE X (.Call (.Attribute o m apos) (e :: es) [] pos) (tMethU C m sp E0 ta t) := pe_methE G hr hk c passL he ha hst hpl ht
theorem pe_meth0N {pl : Sem Bool} (G : MFn X.prog X.w X.K X.mg X.base k C m ps sp) (hr : Room j X.A) (c : Cls X.K C) (he : PE X o ta) (hk : k ≤ j := by decide)
    (ht : eval (.Call (.Attribute o m apos) [] [] pos) X.env = (do
      let ov ← eval o X.env
      standAt apos.atName
      let (f, first) ← holding [ov] (getMethod ov m pl)
      callWith pos f first (backTo pos (starEach [] X.env)) (backToKw pos (keywordEach [] X.env))) := by rfl) :
    PE X (.Call (.Attribute o m apos) [] [] pos) (tMethU C m sp E0 ta tNil) := pe_meth0E G hr hk c passL he ht
theorem pe_methX {pl : Sem Bool} (G : MFn X.prog X.w X.K X.mg X.base k C m ps sp) (hr : Room j X.A) (c : Cls X.K C) (tk : Takes X (fun cls d _ H => E cls d H)) (he : PE X o ta) (ha : PA X (e :: es) t) (hk : k ≤ j := by decide)
    (hst : starEach (e :: es) X.env = (false, eval e X.env) :: starEach es X.env := by rfl) (hpl : (backTo pos (starEach es X.env)).any (·.1) = false := by rfl)
    (ht : eval (.Call (.Attribute o m apos) (e :: es) [] pos) X.env = (do
      let ov ← eval o X.env
      standAt apos.atName
      let (f, first) ← holding [ov] (getMethod ov m pl)
      callWith pos f first (backTo pos (starEach (e :: es) X.env)) (backToKw pos (keywordEach [] X.env))) := by rfl) :
    PE X (.Call (.Attribute o m apos) (e :: es) [] pos) (tMethU C m sp E ta t) := pe_methE G hr hk c (passes_call tk fun _ _ _ _ h => h) he ha hst hpl ht
theorem pe_meth0X {pl : Sem Bool} (G : MFn X.prog X.w X.K X.mg X.base k C m ps sp) (hr : Room j X.A) (c : Cls X.K C) (tk : Takes X (fun cls d _ H => E cls d H)) (he : PE X o ta) (hk : k ≤ j := by decide)
    (ht : eval (.Call (.Attribute o m apos) [] [] pos) X.env = (do
      let ov ← eval o X.env
      standAt apos.atName
      let (f, first) ← holding [ov] (getMethod ov m pl)
      callWith pos f first (backTo pos (starEach [] X.env)) (backToKw pos (keywordEach [] X.env))) := by rfl) :
    PE X (.Call (.Attribute o m apos) [] [] pos) (tMethU C m sp E ta tNil) := pe_meth0E G hr hk c (passes_call tk fun _ _ _ _ h => h) he ht
theorem r_meth (q : ta σ H fun x H1 => uMeth C m sp E t σ x H1 Q) : tMethU C m sp E ta t σ H Q := q
theorem r_methi (h : H a = some (.ins C dx fs)) (hn : fs.lookup m = none) (q : t σ H fun vs H2 => sp (.ref a :: vs) H2 Q E) : uMeth C m sp E t σ (.ref a) H Q := ⟨a, dx, fs, rfl, h, hn, q⟩
/-- a new instance -/
def uMake (C : Addr) (sp : Sp) (dvs : List V) (E : XK) (vs : List V) (H : Hp) (Q : VK) : Prop := ∀ x dx, H x = none → H dx = none → dx ≠ x →
  sp (.ref x :: (vs ++ dvs)) (upd (upd H dx (.own x)) x (.ins C dx [])) (fun v H2 => v = .non ∧ Q (.ref x) H2) E
def tMakeU (C : Addr) (sp : Sp) (dvs : List V) (E : XK) (t : TA) : TE := fun σ H Q => t σ H fun vs H1 => uMake C sp dvs E vs H1 Q
theorem pe_makeE (G : IFn X.prog X.w X.K X.mg X.base k C ps sp) (T : ClT X.K X.mg x C) (hr : Room (j + 1) X.A) (hk : k ≤ j) (hg : Gl X x) (hx : Passes (L2.CX X.prog X.w) X E) (ha : PA X (e :: es) t)
    (hdb : (x == ("__debug__" : Str)) = false := by decide) (he : starEach (e :: es) X.env = (false, eval e X.env) :: starEach es X.env := by rfl) (hpl : (backTo pos (starEach es X.env)).any (·.1) = false := by rfl) :
    PE X (.Call (.Name x p) (e :: es) [] pos) (tMakeU C sp [] E t) := by
  obtain ⟨f, fd, hm, hb, _, _, F⟩ := G.ex
  exact pe_make (dvs := []) hm (F.mono hk) hr hg T.g hb .nil hx ha hdb he hpl
theorem pe_make0E (G : IFn X.prog X.w X.K X.mg X.base k C ps sp) (T : ClT X.K X.mg x C) (hr : Room (j + 1) X.A) (hk : k ≤ j) (hg : Gl X x) (hx : Passes (L2.CX X.prog X.w) X E) (hdb : (x == ("__debug__" : Str)) = false := by decide) :
    PE X (.Call (.Name x p) [] [] pos) (tMakeU C sp [.non] E tNil) := by
  obtain ⟨f, fd, hm, _, _, ⟨ds, hd, hb⟩, F⟩ := G.ex
  exact pe_make0 (dvs := [.non]) hm (F.mono hk) hr hg T.g hb hd hx hdb
theorem pe_makeNo (G : IFn X.prog X.w X.K X.mg X.base k C ps sp) (T : ClT X.K X.mg x C) (hr : Room (j + 1) X.A) (ha : PA X (e :: es) t) (hk : k ≤ j := by decide) (hg : Gl X x := by rfl)
    (hdb : (x == ("__debug__" : Str)) = false := by decide) (he : starEach (e :: es) X.env = (false, eval e X.env) :: starEach es X.env := by rfl) (hpl : (backTo pos (starEach es X.env)).any (·.1) = false := by rfl) :
    PE X (.Call (.Name x p) (e :: es) [] pos) (tMakeU C sp [] E0 t) := pe_makeE G T hr hk hg passL ha hdb he hpl
theorem pe_make0No (G : IFn X.prog X.w X.K X.mg X.base k C ps sp) (T : ClT X.K X.mg x C) (hr : Room (j + 1) X.A) (hk : k ≤ j := by decide) (hg : Gl X x := by rfl) (hdb : (x == ("__debug__" : Str)) = false := by decide) :
    PE X (.Call (.Name x p) [] [] pos) (tMakeU C sp [.non] E0 tNil) := pe_make0E G T hr hk hg passL hdb
theorem pe_makePE (G : PFn X.prog X.w X.K X.mg X.base k C ps sp) (T : ClT X.K X.mg x C) (hr : Room (j + 1) X.A) (hk : k ≤ j) (hg : Gl X x) (hx : Passes (L2.CX X.prog X.w) X E) (ha : PA X (e :: es) t)
    (hdb : (x == ("__debug__" : Str)) = false := by decide) (he : starEach (e :: es) X.env = (false, eval e X.env) :: starEach es X.env := by rfl) (hpl : (backTo pos (starEach es X.env)).any (·.1) = false := by rfl) :
    PE X (.Call (.Name x p) (e :: es) [] pos) (tMakeU C sp [] E t) := by
  obtain ⟨f, fd, hm, hb, F⟩ := G.ex
  exact pe_make (dvs := []) hm (F.mono hk) hr hg T.g hb .nil hx ha hdb he hpl
theorem pe_makePNo (G : PFn X.prog X.w X.K X.mg X.base k C ps sp) (T : ClT X.K X.mg x C) (hr : Room (j + 1) X.A) (ha : PA X (e :: es) t) (hk : k ≤ j := by decide) (hg : Gl X x := by rfl)
    (hdb : (x == ("__debug__" : Str)) = false := by decide) (he : starEach (e :: es) X.env = (false, eval e X.env) :: starEach es X.env := by rfl) (hpl : (backTo pos (starEach es X.env)).any (·.1) = false := by rfl) :
    PE X (.Call (.Name x p) (e :: es) [] pos) (tMakeU C sp [] E0 t) := pe_makePE G T hr hk hg passL ha hdb he hpl
theorem pe_makeP0E (G : PFn X.prog X.w X.K X.mg X.base k C ps sp) (T : ClT X.K X.mg x C) (hr : Room (j + 1) X.A) (hk : k ≤ j) (hg : Gl X x) (hx : Passes (L2.CX X.prog X.w) X E) (hdb : (x == ("__debug__" : Str)) = false := by decide) :
    PE X (.Call (.Name x p) [] [] pos) (tMakeU C sp [] E tNil) := by
  obtain ⟨f, fd, hm, hb, F⟩ := G.ex
  exact pe_make0 (dvs := []) hm (F.mono hk) hr hg T.g hb .nil hx hdb
theorem pe_makeP0No (G : PFn X.prog X.w X.K X.mg X.base k C ps sp) (T : ClT X.K X.mg x C) (hr : Room (j + 1) X.A) (hk : k ≤ j := by decide) (hg : Gl X x := by rfl) (hdb : (x == ("__debug__" : Str)) = false := by decide) :
    PE X (.Call (.Name x p) [] [] pos) (tMakeU C sp [] E0 tNil) := pe_makeP0E G T hr hk hg passL hdb
/-- C(k = v) -/
def uMakeK (C : Addr) (sp : Sp) (E : XK) (zs : List V) (H : Hp) (Q : VK) : Prop := ∃ z, zs = [z] ∧ uMake C sp [] E [z] H Q
def tMakeKw (C : Addr) (sp : Sp) (E : XK) (tk : TA) : TE := fun σ H Q => tk σ H fun zs H2 => uMakeK C sp E zs H2 Q
theorem pe_makeKw {kws : List Keyword} {tk : TA} (G : IFn X.prog X.w X.K X.mg X.base k C ps sp) (T : ClT X.K X.mg x C) (hr : Room (j + 1) X.A) (hkw : PK X kws tk) (hk : k ≤ j := by decide) (hg : Gl X x := by rfl)
    (hall : (backToKw pos (keywordEach kws X.env)).all (·.1.isSome) = true := by rfl) (hks : (backToKw pos (keywordEach kws X.env)).filterMap (·.1) = [ps.getD 1 Str.empty] := by rfl) (hdb : (x == ("__debug__" : Str)) = false := by decide)
    (hpl : ((backTo pos (starEach [] X.env)).any (·.1) || (backToKw pos (keywordEach kws X.env)).any (·.1.isNone)) = false := by rfl) :
    PE X (.Call (.Name x p) [] kws pos) (tMakeKw C sp E0 tk) := by
  obtain ⟨f, fd, hm, _, hb, _, F⟩ := G.ex
  have h := pe_makeK0 (p := p) (pos := pos) hm (F.mono hk) hr hg T.g hb passL hkw hall hks hdb hpl
  have e : tMakeK C 0 ([ps.getD 1 Str.empty] : List Str).length sp (fun vs zs => vs ++ zs) E0 tNil tk = tMakeKw C sp E0 tk := by
    funext σ H Q
    show tk σ H (fun zs H2 => ([] : List V).length = 0 ∧ zs.length = 1 ∧ ∀ x dx, H2 x = none → H2 dx = none → dx ≠ x → sp ([.ref x] ++ zs) (upd (upd H2 dx (.own x)) x (.ins C dx [])) (fun v H3 => v = .non ∧ Q (.ref x) H3) E0) = tk σ H (fun zs H2 => uMakeK C sp E0 zs H2 Q)
    congr 1
    funext zs H2
    apply propext
    constructor
    · rintro ⟨_, h1, h2⟩
      obtain ⟨z, rfl⟩ := List.length_eq_one_iff.mp h1
      exact ⟨z, rfl, h2⟩
    · rintro ⟨z, rfl, h2⟩
      exact ⟨rfl, rfl, h2⟩
  rw [e] at h
  exact h
theorem r_makeKw {tk : TA} (q : tk σ H fun zs H2 => uMakeK C sp E zs H2 Q) : tMakeKw C sp E tk σ H Q := q
theorem r_makeKi (q : uMake C sp [] E [z] H Q) : uMakeK C sp E [z] H Q := ⟨z, rfl, q⟩
theorem r_make {dvs : List V} (q : t σ H fun vs H1 => uMake C sp dvs E vs H1 Q) : tMakeU C sp dvs E t σ H Q := q
theorem r_makei {dvs : List V} (q : ∀ x dx H', H x = none → H dx = none → dx ≠ x → Same H H' → H' x = some (.ins C dx []) → sp (.ref x :: (vs ++ dvs)) H' (fun v H2 => v = .non ∧ Q (.ref x) H2) E) : uMake C sp dvs E vs H Q := fun x dx h1 h2 h3 =>
  q x dx _ h1 h2 h3 (fun b o e => by rw [upd_ne (ne_of_none e h1), upd_ne (ne_of_none e h2)]; exact e) upd_same
/-! fields -/
def uFld (K : PySem.W.Frag) (f : Str) (x : V) (H : Hp) (Q : VK) : Prop := ∃ a C dx fs v, x = .ref a ∧ H a = some (.ins C dx fs) ∧ Cls K C ∧ NoAttr K C f ∧ fs.lookup f = some v ∧ Q v H
theorem r_fld (q : ta σ H fun x H1 => uFld K f x H1 Q) : tFld K ta f σ H Q := q
theorem r_fldi (c : Cls K C) (n : NoAttr K C f) (h : H a = some (.ins C dx fs)) (l : fs.lookup f = some v) (q : Q v H) : uFld K f (.ref a) H Q := ⟨a, C, dx, fs, v, rfl, h, c, n, l, q⟩
def uSetF (K : PySem.W.Frag) (f : Str) (x y : V) (H : Hp) (R : Hp → Prop) : Prop := ∃ a C dx fs, x = .ref a ∧ H a = some (.ins C dx fs) ∧ Cls K C ∧ NoAttr K C f ∧ fs.length < 1000 ∧ R (upd H a (.ins C dx (putF f y fs)))
theorem r_sfld (q : tv σ H fun y H1 => ta σ H1 fun x H2 => uSetF K f x y H2 fun H3 => nx σ H3) : sFld K ta tv f ⟨nx, rt, bk, ct⟩ σ H := q
theorem r_sfldi {R : Hp → Prop} {fs' : List (Str × V)} (c : Cls K C) (n : NoAttr K C f) (h : H a = some (.ins C dx fs)) (hl : fs.length < 1000) (e : putF f y fs = fs') (q : ∀ H', Keep (At a) H H' → H' a = some (.ins C dx fs') → R H') : uSetF K f (.ref a) y H R :=
  ⟨a, C, dx, fs, rfl, h, c, n, hl, q _ Keep.at_ (by rw [upd_same, e])⟩
def uFAug (K : PySem.W.Frag) (tv : TE) (f : Str) (x : V) (σ : St) (H : Hp) (R : Hp → Prop) : Prop := ∃ a C dx fs v, x = .ref a ∧ H a = some (.ins C dx fs) ∧ Cls K C ∧ NoAttr K C f ∧ fs.lookup f = some v ∧
  tv σ H fun y H2 => rAdd v y H2 fun z H3 => ∃ dx' fs', H3 a = some (.ins C dx' fs') ∧ fs'.length < 1000 ∧ R (upd H3 a (.ins C dx' (putF f z fs')))
def uEndA (i : Int) (a : Addr) (f : Str) (C : Addr) (y : V) (H : Hp) (R : Hp → Prop) : Prop := rAdd (.int i) y H fun z H3 => ∃ dx' fs', H3 a = some (.ins C dx' fs') ∧ fs'.length < 1000 ∧ R (upd H3 a (.ins C dx' (putF f z fs')))
theorem r_faug (q : ta σ H fun x H1 => uFAug K tv f x σ H1 fun H2 => nx σ H2) : sFldAug K ta tv rAdd f ⟨nx, rt, bk, ct⟩ σ H := q
theorem r_faugi {R : Hp → Prop} {i : Int} (c : Cls K C) (n : NoAttr K C f) (h : H a = some (.ins C dx fs)) (l : fs.lookup f = some (.int i)) (q : tv σ H fun y H2 => uEndA i a f C y H2 R) : uFAug K tv f (.ref a) σ H R := ⟨a, C, dx, fs, .int i, rfl, h, c, n, l, q⟩
theorem r_enda {R : Hp → Prop} {i j : Int} {fs' : List (Str × V)} (h : H a = some (.ins C dx fs)) (hl : fs.length < 1000) (e : putF f (.int (i + j)) fs = fs') (q : ∀ H', Keep (At a) H H' → H' a = some (.ins C dx fs') → R H') : uEndA i a f C (.int j) H R :=
  ⟨i, j, rfl, rfl, dx, fs, h, hl, q _ Keep.at_ (by rw [upd_same, e])⟩
theorem lk_here {k : Str} {r : List (Str × V)} : ((k, v) :: r).lookup k = some v := by simp [List.lookup]
theorem lk_next {k k' : Str} {r : List (Str × V)} {o : Option V} (h : (k == k') = false) (q : r.lookup k = o) : ((k', v) :: r).lookup k = o := by simp [List.lookup, h, q]
theorem lk_nil {k : Str} : ([] : List (Str × V)).lookup k = none := rfl
theorem pf_nil {k : Str} : putF k v [] = [(k, v)] := rfl
theorem pf_here {k : Str} {r : List (Str × V)} : putF k y ((k, v) :: r) = (k, y) :: r := by simp [putF]
theorem pf_next {k g : Str} {r r' : List (Str × V)} (h : (g == k) = false) (q : putF k y r = r') : putF k y ((g, v) :: r) = (g, v) :: r' := by
  have h' : ¬ g = k := by simpa using h
  simp [putF, h', q]
end
/-! ### dicts by tuples of numbers -/
section
variable {X : Cx} {K : PySem.W.Frag} {σ : St} {H H' : Hp} {Q : VK} {td ty : TE} {a b : Addr} {kvs : List (List Key × V)} {l : Nat} {s : Int} {v x y : V}
theorem r_dputT {R : Hp → Prop} {i j : Int} (hd : H a = some (.dT kvs)) (hb : H b = some (.tup [.int i, .int j])) (hl : kvs.length ≤ 10000000) (q : ∀ H', Keep (At a) H H' → H' a = some (.dT (putK kvs [Sum.inl i, Sum.inl j] v)) → R H') : uDPut (.ref a) (.ref b) v H R :=
  ⟨a, _, rfl, DPut.t (k := [Sum.inl i, Sum.inl j]) hd hb (by rw [sizeLine_eq]; omega), q _ Keep.at_ upd_same⟩
def uDG1 (ty : TE) (σ : St) (x : V) (H : Hp) (Q : VK) : Prop := ∃ a, x = .ref a ∧ IsD H a ∧ ty σ H fun y H2 => ∃ o, DGet H2 a y o ∧ Q (o.getD .non) H2
def uDG2 (a : Addr) (y : V) (H : Hp) (Q : VK) : Prop := ∃ o, DGet H a y o ∧ Q (o.getD .non) H
theorem r_dget1 (q : td σ H fun x H1 => uDG1 ty σ x H1 Q) : tDGet1 td ty σ H Q := q
theorem r_dg1T (hd : H a = some (.dT kvs)) (q : ty σ H fun y H2 => uDG2 a y H2 Q) : uDG1 ty σ (.ref a) H Q := ⟨a, rfl, .inr ⟨kvs, .inl hd⟩, q⟩
theorem r_dg2T {i j : Int} (hd : H a = some (.dT kvs)) (hb : H b = some (.tup [.int i, .int j])) (q : Q ((valV kvs [Sum.inl i, Sum.inl j]).getD .non) H) : uDG2 a (.ref b) H Q :=
  ⟨_, DGet.t (k := [Sum.inl i, Sum.inl j]) hd hb, q⟩
theorem r_dg1K {m : Prs} (hd : H a = some (.dK (m.map inj))) (q : ty σ H fun y H2 => uDG2 a y H2 Q) : uDG1 ty σ (.ref a) H Q := ⟨a, rfl, .inl ⟨_, .inl hd⟩, q⟩
theorem r_dg2K {m : Prs} {i : Int} (hd : H a = some (.dK (m.map inj))) (q : Q (((valP m i).map V.int).getD .non) H) : uDG2 a (.int i) H Q := by
  refine ⟨_, DGet.k (k := Sum.inl i) hd, ?_⟩
  rw [val_inj]
  exact q
/-- (x,) * k -/
theorem r_repT {xs : List V} {k : Int} (h : SqT K H a xs) (hn : xs ≠ []) (hk : 2 ≤ k ∧ k ≤ 1000) (hl : xs.length ≤ 1000) (q : ∀ p H', H p = none → Same H H' → H' p = some (.tup (List.replicate k.toNat xs).flatten) → Q (.ref p) H') : rRepT K (.ref a) (.int k) H Q :=
  ⟨a, k, xs, rfl, rfl, h, hn, hk.1, hk.2, hl, fun p hp => q p _ hp (Keep.same (Keep.new hp)) upd_same⟩
end
/-! ### x or y, whatever they are -/
section
variable {X : Cx} {σ : St} {H H' : Hp} {Q : VK} {ta tb : TE} {a : Expr} {b : Expr} {rest : List Expr} {pos : Pos} {p : Addr} {xs : List V}
theorem peK_orT (K : PySem.W.Frag) (ha : PE X a ta) (hb : PE X (.BoolOp .Or (b :: rest) pos) tb) (hK : X.K = K := by rfl) : PE X (.BoolOp .Or (a :: b :: rest) pos) (tOrT K ta tb) := hK ▸ pe_orT ha hb
def uOrT (K : PySem.W.Frag) (tb : TE) (σ : St) (x : V) (H : Hp) (Q : VK) : Prop := ∃ k, TruV K x H k ∧ if k = true then Q x H else tb σ H Q
theorem r_orT {K : PySem.W.Frag} (q : ta σ H fun x H1 => uOrT K tb σ x H1 Q) : tOrT K ta tb σ H Q := q
theorem r_orTn {K : PySem.W.Frag} (q : tb σ H Q) : uOrT K tb σ .non H Q := ⟨false, rfl, by rw [if_neg (by decide)]; exact q⟩
theorem r_orTt {K : PySem.W.Frag} (h : SqT K H p xs) (q1 : xs ≠ [] → Q (.ref p) H) (q2 : xs = [] → tb σ H Q) : uOrT K tb σ (.ref p) H Q := by
  refine ⟨!xs.isEmpty, .inr (.inl ⟨xs, h, rfl⟩), ?_⟩
  cases xs with
  | nil => rw [if_neg (by decide)]; exact q2 rfl
  | cons x r => rw [if_pos (show (!(x :: r).isEmpty) = true from rfl)]; exact q1 (by simp)
theorem r_dnewT (q : ∀ p H', H p = none → Same H H' → H' p = some (.dT []) → Q (.ref p) H') : tDNewT σ H Q := fun p hp => q p _ hp (Keep.same (Keep.new hp)) upd_same
end
/-! ### a sample put into a curve -/
def insC (c : Prs) (t h : Int) : Prs := (c.filter fun p => decide (p.1 < t)) ++ (t, h) :: (c.filter fun p => decide (t < p.1))
theorem insC_mem {c : Prs} {t h : Int} {p : Int × Int} : p ∈ insC c t h ↔ p = (t, h) ∨ (p ∈ c ∧ p.1 ≠ t) := by
  unfold insC
  simp only [List.mem_append, List.mem_cons, List.mem_filter, decide_eq_true_eq]
  constructor
  · rintro (⟨h1, h2⟩ | h1 | ⟨h1, h2⟩)
    · exact .inr ⟨h1, by omega⟩
    · exact .inl h1
    · exact .inr ⟨h1, by omega⟩
  · rintro (h1 | ⟨h1, h2⟩)
    · exact .inr (.inl h1)
    · by_cases z : p.1 < t
      · exact .inl ⟨h1, z⟩
      · exact .inr (.inr ⟨h1, by omega⟩)
theorem insC_up {c : Prs} (hc : c.Pairwise fun p q => p.1 < q.1) (t h : Int) : (insC c t h).Pairwise fun p q => p.1 < q.1 := by
  unfold insC
  rw [List.pairwise_append]
  refine ⟨hc.sublist List.filter_sublist, List.pairwise_cons.mpr ⟨fun p hp => ?_, hc.sublist List.filter_sublist⟩, fun p hp q hq => ?_⟩
  · simpa using (List.mem_filter.mp hp).2
  · have h1 : p.1 < t := by simpa using (List.mem_filter.mp hp).2
    rcases List.mem_cons.mp hq with rfl | hq
    · exact h1
    · have h2 : t < q.1 := by simpa using (List.mem_filter.mp hq).2
      omega
theorem beside_of {c c' : Prs} {t : Int} (hc : c.Pairwise fun p q => p.1 < q.1) (hc' : c'.Pairwise fun p q => p.1 < q.1) (h : ∀ p : Int × Int, p.1 ≠ t → (p ∈ c' ↔ p ∈ c)) : Beside t c c' := by
  intro b e hn
  refine up_ext (hc'.sublist List.filter_sublist) (hc.sublist List.filter_sublist) fun p => ?_
  unfold partL
  rw [List.mem_filter, List.mem_filter]
  by_cases z : p.1 = t
  · simp only [Bool.and_eq_true, decide_eq_true_eq]
    constructor
    · rintro ⟨_, h1, h2⟩; exact absurd ⟨by omega, by omega⟩ hn
    · rintro ⟨_, h1, h2⟩; exact absurd ⟨by omega, by omega⟩ hn
  · rw [h p z]
theorem insC_beside {c : Prs} (hc : c.Pairwise fun p q => p.1 < q.1) (t h : Int) : Beside t c (insC c t h) := beside_of hc (insC_up hc t h) fun p hp => by
  rw [insC_mem]
  constructor
  · rintro (z | z)
    · exact absurd (by rw [z]) hp
    · exact z.1
  · exact fun z => .inr ⟨z, hp⟩
theorem insC_take {c : Prs} (hc : c.Pairwise fun p q => p.1 < q.1) {i : Nat} {q : Int × Int} (h : c[i]? = some q) : insC (c.take i) q.1 q.2 = c.take (i + 1) := by
  have h1 := hc.sublist (List.take_sublist i c)
  refine up_ext (insC_up h1 _ _) (hc.sublist (List.take_sublist _ c)) fun p => ?_
  rw [insC_mem, take_snoc h, List.mem_append, List.mem_singleton]
  have hs := hc.sublist (List.take_sublist (i + 1) c)
  rw [take_snoc h, List.pairwise_append] at hs
  constructor
  · rintro (h2 | ⟨h2, _⟩)
    · exact .inr h2
    · exact .inl h2
  · rintro (h2 | h2)
    · have := hs.2.2 p h2 q (by simp)
      exact .inr ⟨h2, by omega⟩
    · exact .inl h2
theorem fourInv_nil (K : PySem.W.Frag) (H : Hp) : FourInv K H [] [] := fun l s _ => by
  rw [if_neg (by omega)]
  exact .none
end Fp
/-! ### t[::-1] of a tuple -/
namespace FpRev
open PySem PySem.Spec PyProof.Rows HT
section
variable {prog : Program} {w : World} {A : Around} {E : Value → Shared → Prop} {s : Shared}
theorem adj (n : Nat) : Builtin.Slice.sliceAdjust none none (-1) (n : Int) = ((n : Int) - 1, -1) := by
  unfold Builtin.Slice.sliceAdjust
  simp
theorem plc (n : Nat) : Builtin.Slice.slicePlaces ((n : Int) - 1) (-1) (-1) = n := by
  unfold Builtin.Slice.slicePlaces
  simp
  try omega
theorem applied {sp : Addr} {va vb : Value} {tk : Tok} {n : Nat} {Q : Int × Int × Nat → Shared → Prop} (hs : s.heap.IsSliceOf sp va vb (.int (-1) tk)) (pa : IsPart va none) (pb : IsPart vb none)
    (h : Q ((n : Int) - 1, -1, n) s) : wpAny (model prog w) A (Builtin.Slice.sliceApplied (.ref sp) (pure (n : Int))) Q E s := by
  obtain ⟨ob, h1, h2, h3⟩ := id hs
  unfold Builtin.Slice.sliceApplied Builtin.Slice.sliceFields
  refine wpAny_bind (wpAny_bind (wpAny_field h1 h3 (x := va) rfl (wpAny_bind (wpAny_field h1 h3 (x := vb) rfl (wpAny_bind (wpAny_field h1 h3 (x := .int (-1) tk) rfl (wpAny_pure ?_)))))))
  refine wpAny_bind (slicePart_int ?_)
  show wpAny _ _ (if ((-1 : Int) == 0) = true then _ else _) _ _ s
  rw [if_neg (by decide)]
  refine wpAny_bind (slicePart_ pa (wpAny_bind (slicePart_ pb (wpAny_bind (wpAny_pure ?_)))))
  show wpAny _ _ (match Builtin.Slice.sliceAdjust none none (-1) (n : Int) with | (a, b) => pure (a, (-1 : Int), Builtin.Slice.slicePlaces a b (-1))) _ _ s
  rw [adj n]
  show wpAny _ _ (pure ((n : Int) - 1, (-1 : Int), Builtin.Slice.slicePlaces ((n : Int) - 1) (-1) (-1))) _ _ s
  rw [plc]
  exact wpAny_pure h
theorem pickR (xs : Array Value) : ((List.range xs.size).filterMap fun (m : Nat) => xs[(((xs.size : Int) - 1) + (m : Int) * (-1)).toNat]?).toArray = xs.toList.reverse.toArray := by
  congr 1
  have e : ∀ n, n ≤ xs.size → ((List.range n).filterMap fun (m : Nat) => xs[(((xs.size : Int) - 1) + (m : Int) * (-1)).toNat]?) = xs.toList.reverse.take n := by
    intro n
    induction n with
    | zero => intro _; simp
    | succ n ih =>
      intro hn
      rw [List.range_succ, List.filterMap_append, ih (by omega)]
      have h1 : (((xs.size : Int) - 1) + (n : Int) * (-1)).toNat = xs.size - 1 - n := by omega
      have h2 : xs.toList.reverse[n]? = some (xs[xs.size - 1 - n]'(by omega)) := by
        rw [List.getElem?_reverse (by rw [Array.length_toList]; omega)]
        simp
      rw [take_snocR h2]
      congr 1
      simp only [List.filterMap_cons, List.filterMap_nil, h1]
      rw [Array.getElem?_eq_getElem (by omega)]
  rw [e _ (Nat.le_refl _), List.take_of_length_le (by simp)]
where
  take_snocR {l : List Value} {n : Nat} {x : Value} (h : l[n]? = some x) : l.take (n + 1) = l.take n ++ [x] := Fp.take_snoc h
theorem tup_rev {tp sp : Addr} {its : Array Value} {va vb : Value} {tk : Tok} {Q : Value → Shared → Prop} (ht : IsTup s.heap tp its) (hs : s.heap.IsSliceOf sp va vb (.int (-1) tk)) (pa : IsPart va none) (pb : IsPart vb none)
    (h : Q (.ref s.heap.objs.size) { s with heap := s.heap.push { cls := .type "tuple", data := .seq its.toList.reverse.toArray } }) (hz : its.size ≤ sizeLine) : wpAny (model prog w) A (getItem (.ref tp) (.ref sp)) Q E s := by
  have hsz : sizeOk (.seq its.toList.reverse.toArray) := by
    show its.toList.reverse.toArray.size ≤ sizeLine
    rw [List.size_toArray, List.length_reverse, Array.length_toList]
    exact hz
  obtain ⟨ob, h1, h2, h3⟩ := id hs
  have hS : s.TypeIs (.ref sp) "slice" := ⟨ob, h1, h2⟩
  unfold getItem
  try with_reducible refine wpAny_holding ?_
  first | refine wpAny_bind (wpAny_pure ?_) | skip
  refine wpAny_bind (wpAny_sequenceKey ht.typeIs (by decide) ?_)
  refine wpAny_bind (wpAny_callSpecial?_slot (name := Str.ofString "__getitem__") ht.typeIs PyProof.Rows.slot_tuple_getitem (wpAny_call_entry PyProof.Rows.slot_tuple_getitem ht.typeIs entry_tuple_getitem ?_ (args_tuple_getitem _ _)))
  show wpAny _ _ (Builtin.Tuple.tupleItemsOf (.ref tp) >>= _) _ _ s
  refine wpAny_bind (tupleItemsOf_ ht ?_)
  refine wpAny_bind (wpAny_typeOf hS ?_)
  rw [if_pos (by decide)]
  refine wpAny_bind (applied hs pa pb ?_)
  have hno : ¬ ((((its.size : Int) - 1) == 0 && (-1 : Int) == 1 && its.size == its.size) = true) := by simp
  show wpAny _ _ (if (((its.size : Int) - 1) == 0 && (-1 : Int) == 1 && its.size == its.size) = true then _ else _) _ _ s
  rw [if_neg hno, pickR]
  first
    | exact wpAny_bind (m := Builtin.Tuple.tupleExact _) (wpAny_newObj_type (wpAny_pure ⟨_, rfl, wpAny_pure h⟩) hsz)
    | exact wpAny_bind (m := Builtin.Tuple.tupleExact _) (wpAny_newObj_type (wpAny_bind (wpAny_pure (wpAny_pure ⟨_, rfl, wpAny_pure h⟩))) hsz)
    | exact wpAny_bind (wpAny_bind (m := Builtin.Tuple.tupleExact _) (wpAny_newObj_type (wpAny_pure (wpAny_pure ⟨_, rfl, wpAny_pure h⟩)) hsz))
    | exact wpAny_bind (wpAny_bind (m := Builtin.Tuple.tupleExact _) (wpAny_newObj_type (wpAny_pure ⟨_, rfl, wpAny_pure h⟩) hsz))
end
end FpRev
namespace Fp
open PySem PySem.Spec PyProof.Rows L2
section
variable {X : Cx} {K : PySem.W.Frag} {σ : St} {H : Hp} {Q : VK} {te : TE} {e : Expr} {a : Addr} {xs : List V}
def uRevT (K : PySem.W.Frag) (x : V) (H : Hp) (Q : VK) : Prop := ∃ a xs, x = .ref a ∧ SqT K H a xs ∧ ∀ p, H p = none → Q (.ref p) (upd H p (.tup xs.reverse))
def tRevT (K : PySem.W.Frag) (te : TE) : TE := fun σ H Q => te σ H fun x H1 => uRevT K x H1 Q
theorem peK_revT (K : PySem.W.Frag) {k : Nat} {p1 p2 p3 pos : Pos} (he : PE X e te) (hK : X.K = K := by rfl) : PE X (.Subscript e (.Slice none none (some (.UnaryOp .USub (.Constant (.int 1) k p1) p2)) p3) pos) (tRevT K te) := by
  subst hK
  refine ⟨fun pins s σ H Q I h => Subscript_ (thn (he.run pins s σ H _ I h) fun v s1 ⟨x, H1, I1, r1, q1⟩ => ?_)⟩
  obtain ⟨a, xs, ex, hx, q⟩ := q1
  subst ex
  cases r1
  have st : PO X (some (.UnaryOp .USub (.Constant (.int 1) k p1) p2)) (tPart (tUn (rU fun i => .int (-i)) (tC (.int 1)))) := po_some (pe_un un_neg pe_int)
  refine wpAny_Slice (thn (po_none.run pins s1 σ H1 (fun o H2 => o = none ∧ H2 = H1) I1 ⟨rfl, rfl⟩) fun va s2 ⟨l, H2, I2, pl, el, e2⟩ => ?_)
  subst el e2
  refine thn (po_none.run pins s2 σ H2 (fun o H3 => o = none ∧ H3 = H2) I2 ⟨rfl, rfl⟩) fun vb s3 ⟨u, H3, I3, pu, eu, e3⟩ => ?_
  subst eu e3
  refine thn (st.run pins s3 σ H3 (fun o H4 => o = some (-1) ∧ H4 = H3) I3 ⟨1, rfl, -1, rfl, rfl, rfl⟩) fun vc s4 ⟨o, H4, I4, ps, eo, e4⟩ => ?_
  subst eo e4
  cases ps with
  | int _ tk =>
  have I5 : Inv X pins σ H4 { s4 with heap := s4.heap.push { cls := .type "slice", data := .fields #[va, vb, .int (-1) tk] } } := I4.kept (t' := s4.toks) fun b ob q => Heap.get?_push_of_some _ q
  obtain ⟨its, r, ht, hz⟩ := I5.tuple hx
  have hlen : its.toArray.size = xs.length := by rw [List.size_toArray]; exact r.length.symm
  show wpAny (model X.prog X.w) X.A (subscriptTail e (.Slice none none (some (.UnaryOp .USub (.Constant (.int 1) k p1) p2)) p3) (.ref a) (.ref s4.heap.objs.size)) (EP X pins σ Q) X.xe { s4 with heap := s4.heap.push { cls := .type "slice", data := .fields #[va, vb, .int (-1) tk] } }
  refine tail_any (ops := [.ref a, .ref s4.heap.objs.size]) ht.typeIs (PyProof.Rows.slot_tuple_getitem.lookup) ?_ (by with_unfolding_all rfl)
  refine FpRev.tup_rev ht (Heap.IsSliceOf.new _ va vb _) pl pu ?_ (by rw [hlen]; exact hz)
  refine ⟨.ref _, _, I5.laid (t' := s4.toks) (o := .tup xs.reverse) (fun b ob q => Heap.get?_push_of_some _ q) (Nat.le_refl _) ?_, rfl, q _ (I5.hok.fresh (Nat.le_refl _))⟩
  exact ⟨by rw [List.length_reverse]; exact hz, _, r.reverse, IsTup.new _ _⟩
theorem r_revT (q : te σ H fun x H1 => uRevT K x H1 Q) : tRevT K te σ H Q := q
theorem r_revt (h : SqT K H a xs) (q : ∀ p H', H p = none → Same H H' → H' p = some (.tup xs.reverse) → Q (.ref p) H') : uRevT K (.ref a) H Q := ⟨a, xs, rfl, h, fun p hp => q p _ hp (Keep.same (Keep.new hp)) upd_same⟩
end
end Fp
/-! more of dicts by numbers: pop, in, clear, copies, items sorted; lists of pairs sorted -/
namespace Fp
open PySem PySem.Spec PyProof.Rows L2
/-! ### lists of pairs, sorted -/
theorem lexB_irr (p : Int × Int) : SrtO.lexB p p = false := SrtO.lexB_no.mpr (by omega)
abbrev Lex (l : Prs) : Prop := SrtO.Srtd SrtO.lexB l
theorem dp_pair_inj {X : Cx} {pins : List (Addr × Obj)} {σ : St} {H : Hp} {s : Shared} (I : Inv X pins σ H s) {v : V} {p q : Int × Int} (h1 : Dp X.K H v (pairP p)) (h2 : Dp X.K H v (pairP q)) : p = q := by
  obtain ⟨a, rfl, e1⟩ := dp_pair h1
  obtain ⟨b, e, e2⟩ := dp_pair h2
  cases e
  have z := I.tuple_inj e1 e2
  simp only [List.cons.injEq, V.int.injEq, and_true] at z
  exact Prod.ext z.1 z.2
open Classical in
noncomputable def keyOf (K : PySem.W.Frag) (H : Hp) (v : V) : Int × Int := if h : ∃ p, Dp K H v (pairP p) then choose h else (0, 0)
theorem keyOf_is {X : Cx} {pins : List (Addr × Obj)} {σ : St} {H : Hp} {s : Shared} (I : Inv X pins σ H s) {v : V} {p : Int × Int} (h : Dp X.K H v (pairP p)) : keyOf X.K H v = p := by
  have ex : ∃ p, Dp X.K H v (pairP p) := ⟨p, h⟩
  unfold keyOf
  rw [dif_pos ex]
  exact dp_pair_inj I (Classical.choose_spec ex) h
theorem dpAll_keys {X : Cx} {pins : List (Addr × Obj)} {σ : St} {H : Hp} {s : Shared} (I : Inv X pins σ H s) : ∀ {ws : List V} {l : Prs}, DpAll X.K H ws (l.map pairP) → ws.map (keyOf X.K H) = l
  | _, [], .nil => rfl
  | _, p :: l, .cons h1 h2 => by rw [List.map_cons, keyOf_is I h1, dpAll_keys I h2]
theorem dpAll_of_keys {K : PySem.W.Frag} {H : Hp} (f : V → Int × Int) : ∀ {ws : List V}, (∀ x ∈ ws, Dp K H x (pairP (f x))) → DpAll K H ws ((ws.map f).map pairP)
  | [], _ => .nil
  | x :: r, h => .cons (h x (List.mem_cons_self ..)) (dpAll_of_keys f fun y hy => h y (List.mem_cons_of_mem _ hy))
theorem isPair_of {X : Cx} {pins : List (Addr × Obj)} {σ : St} {H : Hp} {s : Shared} (I : Inv X pins σ H s) {a : Addr} {p : Int × Int} (h : Dp X.K H (.ref a) (pairP p)) : Srt.IsPair s.heap (.ref a) p.1 p.2 := by
  obtain ⟨b, e, h1⟩ := dp_pair h
  cases e
  obtain ⟨its, r, ⟨o, ho, hc, n, hd⟩, _⟩ := I.tuple h1
  obtain ⟨u1, u2, rfl, ri, rj⟩ := vals2 r
  obtain ⟨t1, rfl⟩ := ri
  obtain ⟨t2, rfl⟩ := rj
  exact ⟨a, o, t1, t2, n, rfl, ho, hc, hd⟩
def uSortedPD (K : PySem.W.Frag) : List V → Hp → VK → Prop := fun vs H Q => ∃ (a : Addr) (ws : List V) (l : Prs), vs = [.ref a] ∧ SqL K H a ws ∧ DpAll K H ws (l.map pairP) ∧
  ∀ (ys : List V) (l' : Prs) (p : Addr), Lex l' → l'.Perm l → DpAll K H ys (l'.map pairP) → H p = none → Q (.ref p) (upd H p (.lst ys))
theorem c_sortedPD {X : Cx} : CallR X (.builtin "sorted") (uSortedPD X.K) := by
  intro pins s σ H vs us Q I r h
  obtain ⟨a, ws, l, rfl, hs, hd, q⟩ := h
  obtain ⟨its, rv, hl, hz⟩ := I.list hs
  obtain ⟨u, rfl, ru⟩ := vals1 r
  obtain rfl : u = Value.ref a := ru
  have isr : ∀ x ∈ ws, ∃ t p, x = V.ref t ∧ Dp X.K H x (pairP p) := fun x m => by
    obtain ⟨i, hi⟩ := List.getElem?_of_mem m
    obtain ⟨p, _, h2⟩ := dpAll_map_at hd hi
    obtain ⟨t, e, _⟩ := dp_pair h2
    exact ⟨t, p, e, h2⟩
  obtain ⟨e1, e2⟩ := refs_back rv fun x m => by
    obtain ⟨t, _, e, _⟩ := isr x m
    exact ⟨t, e⟩
  refine SrtO.sorted_pairsO (k := fun u => keyOf X.K H (backV u)) hl.isList (by rw [← rv.length]; exact hz) (fun v hv => ?_) fun h' d out h1 h2 kp hd2 hn => ?_
  · obtain ⟨t, rfl⟩ := e2 v hv
    have hm : V.ref t ∈ ws := by rw [e1]; exact List.mem_map.mpr ⟨_, hv, rfl⟩
    obtain ⟨t', p, e, hp⟩ := isr _ hm
    cases e
    show Srt.IsPair s.heap (.ref t) (keyOf X.K H (.ref t)).1 (keyOf X.K H (.ref t)).2
    rw [keyOf_is I hp]
    exact isPair_of I hp
  · have h3 : ∀ u ∈ out, ∃ a, u = Value.ref a := fun u hu => e2 u (h2.perm.mem_iff.mp hu)
    obtain ⟨n, hn⟩ := hn
    have pm : (out.map backV).Perm ws := by rw [e1]; exact h2.perm.map backV
    refine ⟨.ref d, upd H d (.lst (out.map backV)), I.laid (t' := s.toks) kp hd2 ⟨?_, out, n, vals_back h3, hn⟩, rfl, q _ ((out.map backV).map (keyOf X.K H)) d ?_ ?_ (dpAll_of_keys _ fun x hx => ?_) (I.hok.fresh hd2)⟩
    · rw [pm.length_eq]
      exact hz
    · rw [List.map_map]
      exact SrtO.srtd_map h1
    · have := pm.map (keyOf X.K H)
      rw [dpAll_keys I hd] at this
      exact this
    · obtain ⟨t, p, e, hp⟩ := isr x (pm.mem_iff.mp hx)
      rw [keyOf_is I hp]
      exact hp
section
variable {K : PySem.W.Frag} {H : Hp} {Q : VK} {a : Addr}
theorem r_sortedPD {ws : List V} {l : Prs} (h : SqL K H a ws) (hd : DpAll K H ws (l.map pairP)) (q : ∀ (ys : List V) (l' : Prs) p H', Lex l' → l'.Perm l → H p = none → Same H H' → H' p = some (.lst ys) → DpAll K H' ys (l'.map pairP) → Q (.ref p) H') : uSortedPD K [.ref a] H Q :=
  ⟨a, ws, l, rfl, h, hd, fun ys l' p h1 h2 h3 h4 => q ys l' p _ h1 h2 h4 (Keep.same (Keep.new h4)) upd_same (DpAll.same (Keep.same (Keep.new h4)) _ _ h3)⟩
end
/-- sorted, no two of one time: a curve -/
theorem lex_up {l : Prs} (h : Lex l) (nd : (l.map (·.1)).Nodup) : l.Pairwise fun p q => p.1 < q.1 := by
  have h1 : l.Pairwise fun p q => SrtO.lexB q p = false := h
  have h2 : l.Pairwise fun p q => p.1 ≠ q.1 := by
    unfold List.Nodup at nd
    rwa [List.pairwise_map] at nd
  refine (List.Pairwise.and h1 h2).imp fun {p q} z => ?_
  have := SrtO.lexB_no.mp z.1
  have := z.2
  omega
/-! ### sorted(d.items()) -/
section
variable {X : Cx}
def uItems (x : V) (xs : List V) (H : Hp) (Q : VK) : Prop := ∃ (a : Addr) (kvs : List (Key × V)), x = .ref a ∧ xs = [] ∧ H a = some (.dK kvs) ∧ ∀ p, H p = none → Q (.ref p) (upd H p (L2.DX.itemsO p a))
theorem dk_raw {P : Program} {w : World} {H : Hp} {h : Heap} {a : Addr} {kvs : List (Key × V)} (ok : HOk P w H h) (e : H a = some (.dK kvs)) :
    kvs.length ≤ sizeLine ∧ (a == sysModules) = false ∧ ∃ vs, KV kvs vs ∧ ∃ es ep, DT.Raw h a es ep ∧ PySem.Pairs (mixKind P w) es.toList vs := by
  obtain ⟨z, hd, vs, rel, o, es, ep, h1, h2, h3, h4, h5, h6⟩ := dk_of ok e
  exact ⟨z, hd, vs, rel, es, ep, ⟨o, h1, h2, h3⟩, h5⟩
theorem mt_items : MtR X "dict.items" uItems := by
  intro pins s σ H x xs v us Q I rx rxs h
  obtain ⟨a, kvs, rfl, rfl, ha, q⟩ := h
  cases rx
  cases rxs
  obtain ⟨z, hd, vs, rel, es, ep, raw, _⟩ := dk_raw I.hok ha
  refine DT.callItems (es := es) (ep := ep) hd raw ?_
  have hf : H s.heap.objs.size = none := I.hok.fresh (Nat.le_refl _)
  exact ⟨.ref s.heap.objs.size, _, I.laid (t' := s.toks) (fun b u e => Heap.get?_push_of_some _ e) (Nat.le_refl _) (L2.DX.itemsO_ok (Heap.get?_push_size _ rfl)), rfl, q _ hf⟩
end

theorem pairs_at {P : Program} {w : World} : ∀ {es : List DictEntry} {vs : List (Key × Value)}, PySem.Pairs (mixKind P w) es vs → ∀ {j : Nat} {e : DictEntry}, es[j]? = some e → ∃ kv, vs[j]? = some kv ∧ keyIs kv.1 e.key = true ∧ e.val = kv.2
  | _, _, .nil, j, e, hj => by simp at hj
  | _, _, .cons h1 h2 _, 0, e, hj => by
    simp only [List.getElem?_cons_zero, Option.some.injEq] at hj
    subst hj
    exact ⟨_, rfl, h1, h2⟩
  | _, _, .cons _ _ h, j + 1, e, hj => pairs_at h (j := j) (by simpa using hj)
theorem pairs_len {P : Program} {w : World} : ∀ {es : List DictEntry} {vs : List (Key × Value)}, PySem.Pairs (mixKind P w) es vs → es.length = vs.length
  | _, _, .nil => rfl
  | _, _, .cons _ _ h => by simp [pairs_len h]
theorem paired_at {α β : Type} {F : α → β → Prop} : ∀ {l : List α} {l' : List β}, Paired F l l' → ∀ {j : Nat} {y : β}, l'[j]? = some y → ∃ x, l[j]? = some x ∧ F x y
  | _, _, .nil, j, y, h => by simp at h
  | _, _, .cons f _, 0, y, h => by
    simp only [List.getElem?_cons_zero, Option.some.injEq] at h
    subst h
    exact ⟨_, rfl, f⟩
  | _, _, .cons _ t, j + 1, y, h => paired_at t (j := j) (by simpa using h)
theorem isPair_inj {h : Heap} {v : Value} {x y x' y' : Int} (a : Srt.IsPair h v x y) (b : Srt.IsPair h v x' y') : x = x' ∧ y = y' := by
  obtain ⟨c, o, t, u, n, rfl, ho, _, hd⟩ := a
  obtain ⟨c', o', t', u', n', e, ho', _, hd'⟩ := b
  cases e
  rw [ho] at ho'
  cases ho'
  rw [hd] at hd'
  simp at hd'
  exact ⟨hd'.1.1.1, hd'.1.2.1⟩
open Classical in
noncomputable def keyAt (h : Heap) (v : Value) : Int × Int := if z : ∃ p : Int × Int, Srt.IsPair h v p.1 p.2 then choose z else (0, 0)
theorem keyAt_is {h : Heap} {v : Value} {p : Int × Int} (a : Srt.IsPair h v p.1 p.2) : keyAt h v = p := by
  have ex : ∃ p : Int × Int, Srt.IsPair h v p.1 p.2 := ⟨p, a⟩
  unfold keyAt
  rw [dif_pos ex]
  obtain ⟨z1, z2⟩ := isPair_inj (Classical.choose_spec ex) a
  exact Prod.ext z1 z2
theorem list_ext_at {α : Type} {l m : List α} (hl : l.length = m.length) (h : ∀ (j : Nat) (x y : α), l[j]? = some x → m[j]? = some y → x = y) : l = m := by
  refine List.ext_getElem hl fun j h1 h2 => h j _ _ (List.getElem?_eq_getElem h1) (List.getElem?_eq_getElem h2)
def uSortedIt : List V → Hp → VK → Prop := fun vs H Q => ∃ (p a : Addr) (m : Prs), vs = [.ref p] ∧ H p = some (L2.DX.itemsO p a) ∧ H a = some (.dK (m.map inj)) ∧ m.length ≤ 100000 ∧
  ∀ (H' : Hp) (l : Addr) (ys : List V) (l' : Prs), Lex l' → l'.Perm m → H l = none → Same H H' → H' l = some (.lst ys) → RawP H' ys l' → Q (.ref l) H'
theorem c_sortedIt {X : Cx} (hc : X.calm = true) : CallR X (.builtin "sorted") uSortedIt := by
  intro pins s σ H vs us Q I r h
  obtain ⟨p, a, m, rfl, hp, ha, hm, q⟩ := h
  obtain rfl := Vals.ref1 r
  have view : s.heap.IsItemsView p a := (show ObjOk X.prog X.w H s.heap p (L2.DX.itemsO p a) from I.hok p _ hp).1
  obtain ⟨z, hd, ws, rel, es, ep, raw, prs⟩ := dk_raw I.hok ha
  have l1 : m.length = ws.length := by have := Paired.length rel; rwa [List.length_map] at this
  have l2 : es.size = ws.length := by rw [← pairs_len prs, Array.length_toList]
  have hh : X.A.handled = none := I.ok.hd hc
  refine DT.sortedI (es := es) (ep := ep) hh view raw (by rw [sizeLine_eq]; omega) fun h' tk as hk hlt hl hG => ?_
  have lak : as.length = m.length := by omega
  have nd : as.Nodup := List.Pairwise.imp (fun h => Nat.ne_of_lt h) hG.rise
  have pr : ∀ (j : Nat) (b : Addr), as[j]? = some b → ∃ c : Int × Int, m[j]? = some c ∧ ∃ t u, h'.get? b = some { cls := .type "tuple", data := .seq #[Value.int c.1 t, Value.int c.2 u] } := by
    intro j b hj
    obtain ⟨en, he, hg⟩ := hG.pairs j b hj
    obtain ⟨kv, hkv, ek, ev⟩ := pairs_at prs (show es.toList[j]? = some en by simpa using he)
    obtain ⟨x, hx, ex, rx⟩ := paired_at rel hkv
    rw [List.getElem?_map] at hx
    obtain ⟨c, hc, rfl⟩ := Option.map_eq_some_iff.mp hx
    obtain ⟨u, eu⟩ : ∃ u, kv.2 = Value.int c.2 u := rx
    have ex : (Sum.inl c.1 : Key) = kv.1 := ex
    rcases keyIs_shape ek with ⟨i, t, e1, e2⟩ | ⟨_, _, e1, _⟩
    · rw [← ex] at e1
      cases e1
      exact ⟨c, hc, t, u, by rw [hg, e2, ev, eu]⟩
    · rw [← ex] at e1
      cases e1
  have hob : (h'.push { cls := .type "list", data := .seq (as.map Value.ref).toArray }).get? h'.objs.size = some (seqObj "list" (as.map Value.ref).toArray 0) := Heap.get?_push_size _ rfl
  have kb : ∀ b o, s.heap.get? b = some o → (h'.push { cls := .type "list", data := .seq (as.map Value.ref).toArray }).get? b = some o := fun b o e => Heap.get?_push_of_some _ (hk b o e)
  have ne0 : ∀ b o, h'.get? b = some o → b ≠ h'.objs.size := fun b o e => Nat.ne_of_lt (Heap.lt_size e)
  have ka : ∀ b o, h'.get? b = some o → (h'.push { cls := .type "list", data := .seq (as.map Value.ref).toArray }).get? b = some o := fun b o e => Heap.get?_push_of_some _ e
  generalize h'.push { cls := .type "list", data := .seq (as.map Value.ref).toArray } = h2 at hob kb ka ⊢
  have isp : ∀ (j : Nat) (b : Addr) (c : Int × Int), as[j]? = some b → m[j]? = some c → Srt.IsPair h2 (.ref b) c.1 c.2 := by
    intro j b c hj hc
    obtain ⟨c', hc', t, u, hg⟩ := pr j b hj
    rw [hc] at hc'
    cases hc'
    exact ⟨b, _, t, u, 0, rfl, ka _ _ hg, rfl, rfl⟩
  have isv : ∀ v ∈ as.map Value.ref, Srt.IsPair h2 v (keyAt h2 v).1 (keyAt h2 v).2 := by
    intro v hv
    obtain ⟨b, hb, rfl⟩ := List.mem_map.mp hv
    obtain ⟨j, hj⟩ := List.getElem?_of_mem hb
    obtain ⟨c, hc, _⟩ := pr j b hj
    have := isp j b c hj hc
    rw [keyAt_is this]
    exact this
  have keys : (as.map Value.ref).map (keyAt h2) = m := by
    refine list_ext_at (by simpa using lak) fun j x y hx hy => ?_
    rw [List.map_map, List.getElem?_map] at hx
    obtain ⟨b, hb, rfl⟩ := Option.map_eq_some_iff.mp hx
    exact keyAt_is (isp j b y hb hy)
  refine wpAny_call_entry PyProof.Rows.slot_list_sort ⟨_, hob, rfl⟩ PyProof.Rows.entry_list_sort (SrtO.list_sort_ord (s := { s with heap := h2, toks := tk }) (ltv := fun v u => SrtO.lexB (keyAt h2 v) (keyAt h2 u)) (SrtO.swo_lex _) hob (by rw [List.length_map, sizeLine_eq]; omega)
    (fun h2' => SrtO.pairs_sortableO (s := { s with heap := h2, toks := tk }) (by omega) isv fun o e => ?_) fun out o1 o2 => ⟨.none, rfl, ?_⟩) (PyProof.Rows.args_list_sort _)
  · have e' : some o = some (seqObj "list" (as.map Value.ref).toArray 0) := e.symm.trans hob
    cases e'
    intro c
    exact absurd (Value.type.inj c) (by decide)
  show EP X pins σ Q (.ref h'.objs.size) { s with heap := sortedHeap h2 h'.objs.size (as.map Value.ref) out.toArray, toks := tk }
  have pm : out.Perm (as.map Value.ref) := o2.perm
  have allr : ∀ u ∈ out, ∃ a, u = Value.ref a := fun u hu => by
    obtain ⟨b, _, rfl⟩ := List.mem_map.mp (pm.mem_iff.mp hu)
    exact ⟨b, rfl⟩
  have kF : ∀ b o, b ≠ h'.objs.size → h2.get? b = some o → (sortedHeap h2 h'.objs.size (as.map Value.ref) out.toArray).get? b = some o := fun b o hb e => (PyProof.Rows.sortedHeap_old hb (Heap.lt_size e)).trans e
  have kS : ∀ b o, s.heap.get? b = some o → (sortedHeap h2 h'.objs.size (as.map Value.ref) out.toArray).get? b = some o := fun b o e => kF b o (ne0 _ _ (hk b o e)) (kb b o e)
  obtain ⟨eF, heF⟩ := PyProof.Rows.sortedHeap_at (vs := as.map Value.ref) (out := out.toArray) hob
  have I1 : Inv X pins σ H { s with heap := sortedHeap h2 h'.objs.size (as.map Value.ref) out.toArray, toks := tk } := I.kept (t' := tk) kS
  have hn0 : H h'.objs.size = none := I.hok.fresh (Nat.le_of_lt hlt)
  have hlen : (out.map backV).length ≤ sizeLine := by
    rw [List.length_map, pm.length_eq, List.length_map, sizeLine_eq]
    omega
  have I2 : Inv X pins σ (upd H h'.objs.size (.lst (out.map backV))) { s with heap := sortedHeap h2 h'.objs.size (as.map Value.ref) out.toArray, toks := tk } :=
    I1.take (h' := sortedHeap h2 h'.objs.size (as.map Value.ref) out.toArray) (t' := tk) (fun b ob _ e => e) (I.fpOk (Nat.le_of_lt hlt) hn0) ⟨hlen, out, eF, vals_back allr, heF⟩
  obtain ⟨H2, I3, g, qt⟩ := L2.DX.takeT (P := fun b vs => vs = [.int (keyAt h2 (.ref b)).1, .int (keyAt h2 (.ref b)).2]) I as _ I2 nd fun b hb => by
    obtain ⟨j, hj⟩ := List.getElem?_of_mem hb
    obtain ⟨c, hc, t, u, hg⟩ := pr j b hj
    have e : keyAt h2 (.ref b) = c := keyAt_is (isp j b c hj hc)
    have hbl : s.heap.objs.size ≤ b := Nat.le_of_lt (hG.above b hb)
    refine ⟨hbl, ?_, _, rfl, fun H3 => ⟨(by rw [sizeLine_eq]; show 2 ≤ 16777216; omega), [Value.int c.1 t, Value.int c.2 u], ?_, ⟨_, kF _ _ (ne0 _ _ hg) (ka _ _ hg), rfl, 0, rfl⟩⟩⟩
    · rw [upd_ne (ne0 _ _ hg)]
      exact I.hok.fresh hbl
    · rw [e]
      exact .cons ⟨t, rfl⟩ (.cons ⟨u, rfl⟩ .nil)
  have gr : ∀ b o, H b = some o → H2 b = some o := fun b o e => g b o (by rw [upd_ne (ne_of_none e hn0)]; exact e)
  refine ⟨.ref h'.objs.size, H2, I3, rfl, q H2 h'.objs.size (out.map backV) (out.map (keyAt h2)) (SrtO.srtd_map o1) (by rw [← keys]; exact pm.map _) hn0 gr (g _ _ upd_same) ?_⟩
  have all : ∀ u ∈ out, ∃ b, u = Value.ref b ∧ H2 b = some (.tup [.int (keyAt h2 u).1, .int (keyAt h2 u).2]) := fun u hu => by
    obtain ⟨b, hb, rfl⟩ := List.mem_map.mp (pm.mem_iff.mp hu)
    obtain ⟨vs, rfl, h2⟩ := qt b hb
    exact ⟨b, rfl, h2⟩
  have build : ∀ l : List Value, (∀ u ∈ l, ∃ b, u = Value.ref b ∧ H2 b = some (.tup [.int (keyAt h2 u).1, .int (keyAt h2 u).2])) → RawP H2 (l.map backV) (l.map (keyAt h2)) := by
    intro l
    induction l with
    | nil => intro _; exact .nil
    | cons u r ih =>
      intro hall
      obtain ⟨b, e, hb⟩ := hall u (List.mem_cons_self ..)
      refine .cons ⟨b, by rw [e]; rfl, hb⟩ (ih fun y hy => hall y (List.mem_cons_of_mem _ hy))
  exact build out all
section
variable {K : PySem.W.Frag} {H : Hp} {Q : VK} {a : Addr} {σ : St} {te : TE} {td ty tx : TE} {R : Hp → Prop} {v x y : V}
theorem r_items {m : Prs} (hd : H a = some (.dK (m.map inj))) (q : ∀ p H', H p = none → Same H H' → H' p = some (L2.DX.itemsO p a) → Q (.ref p) H') : uItems (.ref a) [] H Q :=
  ⟨a, _, rfl, rfl, hd, fun p hp => q p _ hp (Keep.same (Keep.new hp)) upd_same⟩
theorem r_sortedIt {p : Addr} {m : Prs} (hp : H p = some (L2.DX.itemsO p a)) (hd : H a = some (.dK (m.map inj))) (hm : m.length ≤ 100000)
    (q : ∀ l H' (ys : List V) (l' : Prs), Lex l' → l'.Perm m → H l = none → Same H H' → H' l = some (.lst ys) → RawP H' ys l' → Q (.ref l) H') : uSortedIt [.ref p] H Q := ⟨p, a, m, rfl, hp, hd, hm, fun H' l ys l' h1 h2 h3 h4 h5 h6 => q l H' ys l' h1 h2 h3 h4 h5 h6⟩
theorem r_bm0d {r : V → List V → Hp → VK → Prop} {kvs : List (Key × V)} (h : H a = some (.dK kvs)) (q : r (.ref a) [] H Q) : uBM0 K "dict" r (.ref a) H Q := ⟨.inr (.inr (.inl ⟨rfl, .inl ⟨kvs, h⟩⟩)), q⟩
end
/-! ### pop, in, clear, copies, update -/
def dropP (m : Prs) (t : Int) : Prs := m.filter fun p => decide (p.1 ≠ t)
theorem drop_inj (t : Int) : ∀ m : Prs, dropK (m.map inj) (Sum.inl t) = (dropP m t).map inj
  | [] => rfl
  | p :: m => by
    have ih := drop_inj t m
    unfold dropK dropP at *
    rw [List.map_cons, List.filter_cons, List.filter_cons, ih]
    by_cases e : p.1 = t
    · simp [e, inj]
    · simp [e, inj]
theorem mem_drop {m : Prs} {t : Int} {p : Int × Int} : p ∈ dropP m t ↔ p ∈ m ∧ p.1 ≠ t := by
  unfold dropP
  rw [List.mem_filter]
  simp
theorem nd_drop {m : Prs} (t : Int) (nd : (m.map (·.1)).Nodup) : ((dropP m t).map (·.1)).Nodup := nd.sublist (List.filter_sublist.map _)
theorem len_drop (m : Prs) (t : Int) : (dropP m t).length ≤ m.length := List.length_filter_le _ _
theorem valP_none {t : Int} : ∀ {m : Prs}, valP m t = none ↔ t ∉ m.map (·.1)
  | [] => by simp [valP]
  | p :: m => by
    by_cases e : p.1 = t
    · rw [valP_pos e]
      simp [e]
    · rw [valP_neg e, valP_none (m := m)]
      simp [Ne.symm e]
theorem val_put {m : Prs} (nd : (m.map (·.1)).Nodup) (t h k : Int) : valP (putP m t h) k = if k = t then some h else valP m k := by
  by_cases e : k = t
  · rw [if_pos e, e, valP_iff (nd_put t h nd), mem_put]
    exact .inl rfl
  · rw [if_neg e]
    cases z : valP m k with
    | none =>
      rw [valP_none] at z ⊢
      rw [keys_put]
      split
      · exact z
      · rw [List.mem_append, List.mem_singleton]
        rintro (y | y)
        · exact z y
        · exact e y
    | some v =>
      rw [valP_iff nd] at z
      rw [valP_iff (nd_put t h nd), mem_put]
      exact .inr ⟨z, e⟩
theorem val_drop {m : Prs} (nd : (m.map (·.1)).Nodup) (t k : Int) : valP (dropP m t) k = if k = t then none else valP m k := by
  by_cases e : k = t
  · rw [if_pos e, e, valP_none]
    intro z
    obtain ⟨p, hp, e2⟩ := List.mem_map.mp z
    exact (mem_drop.mp hp).2 e2
  · rw [if_neg e]
    cases z : valP m k with
    | none =>
      rw [valP_none] at z ⊢
      intro y
      obtain ⟨p, hp, e2⟩ := List.mem_map.mp y
      exact z (List.mem_map.mpr ⟨p, (mem_drop.mp hp).1, e2⟩)
    | some v =>
      rw [valP_iff nd] at z
      rw [valP_iff (nd_drop t nd), mem_drop]
      exact ⟨z, e⟩
section
variable {X : Cx} {K : PySem.W.Frag} {H : Hp} {Q : VK} {a b : Addr} {σ : St} {te : TE} {td ty tx : TE} {R : Hp → Prop} {v x y : V} {o : Expr} {apos cpos : Pos}
def uPop1b (a : Addr) (y : V) (H : Hp) (Q : VK) : Prop := ∃ kvs k v, H a = some (.dK kvs) ∧ y = kV k ∧ valV kvs k = some v ∧ Q v (upd H a (.dK (dropK kvs k)))
def uPop1 (ty : TE) (σ : St) (x : V) (H : Hp) (Q : VK) : Prop := ∃ a, x = .ref a ∧ IsD H a ∧ ty σ H fun y H2 => uPop1b a y H2 Q
theorem r_dpop1 (q : td σ H fun x H1 => uPop1 ty σ x H1 Q) : tDPop1 td ty σ H Q := q
theorem r_dpop1i {kvs : List (Key × V)} (hd : H a = some (.dK kvs)) (q : ty σ H fun y H2 => uPop1b a y H2 Q) : uPop1 ty σ (.ref a) H Q := ⟨a, rfl, .inl ⟨_, .inl hd⟩, q⟩
theorem r_dpop1k {m : Prs} {t h : Int} (hd : H a = some (.dK (m.map inj))) (e : valP m t = some h) (q : ∀ H', Keep (At a) H H' → H' a = some (.dK ((dropP m t).map inj)) → Q (.int h) H') : uPop1b a (.int t) H Q :=
  ⟨_, Sum.inl t, .int h, hd, rfl, by rw [val_inj, e]; rfl, q _ Keep.at_ (by rw [upd_same, drop_inj])⟩
def uPop2b (a : Addr) (y z : V) (H : Hp) (Q : VK) : Prop := ∃ kvs k, H a = some (.dK kvs) ∧ y = kV k ∧ (∀ v, valV kvs k = some v → Q v (upd H a (.dK (dropK kvs k)))) ∧ (valV kvs k = none → Q z H)
def uPop2 (ty tx : TE) (σ : St) (x : V) (H : Hp) (Q : VK) : Prop := ∃ a, x = .ref a ∧ IsD H a ∧ ty σ H fun y H2 => tx σ H2 fun z H3 => uPop2b a y z H3 Q
theorem r_dpop2 (q : td σ H fun x H1 => uPop2 ty tx σ x H1 Q) : tDPop2 td ty tx σ H Q := q
theorem r_dpop2i {kvs : List (Key × V)} (hd : H a = some (.dK kvs)) (q : ty σ H fun y H2 => tx σ H2 fun z H3 => uPop2b a y z H3 Q) : uPop2 ty tx σ (.ref a) H Q := ⟨a, rfl, .inl ⟨_, .inl hd⟩, q⟩
theorem r_dpop2k {m : Prs} {t : Int} {z : V} (hd : H a = some (.dK (m.map inj))) (q1 : ∀ h H', valP m t = some h → Keep (At a) H H' → H' a = some (.dK ((dropP m t).map inj)) → Q (.int h) H') (q2 : valP m t = none → Q z H) : uPop2b a (.int t) z H Q := by
  refine ⟨_, Sum.inl t, hd, rfl, fun v e => ?_, fun e => q2 ?_⟩
  · rw [val_inj] at e
    obtain ⟨h, e1, rfl⟩ := Option.map_eq_some_iff.mp e
    exact q1 h _ e1 Keep.at_ (by rw [upd_same, drop_inj])
  · rw [val_inj, Option.map_eq_none_iff] at e
    exact e
/-- d.pop(k, None) of a dict by pairs of numbers -/
theorem r_popT {kvs : List (List Key × V)} {i j : Int} {z : V} (hd : H a = some (.dT kvs)) (hb : H b = some (.tup [.int i, .int j])) (q1 : ∀ v H', valV kvs [Sum.inl i, Sum.inl j] = some v → Keep (At a) H H' → H' a = some (.dT (dropK kvs [Sum.inl i, Sum.inl j])) → Q v H')
    (q2 : valV kvs [Sum.inl i, Sum.inl j] = none → Q z H) : L2.DX.rPopT (.ref a) [.ref b, z] H Q :=
  ⟨a, kvs, [Sum.inl i, Sum.inl j], b, z, rfl, rfl, hd, hb, fun v e => q1 v _ e Keep.at_ upd_same, q2⟩
theorem r_bmdT {r : V → List V → Hp → VK → Prop} {t : TA} {kvs : List (List Key × V)} (h : H a = some (.dT kvs)) (q : t σ H fun xs H2 => r (.ref a) xs H2 Q) : uBM K "dict" r t σ (.ref a) H Q := ⟨.inr (.inr (.inl ⟨rfl, .inr ⟨kvs, h⟩⟩)), q⟩
theorem r_bmdK {r : V → List V → Hp → VK → Prop} {t : TA} {kvs : List (Key × V)} (h : H a = some (.dK kvs)) (q : t σ H fun xs H2 => r (.ref a) xs H2 Q) : uBM K "dict" r t σ (.ref a) H Q := ⟨.inr (.inr (.inl ⟨rfl, .inl ⟨kvs, h⟩⟩)), q⟩
def uDIn (y x : V) (H : Hp) (Q : VK) : Prop := ∃ a o, x = .ref a ∧ DGet H a y o ∧ Q (.bl o.isSome) H
def uDNotIn (y x : V) (H : Hp) (Q : VK) : Prop := ∃ a o, x = .ref a ∧ DGet H a y o ∧ Q (.bl (!o.isSome)) H
theorem r_din (q : ty σ H fun y H1 => td σ H1 fun x H2 => uDIn y x H2 Q) : tDIn ty td σ H Q := q
theorem r_dnotin (q : ty σ H fun y H1 => td σ H1 fun x H2 => uDNotIn y x H2 Q) : tDNotIn ty td σ H Q := q
theorem dget_n {m : Prs} {t : Int} (hd : H a = some (.dK (m.map inj))) : ∃ o, DGet H a (.int t) o ∧ o.isSome = (valP m t).isSome := ⟨_, DGet.k (k := Sum.inl t) hd, by rw [val_inj]; cases valP m t <;> rfl⟩
theorem r_dini {m : Prs} {t : Int} (hd : H a = some (.dK (m.map inj))) (q : Q (.bl (valP m t).isSome) H) : uDIn (.int t) (.ref a) H Q := by
  obtain ⟨o, h1, h2⟩ := dget_n (t := t) hd
  exact ⟨a, o, rfl, h1, by rw [h2]; exact q⟩
theorem r_dnotini {m : Prs} {t : Int} (hd : H a = some (.dK (m.map inj))) (q : Q (.bl (!(valP m t).isSome)) H) : uDNotIn (.int t) (.ref a) H Q := by
  obtain ⟨o, h1, h2⟩ := dget_n (t := t) hd
  exact ⟨a, o, rfl, h1, by rw [h2]; exact q⟩
theorem r_clear {kvs : List (Key × V)} (hd : H a = some (.dK kvs)) (q : ∀ H', Keep (At a) H H' → H' a = some (.dK []) → Q .non H') : rDClear (.ref a) [] H Q := ⟨a, kvs, rfl, rfl, hd, q _ Keep.at_ upd_same⟩
/-- dict(d) -/
def uDictD : List V → Hp → VK → Prop := fun xs H Q => ∃ (a : Addr) (kvs : List (Key × V)), xs = [.ref a] ∧ Rd H a (.dK kvs) ∧ ∀ p, H p = none → Q (.ref p) (upd H p (.dK kvs))
theorem c_dictD : CallR X (.type "dict") uDictD := call_dictD
theorem r_dictD {kvs : List (Key × V)} (hd : H a = some (.dK kvs)) (q : ∀ p H', H p = none → Same H H' → H' p = some (.dK kvs) → Q (.ref p) H') : uDictD [.ref a] H Q := ⟨a, kvs, rfl, .inl hd, fun p hp => q p _ hp (Keep.same (Keep.new hp)) upd_same⟩
/-- d.get(k, x) -/
def uDG2x (a : Addr) (y z : V) (H : Hp) (Q : VK) : Prop := ∃ o, DGet H a y o ∧ Q (o.getD z) H
def uDG2o (ty tx : TE) (σ : St) (x : V) (H : Hp) (Q : VK) : Prop := ∃ a, x = .ref a ∧ IsD H a ∧ ty σ H fun y H2 => tx σ H2 fun z H3 => uDG2x a y z H3 Q
theorem r_dget2 (q : td σ H fun x H1 => uDG2o ty tx σ x H1 Q) : tDGet2 td ty tx σ H Q := q
theorem r_dget2i {kvs : List (Key × V)} (hd : H a = some (.dK kvs)) (q : ty σ H fun y H2 => tx σ H2 fun z H3 => uDG2x a y z H3 Q) : uDG2o ty tx σ (.ref a) H Q := ⟨a, rfl, .inl ⟨_, .inl hd⟩, q⟩
theorem r_dget2k {m : Prs} {t : Int} {z : V} (hd : H a = some (.dK (m.map inj))) (q : Q (((valP m t).map V.int).getD z) H) : uDG2x a (.int t) z H Q := by
  refine ⟨_, DGet.k (k := Sum.inl t) hd, ?_⟩
  rw [val_inj]
  exact q
/-- d.update(e) -/
def uUpd (x : V) (xs : List V) (H : Hp) (Q : VK) : Prop := ∃ (a b : Addr) (kvs more : List (Key × V)), x = .ref a ∧ xs = [.ref b] ∧ a ≠ b ∧ H a = some (.dK kvs) ∧ H b = some (.dK more) ∧ kvs.length + more.length ≤ 1000000 ∧ Q .non (upd H a (.dK (mergeK kvs more)))
theorem mt_update : MtR X "dict.update" uUpd := by
  intro pins s σ H x xs v us Q I rx rxs h
  obtain ⟨a, b, kvs, more, rfl, rfl, hab, ha, hb, hz, q⟩ := h
  obtain rfl : v = Value.ref a := rx
  obtain rfl := Vals.ref1 rxs
  obtain ⟨z1, d1, vs1, rel1, dd1⟩ := dk_of I.hok ha
  obtain ⟨z2, d2, vs2, rel2, dd2⟩ := dk_of I.hok hb
  refine call_meetsIn PySem.F.slot_dict_update dd1.typeIs PySem.F.entry_dict_update (PySem.F.args_dict_update_2 _ _) (meets_dict_update (mixKind X.prog X.w) a b hab d2) ⟨vs1, vs2, dd1, dd2, by rw [← rel1.length, ← rel2.length, sizeLine_eq]; omega, fun h' dd' _ hs => ?_⟩
  have he : ∃ q, h'.get? a = some q := let ⟨q, _, _, hq, _⟩ := dd'; ⟨q, hq⟩
  have hl := length_mergeK more kvs
  exact ⟨.non, _, d_write (t' := s.toks) I (by rw [ha]; exact True.intro) hs he (dk_new (by rw [sizeLine_eq]; omega) d1 (KV.merge rel2 rel1) dd'), rfl, q⟩
theorem r_update {m more : Prs} (ha : H a = some (.dK (m.map inj))) (hb : H b = some (.dK (more.map inj))) (hab : a ≠ b) (hl : m.length + more.length ≤ 1000000) (q : ∀ H', Keep (At a) H H' → H' a = some (.dK ((mergeP m more).map inj)) → Q .non H') : uUpd (.ref a) [.ref b] H Q :=
  ⟨a, b, _, _, rfl, rfl, hab, ha, hb, by simpa using hl, q _ Keep.at_ (by rw [upd_same, merge_inj])⟩
/-- len(d) -/
def uLenD : List V → Hp → VK → Prop := fun xs H Q => ∃ (a : Addr) (kvs : List (Key × V)), xs = [.ref a] ∧ Rd H a (.dK kvs) ∧ Q (.int kvs.length) H
theorem c_lenD : CallR X (.builtin "len") uLenD := by
  intro pins s σ H xs us Q I r h
  obtain ⟨a, kvs, rfl, hd, q⟩ := h
  obtain rfl := Vals.ref1 r
  exact d_len I hd fun t s' I' => ⟨.int kvs.length, H, I', ⟨t, rfl⟩, q⟩
theorem r_lenD {m : Prs} (hd : H a = some (.dK (m.map inj))) (q : Q (.int m.length) H) : uLenD [.ref a] H Q := ⟨a, _, rfl, .inl hd, by rw [List.length_map]; exact q⟩
end
/-! ### xs == [], whatever the list holds -/
section
variable {X : Cx} {K : PySem.W.Frag} {H : Hp} {Q : VK} {a b : Addr} {xs : List V}
def uEqNil (K : PySem.W.Frag) : R2 := fun x y H Q => ∃ a b xs, x = .ref a ∧ y = .ref b ∧ SqL K H a xs ∧ SqL K H b [] ∧ Q (.bl (decide (xs = []))) H
def uNeNil (K : PySem.W.Frag) : R2 := fun x y H Q => ∃ a b xs, x = .ref a ∧ y = .ref b ∧ SqL K H a xs ∧ SqL K H b [] ∧ Q (.bl (!decide (xs = []))) H
theorem o_eqNil (hu : X.A.units + 64 < cLine) : OpR X (compareOp .Eq) (uEqNil X.K) := by
  intro pins s σ H x y v u Q I rx ry h
  obtain ⟨a, b, xs, rfl, rfl, h1, h2, q⟩ := h
  obtain rfl : v = Value.ref a := rx
  obtain rfl : u = Value.ref b := ry
  obtain ⟨i1, r1, l1, z1⟩ := I.list h1
  obtain ⟨i2, r2, l2, z2⟩ := I.list h2
  cases r2
  have hl := r1.length
  cases xs with
  | nil =>
    cases r1
    exact SeqAt.eq_listAt (e := fun _ => true) l1.isList l2.isList rfl (by omega) (fun j h1 _ => by simp at h1) ⟨.bl true, H, I, rfl, q⟩
  | cons x r =>
    refine SeqAt.eq_list_lengthsAt l1.isList l2.isList ?_ (by omega) ⟨.bl false, H, I, rfl, q⟩
    rw [List.size_toArray, ← hl]
    simp
theorem o_neNil (hu : X.A.units + 64 < cLine) : OpR X (compareOp .NotEq) (uNeNil X.K) := by
  intro pins s σ H x y v u Q I rx ry h
  obtain ⟨a, b, xs, rfl, rfl, h1, h2, q⟩ := h
  obtain rfl : v = Value.ref a := rx
  obtain rfl : u = Value.ref b := ry
  obtain ⟨i1, r1, l1, z1⟩ := I.list h1
  obtain ⟨i2, r2, l2, z2⟩ := I.list h2
  cases r2
  have hl := r1.length
  cases xs with
  | nil =>
    cases r1
    exact SeqAt.RcNeAt.lists (e := fun _ => true) l1.isList l2.isList rfl (by omega) (fun j h1 _ => by simp at h1) X.prog X.w _ _ ⟨.bl false, H, I, rfl, q⟩
  | cons x r =>
    refine SeqAt.RcNeAt.lists_lengths l1.isList l2.isList ?_ (by omega) X.prog X.w _ _ ⟨.bl true, H, I, rfl, q⟩
    rw [List.size_toArray, ← hl]
    simp
theorem r_eqNil (h1 : SqL K H a xs) (h2 : SqL K H b []) (q : Q (.bl (decide (xs = []))) H) : uEqNil K (.ref a) (.ref b) H Q := ⟨a, b, xs, rfl, rfl, h1, h2, q⟩
theorem r_neNil (h1 : SqL K H a xs) (h2 : SqL K H b []) (q : Q (.bl (!decide (xs = []))) H) : uNeNil K (.ref a) (.ref b) H Q := ⟨a, b, xs, rfl, rfl, h1, h2, q⟩
end
end Fp
/-! stores: plain; what stands where -/
namespace Fp
open PySem PySem.Spec PyProof.Rows L2
/-- a curve of tree times -/
structure Crv (c : Prs) : Prop where
  up : c.Pairwise fun p q => p.1 < q.1
  rg : ∀ q ∈ c, -1099511627776 ≤ q.1 ∧ q.1 < 1099511627776
theorem Crv.nil : Crv [] := ⟨.nil, by simp⟩
theorem Crv.ext {c c' : Prs} (h : Crv c) (h' : Crv c') (e : ∀ p, p ∈ c ↔ p ∈ c') : c = c' := up_ext h.up h'.up e
def setC (c : Prs) (t : Int) : Option Int → Prs
  | none => dropP c t
  | some h => insC c t h
theorem setC_mem {c : Prs} {t : Int} {o : Option Int} {p : Int × Int} : p ∈ setC c t o ↔ (o = some p.2 ∧ p.1 = t) ∨ (p ∈ c ∧ p.1 ≠ t) := by
  cases o with
  | none =>
    show p ∈ dropP c t ↔ _
    rw [mem_drop]
    simp
  | some h =>
    show p ∈ insC c t h ↔ _
    rw [insC_mem]
    constructor
    · rintro (rfl | z)
      · exact .inl ⟨rfl, rfl⟩
      · exact .inr z
    · rintro (⟨z1, z2⟩ | z)
      · left
        cases z1
        exact Prod.ext z2 rfl
      · exact .inr z
theorem setC_up {c : Prs} (hc : c.Pairwise fun p q => p.1 < q.1) (t : Int) (o : Option Int) : (setC c t o).Pairwise fun p q => p.1 < q.1 := by
  cases o with
  | none => exact hc.sublist List.filter_sublist
  | some h => exact insC_up hc t h
theorem setC_crv {c : Prs} (hc : Crv c) {t : Int} (ht : -1099511627776 ≤ t ∧ t < 1099511627776) (o : Option Int) : Crv (setC c t o) := ⟨setC_up hc.up t o, fun q hq => by
  rcases setC_mem.mp hq with ⟨_, z⟩ | ⟨z, _⟩
  · rw [z]; exact ht
  · exact hc.rg q z⟩
theorem setC_beside {c : Prs} (hc : c.Pairwise fun p q => p.1 < q.1) (t : Int) (o : Option Int) : Beside t c (setC c t o) := beside_of hc (setC_up hc t o) fun p hp => by
  rw [setC_mem]
  constructor
  · rintro (⟨_, z⟩ | z)
    · exact absurd z hp
    · exact z.1
  · exact fun z => .inr ⟨z, hp⟩
theorem val_ext {m m' : Prs} (nd : (m.map (·.1)).Nodup) (nd' : (m'.map (·.1)).Nodup) (h : ∀ q, q ∈ m ↔ q ∈ m') (t : Int) : valP m t = valP m' t := by
  cases e : valP m' t with
  | none =>
    rw [valP_none] at e ⊢
    intro z
    obtain ⟨q, hq, e2⟩ := List.mem_map.mp z
    exact e (List.mem_map.mpr ⟨q, (h q).mp hq, e2⟩)
  | some v =>
    rw [valP_iff nd'] at e
    rw [valP_iff nd]
    exact (h _).mpr e
theorem setC_val {c : Prs} (hc : c.Pairwise fun p q => p.1 < q.1) (t : Int) (o : Option Int) (k : Int) : valP (setC c t o) k = if k = t then o else valP c k := by
  have nd := up_nodup hc
  have nd' := up_nodup (setC_up hc t o)
  by_cases e : k = t
  · rw [if_pos e, e]
    cases o with
    | none =>
      rw [valP_none]
      intro z
      obtain ⟨q, hq, e2⟩ := List.mem_map.mp z
      rcases setC_mem.mp hq with ⟨z1, _⟩ | ⟨_, z2⟩
      · cases z1
      · exact z2 e2
    | some h =>
      rw [valP_iff nd', setC_mem]
      exact .inl ⟨rfl, rfl⟩
  · rw [if_neg e]
    cases z : valP c k with
    | none =>
      rw [valP_none] at z ⊢
      intro y
      obtain ⟨q, hq, e2⟩ := List.mem_map.mp y
      rcases setC_mem.mp hq with ⟨_, z2⟩ | ⟨z1, _⟩
      · exact e (e2.symm.trans z2)
      · exact z (List.mem_map.mpr ⟨q, z1, e2⟩)
    | some v =>
      rw [valP_iff nd] at z
      rw [valP_iff nd', setC_mem]
      exact .inr ⟨z, e⟩
/-- c comes of c0 by one deed at t -/
structure Deed (c0 : Prs) (t : Int) (c : Prs) : Prop where
  same : ∀ p : Int × Int, p.1 ≠ t → (p ∈ c ↔ p ∈ c0)
  some : valP c t = none → (valP c0 t).isSome = true
theorem setC_back {c0 c : Prs} {t : Int} (h0 : Crv c0) (h : Crv c) (d : Deed c0 t c) : setC c t (valP c0 t) = c0 := by
  refine up_ext (setC_up h.up t _) h0.up fun p => ?_
  rw [setC_mem]
  constructor
  · rintro (⟨z1, z2⟩ | ⟨z1, z2⟩)
    · rw [← z2, valP_iff (up_nodup h0.up)] at z1
      exact z1
    · exact (d.same p z2).mp z1
  · intro hp
    by_cases e : p.1 = t
    · exact .inl ⟨by rw [← e, valP_iff (up_nodup h0.up)]; exact hp, e⟩
    · exact .inr ⟨(d.same p e).mpr hp, e⟩
theorem deed_put {c : Prs} (hc : Crv c) (t h : Int) : Deed c t (insC c t h) := ⟨fun p hp => by
    rw [insC_mem]
    constructor
    · rintro (z | z)
      · exact absurd (by rw [z]) hp
      · exact z.1
    · exact fun z => .inr ⟨z, hp⟩, fun z => by
    have := setC_val hc.up t (Option.some h) t
    rw [if_pos rfl] at this
    rw [show setC c t (Option.some h) = insC c t h from rfl, z] at this
    cases this⟩
theorem deed_take {c : Prs} {t h : Int} (e : valP c t = Option.some h) : Deed c t (dropP c t) := ⟨fun p hp => by rw [mem_drop]; exact ⟨fun z => z.1, fun z => ⟨z, hp⟩⟩, fun _ => by rw [e]; rfl⟩
/-- the deeds not undone yet, the last one first, each with the curve ahead of it -/
def Chain : List (Int × Prs) → Prs → Prop
  | [], c => Crv c
  | d :: r, c => Crv c ∧ (-1099511627776 ≤ d.1 ∧ d.1 < 1099511627776) ∧ Deed d.2 d.1 c ∧ Chain r d.2
theorem Chain.crv {hs : List (Int × Prs)} {c : Prs} (h : Chain hs c) : Crv c := by
  cases hs with
  | nil => exact h
  | cons d r => exact h.1
def optD : Option Int → PyData
  | none => .none
  | some h => .int h
def optV : Option Int → V
  | none => .non
  | some h => .int h
theorem opt_val (o : Option Int) : (o.map V.int).getD .non = optV o := by cases o <;> rfl
theorem dp_opt {K : PySem.W.Frag} {H : Hp} {v : V} {o : Option Int} (h : Dp K H v (optD o)) : v = optV o := by
  cases o with
  | none => exact dp_non h
  | some i => exact dp_int h
theorem dp_optV (K : PySem.W.Frag) (H : Hp) (o : Option Int) : Dp K H (optV o) (optD o) := by
  cases o with
  | none => exact .non
  | some i => exact .int i
def deedD (d : Int × Prs) : PyData := .tuple [.int d.1, optD (valP d.2 d.1)]
theorem imm_opt (o : Option Int) : imm (optD o) = true := by cases o <;> rfl
theorem imm_deed (d : Int × Prs) : imm (deedD d) = true := by simp [deedD, imm, immAll, imm_opt]
theorem shp_deed (d : Int × Prs) : Shp 1 (deedD d) := Shp.t2 (.int _) (by unfold optD; split; exact .none; exact .int _)
theorem dp_deed {K : PySem.W.Frag} {H : Hp} {v : V} {d : Int × Prs} (h : Dp K H v (deedD d)) : ∃ a, v = .ref a ∧ SqT K H a [.int d.1, optV (valP d.2 d.1)] := by
  obtain ⟨p, ws, rfl, h1, h2⟩ := dp_tup h
  cases h2 with
  | cons h3 h4 =>
    cases h4 with
    | cons h5 h6 =>
      cases h6
      rw [dp_int h3, dp_opt h5] at h1
      exact ⟨p, rfl, h1⟩
theorem eqv_nil {d : List PyData} : PyData.eqv (.list d) (.list []) = decide (d = []) := by
  rw [PyData.eqv]
  cases d with
  | nil => simp [PyData.eqvAll]
  | cons x r => simp [PyData.eqvAll]
theorem valV_drop {κ : Type} [DecidableEq κ] (k j : κ) : ∀ kvs : List (κ × V), valV (dropK kvs k) j = if j = k then none else valV kvs j
  | [] => by simp [dropK, valV]
  | p :: r => by
    have ih := valV_drop k j r
    unfold dropK at *
    by_cases e : p.1 = k
    · rw [List.filter_cons_of_neg (by simp [e]), ih]
      by_cases e2 : j = k
      · rw [if_pos e2, if_pos e2]
      · rw [if_neg e2, if_neg e2, valV_neg (by rw [e]; exact fun z => e2 z.symm)]
    · rw [List.filter_cons_of_pos (by simp [e])]
      by_cases e2 : p.1 = j
      · rw [valV_pos e2, valV_pos e2, if_neg (by rw [← e2]; exact e)]
      · rw [valV_neg e2, valV_neg e2, ih]
theorem dropK_len {κ : Type} [DecidableEq κ] (kvs : List (κ × V)) (k : κ) : (dropK kvs k).length ≤ kvs.length := List.length_filter_le _ _
/-! ### columns' fours -/
def winS (b w : Int) (k : Nat) : Int × Int := (b + (k : Int) * w, b + (k : Int) * w + w)
def foursS (c : Prs) (b w : Int) (n : Nat) : List (Option Four) := (List.range n).map fun k => fourL (partL c (winS b w k).1 (winS b w k).2)
def foursDS (c : Prs) (b w : Int) (n : Nat) : PyData := .tuple ((foursS c b w n).map fourD)
theorem imm_foursS (c : Prs) (b w : Int) (n : Nat) : imm (foursDS c b w n) = true := by
  unfold foursDS
  simp only [imm]
  exact immAll_map _ imm_four _
theorem shp_foursS (c : Prs) (b w : Int) (n : Nat) : Shp 3 (foursDS c b w n) := Shp.tupleM shp_four
/-! ### where a store stands -/
structure SA where
  p : Addr
  hd : Addr
  bd : Addr
  dd : Addr
  td : Addr
  wd : Addr
  was : List Addr
def SA.all (a : SA) : List Addr := a.p :: a.hd :: a.bd :: a.dd :: a.td :: a.wd :: a.was
structure Watch where
  b : Int
  w : Int
  m : Int
  c : Prs
structure WatchAt (K : PySem.W.Frag) (H : Hp) (x : Addr) (W : Watch) : Prop where
  ex : ∃ (wn : Addr) (y : V), H x = some (.lst [.ref wn, y]) ∧ SqT K H wn [.int W.b, .int W.w, .int W.m] ∧ Dp K H y (foursDS W.c W.b W.w W.m.toNat)
  win : -1099511627776 ≤ W.b ∧ W.b + W.w * W.m ≤ 1099511627776 ∧ 1 ≤ W.w ∧ W.w ≤ 1000000000000000 ∧ 1 ≤ W.m ∧ W.m ≤ 1000
  crv : Crv W.c
theorem WatchAt.keep {K : PySem.W.Frag} {H H' : Hp} {x : Addr} {W : Watch} {F : Addr → Prop} (h : WatchAt K H x W) (k : Keep F H H') (t : TExt H H') (n : ¬ F x) : WatchAt K H' x W := by
  obtain ⟨wn, y, e, h1, h2⟩ := h.ex
  exact ⟨⟨wn, y, k _ _ e n, SqT.text t h1, Dp.text t _ _ (imm_foursS ..) h2⟩, h.win, h.crv⟩
structure CoreAt (K : PySem.W.Frag) (H : Hp) (hd bd : Addr) (c : Prs) (z : Nat) : Prop where
  hh : ∃ m : Prs, H hd = some (.dK (m.map inj)) ∧ (m.map (·.1)).Nodup ∧ (∀ q, q ∈ m ↔ q ∈ c) ∧ m.length ≤ z
  bb : ∃ kvs, H bd = some (.dT kvs) ∧ FourInv K H kvs c ∧ kvs.length ≤ 41 * z
  crv : Crv c
theorem CoreAt.keep {K : PySem.W.Frag} {H H' : Hp} {hd bd : Addr} {c : Prs} {z : Nat} {F : Addr → Prop} (h : CoreAt K H hd bd c z) (k : Keep F H H') (t : TExt H H') (n1 : ¬ F hd) (n2 : ¬ F bd) : CoreAt K H' hd bd c z := by
  obtain ⟨⟨m, h1, h2⟩, ⟨kvs, b1, b2, b3⟩, cr⟩ := h
  exact ⟨⟨m, k _ _ h1 n1, h2⟩, ⟨kvs, k _ _ b1 n2, b2.text t, b3⟩, cr⟩
theorem CoreAt.mono {K : PySem.W.Frag} {H : Hp} {hd bd : Addr} {c : Prs} {z z' : Nat} (h : CoreAt K H hd bd c z) (hz : z ≤ z') : CoreAt K H hd bd c z' := by
  obtain ⟨⟨m, h1, h2, h3, h4⟩, ⟨kvs, b1, b2, b3⟩, cr⟩ := h
  exact ⟨⟨m, h1, h2, h3, by omega⟩, ⟨kvs, b1, b2, by omega⟩, cr⟩
def stF (a : SA) : List (Str × V) := [("heights", .ref a.hd), ("by_stretches", .ref a.bd), ("deeds", .ref a.dd), ("deed_times", .ref a.td), ("watches", .ref a.wd)]
structure StoreAt (K : PySem.W.Frag) (C : Addr) (H : Hp) (a : SA) (c : Prs) (hs : List (Int × Prs)) (ts : List Int) (ws : List Watch) (z : Nat) : Prop where
  ob : ∃ dx, H a.p = some (.ins C dx [("heights", .ref a.hd), ("by_stretches", .ref a.bd), ("deeds", .ref a.dd), ("deed_times", .ref a.td), ("watches", .ref a.wd)])
  core : CoreAt K H a.hd a.bd c z
  dl : ∃ vs, H a.dd = some (.lst vs) ∧ DpAll K H vs (hs.reverse.map deedD)
  tl : H a.td = some (.lst (ts.map V.int))
  wl : H a.wd = some (.lst (a.was.map V.ref)) ∧ Paired (fun b W => WatchAt K H b W) a.was ws
  ne : a.dd ≠ a.td ∧ a.dd ≠ a.wd ∧ a.td ≠ a.wd ∧ ∀ b ∈ a.was, b ≠ a.dd ∧ b ≠ a.td ∧ b ≠ a.wd
  ch : Chain hs c
  sz : hs.length ≤ z ∧ ts.length ≤ z ∧ ws.length ≤ 1000 ∧ z ≤ 10000
section
variable {K : PySem.W.Frag} {C : Addr} {H H' : Hp} {a : SA} {c : Prs} {hs : List (Int × Prs)} {ts : List Int} {ws : List Watch} {z : Nat} {F : Addr → Prop}
theorem mem_all {a : SA} {b : Addr} : b ∈ a.all ↔ b = a.p ∨ b = a.hd ∨ b = a.bd ∨ b = a.dd ∨ b = a.td ∨ b = a.wd ∨ b ∈ a.was := by
  unfold SA.all
  simp only [List.mem_cons]
theorem StoreAt.keep (S : StoreAt K C H a c hs ts ws z) (k : Keep F H H') (t : TExt H H') (n : ∀ b ∈ a.all, ¬ F b) : StoreAt K C H' a c hs ts ws z := by
  obtain ⟨⟨dx, ob⟩, core, ⟨vs, d1, d2⟩, tl, ⟨w1, w2⟩, ne, ch, sz⟩ := S
  have nn : ∀ {b}, (b = a.p ∨ b = a.hd ∨ b = a.bd ∨ b = a.dd ∨ b = a.td ∨ b = a.wd ∨ b ∈ a.was) → ¬ F b := fun h => n _ (mem_all.mpr h)
  refine ⟨⟨dx, k _ _ ob (nn (by simp))⟩, core.keep k t (nn (by simp)) (nn (by simp)), ⟨vs, k _ _ d1 (nn (by simp)), DpAll.text t _ _ (immAll_map _ imm_deed _) d2⟩, k _ _ tl (nn (by simp)), ⟨k _ _ w1 (nn (by simp)), ?_⟩, ne, ch, sz⟩
  have go : ∀ {l : List Addr} {m : List Watch}, Paired (fun b W => WatchAt K H b W) l m → (∀ b ∈ l, ¬ F b) → Paired (fun b W => WatchAt K H' b W) l m := by
    intro l m h
    induction h with
    | nil => intro _; exact .nil
    | cons h1 _ ih => intro hn; exact .cons (h1.keep k t (hn _ (List.mem_cons_self ..))) (ih fun b hb => hn b (List.mem_cons_of_mem _ hb))
  exact go w2 fun b hb => nn (by simp [hb])
theorem StoreAt.same (S : StoreAt K C H a c hs ts ws z) (s : Same H H') : StoreAt K C H' a c hs ts ws z := S.keep (F := No) (Keep.of_same s) (TExt.of_same s) (fun _ _ h => h)
theorem StoreAt.text (S : StoreAt K C H a c hs ts ws z) (k : Keep (· ∈ a.all) H H') : TExt H H' := by
  obtain ⟨⟨dx, ob⟩, ⟨⟨m, h1, _⟩, ⟨kvs, b1, _⟩, _⟩, ⟨vs, d1, d2⟩, tl, ⟨w1, w2⟩, ne, ch, sz⟩ := S
  refine k.text fun b hb => ?_
  rcases mem_all.mp hb with rfl | rfl | rfl | rfl | rfl | rfl | hb
  · rw [ob]; trivial
  · rw [h1]; trivial
  · rw [b1]; trivial
  · rw [d1]; trivial
  · rw [tl]; trivial
  · rw [w1]; trivial
  · obtain ⟨i, hi⟩ := List.getElem?_of_mem hb
    have go : ∀ {l : List Addr} {m : List Watch}, Paired (fun b W => WatchAt K H b W) l m → b ∈ l → Mut (H b) := by
      intro l m h
      induction h with
      | nil => intro hb; simp at hb
      | cons h1 _ ih =>
        intro hb
        rcases List.mem_cons.mp hb with rfl | hb
        · obtain ⟨wn, y, e, _⟩ := h1.ex
          rw [e]; trivial
        · exact ih hb
    exact go w2 hb
theorem StoreAt.mut (S : StoreAt K C H a c hs ts ws z) {b : Addr} (hb : b ∈ a.all) : Mut (H b) := by
  obtain ⟨⟨dx, ob⟩, ⟨⟨m, h1, _⟩, ⟨kvs, b1, _⟩, _⟩, ⟨vs, d1, d2⟩, tl, ⟨w1, w2⟩, ne, ch, sz⟩ := S
  rcases mem_all.mp hb with rfl | rfl | rfl | rfl | rfl | rfl | hb
  · rw [ob]; trivial
  · rw [h1]; trivial
  · rw [b1]; trivial
  · rw [d1]; trivial
  · rw [tl]; trivial
  · rw [w1]; trivial
  · have go : ∀ {l : List Addr} {m : List Watch}, Paired (fun b W => WatchAt K H b W) l m → b ∈ l → Mut (H b) := by
      intro l m h
      induction h with
      | nil => intro hb; simp at hb
      | cons h1 _ ih =>
        intro hb
        rcases List.mem_cons.mp hb with rfl | hb
        · obtain ⟨wn, y, e, _⟩ := h1.ex
          rw [e]; trivial
        · exact ih hb
    exact go w2 hb
/-- all of it stands -/
theorem StoreAt.live (S : StoreAt K C H a c hs ts ws z) {b : Addr} (hb : b ∈ a.all) : H b ≠ none := by
  obtain ⟨⟨dx, ob⟩, ⟨⟨m, h1, _⟩, ⟨kvs, b1, _⟩, _⟩, ⟨vs, d1, d2⟩, tl, ⟨w1, w2⟩, ne, ch, sz⟩ := S
  rcases mem_all.mp hb with rfl | rfl | rfl | rfl | rfl | rfl | hb
  · rw [ob]; simp
  · rw [h1]; simp
  · rw [b1]; simp
  · rw [d1]; simp
  · rw [tl]; simp
  · rw [w1]; simp
  · have go : ∀ {l : List Addr} {m : List Watch}, Paired (fun b W => WatchAt K H b W) l m → b ∈ l → H b ≠ none := by
      intro l m h
      induction h with
      | nil => intro hb; simp at hb
      | cons h1 _ ih =>
        intro hb
        rcases List.mem_cons.mp hb with rfl | hb
        · obtain ⟨wn, y, e, _⟩ := h1.ex
          rw [e]; simp
        · exact ih hb
    exact go w2 hb
theorem StoreAt.new_ne (S : StoreAt K C H a c hs ts ws z) {b q : Addr} (hq : H q = none) (hb : b ∈ a.all) : b ≠ q := fun e => S.live hb (by rw [e]; exact hq)
theorem StoreAt.new_not (S : StoreAt K C H a c hs ts ws z) {q : Addr} (hq : H q = none) : q ∉ a.all := fun hb => S.live hb hq
/-- another object, at q, is written -/
theorem StoreAt.other (S : StoreAt K C H a c hs ts ws z) {q : Addr} (k : Keep (At q) H H') (t : TExt H H') (n : q ∉ a.all) : StoreAt K C H' a c hs ts ws z := S.keep k t fun b hb e => n (by rw [← show b = q from e]; exact hb)
theorem StoreAt.crv (S : StoreAt K C H a c hs ts ws z) : Crv c := S.core.crv
end
theorem StoreAt.step {K : PySem.W.Frag} {C : Addr} {H H' : Hp} {a : SA} {c c' : Prs} {hs hs' : List (Int × Prs)} {ts ts' : List Int} {ws : List Watch} {z : Nat} {vs : List V} (S : StoreAt K C H a c hs ts ws z) (k : Keep (fun b => b = a.hd ∨ b = a.bd ∨ b = a.dd ∨ b = a.td) H H') (t : TExt H H') (core : CoreAt K H' a.hd a.bd c' (z + 1))
    (d1 : H' a.dd = some (.lst vs)) (d2 : DpAll K H' vs (hs'.reverse.map deedD)) (t1 : H' a.td = some (.lst (ts'.map V.int))) (ch : Chain hs' c') (l1 : hs'.length ≤ z + 1) (l2 : ts'.length ≤ z + 1) (hz : z + 1 ≤ 10000) : StoreAt K C H' a c' hs' ts' ws (z + 1) := by
  obtain ⟨⟨dx, ob⟩, ⟨⟨m, h1, _⟩, ⟨kvs, b1, _⟩, _⟩, ⟨vs, e1, e2⟩, tl, ⟨w1, w2⟩, ne, _, sz⟩ := S
  have nw : ∀ b l, H b = some (.lst l) → b ≠ a.dd → b ≠ a.td → ¬ (b = a.hd ∨ b = a.bd ∨ b = a.dd ∨ b = a.td) := by
    rintro b l e n1 n2 (rfl | rfl | rfl | rfl)
    · rw [h1] at e; cases e
    · rw [b1] at e; cases e
    · exact n1 rfl
    · exact n2 rfl
  refine ⟨⟨dx, k _ _ ob ?_⟩, core, ⟨_, d1, d2⟩, t1, ⟨k _ _ w1 (nw _ _ w1 (Ne.symm ne.2.1) (Ne.symm ne.2.2.1)), ?_⟩, ne, ch, ⟨l1, l2, sz.2.2.1, hz⟩⟩
  · rintro (z | z | z | z)
    · rw [z, h1] at ob; cases ob
    · rw [z, b1] at ob; cases ob
    · rw [z, e1] at ob; cases ob
    · rw [z, tl] at ob; cases ob
  · have go : ∀ {l : List Addr} {m : List Watch}, Paired (fun b W => WatchAt K H b W) l m → (∀ b ∈ l, b ∈ a.was) → Paired (fun b W => WatchAt K H' b W) l m := by
      intro l m h
      induction h with
      | nil => intro _; exact .nil
      | cons h1 _ ih =>
        intro hn
        obtain ⟨wn, y, e, _⟩ := h1.ex
        have := ne.2.2.2 _ (hn _ (List.mem_cons_self ..))
        exact .cons (h1.keep k t (nw _ _ e this.1 this.2.1)) (ih fun b hb => hn b (List.mem_cons_of_mem _ hb))
    exact go w2 fun b hb => hb
theorem StoreAt.four_all {a : SA} {H H' : Hp} (k : Keep (fun b => b = a.hd ∨ b = a.bd ∨ b = a.dd ∨ b = a.td) H H') : Keep (· ∈ a.all) H H' := k.mono fun b h => mem_all.mpr (by
  rcases h with h | h | h | h
  · exact .inr (.inl h)
  · exact .inr (.inr (.inl h))
  · exact .inr (.inr (.inr (.inl h)))
  · exact .inr (.inr (.inr (.inr (.inl h)))))
theorem val_range {c : Prs} (hc : Crv c) {t h : Int} (e : valP c t = some h) : -1099511627776 ≤ t ∧ t < 1099511627776 := hc.rg _ ((valP_iff (up_nodup hc.up)).mp e)
section
variable {K : PySem.W.Frag} {H : Hp} {Q : VK} {a : Addr} {xs : List V} {y : V}
theorem r_pop (h : H a = some (.lst (xs ++ [y]))) (q : ∀ H', Keep (At a) H H' → H' a = some (.lst xs) → Q y H') : rPop (.ref a) [] H Q :=
  ⟨a, xs ++ [y], y, rfl, rfl, h, by simp, q _ Keep.at_ (by rw [upd_same]; simp)⟩
end
theorem paired_snoc {α β : Type} {R : α → β → Prop} : ∀ {l : List α} {m : List β} {x : α} {y : β}, Paired R l m → R x y → Paired R (l ++ [x]) (m ++ [y])
  | _, _, _, _, .nil, h => .cons h .nil
  | _, _, _, _, .cons h1 h2, h => .cons h1 (paired_snoc h2 h)
theorem paired_set {α β : Type} {R : α → β → Prop} {x : α} {y : β} (h : R x y) : ∀ {l : List α} {m : List β} (i : Nat), Paired R l m → Paired R (l.set i x) (m.set i y)
  | _, _, _, .nil => .nil
  | _, _, 0, .cons _ h2 => .cons h h2
  | _, _, i + 1, .cons h1 h2 => .cons h1 (paired_set h i h2)
def SA.more (a : SA) (x : Addr) : SA := { a with was := a.was ++ [x] }
def SA.put (a : SA) (i : Nat) (x : Addr) : SA := { a with was := a.was.set i x }
abbrev InWin (b w m : Int) : Prop := -1099511627776 ≤ b ∧ b + w * m ≤ 1099511627776 ∧ 1 ≤ w ∧ w ≤ 1000000000000000 ∧ 1 ≤ m ∧ m ≤ 1000
theorem StoreAt.watch {K : PySem.W.Frag} {C : Addr} {H H' : Hp} {a : SA} {c : Prs} {hs : List (Int × Prs)} {ts : List Int} {ws ws' : List Watch} {z : Nat} {was' : List Addr} (S : StoreAt K C H a c hs ts ws z) (k : Keep (At a.wd) H H') (t : TExt H H') (e : H' a.wd = some (.lst (was'.map V.ref)))
    (w : Paired (fun b W => WatchAt K H' b W) was' ws') (n : ∀ b ∈ was', b ≠ a.dd ∧ b ≠ a.td ∧ b ≠ a.wd) (hl : ws'.length ≤ 1000) : StoreAt K C H' { a with was := was' } c hs ts ws' z := by
  obtain ⟨⟨dx, ob⟩, core, ⟨vs, d1, d2⟩, tl, ⟨w1, w2⟩, ne, ch, sz⟩ := S
  have nw : ∀ b o, H b = some o → (∀ l, o ≠ .lst l) → b ≠ a.wd := fun b o e hn z => by rw [z, w1] at e; cases e; exact hn _ rfl
  obtain ⟨⟨m, h1, _⟩, ⟨kvs, b1, _⟩, _⟩ := id core
  exact ⟨⟨dx, k _ _ ob (nw _ _ ob (by intros; intro z; cases z))⟩, core.keep k t (nw _ _ h1 (by intros; intro z; cases z)) (nw _ _ b1 (by intros; intro z; cases z)), ⟨vs, k _ _ d1 ne.2.1, DpAll.text t _ _ (immAll_map _ imm_deed _) d2⟩, k _ _ tl ne.2.2.1, ⟨e, w⟩, ⟨ne.1, ne.2.1, ne.2.2.1, n⟩, ch, ⟨sz.1, sz.2.1, hl, sz.2.2.2⟩⟩
theorem WatchAts.keep {K : PySem.W.Frag} {H H' : Hp} {F : Addr → Prop} (k : Keep F H H') (t : TExt H H') : ∀ {l : List Addr} {m : List Watch}, Paired (fun b W => WatchAt K H b W) l m → (∀ b ∈ l, ¬ F b) → Paired (fun b W => WatchAt K H' b W) l m
  | _, _, .nil, _ => .nil
  | _, _, .cons h1 h2, n => .cons (h1.keep k t (n _ (List.mem_cons_self ..))) (WatchAts.keep k t h2 fun b hb => n b (List.mem_cons_of_mem _ hb))
/-- the columns whose four is another -/
def newsL (c0 c : Prs) (b w : Int) (n : Nat) : List Nat := (List.range n).filter fun k => !PyData.eqv (fourD (fourL (partL c (winS b w k).1 (winS b w k).2))) (fourD (fourL (partL c0 (winS b w k).1 (winS b w k).2)))
theorem ixN_nat {n j : Nat} (h : j < n) : ixN n (j : Int) = some j := by
  unfold ixN
  rw [if_pos (by omega), if_pos (by omega)]
  rfl
/-- the last one of a row -/
theorem dp_last {K : PySem.W.Frag} {H : Hp} {y0 : V} {yr : List V} {f : Int × Int} {r : Prs} (d0 : Dp K H y0 (pairP f)) (dr : DpAll K H yr (r.map pairP)) : ∃ yl, atI (y0 :: yr) (-1) = some yl ∧ Dp K H yl (pairP ((r.getLast?).getD f)) := by
  have hyl : yr.length = r.length := by rw [dpAll_len dr, List.length_map]
  rcases List.eq_nil_or_concat yr with rfl | ⟨yi, yl, rfl⟩
  · have : r = [] := List.length_eq_zero_iff.mp (by simpa using hyl.symm)
    subst this
    exact ⟨y0, atI_last [] y0, d0⟩
  · rw [List.concat_eq_append] at *
    refine ⟨yl, atI_last (y0 :: yi) yl, ?_⟩
    obtain ⟨q, hq, hd⟩ := dpAll_map_at dr (i := yi.length) (x := yl) (by simp)
    have : r.getLast? = some q := by
      rw [List.getLast?_eq_getElem?]
      have : r.length - 1 = yi.length := by simp at hyl; omega
      rw [this]
      exact hq
    rw [this]
    exact hd
end Fp
/-! try, and what a suite asks of the error that it caught -/
namespace Fp
open PySem PySem.Spec PyProof.Rows L2
section
variable {X : Cx} {K : PySem.W.Frag} {σ : L2.St} {H H' : Hp} {Q : VK} {k j : Nat} {ps : List Str} {sp : Sp} {E : L2.St → XK} {x m n : Str} {p np pos pos' apos : Pos} {o e : Expr} {es : List Expr} {ta : TE} {t : TA} {C a : Addr} {c : Value} {i : Nat} {body suite : List Stmt} {b₀ : Stmt} {tb : WX → TS} {ts : Addr → Value → Option Addr → TS} {Wout : WX} {cls : Value} {d : Option Addr} {D : Ends}
/-- o.m(..) whose exceptions are wished for at the slots -/
def tMethUS (C : Addr) (m : Str) (sp : Sp) (E : L2.St → XK) (ta : TE) (t : TA) : TE := fun σ H Q => ta σ H fun x H1 => uMeth C m sp (E σ) t σ x H1 Q
theorem pe_methS {pl : Sem Bool} (G : MFn X.prog X.w X.K X.mg X.base k C m ps sp) (hr : Room j X.A) (c : Cls X.K C) (hx : ∀ σ, PassesAt (L2.CX X.prog X.w) X σ (E σ)) (he : PE X o ta) (ha : PA X (e :: es) t) (hk : k ≤ j := by decide)
    (hst : starEach (e :: es) X.env = (false, eval e X.env) :: starEach es X.env := by rfl) (hpl : (backTo pos (starEach es X.env)).any (·.1) = false := by rfl)
    (ht : eval (.Call (.Attribute o m apos) (e :: es) [] pos) X.env = (do
      let ov ← eval o X.env
      standAt apos.atName
      let (f, first) ← holding [ov] (getMethod ov m pl)
      callWith pos f first (backTo pos (starEach (e :: es) X.env)) (backToKw pos (keywordEach [] X.env))) := by rfl) :
    PE X (.Call (.Attribute o m apos) (e :: es) [] pos) (tMethUS C m sp E ta t) := by
  obtain ⟨f, fd, hm, hb, F⟩ := G.ex
  refine ⟨fun pins s σ H Q I h => ?_⟩
  refine PySem.W.methodCall_KW (pl := pl) (thn (he.run pins s σ H _ I h) fun u s1 ⟨x, H1, I1, rx, a, dx, fs, ex, ea, l, q⟩ => ?_) ht
  subst ex
  obtain rfl : u = Value.ref a := rx
  refine getmeth_ok I1 ea c hm l ?_
  refine PySem.W.callWith_K (first := [.ref a]) (h₀ := X.base) I.ok.mod.kin hm.kp (thn (ha.run pos pins s1 σ H1 _ I1 q) fun us s2 ⟨vs, H2, I2, r, q2⟩ => ⟨I2.kIn, ?_⟩) hst hpl
  exact run_fnS (us := .ref a :: us) (vs := .ref a :: vs) (F.mono hk) hr hb (hx σ) I2 (.cons rfl r) q2
theorem r_methS (q : ta σ H fun x H1 => uMeth C m sp (E σ) t σ x H1 Q) : tMethUS C m sp E ta t σ H Q := q
/-- try: .. except c as n: .. -/
def tTryAs (K : PySem.W.Frag) (c : Value) (i : Nat) (ts : Addr → Value → Option Addr → TS) (tb : WX → TS) : TS := fun D σ H => tb (wAs K c i ts (fun _ _ _ _ => False) D) D σ H
theorem ps_tryAs (hK : X.K = K) (hs : X.stack = X.env :: X.outer) (hf : X.env.frame = some X.env.locals) (hN : X.N.Nodup) (hi : X.N[i]? = some n) (hln : X.env.kindOf n = some .local) (hc : Names X x c)
    (hb : ∀ (W : WX) (pn : List (Addr × Obj)) (xe : Value → Shared → Prop), Takes (X.tr pn xe) W → PSs (X.tr pn xe) body (tb W))
    (hsu : ∀ (a : Addr) (oe : Obj) (cls : Value) (d : Option Addr) (pn : List (Addr × Obj)), Zc cls d oe → (∃ vs, oe.data = .fields vs) → PSs (X.suite a ((a, oe) :: pn)) (b₀ :: suite) (ts a cls d)) :
    PS X (.Try body [.ExceptHandler (some (.Name x np)) (some n) (b₀ :: suite) pos'] [] [] pos) (tTryAs K c i ts tb) := by
  subst hK
  exact L2.ps_try_as hs hf hN hi hln hc takes0 (fun W pn xe tk _ => hb W pn xe tk) hsu
theorem r_tryAs (q : tb (wAs K c i ts (fun _ _ _ _ => False) D) D σ H) : tTryAs K c i ts tb D σ H := q
theorem r_wAs {R : Addr} (e : PySem.W.exmOne K (.ref R) c = some true) (q : ∀ a, H a = none → ts a (.ref R) none { nx := fun σ' H' => D.nx (σ'.set i none) H', rt := D.rt, bk := fun σ' H' => D.bk (σ'.set i none) H', ct := fun σ' H' => D.ct (σ'.set i none) H' } (σ.set i (some (.ref a))) H) :
    WE (wAs K c i ts Wout D) σ (.ref R) none H := ⟨true, e, fun _ => q, fun z => by cases z⟩
/-- try: .. except c: .. -/
def tTryOnly (K : PySem.W.Frag) (c : Value) (ts : Addr → Value → Option Addr → TS) (tb : WX → TS) : TS := fun D σ H => tb (wOnly K c ts (fun _ _ _ _ => False) D) D σ H
theorem ps_tryOnly (hK : X.K = K) (hs : X.stack = X.env :: X.outer) (hf : X.env.frame = some X.env.locals) (hc : Names X x c)
    (hb : ∀ (W : WX) (pn : List (Addr × Obj)) (xe : Value → Shared → Prop), Takes (X.tr pn xe) W → PSs (X.tr pn xe) body (tb W))
    (hsu : ∀ (a : Addr) (oe : Obj) (cls : Value) (d : Option Addr) (pn : List (Addr × Obj)), Zc cls d oe → (∃ vs, oe.data = .fields vs) → PSs (X.suite a ((a, oe) :: pn)) (b₀ :: suite) (ts a cls d)) :
    PS X (.Try body [.ExceptHandler (some (.Name x np)) none (b₀ :: suite) pos'] [] [] pos) (tTryOnly K c ts tb) := by
  subst hK
  exact L2.ps_try_only hs hf hc takes0 (fun W pn xe tk _ => hb W pn xe tk) hsu
theorem r_tryOnly (q : tb (wOnly K c ts (fun _ _ _ _ => False) D) D σ H) : tTryOnly K c ts tb D σ H := q
theorem r_wOnly {R : Addr} (e : PySem.W.exmOne K (.ref R) c = some true) (q : ∀ a, H a = none → ts a (.ref R) none D σ H) :
    WE (wOnly K c ts Wout D) σ (.ref R) none H := ⟨true, e, fun _ => q, fun z => by cases z⟩
/-- isinstance(e, c), e the error that the suite holds at a -/
def uIsE (K : PySem.W.Frag) (cls : Value) (d : Option Addr) (a : Addr) : List V → Hp → VK → Prop := fun xs H Q => ∃ D, cls = .ref D ∧ d = none ∧ ExcC K D ∧ rIsE K D a xs H Q
theorem c_isE {oe : Obj} {pn : List (Addr × Obj)} (hz : Zc cls d oe) (hf : ∃ vs, oe.data = .fields vs) : CallR (X.suite a ((a, oe) :: pn)) (.builtin "isinstance") (uIsE X.K cls d a) := by
  intro pins s σ H xs us Q I r h
  obtain ⟨D, rfl, rfl, Cc, h⟩ := h
  exact L2.call_isE Cc hz hf pins s σ H xs us Q I r h
theorem c_isEK (K : PySem.W.Frag) {oe : Obj} {pn : List (Addr × Obj)} (hz : Zc cls d oe) (hf : ∃ vs, oe.data = .fields vs) (hK : X.K = K := by rfl) : CallR (X.suite a ((a, oe) :: pn)) (.builtin "isinstance") (uIsE K cls d a) := by
  subst hK
  exact c_isE hz hf
theorem r_isE {R T : Addr} {b : Bool} (Cc : ExcC K R) (e : PySem.W.kitOne K (.ref R) (.ref T) = some b) (q : Q (.bl b) H) : uIsE K (.ref R) none a [.ref a, .ref T] H Q :=
  ⟨R, rfl, rfl, Cc, .ref T, .ref T, b, rfl, fun _ r => r, e, q⟩
end
/-! ### of classes -/
theorem kit_true {K : PySem.W.Frag} {R T : Addr} (hd : PySem.W.hasDictIn K T = true) (ht : PySem.W.typeIn K (.ref T) = some (.type "type")) (h : PySem.W.subIn K (.ref R) (.ref T) = some true) : PySem.W.kitOne K (.ref R) (.ref T) = some true := by
  obtain ⟨cd, hc, _⟩ := PySem.W.any_some hd
  have e2 : ((PySem.W.clsIn K T).isSome && PySem.W.typeIn K (.ref T) == some (.type "type")) = true := by rw [hc, ht] <;> rfl
  unfold PySem.W.kitOne
  split
  · rfl
  · show (if ((PySem.W.clsIn K T).isSome && PySem.W.typeIn K (.ref T) == some (.type "type")) = true then PySem.W.subIn K (.ref R) (.ref T) else none) = some true
    rw [if_pos e2]
    exact h
theorem kit_false {K : PySem.W.Frag} {R T : Addr} (hd : PySem.W.hasDictIn K T = true) (ht : PySem.W.typeIn K (.ref T) = some (.type "type")) (hs : PySem.W.subIn K (.ref R) (.ref R) = some true) (h : PySem.W.subIn K (.ref R) (.ref T) = some false) : PySem.W.kitOne K (.ref R) (.ref T) = some false := by
  obtain ⟨cd, hc, _⟩ := PySem.W.any_some hd
  have e2 : ((PySem.W.clsIn K T).isSome && PySem.W.typeIn K (.ref T) == some (.type "type")) = true := by rw [hc, ht] <;> rfl
  have ne : ¬ ((Value.ref R == Value.ref T) = true) := fun z => by
    have e : R = T := Value.ref.inj (beq_iff_eq.mp z)
    subst e
    rw [hs] at h
    cases h
  unfold PySem.W.kitOne
  rw [if_neg ne]
  show (if ((PySem.W.clsIn K T).isSome && PySem.W.typeIn K (.ref T) == some (.type "type")) = true then PySem.W.subIn K (.ref R) (.ref T) else none) = some false
  rw [if_pos e2]
  exact h
/-! ### sorted(d), d by numbers, any number of them -/
def uSortedDW : List V → Hp → VK → Prop := fun xs H Q => ∃ (a : Addr) (kvs : List (Key × V)) (ks : List Int), xs = [.ref a] ∧ Rd H a (.dK kvs) ∧ kvs.map (·.1) = ks.map Sum.inl ∧ ks.length ≤ 100000 ∧
    ∀ (ys : List Int) (p : Addr), ys.Perm ks → ys.Pairwise (· ≤ ·) → H p = none → Q (.ref p) (upd H p (.lst (ys.map V.int)))
theorem c_sortedDW {X : Cx} (hcalm : X.calm = true) : CallR X (.builtin "sorted") uSortedDW := by
  intro pins s σ H xs us Q I r q
  obtain ⟨a, kvs, ks, ex, hd, hks, h64, q⟩ := q
  subst ex
  obtain ⟨u, eu, rx⟩ := vals1 r
  subst eu
  cases rx
  obtain ⟨z, lo, vs, rel, dd⟩ := dk_rd I.hok hd
  obtain ⟨ep, hat⟩ := dd.dictAt
  have hkeys : vs.map (·.1) = ks.map Sum.inl := rel.keys.symm.trans hks
  have hl : vs.length = ks.length := by
    have e := congrArg List.length hkeys
    rw [List.length_map, List.length_map] at e
    exact e
  have h16 : vs.length ≤ sizeLine := by rw [hl, sizeLine_eq]; omega
  refine Calls.call_function_entry PyProof.Rows.kind_sorted PyProof.Rows.plain_sorted PyProof.Rows.entry_sorted (PyProof.Rows.args_sorted1 _) ?_
  unfold Builtin.«sorted»
  refine wpAny_bind (m := checkCount "sorted" 1 1 _) (wpAny_pure ?_)
  refine wpAny_bind (PySem.W.kdu_collect (A := X.A.in1) (PySem.W.kdl_dict (knd := mixKind X.prog X.w) (kvs := vs) (ep := ep) lo) (I.ok.hd hcalm) hat h16 fun h' tk acc hk hacc => ?_)
  have hal : acc.toList.length = ks.length := by rw [Array.length_toList, hacc.1, hl]
  have hS : IntsAre acc.toList ks := ints_each hal fun j v e => by
    obtain ⟨k, x, e1, e2⟩ := hacc.2 j v (by rw [← Array.getElem?_toList]; exact e)
    have e3 : (vs.map (·.1))[j]? = some k := by rw [List.getElem?_map, e1]; rfl
    rw [hkeys, List.getElem?_map] at e3
    cases e4 : ks[j]? with
    | none => rw [e4] at e3; cases e3
    | some y =>
      rw [e4] at e3
      have e5 : Sum.inl y = k := Option.some.inj e3
      subst e5
      rcases keyIs_shape (show keyIs (Sum.inl y) v = true from e2) with ⟨i, t, ek, ev⟩ | ⟨z, t, ek, ev⟩
      · cases ek
        exact ⟨y, t, rfl, ev⟩
      · cases ek
  have I1 : Inv X pins σ H { s with heap := h', toks := tk } := I.kept hk
  have hz : acc.toList.length ≤ sizeLine := by rw [hal, sizeLine_eq]; omega
  refine wpAny_bind (wpAny_newList ?_ hz)
  have hoL : (h'.push (seqObj "list" acc.toList.toArray 0)).get? h'.objs.size = some (seqObj "list" acc.toList.toArray 0) := Heap.get?_push_size _ rfl
  show wpAny _ _ _ _ _ { s with heap := h'.push (seqObj "list" acc.toList.toArray 0), toks := tk }
  refine wpAny_bind (wpAny_holding (wpAny_call_entry PyProof.Rows.slot_list_sort ⟨_, hoL, rfl⟩ PyProof.Rows.entry_list_sort
    (SrtO.list_sort_ord (s := { s with heap := h'.push (seqObj "list" acc.toList.toArray 0), toks := tk }) SrtO.swo_int hoL hz (fun h2 => SrtO.ints_sortable hS h2) fun out o1 o2 => ⟨_, rfl, ?_⟩) (PyProof.Rows.args_list_sort _)))
  obtain ⟨k1, k2, k3⟩ := SrtO.ints_out hS o1 o2
  obtain ⟨e', he'⟩ := PyProof.Rows.sortedHeap_at (vs := acc.toList) (out := out.toArray) hoL
  have hlen : ((out.map SrtO.iv).map V.int).length ≤ sizeLine := by
    rw [List.length_map, k2.length_eq, sizeLine_eq]
    omega
  refine wpAny_pure ⟨_, rfl, .ref h'.objs.size, upd H h'.objs.size (.lst ((out.map SrtO.iv).map V.int)), I1.laid (t' := tk) (fun b u e => ?_) (Nat.le_refl _)
    (show ObjOk X.prog X.w _ _ _ (.lst ((out.map SrtO.iv).map V.int)) from ⟨hlen, out, e', vals_of_ints k1, he'⟩), rfl, q _ _ k2 k3 (I1.hok.fresh (Nat.le_refl _))⟩
  have hb : b < h'.objs.size := Heap.lt_size e
  rw [PyProof.Rows.sortedHeap_old (Nat.ne_of_lt hb) (by rw [size_push']; exact Nat.lt_succ_of_lt hb)]
  exact Heap.get?_push_of_some _ e
theorem r_sortedDW {H : Hp} {Q : VK} {a : Addr} {m : Prs} (hd : H a = some (.dK (m.map inj))) (hl : m.length ≤ 100000) (q : ∀ (ys : List Int) p H', ys.Perm (m.map (·.1)) → ys.Pairwise (· ≤ ·) → H p = none → Same H H' → H' p = some (.lst (ys.map V.int)) → Q (.ref p) H') : uSortedDW [.ref a] H Q :=
  ⟨a, m.map inj, m.map (·.1), rfl, .inl hd, by rw [List.map_map, List.map_map]; rfl, by simpa using hl, fun ys p h1 h2 h3 => q ys p _ h1 h2 h3 (Keep.same (Keep.new h3)) upd_same⟩
/-! ### d == {} -/
section
variable {X : Cx} {H : Hp} {Q : VK} {a b : Addr}
def uEqNoD : R2 := fun x y H Q => ∃ (a b : Addr) (kvs : List (Key × V)), x = .ref a ∧ y = .ref b ∧ H a = some (.dK kvs) ∧ H b = some (.dK []) ∧ Q (.bl (decide (kvs = []))) H
theorem o_eqNoD (hu : X.A.units + 64 < cLine) : OpR X (compareOp .Eq) uEqNoD := by
  intro pins s σ H x y v u Q I rx ry h
  obtain ⟨a, b, kvs, rfl, rfl, ha, hb, q⟩ := h
  obtain rfl : v = Value.ref a := rx
  obtain rfl : u = Value.ref b := ry
  obtain ⟨_, ya, va, ra, da⟩ := (show ObjOk X.prog X.w H s.heap a (.dK kvs) from I.hok a _ ha)
  obtain ⟨_, yb, vb, rb, db⟩ := (show ObjOk X.prog X.w H s.heap b (.dK []) from I.hok b _ hb)
  cases rb
  cases kvs with
  | nil =>
    cases ra
    exact PySem.W.rcP_dicts (knd := mixKind X.prog X.w) (r := true) ya yb da db (by omega) (fun _ => .nil) _ _ ⟨.bl true, H, I, rfl, q⟩
  | cons x r =>
    have hl := ra.length
    refine PySem.W.rcP_dicts (knd := mixKind X.prog X.w) (r := true) ya yb da db (by omega) (fun z => ?_) _ _ ⟨.bl false, H, I, ?_, q⟩
    · rw [← hl] at z
      simp at z
    · rw [← hl]
      rfl
theorem r_eqNoD {m : Prs} (ha : H a = some (.dK (m.map inj))) (hb : H b = some (.dK [])) (q : Q (.bl (decide (m = []))) H) : uEqNoD (.ref a) (.ref b) H Q := by
  refine ⟨a, b, _, rfl, rfl, ha, hb, ?_⟩
  have e : decide (m.map inj = []) = decide (m = []) := by cases m <;> rfl
  rw [e]
  exact q
end
/-! ### a comprehension, one object p being changed in each turn, the turns counted -/
section
variable {K : PySem.W.Frag} {σ : L2.St} {H H' : Hp} {Q : VK} {te : TE} {tt : TT} {g : TG} {vs : List Nat} {J : It} {src : Hp → Prop} {item : Nat → Hp → V → Hp → Prop} {a : Addr}
theorem lc_genKi {α : Type} {p : Addr} (I : Nat → Hp → Prop) (h0 : I 0 H) (hne : ∀ D, H D = none → D ≠ p) (hU : ∀ i H1 D ys, H D = none → I i H1 → (H1 D = none ∨ ∃ l, H1 D = some (.lst l)) → I i (upd H1 D (.lst ys))) (hT : ∀ i H1 H2, I i H1 → Keep (At p) H1 H2 → TExt H1 H2)
    (as : List α) (It1 : α → V → Hp → Prop) (w : Wk J as.length src item) (hit : ∀ i H x H', i < as.length → item i H x H' → ∃ c, as[i]? = some c ∧ H' = H ∧ It1 c x H') (hsrc : ∀ H', Keep (At p) H H' → (∃ i, I i H') → src H')
    (hn : as.length ≤ 16777216) (R : Hp → α → V → Prop) (hR : ∀ H H' c y, TExt H H' → R H c y → R H' c y)
    (hs : ∀ j c x H2 (S : VK) (N : Hp → Prop), as[j]? = some c → Keep (At p) H H2 → I j H2 → It1 c x H2 → (∀ y H3, Keep (At p) H2 H3 → I (j + 1) H3 → R H3 c y → S y H3) →
      g x (wipe σ vs) H2 fun σ2 H3 => wipe σ2 vs = wipe σ vs ∧ tYes σ2 H3 fun b H4 => if b = true then te σ2 H4 S else N H4)
    (q : ∀ D H' ys, H D = none → Keep (At p) H H' → I as.length H' → H' D = some (.lst ys) → Paired (R H') as ys → Q (.ref D) H') : LcW J g tYes te vs σ H Q := by
  refine lc_wk w (fun D i H' => H D = none ∧ Keep (At p) H H' ∧ I i H' ∧ ∃ ys, H' D = some (.lst ys) ∧ Paired (R H') (as.take i) ys) (fun D hD => ⟨hD, fun b o e _ => by rw [upd_ne (ne_of_none e hD)]; exact e, hU _ _ _ _ hD h0 (.inl hD), [], by simp [upd_same], by simpa using Paired.nil⟩)
    (fun D i H' _ p => hsrc H' p.2.1 ⟨_, p.2.2.1⟩) ?_ (fun D H' hD p => by obtain ⟨p1, p2, p3, ys, p4, p5⟩ := p; rw [List.take_length] at p5; exact q D H' ys hD p2 p3 p4 p5)
  rintro D i x H2 H' hD hi ⟨p1, p2, p3, ys, p4, p5⟩ hx
  obtain ⟨c, hc, rfl, hI⟩ := hit i H2 x H' hi hx
  refine hs i c x H' _ _ hc p2 p3 hI (fun y H3 k3 i3 r3 => ⟨ys, k3 _ _ p4 (hne D hD), by rw [sizeLine_eq, ← p5.length, List.length_take]; omega, hD, ?_, hU _ _ _ _ hD i3 (.inr ⟨ys, k3 _ _ p4 (hne D hD)⟩), ys ++ [y], upd_same, ?_⟩)
  · exact (p2.trans k3).free hD
  · have e3 := k3 _ _ p4 (hne D hD)
    have t3 := hT _ _ _ p3 k3
    have t4 : TExt H3 (upd H3 D (.lst (ys ++ [y]))) := TExt.lst Keep.at_ e3
    rw [take_snoc hc]
    exact (Paired.mapP p5 fun u z r => hR _ _ _ _ (t3.trans t4) r).snoc (hR _ _ _ _ t4 r3)
end
/-! ### isinstance of the caught error: a built-in class, a tuple of classes -/
section
variable {X : Cx} {K : PySem.W.Frag} {H : Hp} {Q : VK} {a : Addr} {cls : Value} {d : Option Addr}
/-- isinstance(e, T), T a built-in class -/
theorem r_isET {R : Addr} {T : String} {b : Bool} (Cc : ExcC K R) (e : PySem.W.kitOne K (.ref R) (.type T) = some b) (q : Q (.bl b) H) : uIsE K (.ref R) none a [.ref a, .ty T] H Q :=
  ⟨R, rfl, rfl, Cc, .ty T, .type T, b, rfl, fun _ r => r, e, q⟩
/-- isinstance(e, (c1, c2, ..)) -/
def uIsEA (K : PySem.W.Frag) (cls : Value) (d : Option Addr) (a : Addr) : List V → Hp → VK → Prop := fun xs H Q => ∃ (D tp : Addr) (cs : List V) (us : List Value) (b : Bool), cls = .ref D ∧ d = none ∧ ExcC K D ∧ xs = [.ref a, .ref tp] ∧ H tp = some (.tup cs) ∧ Paired ClsV cs us ∧ PySem.W.kitAny K (.ref D) us = some b ∧ Q (.bl b) H
theorem c_isEA {oe : Obj} {pn : List (Addr × Obj)} (hz : Zc cls d oe) (hf : ∃ vs, oe.data = .fields vs) : CallR (X.suite a ((a, oe) :: pn)) (.builtin "isinstance") (uIsEA X.K cls d a) := by
  intro pins s σ H xs us Q I r h
  obtain ⟨D, tp, cs, ws, b, rfl, rfl, C, rfl, hT, k, e, q⟩ := h
  obtain ⟨u1, u2, rfl, r1, r2⟩ := vals2 r
  cases (show u1 = Value.ref a from r1)
  cases (show u2 = Value.ref tp from r2)
  obtain ⟨hget, _⟩ := I.pin (a, oe) (List.mem_append.mpr (.inl List.mem_cons_self))
  obtain ⟨vs, hv⟩ := hf
  have J : PySem.W.InstAt s.heap a oe D none := by
    obtain ⟨oc, od, oda, osl⟩ := oe
    obtain ⟨h1, h2⟩ := hz
    dsimp only at h1 h2 hv
    subst h1 h2 hv
    exact ⟨hget, rfl, rfl, trivial⟩
  obtain ⟨_, its, rv, o, h1, h2, n, h3⟩ := (show ObjOk X.prog X.w H s.heap tp (.tup cs) from I.hok tp _ hT)
  have e3 := ClsV.all k rv
  subst e3
  obtain ⟨oc, od, dt, sl⟩ := o
  simp only at h2 h3
  subst h2 h3
  exact PySem.W.kia_tup (PySem.W.handS_kitx_exc C.hg C.hk C.hs C.hd C.ha C.hn C.ht C.hm) I.kIn J h1 e (fun z => nomatch z) fun tk => ⟨.bl b, H, I.kept (t' := tk) fun _ _ z => z, rfl, q⟩
theorem c_isEAK (K : PySem.W.Frag) {oe : Obj} {pn : List (Addr × Obj)} (hz : Zc cls d oe) (hf : ∃ vs, oe.data = .fields vs) (hK : X.K = K := by rfl) : CallR (X.suite a ((a, oe) :: pn)) (.builtin "isinstance") (uIsEA K cls d a) := by
  subst hK
  exact c_isEA hz hf
/-- of classes none of which the error is of -/
inductive NoneOf (K : PySem.W.Frag) (R : Addr) : List Addr → Prop where
  | nil : NoneOf K R []
  | cons {T : Addr} {Ts : List Addr} : PySem.W.kitOne K (.ref R) (.ref T) = some false → NoneOf K R Ts → NoneOf K R (T :: Ts)
theorem NoneOf.any {R : Addr} : ∀ {Ts : List Addr}, NoneOf K R Ts → PySem.W.kitAny K (.ref R) (Ts.map Value.ref) = some false
  | _, .nil => rfl
  | _, .cons h t => kitAny_cons h (fun _ => t.any) (fun z => by cases z)
theorem clsV_refs : ∀ Ts : List Addr, Paired ClsV (Ts.map V.ref) (Ts.map Value.ref)
  | [] => .nil
  | T :: Ts => .cons (.own T) (clsV_refs Ts)
theorem r_isEA {R tp : Addr} {Ts : List Addr} (Cc : ExcC K R) (h : H tp = some (.tup (Ts.map V.ref))) (n : NoneOf K R Ts) (q : Q (.bl false) H) : uIsEA K (.ref R) none a [.ref a, .ref tp] H Q :=
  ⟨R, tp, _, _, false, rfl, rfl, Cc, rfl, h, clsV_refs Ts, n.any, q⟩
end
/-! rules whose K is told (a suite's context hides it) -/
theorem o_eqK {X : Cx} (K : PySem.W.Frag) (hu : X.A.units + 64 < cLine) (hK : X.K = K := by rfl) : OpR X (compareOp .Eq) (uEq K) := hK ▸ o_eq hu
theorem o_neK {X : Cx} (K : PySem.W.Frag) (hu : X.A.units + 64 < cLine) (hK : X.K = K := by rfl) : OpR X (compareOp .NotEq) (uNe K) := hK ▸ o_ne hu
theorem o_inSeq {X : Cx} (K : PySem.W.Frag) (hK : X.K = K := by rfl) : OpR X (compareOp .In) (rIn K false) := hK ▸ op_in_seq
/-! C(..) within a try -/
section
variable {X : Cx} {σ : L2.St} {H : Hp} {Q : VK} {k j : Nat} {ps : List Str} {sp : Sp} {E : L2.St → XK} {x : Str} {p pos : Pos} {e : Expr} {es : List Expr} {t : TA} {C : Addr}
def tMakeUS (C : Addr) (sp : Sp) (E : L2.St → XK) (t : TA) : TE := fun σ H Q => t σ H fun vs H1 => uMake C sp [] (E σ) vs H1 Q
theorem r_makeS (q : t σ H fun vs H1 => uMake C sp [] (E σ) vs H1 Q) : tMakeUS C sp E t σ H Q := q
theorem pe_makeS (G : PFn X.prog X.w X.K X.mg X.base k C ps sp) (T : ClT X.K X.mg x C) (hr : Room (j + 1) X.A) (hx : ∀ σ, PassesAt (L2.CX X.prog X.w) X σ (E σ)) (ha : PA X (e :: es) t) (hk : k ≤ j := by decide) (hg : Gl X x := by rfl)
    (hdb : (x == ("__debug__" : Str)) = false := by decide) (he : starEach (e :: es) X.env = (false, eval e X.env) :: starEach es X.env := by rfl) (hpl : (backTo pos (starEach es X.env)).any (·.1) = false := by rfl) :
    PE X (.Call (.Name x p) (e :: es) [] pos) (tMakeUS C sp E t) := by
  obtain ⟨f, fd, M, hb, F0⟩ := G.ex
  have F := F0.mono hk
  refine ⟨fun pins s σ H Q I h => ?_⟩
  refine wpAny_Call_Name_kw (ld_glob I hg T.g ?_ hdb)
  refine PySem.W.callWith_K (h₀ := X.base) I.ok.mod.kin M.kp (thn (ha.run pos pins s σ H _ I h) fun us s1 ⟨vs, H1, I1, r, q⟩ => ⟨I1.kIn, ?_⟩) he hpl
  -- the instance is made, then __init__ runs on it
  have hq := q (s1.heap.objs.size + 1) s1.heap.objs.size (I1.hok.fresh (Nat.le_succ _)) (I1.hok.fresh (Nat.le_refl _)) (Nat.ne_of_lt (Nat.lt_succ_self _))
  rw [List.append_nil] at hq
  have I2 := Inv.made (C := C) I1
  have r2 : Vals (V.ref (s1.heap.objs.size + 1) :: vs) (Value.ref (s1.heap.objs.size + 1) :: us) := .cons rfl r
  have hl : (Value.ref (s1.heap.objs.size + 1) :: us).length = ps.length := by
    rw [← r2.length, F.len _ _ _ _ hq]
  have bnd := hb _ (Value.ref (s1.heap.objs.size + 1) :: us) I2.kIn (by simpa using hl)
  rw [List.append_nil] at bnd
  refine wpAny_call (make_map (f := f) I1.kIn M.makes M.init (beq_iff_eq.mp M.fn) (codeAny_mono (F.run _ X.stack _ _ ⟨Value.ref (s1.heap.objs.size + 1) :: us, []⟩ (Value.ref (s1.heap.objs.size + 1) :: us) _ _ (E σ) (hr.make C us [])
    (I2.env0.make C us []) bnd r2 hq) fun r s' hq' => ?_))
  cases r with
  | error e => exact hx σ pins _ _ e s' I2 hq'
  | ok fl =>
    cases fl with
    | ret u =>
      obtain ⟨v, H', I3, rv, ev, q3⟩ := I2.after hq'
      subst ev
      exact ⟨rv, ⟨V.ref (s1.heap.objs.size + 1), H', I3, rfl, q3⟩⟩
    | next => exact False.elim hq'
    | brk => exact False.elim hq'
    | cont => exact False.elim hq'
end
end Fp
/-! views: plain; what stands where -/
namespace Fp
open PySem PySem.Spec PyProof.Rows L2
section
variable {K : PySem.W.Frag} {H : Hp} {Q : VK} {a : Addr} {kvs : List (Key × V)}
theorem r_dputV {t : Int} {x : V} {R : Hp → Prop} (hd : H a = some (.dK kvs)) (hl : kvs.length ≤ 1000000) (q : ∀ H', Keep (At a) H H' → H' a = some (.dK (putK kvs (Sum.inl t) x)) → R H') : uDPut (.ref a) (.int t) x H R :=
  ⟨a, _, rfl, DPut.k (k := Sum.inl t) hd (by rw [sizeLine_eq]; omega), q _ Keep.at_ upd_same⟩
theorem r_dgetV {t : Int} {x : V} (hd : H a = some (.dK kvs)) (e : valV kvs (Sum.inl t) = some x) (q : Q x H) : uDGet (.ref a) (.int t) H Q := by
  refine ⟨a, x, rfl, ?_, q⟩
  have z := DGet.k (k := Sum.inl t) hd
  rw [e] at z
  exact z
theorem r_dinV {t : Int} (hd : H a = some (.dK kvs)) (q : Q (.bl (valV kvs (Sum.inl t)).isSome) H) : uDIn (.int t) (.ref a) H Q := ⟨a, _, rfl, DGet.k (k := Sum.inl t) hd, q⟩
theorem r_dnotinV {t : Int} (hd : H a = some (.dK kvs)) (q : Q (.bl (!(valV kvs (Sum.inl t)).isSome)) H) : uDNotIn (.int t) (.ref a) H Q := ⟨a, _, rfl, DGet.k (k := Sum.inl t) hd, q⟩
end
/-- a column's samples -/
def colP (c : Prs) (b w k : Int) : Prs := partL c (b + k * w) (b + k * w + w)
theorem colP_two {c : Prs} (up : c.Pairwise fun p q => p.1 < q.1) {b w k : Int} (hw : 0 ≤ w) : colP c b (2 * w) k = colP c b w (2 * k) ++ colP c b w (2 * k + 1) := by
  unfold colP
  have e1 : k * (2 * w) = 2 * k * w := by rw [← Int.mul_assoc, Int.mul_comm k 2]
  have e2 : (2 * k + 1) * w = 2 * k * w + w := by rw [Int.add_mul, Int.one_mul]
  rw [e1, e2, ← Int.add_assoc, partL_app up (by omega) (by omega)]
  congr 1
  omega
theorem nd_putK {κ : Type} [DecidableEq κ] (kvs : List (κ × V)) (k : κ) (v : V) (nd : (kvs.map (·.1)).Nodup) : ((putK kvs k v).map (·.1)).Nodup := by
  unfold putK
  split
  · have e : (kvs.map fun kv => if kv.1 = k then (kv.1, v) else kv).map (·.1) = kvs.map (·.1) := by
      rw [List.map_map]
      refine List.map_congr_left fun x _ => ?_
      show (if x.1 = k then (x.1, v) else x).1 = x.1
      split <;> rfl
    rw [e]; exact nd
  · next h =>
    rw [List.map_append]
    refine List.nodup_append.mpr ⟨nd, by simp, fun x hx y hy => ?_⟩
    obtain ⟨q, hq, rfl⟩ := List.mem_map.mp hx
    have ey : y = k := by simpa using hy
    rw [ey]
    exact fun z => h (List.any_eq_true.mpr ⟨q, hq, decide_eq_true z⟩)
theorem mem_putK {κ : Type} [DecidableEq κ] {kvs : List (κ × V)} {k : κ} {v : V} {q : κ × V} (h : q ∈ putK kvs k v) : q.1 = k ∨ ∃ r ∈ kvs, r.1 = q.1 := by
  unfold putK at h
  split at h
  · obtain ⟨r, hr, e⟩ := List.mem_map.mp h
    by_cases z : r.1 = k
    · rw [if_pos z] at e; left; rw [← e]; exact z
    · rw [if_neg z] at e; right; exact ⟨r, hr, by rw [e]⟩
  · rcases List.mem_append.mp h with h | h
    · exact .inr ⟨q, h, rfl⟩
    · left; rw [List.mem_singleton.mp h]
theorem valV_ne {κ : Type} [DecidableEq κ] {kvs : List (κ × V)} {q : κ × V} (h : q ∈ kvs) : valV kvs q.1 ≠ none := by
  intro z
  have := valV_any q.1 kvs
  rw [z] at this
  have h2 : (kvs.any fun kv => decide (kv.1 = q.1)) = true := List.any_eq_true.mpr ⟨q, h, decide_eq_true rfl⟩
  rw [h2] at this
  cases this
theorem nodup_le {α : Type} [DecidableEq α] : ∀ {l m : List α}, l.Nodup → (∀ x ∈ l, x ∈ m) → l.length ≤ m.length
  | [], _, _, _ => Nat.zero_le _
  | x :: l, m, nd, h => by
    have hx := h x (List.mem_cons_self ..)
    have nd2 := List.nodup_cons.mp nd
    have ih := nodup_le (m := m.erase x) nd2.2 fun y hy => (List.mem_erase_of_ne (fun z => nd2.1 (by rw [← z]; exact hy))).mpr (h y (List.mem_cons_of_mem _ hy))
    have e := List.length_erase_of_mem hx
    have p := List.length_pos_of_mem hx
    rw [List.length_cons]
    omega
/-- what a dict of fours knows: the columns L -/
structure Known (K : PySem.W.Frag) (H : Hp) (kd : Addr) (c : Prs) (b w : Int) (L : List Int) : Prop where
  ex : ∃ kvs, H kd = some (.dK kvs) ∧ kvs.length ≤ L.length ∧ (∀ k ∈ L, ∃ x, valV kvs (Sum.inl k) = some x ∧ Dp K H x (fourD (fourL (colP c b w k)))) ∧ ∀ k, k ∉ L → valV kvs (Sum.inl k) = none
  nk : ∀ kvs, H kd = some (.dK kvs) → (kvs.map (·.1)).Nodup ∧ ∀ q ∈ kvs, ∃ k ∈ L, q.1 = Sum.inl k
theorem Known.keep {K : PySem.W.Frag} {H H' : Hp} {kd : Addr} {c : Prs} {b w : Int} {L : List Int} {F : Addr → Prop} (h : Known K H kd c b w L) (k : Keep F H H') (t : TExt H H') (n : ¬ F kd) : Known K H' kd c b w L := by
  obtain ⟨kvs, e, l, h1, h2⟩ := h.ex
  refine ⟨⟨kvs, k _ _ e n, l, fun j hj => by obtain ⟨x, g1, g2⟩ := h1 j hj; exact ⟨x, g1, Dp.text t _ _ (imm_four _) g2⟩, h2⟩, fun kvs' e' => ?_⟩
  rw [k _ _ e n] at e'
  cases e'
  exact h.nk _ e
theorem Known.nil {K : PySem.W.Frag} {H : Hp} {kd : Addr} {c : Prs} {b w : Int} (e : H kd = some (.dK [])) : Known K H kd c b w [] := ⟨⟨[], e, by simp, by simp, fun _ _ => rfl⟩, fun kvs e' => by rw [e] at e'; cases e'; simp⟩
theorem Known.put {K : PySem.W.Frag} {H H' : Hp} {kd : Addr} {c : Prs} {b w : Int} {L : List Int} {kvs : List (Key × V)} {k : Int} {x : V} (kn : Known K H kd c b w L) (e : H kd = some (.dK kvs))
    (ke : Keep (At kd) H H') (e' : H' kd = some (.dK (putK kvs (Sum.inl k) x))) (d : Dp K H x (fourD (fourL (colP c b w k)))) : Known K H' kd c b w (L ++ [k]) := by
  have t : TExt H H' := ke.text fun b hb => by rw [show b = kd from hb, e]; trivial
  obtain ⟨nd, only⟩ := kn.nk _ e
  obtain ⟨kvs0, e0, l, h1, h2⟩ := kn.ex
  rw [e] at e0
  cases e0
  refine ⟨⟨_, e', ?_, fun j hj => ?_, fun j hj => ?_⟩, fun kvs' e2 => ?_⟩
  · have := length_putK kvs (Sum.inl k) x
    rw [List.length_append, List.length_singleton]
    omega
  · rw [valV_put]
    by_cases z : j = k
    · subst z
      exact ⟨x, by rw [if_pos rfl], Dp.text t _ _ (imm_four _) d⟩
    · rw [if_neg (by simpa using z)]
      obtain ⟨y, g1, g2⟩ := h1 j ((List.mem_append.mp hj).resolve_right (by simpa using z))
      exact ⟨y, g1, Dp.text t _ _ (imm_four _) g2⟩
  · rw [List.mem_append, List.mem_singleton, not_or] at hj
    rw [valV_put, if_neg (by simpa using hj.2)]
    exact h2 j hj.1
  · rw [e'] at e2
    cases e2
    refine ⟨nd_putK _ _ _ nd, fun q hq => ?_⟩
    rcases mem_putK hq with z | ⟨r, hr, z⟩
    · exact ⟨k, by simp, z⟩
    · obtain ⟨j, hj, z2⟩ := only r hr
      exact ⟨j, List.mem_append_left _ hj, by rw [← z, z2]⟩
/-- columns that have one of these times -/
def hit (b w : Int) (ps : List Int) (k : Int) : Prop := ∃ t ∈ ps, (t - b) / w = k
/-- .. and what it knows while deeds at the times ps are not heard of yet: L is what will be known when they are -/
structure PKnown (K : PySem.W.Frag) (H : Hp) (kd : Addr) (c : Prs) (b w m : Int) (L ps : List Int) : Prop where
  ex : ∃ kvs, H kd = some (.dK kvs) ∧ (kvs.map (·.1)).Nodup ∧ (∀ q ∈ kvs, ∃ k, (0 ≤ k ∧ k < m) ∧ q.1 = Sum.inl k) ∧ (∀ k ∈ L, ∃ x, valV kvs (Sum.inl k) = some x ∧ Dp K H x (fourD (fourL (colP c b w k)))) ∧ ∀ k, k ∉ L → ¬ hit b w ps k → valV kvs (Sum.inl k) = none
  clean : ∀ k ∈ L, ¬ hit b w ps k
theorem PKnown.keep {K : PySem.W.Frag} {H H' : Hp} {kd : Addr} {c : Prs} {b w m : Int} {L ps : List Int} {F : Addr → Prop} (h : PKnown K H kd c b w m L ps) (k : Keep F H H') (t : TExt H H') (n : ¬ F kd) : PKnown K H' kd c b w m L ps := by
  obtain ⟨kvs, e, nd, o, h1, h2⟩ := h.ex
  exact ⟨⟨kvs, k _ _ e n, nd, o, fun j hj => by obtain ⟨x, g1, g2⟩ := h1 j hj; exact ⟨x, g1, Dp.text t _ _ (imm_four _) g2⟩, h2⟩, h.clean⟩
theorem PKnown.of {K : PySem.W.Frag} {H : Hp} {kd : Addr} {c : Prs} {b w m : Int} {L : List Int} (h : Known K H kd c b w L) (inr : ∀ k ∈ L, 0 ≤ k ∧ k < m) : PKnown K H kd c b w m L [] := by
  obtain ⟨kvs, e, l, h1, h2⟩ := h.ex
  obtain ⟨nd, o⟩ := h.nk _ e
  exact ⟨⟨kvs, e, nd, fun q hq => by obtain ⟨k, hk, z⟩ := o q hq; exact ⟨k, inr k hk, z⟩, h1, fun k hk _ => h2 k hk⟩, fun k _ z => by obtain ⟨t, ht, _⟩ := z; cases ht⟩
theorem not_hit_nil {b w k : Int} : ¬ hit b w [] k := fun z => by obtain ⟨t, ht, _⟩ := z; cases ht
theorem PKnown.known {K : PySem.W.Frag} {H : Hp} {kd : Addr} {c : Prs} {b w m : Int} {L : List Int} (h : PKnown K H kd c b w m L []) : Known K H kd c b w L := by
  obtain ⟨kvs, e, nd, o, h1, h2⟩ := h.ex
  have only : ∀ q ∈ kvs, ∃ k ∈ L, q.1 = Sum.inl k := fun q hq => by
    obtain ⟨k, _, z⟩ := o q hq
    refine ⟨k, ?_, z⟩
    refine Classical.byContradiction fun hk => ?_
    have := h2 k hk not_hit_nil
    rw [← z] at this
    exact valV_ne hq this
  refine ⟨⟨kvs, e, ?_, h1, fun k hk => h2 k hk not_hit_nil⟩, fun kvs' e' => by rw [e] at e'; cases e'; exact ⟨nd, only⟩⟩
  have := nodup_le (m := L.map fun k => (Sum.inl k : Key)) nd fun x hx => by
    obtain ⟨q, hq, rfl⟩ := List.mem_map.mp hx
    obtain ⟨k, hk, z⟩ := only q hq
    exact List.mem_map.mpr ⟨k, hk, z.symm⟩
  simpa using this
theorem hit_cons {b w t k : Int} {ps : List Int} : hit b w (t :: ps) k ↔ (t - b) / w = k ∨ hit b w ps k := by
  constructor
  · rintro ⟨u, hu, e⟩
    rcases List.mem_cons.mp hu with rfl | hu
    · exact .inl e
    · exact .inr ⟨u, hu, e⟩
  · rintro (e | ⟨u, hu, e⟩)
    · exact ⟨t, List.mem_cons_self .., e⟩
    · exact ⟨u, List.mem_cons_of_mem _ hu, e⟩
theorem PKnown.pop {K : PySem.W.Frag} {H H' : Hp} {kd : Addr} {c : Prs} {b w m t : Int} {L ps : List Int} {kvs : List (Key × V)} (h : PKnown K H kd c b w m L (t :: ps)) (e : H kd = some (.dK kvs)) (ke : Keep (At kd) H H') (e' : H' kd = some (.dK (dropK kvs (Sum.inl ((t - b) / w))))) : PKnown K H' kd c b w m L ps := by
  have tx : TExt H H' := ke.text fun b hb => by rw [show b = kd from hb, e]; trivial
  obtain ⟨kvs0, e0, nd, o, h1, h2⟩ := h.ex
  rw [e] at e0
  cases e0
  refine ⟨⟨_, e', nd.sublist (List.filter_sublist.map _), fun q hq => o q ((List.mem_filter.mp hq).1), fun k hk => ?_, fun k hk n => ?_⟩, fun k hk z => h.clean k hk (hit_cons.mpr (.inr z))⟩
  · obtain ⟨x, g1, g2⟩ := h1 k hk
    have ne : ¬ (t - b) / w = k := fun z => h.clean k hk (hit_cons.mpr (.inl z))
    refine ⟨x, ?_, Dp.text tx _ _ (imm_four _) g2⟩
    rw [valV_drop, if_neg (by simpa using fun z => ne z.symm)]
    exact g1
  · rw [valV_drop]
    by_cases z : (Sum.inl k : Key) = Sum.inl ((t - b) / w)
    · rw [if_pos z]
    · rw [if_neg z]
      refine h2 k hk fun y => ?_
      rcases hit_cons.mp y with y | y
      · exact z (by rw [y])
      · exact n y
theorem PKnown.skip {K : PySem.W.Frag} {H : Hp} {kd : Addr} {c : Prs} {b w m t : Int} {L ps : List Int} (h : PKnown K H kd c b w m L (t :: ps)) (out : ¬ (0 ≤ (t - b) / w ∧ (t - b) / w < m)) : PKnown K H kd c b w m L ps := by
  obtain ⟨kvs, e, nd, o, h1, h2⟩ := h.ex
  refine ⟨⟨kvs, e, nd, o, h1, fun k hk n => ?_⟩, fun k hk z => h.clean k hk (hit_cons.mpr (.inr z))⟩
  by_cases y : (t - b) / w = k
  · subst y
    cases ev : valV kvs (Sum.inl ((t - b) / w) : Key) with
    | none => rfl
    | some x =>
      have := valV_any (Sum.inl ((t - b) / w) : Key) kvs
      rw [ev] at this
      obtain ⟨q, hq, z⟩ := List.any_eq_true.mp this
      obtain ⟨k, hk, z2⟩ := o q hq
      have z := of_decide_eq_true z
      rw [z] at z2
      have z3 : (t - b) / w = k := by simpa using z2
      exact absurd (by rw [z3]; exact hk) out
  · exact h2 k hk fun z => by
      rcases hit_cons.mp z with z | z
      · exact y z
      · exact n z
theorem PKnown.bd {K : PySem.W.Frag} {H : Hp} {kd : Addr} {c : Prs} {b w m : Int} {L ps : List Int} (h : PKnown K H kd c b w m L ps) : ∃ kvs, H kd = some (.dK kvs) := by
  obtain ⟨kvs, e, _⟩ := h.ex
  exact ⟨kvs, e⟩
/-- the columns that stay known behind a deed at a time -/
def leftL (L : List Int) (b w t : Int) : List Int := L.filter fun k => decide (k ≠ (t - b) / w)
/-- a deed at the time t -/
theorem PKnown.deed {K : PySem.W.Frag} {H : Hp} {kd : Addr} {c c' : Prs} {b w m t : Int} {L ps : List Int} (h : PKnown K H kd c b w m L ps) (hw : 0 < w) (bs : Beside t c c') : PKnown K H kd c' b w m (leftL L b w t) (ps ++ [t]) := by
  obtain ⟨kvs, e, nd, o, h1, h2⟩ := h.ex
  have hi : ∀ {k}, hit b w (ps ++ [t]) k ↔ hit b w ps k ∨ (t - b) / w = k := by
    intro k
    constructor
    · rintro ⟨u, hu, e⟩
      rcases List.mem_append.mp hu with hu | hu
      · exact .inl ⟨u, hu, e⟩
      · right; rw [← List.mem_singleton.mp hu]; exact e
    · rintro (⟨u, hu, e⟩ | e)
      · exact ⟨u, List.mem_append_left _ hu, e⟩
      · exact ⟨t, by simp, e⟩
  refine ⟨⟨kvs, e, nd, o, fun k hk => ?_, fun k hk n => ?_⟩, fun k hk z => ?_⟩
  · obtain ⟨hk, ne⟩ := List.mem_filter.mp hk
    have ne := of_decide_eq_true ne
    obtain ⟨x, g1, g2⟩ := h1 k hk
    refine ⟨x, g1, ?_⟩
    have ec : colP c' b w k = colP c b w k := bs _ _ fun z => ne (by
      have a1 : k ≤ (t - b) / w := (Int.le_ediv_iff_mul_le hw).mpr (by omega)
      have a2 : (t - b) / w < k + 1 := (Int.ediv_lt_iff_lt_mul hw).mpr (by rw [Int.add_mul, Int.one_mul]; omega)
      omega)
    rw [ec]
    exact g2
  · rw [hi, not_or] at n
    refine h2 k (fun z => hk (List.mem_filter.mpr ⟨z, decide_eq_true fun y => n.2 y.symm⟩)) n.1
  · obtain ⟨hk, ne⟩ := List.mem_filter.mp hk
    have ne := of_decide_eq_true ne
    rcases hi.mp z with z | z
    · exact h.clean k hk z
    · exact ne z.symm
/-- a view of the store st stands at p -/
structure ViewAt (K : PySem.W.Frag) (C : Addr) (H : Hp) (p kd st : Addr) (c : Prs) (b w m : Int) (L : List Int) (h : Nat) (n : Int) : Prop where
  ob : ∃ dx wa, H p = some (.ins C dx [("shown", .ref st), ("window", .ref wa), ("known", .ref kd), ("heard", .int h), ("asked", .int n)]) ∧ SqT K H wa [.int b, .int w, .int m]
  kn : Known K H kd c b w L
  nd : L.Nodup
  inr : ∀ k ∈ L, 0 ≤ k ∧ k < m
  win : InWin b w m
section
variable {K : PySem.W.Frag} {C : Addr} {H H' : Hp} {p kd st : Addr} {c : Prs} {b w m : Int} {L : List Int} {h : Nat} {n : Int} {F : Addr → Prop}
theorem ViewAt.keep (V : ViewAt K C H p kd st c b w m L h n) (k : Keep F H H') (t : TExt H H') (n1 : ¬ F p) (n2 : ¬ F kd) : ViewAt K C H' p kd st c b w m L h n := by
  obtain ⟨⟨dx, wa, ob, hw⟩, kn, nd, inr, win⟩ := V
  exact ⟨⟨dx, wa, k _ _ ob n1, SqT.text t hw⟩, kn.keep k t n2, nd, inr, win⟩
theorem ViewAt.same (V : ViewAt K C H p kd st c b w m L h n) (s : Same H H') : ViewAt K C H' p kd st c b w m L h n := V.keep (F := No) (Keep.of_same s) (TExt.of_same s) (fun z => z) (fun z => z)
theorem ViewAt.ne (V : ViewAt K C H p kd st c b w m L h n) : p ≠ kd := by
  obtain ⟨⟨dx, wa, ob, hw⟩, ⟨⟨kvs, e, _⟩, _⟩, _⟩ := V
  exact ne_of ob e (by intro z; cases z)
theorem ViewAt.text (V : ViewAt K C H p kd st c b w m L h n) (k : Keep (fun x => x = p ∨ x = kd) H H') : TExt H H' := by
  obtain ⟨⟨dx, wa, ob, hw⟩, ⟨⟨kvs, e, _⟩, _⟩, _⟩ := V
  refine k.text fun b hb => ?_
  rcases hb with rfl | rfl
  · rw [ob]; trivial
  · rw [e]; trivial
theorem ViewAt.textp (V : ViewAt K C H p kd st c b w m L h n) (k : Keep (At p) H H') : TExt H H' := V.text (k.mono fun b h => .inl h)
theorem ViewAt.live (V : ViewAt K C H p kd st c b w m L h n) : H p ≠ none ∧ H kd ≠ none := by
  obtain ⟨⟨dx, wa, ob, hw⟩, ⟨⟨kvs, e, _⟩, _⟩, _⟩ := V
  exact ⟨by rw [ob]; simp, by rw [e]; simp⟩
theorem ViewAt.len (V : ViewAt K C H p kd st c b w m L h n) : L.length ≤ m.toNat := by
  have e : L.Perm (((List.range m.toNat).map fun k : Nat => (k : Int)).filter fun k => decide (k ∈ L)) := by
    refine (List.perm_ext_iff_of_nodup V.nd ?_).mpr fun k => ?_
    · exact List.Pairwise.sublist List.filter_sublist (List.pairwise_map.mpr (List.nodup_range.imp fun {a b} ne e => ne (by omega)))
    · rw [List.mem_filter]
      constructor
      · intro hk
        have := V.inr k hk
        exact ⟨List.mem_map.mpr ⟨k.toNat, List.mem_range.mpr (by omega), by omega⟩, decide_eq_true hk⟩
      · exact fun hk => of_decide_eq_true hk.2
  rw [e.length_eq]
  refine Nat.le_trans (List.length_filter_le _ _) ?_
  simp
end
/-- a view that has heard of the first h of the deeds' times ts; L: the columns that are known when it has heard of all -/
structure ViewP (K : PySem.W.Frag) (C : Addr) (H : Hp) (p kd st : Addr) (c : Prs) (b w m : Int) (L : List Int) (ts : List Int) (n : Int) : Prop where
  ob : ∃ (h : Nat) (dx wa : Addr), H p = some (.ins C dx [("shown", .ref st), ("window", .ref wa), ("known", .ref kd), ("heard", .int h), ("asked", .int n)]) ∧ SqT K H wa [.int b, .int w, .int m] ∧ h ≤ ts.length ∧ PKnown K H kd c b w m L (ts.drop h)
  nd : L.Nodup
  inr : ∀ k ∈ L, 0 ≤ k ∧ k < m
  win : InWin b w m
section
variable {K : PySem.W.Frag} {C : Addr} {H H' : Hp} {p kd st : Addr} {c : Prs} {b w m : Int} {L ts : List Int} {n : Int} {F : Addr → Prop}
theorem ViewP.of (V : ViewAt K C H p kd st c b w m L ts.length n) : ViewP K C H p kd st c b w m L ts n := by
  obtain ⟨⟨dx, wa, ob, hw⟩, kn, nd, inr, win⟩ := V
  exact ⟨⟨ts.length, dx, wa, ob, hw, Nat.le_refl _, by rw [List.drop_length]; exact PKnown.of kn inr⟩, nd, inr, win⟩
theorem ViewP.keep (V : ViewP K C H p kd st c b w m L ts n) (k : Keep F H H') (t : TExt H H') (n1 : ¬ F p) (n2 : ¬ F kd) : ViewP K C H' p kd st c b w m L ts n := by
  obtain ⟨⟨h, dx, wa, ob, hw, l, kn⟩, nd, inr, win⟩ := V
  exact ⟨⟨h, dx, wa, k _ _ ob n1, SqT.text t hw, l, kn.keep k t n2⟩, nd, inr, win⟩
theorem ViewP.same (V : ViewP K C H p kd st c b w m L ts n) (s : Same H H') : ViewP K C H' p kd st c b w m L ts n := V.keep (F := No) (Keep.of_same s) (TExt.of_same s) (fun z => z) (fun z => z)
theorem ViewP.ne (V : ViewP K C H p kd st c b w m L ts n) : p ≠ kd := by
  obtain ⟨⟨h, dx, wa, ob, hw, l, ⟨kvs, e, _⟩, _⟩, _⟩ := V
  exact ne_of ob e (by intro z; cases z)
theorem ViewP.text (V : ViewP K C H p kd st c b w m L ts n) (k : Keep (fun x => x = p ∨ x = kd) H H') : TExt H H' := by
  obtain ⟨⟨h, dx, wa, ob, hw, l, ⟨kvs, e, _⟩, _⟩, _⟩ := V
  refine k.text fun b hb => ?_
  rcases hb with rfl | rfl
  · rw [ob]; trivial
  · rw [e]; trivial
theorem ViewP.textp (V : ViewP K C H p kd st c b w m L ts n) (k : Keep (At p) H H') : TExt H H' := V.text (k.mono fun b h => .inl h)
theorem ViewP.live (V : ViewP K C H p kd st c b w m L ts n) : H p ≠ none ∧ H kd ≠ none := by
  obtain ⟨⟨h, dx, wa, ob, hw, l, ⟨kvs, e, _⟩, _⟩, _⟩ := V
  exact ⟨by rw [ob]; simp, by rw [e]; simp⟩
theorem ViewP.len (V : ViewP K C H p kd st c b w m L ts n) : L.length ≤ m.toNat := by
  have := nodup_le (m := (List.range m.toNat).map fun k : Nat => (k : Int)) V.nd fun k hk => by
    have := V.inr k hk
    exact List.mem_map.mpr ⟨k.toNat, List.mem_range.mpr (by omega), by omega⟩
  simpa using this
theorem ViewP.deed {c' : Prs} {t : Int} (V : ViewP K C H p kd st c b w m L ts n) (bs : Beside t c c') : ViewP K C H p kd st c' b w m (leftL L b w t) (ts ++ [t]) n := by
  obtain ⟨⟨h, dx, wa, ob, hw, l, kn⟩, nd, inr, win⟩ := V
  refine ⟨⟨h, dx, wa, ob, hw, by rw [List.length_append]; omega, ?_⟩, nd.sublist List.filter_sublist, fun k hk => inr k (List.mem_filter.mp hk).1, win⟩
  rw [List.drop_append_of_le_length l]
  exact kn.deed (by have := win.2.2.1; omega) bs
end
/-- all columns known: as many as there are -/
theorem all_known {L : List Int} {m : Int} (nd : L.Nodup) (inr : ∀ k ∈ L, 0 ≤ k ∧ k < m) (all : ∀ k, 0 ≤ k → k < m → k ∈ L) : L.length = m.toNat := by
  have e : L.Perm ((List.range m.toNat).map fun k : Nat => (k : Int)) := by
    refine (List.perm_ext_iff_of_nodup nd ?_).mpr fun k => ?_
    · refine List.pairwise_map.mpr (List.Pairwise.imp (fun {a b} ne e => ne (by omega)) List.nodup_range)
    · constructor
      · intro hk
        have := inr k hk
        exact List.mem_map.mpr ⟨k.toNat, List.mem_range.mpr (by omega), by omega⟩
      · intro hk
        obtain ⟨j, hj, rfl⟩ := List.mem_map.mp hk
        have := List.mem_range.mp hj
        exact all _ (by omega) (by omega)
  have := e.length_eq
  simpa using this
/-! ### columns of two windows that are the same -/
def shareL (b w ob ow : Int) (m : Nat) (om : Int) : Prs :=
  if w ≠ ow ∨ (ob - b) % w ≠ 0 then [] else ((List.range m).filter fun (k : Nat) => decide (0 ≤ (k : Int) - (ob - b) / w ∧ (k : Int) - (ob - b) / w < om)).map fun (k : Nat) => ((k : Int), (k : Int) - (ob - b) / w)
theorem ahead_of {b ob w k j : Int} (hw : 0 < w) (h : b + k * w = ob + j * w) : (ob - b) % w = 0 ∧ (ob - b) / w = k - j := by
  have e : ob - b = (k - j) * w := by rw [Int.sub_mul]; omega
  rw [e]
  exact ⟨Int.mul_emod_left _ _, Int.mul_ediv_cancel _ (by omega)⟩
theorem mem_share {b w ob ow : Int} {m : Nat} {om : Int} (hw : 0 < w) {p : Int × Int} : p ∈ shareL b w ob ow m om ↔ 0 ≤ p.1 ∧ p.1 < m ∧ 0 ≤ p.2 ∧ p.2 < om ∧ b + p.1 * w = ob + p.2 * ow ∧ w = ow := by
  unfold shareL
  split
  · rename_i h
    constructor
    · intro z; simp at z
    · rintro ⟨h1, h2, h3, h4, h5, h6⟩
      subst h6
      rcases h with h | h
      · exact absurd rfl h
      · exact absurd (ahead_of hw h5).1 h
  · rename_i h
    have h' : w = ow ∧ (ob - b) % w = 0 := by
      constructor
      · exact Classical.byContradiction fun z => h (.inl z)
      · exact Classical.byContradiction fun z => h (.inr z)
    obtain ⟨rfl, h2⟩ := h'
    have hq : (ob - b) / w * w = ob - b := Int.ediv_mul_cancel (Int.dvd_of_emod_eq_zero h2)
    constructor
    · intro hp
      obtain ⟨k, hk, rfl⟩ := List.mem_map.mp hp
      rw [List.mem_filter, List.mem_range] at hk
      obtain ⟨h3, h4⟩ := hk
      have h4 := of_decide_eq_true h4
      refine ⟨by show (0 : Int) ≤ (k : Int); omega, by show (k : Int) < m; omega, h4.1, h4.2, ?_, rfl⟩
      show b + (k : Int) * w = ob + ((k : Int) - (ob - b) / w) * w
      rw [Int.sub_mul, hq]
      omega
    · rintro ⟨h3, h4, h5, h6, h7, _⟩
      have h8 := (ahead_of hw h7).2
      refine List.mem_map.mpr ⟨p.1.toNat, ?_, ?_⟩
      · rw [List.mem_filter, List.mem_range]
        exact ⟨by omega, decide_eq_true (by omega)⟩
      · refine Prod.ext ?_ ?_
        · show (p.1.toNat : Int) = p.1
          omega
        · show (p.1.toNat : Int) - (ob - b) / w = p.2
          omega
/-- the columns known behind a step -/
def goL (L : List Int) (b w ob ow : Int) (m : Nat) (om : Int) : List Int := ((shareL b w ob ow m om).filter fun p => decide (p.1 ∈ L)).map (·.2)
theorem share_nd {b w ob ow : Int} {m : Nat} {om : Int} : (shareL b w ob ow m om).Pairwise fun p q => p.2 ≠ q.2 := by
  unfold shareL
  split
  · exact .nil
  · rw [List.pairwise_map]
    refine (List.Pairwise.sublist List.filter_sublist List.nodup_range).imp fun {x y} ne e => ne ?_
    have e : (x : Int) - (ob - b) / w = (y : Int) - (ob - b) / w := e
    omega
theorem goL_nd (L : List Int) (b w ob ow : Int) (m : Nat) (om : Int) : (goL L b w ob ow m om).Nodup := by
  unfold goL
  exact List.pairwise_map.mpr (List.Pairwise.sublist List.filter_sublist share_nd)
theorem goL_mem {L : List Int} {b w ob ow : Int} {m : Nat} {om j : Int} (hw : 0 < w) : j ∈ goL L b w ob ow m om ↔ ∃ k ∈ L, 0 ≤ k ∧ k < m ∧ 0 ≤ j ∧ j < om ∧ b + k * w = ob + j * ow ∧ w = ow := by
  unfold goL
  rw [List.mem_map]
  constructor
  · rintro ⟨p, hp, rfl⟩
    rw [List.mem_filter, mem_share hw] at hp
    exact ⟨p.1, of_decide_eq_true hp.2, hp.1⟩
  · rintro ⟨k, hk, h⟩
    exact ⟨(k, j), by rw [List.mem_filter, mem_share hw]; exact ⟨h, decide_eq_true hk⟩, rfl⟩
def wideL (L : List Int) (m : Nat) : List Int := ((List.range m).filter fun k : Nat => decide ((2 * (k : Int)) ∈ L ∧ (2 * (k : Int) + 1) ∈ L)).map fun k : Nat => (k : Int)
theorem wideL_nd (L : List Int) (m : Nat) : (wideL L m).Nodup := by
  unfold wideL
  exact List.pairwise_map.mpr ((List.Pairwise.sublist List.filter_sublist List.nodup_range).imp fun {x y} ne e => ne (by omega))
theorem wideL_mem {L : List Int} {m : Nat} {k : Int} : k ∈ wideL L m ↔ (0 ≤ k ∧ k < m) ∧ 2 * k ∈ L ∧ 2 * k + 1 ∈ L := by
  unfold wideL
  rw [List.mem_map]
  constructor
  · rintro ⟨j, hj, rfl⟩
    rw [List.mem_filter, List.mem_range] at hj
    exact ⟨⟨by omega, by omega⟩, of_decide_eq_true hj.2⟩
  · rintro ⟨⟨h1, h2⟩, h3⟩
    refine ⟨k.toNat, ?_, by omega⟩
    rw [List.mem_filter, List.mem_range, Int.toNat_of_nonneg h1]
    exact ⟨by omega, decide_eq_true h3⟩
end Fp
/-! d.pop(k, x) where k may be None: a dict by numbers has no such key -/
namespace Fp
open PySem PySem.Spec PyProof.Rows L2
def lf : Key → Leaf
  | .inl i => .num i
  | .inr x => .text x
theorem lf_is {k : Key} {v : Value} (h : keyIs k v = true) : Leaf.isOf (lf k) v = true := by
  rcases keyIs_shape h with ⟨i, t, rfl, rfl⟩ | ⟨x, t, rfl, rfl⟩
  · exact decide_eq_true rfl
  · exact keyIs_str x t
theorem lf_hash (w : World) (k : Key) : (lf k).key.hash w = keyH w k := by cases k <;> rfl
theorem lf_inj {a b : Key} (h : lf a = lf b) : a = b := by
  cases a <;> cases b <;> simp_all [lf]
theorem lf_none (k : Key) : lf k ≠ .none := by cases k <;> simp [lf]
theorem pairs_lf {P : Program} {w : World} : ∀ {es : List DictEntry} {kvs : List (Key × Value)}, PySem.Pairs (mixKind P w) es kvs → PySem.Pairs (leafKind P w) es (kvs.map fun q => (lf q.1, q.2))
  | _, _, .nil => .nil
  | _, _, .cons h1 h2 h3 => .cons (lf_is h1) h2 (pairs_lf h3)
theorem dict_lf {P : Program} {w : World} {h : Heap} {a : Addr} {kvs : List (Key × Value)} (d : h.DictOf (mixKind P w) a kvs) : h.DictOf (leafKind P w) a (kvs.map fun q => (lf q.1, q.2)) := by
  obtain ⟨o, es, ep, h1, h2, h3, h4, h5, h6⟩ := d
  refine ⟨o, es, ep, h1, h2, h3, fun e he => ?_, pairs_lf h5, ?_⟩
  · obtain ⟨k, g1, g2⟩ := h4 e he
    exact ⟨lf k, lf_is g1, g2.trans (lf_hash w k).symm⟩
  · rw [List.map_map]
    have : ((fun q : Leaf × Value => q.1) ∘ fun q : Key × Value => (lf q.1, q.2)) = fun q => lf q.1 := rfl
    rw [this]
    exact List.pairwise_map.mpr ((List.pairwise_map.mp h6).imp fun {a b} ne e => ne (lf_inj e))
theorem val_lf_none : ∀ kvs : List (Key × Value), valueAt (kvs.map fun q => (lf q.1, q.2)) Leaf.none = none
  | [] => rfl
  | q :: r => by
    have ih := val_lf_none r
    unfold valueAt at *
    rw [List.map_cons, List.find?_cons]
    rw [show decide ((lf q.1, q.2).1 = Leaf.none) = false from decide_eq_false (lf_none _)]
    exact ih
section
variable {X : Cx} {pins : List (Addr × Obj)} {σ : St} {H : Hp} {s : Shared} {a : Addr} {kvs : List (Key × V)} {A : Around} {E : Value → Shared → Prop}
theorem d_popN {r : Value} {Q : Value → Shared → Prop} (I : Inv X pins σ H s) (e : H a = some (.dK kvs)) (h : ∀ s', Inv X pins σ H s' → Q r s') :
    wpAny (model X.prog X.w) A (call (.builtin "dict.pop") [.ref a, .none, r]) Q E s := by
  obtain ⟨z, hd, vs, rel, dd⟩ := dk_of I.hok e
  exact call_meetsIn PySem.F.slot_dict_pop dd.typeIs PySem.F.entry_dict_pop (PySem.F.args_dict_pop_3 _ _ _) (meets_dict_pop_default (leafKind X.prog X.w) a (k := Leaf.none) rfl hd rfl r) ⟨_, dict_lf dd, val_lf_none vs, h _ (I.tok _)⟩
end
def uPopN (a : Addr) (y z : V) (H : Hp) (Q : VK) : Prop := ∃ kvs, H a = some (.dK kvs) ∧ ((y = .non ∧ Q z H) ∨ ∃ k, y = kV k ∧ (∀ v, valV kvs k = some v → Q v (upd H a (.dK (dropK kvs k)))) ∧ (valV kvs k = none → Q z H))
def tDPopN (td ty tx : TE) : TE := fun σ H Q => td σ H fun x H1 => ∃ a, x = .ref a ∧ IsD H1 a ∧ ty σ H1 fun y H2 => tx σ H2 fun z H3 => uPopN a y z H3 Q
section
variable {X : Cx} {o e f : Expr} {apos cpos : Pos} {td ty tx : TE} {σ : St} {H : Hp} {Q : VK} {a : Addr}
theorem pe_dpopN (ho : PE X o td) (he : PE X e ty) (hf : PE X f tx) (m : M2 X o "pop" apos e f cpos) : PE X (.Call (.Attribute o "pop" apos) [e, f] [] cpos) (tDPopN td ty tx) := by
  refine ⟨fun pins s σ H Q I h => ?_⟩
  refine wpAny_Call_method m.base m.few m.line PySem.F.plainAttrs_dict PySem.F.slot_dict_pop PySem.F.type_dict_pop (thn (ho.run pins s σ H _ I h) fun u s1 ⟨x, H1, I1, rx, a, ex, d, q1⟩ => ?_)
  subst ex
  obtain rfl : u = Value.ref a := rx
  obtain ⟨t1, t2, _⟩ := isD_at I1 d
  refine ⟨t1, t2, ?_⟩
  rw [m.trees]
  refine Calls.callWith_builtin rfl (Calls.evalArgs_plain (Calls.spliced_cons (thn (he.run pins s1 σ H1 _ I1 q1) fun iv s2 ⟨y, H2, I2, ry, q2⟩ =>
    Calls.spliced_cons (thn (hf.run pins s2 σ H2 _ I2 q2) fun fv s3 ⟨z, H3, I3, rz, kvs, ea, q3⟩ => Calls.spliced_nil ?_))))
  rcases q3 with ⟨ey, q3⟩ | ⟨k, ey, q3, q4⟩
  · subst ey
    obtain rfl : iv = Value.none := ry
    exact d_popN I3 ea fun s4 I4 => ⟨z, H3, I4, rz, q3⟩
  · subst ey
    cases l : valV kvs k with
    | some v => exact d_pop I3 ea ry l (.inr ⟨fv, rfl⟩) fun w' s4 I4 rw' => ⟨v, _, I4, rw', q3 v l⟩
    | none => exact d_popD I3 ea ry l fun s4 I4 => ⟨z, H3, I4, rz, q4 l⟩
def uPopNx (ty tx : TE) (σ : St) (x : V) (H : Hp) (Q : VK) : Prop := ∃ a, x = .ref a ∧ IsD H a ∧ ty σ H fun y H2 => tx σ H2 fun z H3 => uPopN a y z H3 Q
theorem r_dpopN (q : td σ H fun x H1 => uPopNx ty tx σ x H1 Q) : tDPopN td ty tx σ H Q := q
theorem r_dpopNi {kvs : List (Key × V)} (hd : H a = some (.dK kvs)) (q : ty σ H fun y H2 => tx σ H2 fun z H3 => uPopN a y z H3 Q) : uPopNx ty tx σ (.ref a) H Q := ⟨a, rfl, .inl ⟨_, .inl hd⟩, q⟩
/-- .. None -/
theorem r_popNn {kvs : List (Key × V)} {z : V} (hd : H a = some (.dK kvs)) (q : Q z H) : uPopN a .non z H Q := ⟨kvs, hd, .inl ⟨rfl, q⟩⟩
/-- .. a number; what comes of it is not looked at -/
theorem r_popNi {kvs : List (Key × V)} {z : V} {t : Int} (hd : H a = some (.dK kvs)) (q : ∀ v H', Keep (At a) H H' → H' a = some (.dK (dropK kvs (Sum.inl t))) → Q v H') : uPopN a (.int t) z H Q := by
  refine ⟨kvs, hd, .inr ⟨Sum.inl t, rfl, fun v _ => q v _ Keep.at_ upd_same, fun e => ?_⟩⟩
  refine q z H (Keep.refl _) ?_
  have : dropK kvs (Sum.inl t) = kvs := by
    unfold dropK
    refine List.filter_eq_self.mpr fun x hx => decide_eq_true fun z => ?_
    rw [← z] at e
    exact valV_ne hx e
  rw [this]
  exact hd
end
/-! o[i] += e, o a list -/
def uGetL (K : PySem.W.Frag) (o i : V) (H : Hp) (Q : VK) : Prop := ∃ (p : Addr) (xs : List V) (k : Int) (v : V), o = .ref p ∧ i = .int k ∧ 0 ≤ k ∧ SqL K H p xs ∧ xs[k.toNat]? = some v ∧ Q v H
theorem get_listX {X : Cx} : PGet X (uGetL X.K) := by
  intro pins s σ H o i ov iv Q I ro ri h
  obtain ⟨p, xs, k, v, rfl, rfl, h0, hq, hv, q⟩ := h
  cases ro
  obtain ⟨t, rfl⟩ := ri
  obtain ⟨its, r, pl, hz⟩ := I.list hq
  obtain ⟨w, ew, rel⟩ := r.get hv
  have hl := r.length
  have hk : k.toNat < xs.length := (List.getElem?_eq_some_iff.mp hv).1
  have hn := line63
  exact wpAny_getItem_list pl.isList h0 (by omega) (by simpa using ew) ⟨v, H, I, rel, q⟩
theorem get_listK {X : Cx} (K : PySem.W.Frag) (hK : X.K = K := by rfl) : PGet X (uGetL K) := hK ▸ get_listX
section
variable {K : PySem.W.Frag} {σ : St} {H : Hp} {Q : VK} {to ti te : TE} {tget : V → V → Hp → VK → Prop} {tip : TIp} {tset : TSet} {nx bk ct : St → Hp → Prop} {rt : VK} {p : Addr} {xs : List V} {v : V} {i : Int}
theorem r_augS (q : to σ H fun o H1 => ti σ H1 fun i H2 => tget o i H2 fun x H3 => te σ H3 fun y H4 => tip x y H4 fun z H5 => tset o i z H5 fun H6 => nx σ H6) : tAugS to ti te tget tip tset ⟨nx, rt, bk, ct⟩ σ H := q
theorem r_getl (h : SqL K H p xs) (e : xs[i.toNat]? = some v) (q : Q v H) (h0 : 0 ≤ i := by decide) : uGetL K (.ref p) (.int i) H Q := ⟨p, xs, i, v, rfl, rfl, h0, h, e, q⟩
end
end Fp
/-! dots of curves, in plain numbers -/
namespace Fp
open PySem PySem.Spec PyProof.Rows L2
def rowS (low tall : Int) (p : Int × Int) : Int := (p.2 - low) / tall
def rowP (low tall : Int) (p q : Int × Int) (t : Int) : Int := ((p.2 - low) * (q.1 - p.1) + (q.2 - p.2) * (t - p.1)) / ((q.1 - p.1) * tall)
def adjL (c : Prs) : List ((Int × Int) × (Int × Int)) := c.zip (c.drop 1)
def Adj (c : Prs) (p q : Int × Int) : Prop := (p, q) ∈ adjL c
abbrev Up (c : Prs) : Prop := c.Pairwise fun p q => p.1 < q.1
theorem up_lt {c : Prs} (up : Up c) {i j : Nat} {p q : Int × Int} (hi : c[i]? = some p) (hj : c[j]? = some q) (h : i < j) : p.1 < q.1 := by
  obtain ⟨i1, e1⟩ := List.getElem?_eq_some_iff.mp hi
  obtain ⟨j1, e2⟩ := List.getElem?_eq_some_iff.mp hj
  have := List.pairwise_iff_getElem.mp up i j i1 j1 h
  rw [e1, e2] at this
  exact this
theorem up_le {c : Prs} (up : Up c) {i j : Nat} {p q : Int × Int} (hi : c[i]? = some p) (hj : c[j]? = some q) (h : i ≤ j) : p.1 ≤ q.1 := by
  rcases Nat.lt_or_ge i j with z | z
  · exact Int.le_of_lt (up_lt up hi hj z)
  · have : i = j := by omega
    subst this
    rw [hi] at hj
    cases hj
    exact Int.le_refl _
theorem adj_at {c : Prs} {p q : Int × Int} : Adj c p q ↔ ∃ i, c[i]? = some p ∧ c[i + 1]? = some q := by
  unfold Adj adjL
  constructor
  · intro h
    obtain ⟨i, hi⟩ := List.getElem?_of_mem h
    rw [List.getElem?_zip_eq_some] at hi
    refine ⟨i, hi.1, ?_⟩
    have := hi.2
    rw [List.getElem?_drop, Nat.add_comm] at this
    exact this
  · rintro ⟨i, h1, h2⟩
    refine List.mem_of_getElem? (i := i) ?_
    rw [List.getElem?_zip_eq_some]
    exact ⟨h1, by rw [List.getElem?_drop, Nat.add_comm]; exact h2⟩
theorem adj_iff {c : Prs} (up : Up c) {p q : Int × Int} : Adj c p q ↔ p ∈ c ∧ q ∈ c ∧ p.1 < q.1 ∧ ∀ s ∈ c, s.1 ≤ p.1 ∨ q.1 ≤ s.1 := by
  rw [adj_at]
  constructor
  · rintro ⟨i, h1, h2⟩
    refine ⟨List.mem_of_getElem? h1, List.mem_of_getElem? h2, up_lt up h1 h2 (by omega), fun s hs => ?_⟩
    obtain ⟨j, hj⟩ := List.getElem?_of_mem hs
    by_cases h : j ≤ i
    · exact .inl (up_le up hj h1 h)
    · exact .inr (up_le up h2 hj (by omega))
  · rintro ⟨h1, h2, h3, h4⟩
    obtain ⟨i, hi⟩ := List.getElem?_of_mem h1
    obtain ⟨j, hj⟩ := List.getElem?_of_mem h2
    have hij : i < j := by
      rcases Nat.lt_or_ge i j with z | z
      · exact z
      · have := up_le up hj hi z
        omega
    obtain ⟨j1, _⟩ := List.getElem?_eq_some_iff.mp hj
    have e1 : c[i + 1]? = some (c[i + 1]'(by omega)) := List.getElem?_eq_getElem _
    rcases Nat.lt_or_ge (i + 1) j with z | z
    · have a := up_lt up hi e1 (by omega)
      have b := up_lt up e1 hj z
      rcases h4 _ (List.mem_of_getElem? e1) with y | y <;> omega
    · have : j = i + 1 := by omega
      subst this
      exact ⟨i, hi, hj⟩
/-- row r is met between x and z -/
def Met (c : Prs) (low tall x z r : Int) : Prop := (∃ p ∈ c, (x ≤ p.1 ∧ p.1 < z) ∧ r = rowS low tall p) ∨
  (∃ p q, Adj c p q ∧ (p.1 < z ∧ x < q.1) ∧ (r = rowP low tall p q (max x p.1) ∨ r = rowP low tall p q (min z q.1)))
/-- a dot stands in row r -/
def Dot (R : Int → Prop) (n r : Int) : Prop := 0 ≤ r ∧ r < n ∧ (∃ a, R a ∧ a ≤ r) ∧ ∃ b, R b ∧ r ≤ b
def IsRun (D : Int → Prop) : Option (Int × Int) → Prop
  | none => ∀ r, ¬ D r
  | some (a, b) => a ≤ b ∧ ∀ r, D r ↔ a ≤ r ∧ r ≤ b
theorem IsRun.uniq {D : Int → Prop} {o o' : Option (Int × Int)} (h : IsRun D o) (h' : IsRun D o') : o = o' := by
  cases o with
  | none =>
    cases o' with
    | none => rfl
    | some ab => exact absurd ((h'.2 ab.1).mpr ⟨Int.le_refl _, h'.1⟩) (h ab.1)
  | some ab =>
    cases o' with
    | none => exact absurd ((h.2 ab.1).mpr ⟨Int.le_refl _, h.1⟩) (h' ab.1)
    | some cd =>
      obtain ⟨a, b⟩ := ab
      obtain ⟨c, d⟩ := cd
      obtain ⟨h1, h2⟩ := h
      obtain ⟨h3, h4⟩ := h'
      have e1 := (h4 a).mp ((h2 a).mpr ⟨Int.le_refl _, h1⟩)
      have e2 := (h4 b).mp ((h2 b).mpr ⟨h1, Int.le_refl _⟩)
      have e3 := (h2 c).mp ((h4 c).mpr ⟨Int.le_refl _, h3⟩)
      have e4 := (h2 d).mp ((h4 d).mpr ⟨h3, Int.le_refl _⟩)
      have : a = c := by omega
      have : b = d := by omega
      subst a b
      rfl
theorem IsRun.congr {D D' : Int → Prop} {o : Option (Int × Int)} (h : IsRun D o) (e : ∀ r, D r ↔ D' r) : IsRun D' o := by
  cases o with
  | none => exact fun r z => h r ((e r).mpr z)
  | some ab => exact ⟨h.1, fun r => (e r).symm.trans (h.2 r)⟩
/-- what the program tells of the least and the greatest row -/
theorem run_some {R : Int → Prop} {n mn mx : Int} (h1 : R mn) (h2 : ∀ r, R r → mn ≤ r) (h3 : R mx) (h4 : ∀ r, R r → r ≤ mx) (hn : 1 ≤ n) : IsRun (Dot R n) (if min (n - 1) mx < max 0 mn then none else some (max 0 mn, min (n - 1) mx)) := by
  have key : ∀ r, Dot R n r ↔ max 0 mn ≤ r ∧ r ≤ min (n - 1) mx := fun r => by
    unfold Dot
    constructor
    · rintro ⟨a, b, ⟨x, hx, hxr⟩, y, hy, hyr⟩
      have := h2 x hx
      have := h4 y hy
      omega
    · rintro ⟨a, b⟩
      exact ⟨by omega, by omega, ⟨mn, h1, by omega⟩, mx, h3, by omega⟩
  split
  · intro r hr
    have := (key r).mp hr
    omega
  · exact ⟨by omega, key⟩
theorem run_none {R : Int → Prop} {n : Int} (h : ∀ r, ¬ R r) : IsRun (Dot R n) none := fun r ⟨_, _, ⟨a, ha, _⟩, _⟩ => h a ha
/-! ### kept samples draw alike -/
def Sand (A B : Int → Prop) : Prop := ∀ r, A r → (∃ a, B a ∧ a ≤ r) ∧ ∃ b, B b ∧ r ≤ b
theorem dot_sand {A B : Int → Prop} {n : Int} (h1 : Sand A B) (h2 : Sand B A) (r : Int) : Dot A n r ↔ Dot B n r := by
  have go : ∀ {A B : Int → Prop}, Sand A B → Dot A n r → Dot B n r := by
    rintro A B h ⟨a, b, ⟨x, hx, hxr⟩, y, hy, hyr⟩
    obtain ⟨⟨x1, h3, h4⟩, _⟩ := h x hx
    obtain ⟨_, y1, h5, h6⟩ := h y hy
    exact ⟨a, b, ⟨x1, h3, by omega⟩, y1, h5, by omega⟩
  exact ⟨go h1, go h2⟩
structure Keeps (b w : Int) (S T : Prs) : Prop where
  up : Up S
  up' : Up T
  sub : ∀ p ∈ T, p ∈ S
  first : ∀ p ∈ S, ∃ f ∈ T, (f.1 - b) / w = (p.1 - b) / w ∧ f.1 ≤ p.1
  last : ∀ p ∈ S, ∃ f ∈ T, (f.1 - b) / w = (p.1 - b) / w ∧ p.1 ≤ f.1
  low : ∀ p ∈ S, ∃ f ∈ T, (f.1 - b) / w = (p.1 - b) / w ∧ f.2 ≤ p.2
  high : ∀ p ∈ S, ∃ f ∈ T, (f.1 - b) / w = (p.1 - b) / w ∧ p.2 ≤ f.2
theorem col_iff {b w t k : Int} (hw : 0 < w) : (t - b) / w = k ↔ b + k * w ≤ t ∧ t < b + k * w + w := by
  constructor
  · intro h
    have h1 := Int.ediv_mul_le (t - b) (show w ≠ 0 by omega)
    have h2 := Int.lt_ediv_add_one_mul_self (t - b) hw
    rw [h] at h1 h2
    rw [Int.add_mul, Int.one_mul] at h2
    omega
  · rintro ⟨h1, h2⟩
    exact div_is hw (by omega) (by omega)
theorem col_mono {b w t u : Int} (hw : 0 < w) (h : t ≤ u) : (t - b) / w ≤ (u - b) / w := Int.ediv_le_ediv hw (by omega)
theorem up_eq {S : Prs} (up : Up S) {p q : Int × Int} (hp : p ∈ S) (hq : q ∈ S) (h : p.1 = q.1) : p = q := by
  obtain ⟨i, hi⟩ := List.getElem?_of_mem hp
  obtain ⟨j, hj⟩ := List.getElem?_of_mem hq
  rcases Nat.lt_trichotomy i j with z | z | z
  · have := up_lt up hi hj z; omega
  · subst z; rw [hi] at hj; exact Option.some.inj hj
  · have := up_lt up hj hi z; omega
theorem rowP_start {low tall : Int} {p q : Int × Int} (ht : 0 < tall) (h : p.1 < q.1) : rowP low tall p q p.1 = rowS low tall p := by
  unfold rowP rowS
  rw [Int.sub_self, Int.mul_zero, Int.add_zero, Int.mul_comm (p.2 - low)]
  exact Int.mul_ediv_mul_of_pos _ _ (by omega)
theorem rowP_stop {low tall : Int} {p q : Int × Int} (ht : 0 < tall) (h : p.1 < q.1) : rowP low tall p q q.1 = rowS low tall q := by
  unfold rowP rowS
  rw [← Int.add_mul, Int.mul_comm _ (q.1 - p.1), show p.2 - low + (q.2 - p.2) = q.2 - low by omega]
  exact Int.mul_ediv_mul_of_pos _ _ (by omega)
theorem rowS_mono {low tall : Int} {p q : Int × Int} (ht : 0 < tall) (h : p.2 ≤ q.2) : rowS low tall p ≤ rowS low tall q := Int.ediv_le_ediv ht (by omega)
section
variable {b w low tall k : Int} {S T : Prs}
/-- a piece within one column meets its samples' rows alone -/
theorem piece_in (hw : 0 < w) (ht : 0 < tall) {p q : Int × Int} (hpq : p.1 < q.1) (e : (p.1 - b) / w = (q.1 - b) / w) (h1 : p.1 < b + k * w + w) (h2 : b + k * w < q.1) :
    (p.1 - b) / w = k ∧ (q.1 - b) / w = k ∧ rowP low tall p q (max (b + k * w) p.1) = rowS low tall p ∧ rowP low tall p q (min (b + k * w + w) q.1) = rowS low tall q := by
  have a1 : (p.1 - b) / w < k + 1 := (Int.ediv_lt_iff_lt_mul hw).mpr (by rw [Int.add_mul, Int.one_mul]; omega)
  have a2 : k ≤ (q.1 - b) / w := (Int.le_ediv_iff_mul_le hw).mpr (by omega)
  have a3 : (p.1 - b) / w = k := by omega
  have a4 : (q.1 - b) / w = k := by omega
  have b1 := (col_iff hw).mp a3
  have b2 := (col_iff hw).mp a4
  rw [show max (b + k * w) p.1 = p.1 by omega, show min (b + k * w + w) q.1 = q.1 by omega]
  exact ⟨a3, a4, rowP_start ht hpq, rowP_stop ht hpq⟩
theorem sand_sample (hw : 0 < w) (ht : 0 < tall) (K : Keeps b w S T) {p : Int × Int} (hp : p ∈ S) (e : (p.1 - b) / w = k) :
    (∃ a, Met T low tall (b + k * w) (b + k * w + w) a ∧ a ≤ rowS low tall p) ∧ ∃ a, Met T low tall (b + k * w) (b + k * w + w) a ∧ rowS low tall p ≤ a := by
  obtain ⟨f, hf, e1, h1⟩ := K.low p hp
  obtain ⟨g, hg, e2, h2⟩ := K.high p hp
  exact ⟨⟨_, .inl ⟨f, hf, (col_iff hw).mp (e1.trans e), rfl⟩, rowS_mono ht h1⟩, _, .inl ⟨g, hg, (col_iff hw).mp (e2.trans e), rfl⟩, rowS_mono ht h2⟩
theorem keeps_adj (hw : 0 < w) (K : Keeps b w S T) {p q : Int × Int} (ne : (p.1 - b) / w ≠ (q.1 - b) / w) : Adj S p q ↔ Adj T p q := by
  rw [adj_iff K.up, adj_iff K.up']
  constructor
  · rintro ⟨h1, h2, h3, h4⟩
    have hp : p ∈ T := by
      obtain ⟨l, hl, e, h⟩ := K.last p h1
      rcases h4 l (K.sub l hl) with z | z
      · rw [up_eq K.up h1 (K.sub l hl) (by omega)]; exact hl
      · have := col_mono (b := b) hw z
        have := col_mono (b := b) hw (Int.le_of_lt h3)
        omega
    have hq : q ∈ T := by
      obtain ⟨f, hf, e, h⟩ := K.first q h2
      rcases h4 f (K.sub f hf) with z | z
      · have := col_mono (b := b) hw z
        have := col_mono (b := b) hw (Int.le_of_lt h3)
        omega
      · rw [up_eq K.up h2 (K.sub f hf) (by omega)]; exact hf
    exact ⟨hp, hq, h3, fun s hs => h4 s (K.sub s hs)⟩
  · rintro ⟨h1, h2, h3, h4⟩
    refine ⟨K.sub p h1, K.sub q h2, h3, fun s hs => ?_⟩
    by_cases z1 : s.1 ≤ p.1
    · exact .inl z1
    by_cases z2 : q.1 ≤ s.1
    · exact .inr z2
    exfalso
    have m1 := col_mono (b := b) hw (show p.1 ≤ s.1 by omega)
    have m2 := col_mono (b := b) hw (show s.1 ≤ q.1 by omega)
    obtain ⟨f, hf, ef, hf2⟩ := K.first s hs
    obtain ⟨l, hl, el, hl2⟩ := K.last s hs
    rcases h4 f hf with y | y
    · rcases h4 l hl with x | x
      · omega
      · have a := col_mono (b := b) hw y
        have c := col_mono (b := b) hw x
        omega
    · omega
theorem met_sand (hw : 0 < w) (ht : 0 < tall) (K : Keeps b w S T) : Sand (Met S low tall (b + k * w) (b + k * w + w)) (Met T low tall (b + k * w) (b + k * w + w)) := by
  rintro r (⟨p, hp, hx, rfl⟩ | ⟨p, q, ha, hx, hr⟩)
  · exact sand_sample hw ht K hp ((col_iff hw).mpr hx)
  · by_cases e : (p.1 - b) / w = (q.1 - b) / w
    · obtain ⟨h1, h2, h3, _⟩ := (adj_iff K.up).mp ha
      obtain ⟨e1, e2, r1, r2⟩ := piece_in (low := low) hw ht h3 e hx.1 hx.2
      rcases hr with rfl | rfl
      · rw [r1]; exact sand_sample hw ht K h1 e1
      · rw [r2]; exact sand_sample hw ht K h2 e2
    · have m : Met T low tall (b + k * w) (b + k * w + w) r := .inr ⟨p, q, (keeps_adj hw K e).mp ha, hx, hr⟩
      exact ⟨⟨r, m, Int.le_refl _⟩, r, m, Int.le_refl _⟩
theorem met_back (hw : 0 < w) (ht : 0 < tall) (K : Keeps b w S T) : Sand (Met T low tall (b + k * w) (b + k * w + w)) (Met S low tall (b + k * w) (b + k * w + w)) := by
  have it : ∀ {r : Int}, Met S low tall (b + k * w) (b + k * w + w) r → (∃ a, Met S low tall (b + k * w) (b + k * w + w) a ∧ a ≤ r) ∧ ∃ c, Met S low tall (b + k * w) (b + k * w + w) c ∧ r ≤ c := fun {r} m => ⟨⟨r, m, Int.le_refl _⟩, r, m, Int.le_refl _⟩
  rintro r (⟨p, hp, hx, rfl⟩ | ⟨p, q, ha, hx, hr⟩)
  · exact it (.inl ⟨p, K.sub p hp, hx, rfl⟩)
  · by_cases e : (p.1 - b) / w = (q.1 - b) / w
    · obtain ⟨h1, h2, h3, _⟩ := (adj_iff K.up').mp ha
      obtain ⟨e1, e2, r1, r2⟩ := piece_in (low := low) hw ht h3 e hx.1 hx.2
      rcases hr with rfl | rfl
      · rw [r1]; exact it (.inl ⟨p, K.sub p h1, (col_iff hw).mp e1, rfl⟩)
      · rw [r2]; exact it (.inl ⟨q, K.sub q h2, (col_iff hw).mp e2, rfl⟩)
    · exact it (.inr ⟨p, q, (keeps_adj hw K e).mpr ha, hx, hr⟩)
/-- the dots of the kept samples are those of all -/
theorem keeps_dots (hw : 0 < w) (ht : 0 < tall) (K : Keeps b w S T) (n r : Int) : Dot (Met S low tall (b + k * w) (b + k * w + w)) n r ↔ Dot (Met T low tall (b + k * w) (b + k * w + w)) n r := dot_sand (met_sand hw ht K) (met_back hw ht K) r
end

/-! ### the run of dots -/
open Classical in
noncomputable def runOf (D : Int → Prop) : Option (Int × Int) := if h : ∃ o, IsRun D o then h.choose else none
theorem runOf_eq {D : Int → Prop} {o : Option (Int × Int)} (h : IsRun D o) : runOf D = o := by
  have z : ∃ o, IsRun D o := ⟨o, h⟩
  unfold runOf
  rw [dif_pos z]
  exact z.choose_spec.uniq h
theorem runOf_congr {D D' : Int → Prop} (e : ∀ r, D r ↔ D' r) : runOf D = runOf D' := by
  have : D = D' := funext fun r => propext (e r)
  rw [this]
def runD : Option (Int × Int) → PyData
  | none => .none
  | some p => pairP p
theorem imm_run (o : Option (Int × Int)) : imm (runD o) = true := by
  cases o with
  | none => rfl
  | some p => exact imm_pair p
theorem shp_run (o : Option (Int × Int)) : Shp 1 (runD o) := by
  cases o with
  | none => exact .none
  | some p => exact shp_pair p
/-- the column's dots -/
noncomputable def colRun (c : Prs) (b w low tall n : Int) (k : Int) : Option (Int × Int) := runOf (Dot (Met c low tall (b + k * w) (b + k * w + w)) n)
noncomputable def dotsL (c : Prs) (b w m low tall n : Int) : List (Option (Int × Int)) := (List.range m.toNat).map fun k : Nat => colRun (partL c b (b + w * m)) b w low tall n k
noncomputable def dotsD (c : Prs) (b w m low tall n : Int) : PyData := .tuple ((dotsL c b w m low tall n).map runD)
theorem imm_dots (c : Prs) (b w m low tall n : Int) : imm (dotsD c b w m low tall n) = true := by
  unfold dotsD
  simp only [imm]
  exact immAll_map _ imm_run _
theorem shp_dots (c : Prs) (b w m low tall n : Int) : Shp 2 (dotsD c b w m low tall n) := Shp.tupleM shp_run
theorem keeps_run {b w low tall n k : Int} {S T : Prs} (hw : 0 < w) (ht : 0 < tall) (K : Keeps b w S T) : colRun S b w low tall n k = colRun T b w low tall n k := runOf_congr (keeps_dots hw ht K n)
/-! ### lists of met rows -/
theorem partL_snoc' (l : Prs) (p : Int × Int) (b e : Int) : partL (l ++ [p]) b e = partL l b e ++ (if b ≤ p.1 ∧ p.1 < e then [p] else []) := by
  unfold partL
  rw [List.filter_append]
  congr 1
  by_cases h : b ≤ p.1 ∧ p.1 < e
  · simp [h.1, h.2]
  · rw [if_neg h]
    simp
    omega
def metS (c : Prs) (low tall x z : Int) : List Int := (partL c x z).map (rowS low tall)
def pieceL (low tall x z : Int) (pq : (Int × Int) × (Int × Int)) : List Int := if pq.1.1 < z ∧ x < pq.2.1 then [rowP low tall pq.1 pq.2 (max x pq.1.1), rowP low tall pq.1 pq.2 (min z pq.2.1)] else []
def metL (c : Prs) (a : List ((Int × Int) × (Int × Int))) (low tall x z : Int) : List Int := metS c low tall x z ++ a.flatMap (pieceL low tall x z)
theorem metL_mem {c : Prs} {low tall x z r : Int} : r ∈ metL c (adjL c) low tall x z ↔ Met c low tall x z r := by
  unfold metL metS Met Adj
  rw [List.mem_append, List.mem_map, List.mem_flatMap]
  constructor
  · rintro (⟨p, hp, rfl⟩ | ⟨pq, hpq, hr⟩)
    · unfold partL at hp
      rw [List.mem_filter] at hp
      exact .inl ⟨p, hp.1, by simpa using hp.2, rfl⟩
    · unfold pieceL at hr
      split at hr
      · rename_i hc
        refine .inr ⟨pq.1, pq.2, hpq, hc, ?_⟩
        simpa using hr
      · simp at hr
  · rintro (⟨p, hp, hx, rfl⟩ | ⟨p, q, hpq, hx, hr⟩)
    · refine .inl ⟨p, ?_, rfl⟩
      unfold partL
      rw [List.mem_filter]
      exact ⟨hp, by simpa using hx⟩
    · refine .inr ⟨(p, q), hpq, ?_⟩
      unfold pieceL
      rw [if_pos hx]
      simpa using hr
theorem metS_snoc (l : Prs) (p : Int × Int) (low tall x z : Int) : metS (l ++ [p]) low tall x z = metS l low tall x z ++ (if x ≤ p.1 ∧ p.1 < z then [rowS low tall p] else []) := by
  unfold metS
  rw [partL_snoc', List.map_append]
  split <;> rfl
theorem metL_snoc (c : Prs) (a : List ((Int × Int) × (Int × Int))) (pq : (Int × Int) × (Int × Int)) (low tall x z : Int) : metL c (a ++ [pq]) low tall x z = metL c a low tall x z ++ pieceL low tall x z pq := by
  unfold metL
  rw [List.flatMap_append, List.append_assoc]
  simp
theorem piece_len (low tall x z : Int) (pq : (Int × Int) × (Int × Int)) : (pieceL low tall x z pq).length ≤ 2 := by
  unfold pieceL
  split <;> simp
theorem metL_len (c : Prs) (low tall x z : Int) : ∀ a : List ((Int × Int) × (Int × Int)), (metL c a low tall x z).length ≤ c.length + 2 * a.length := by
  have h1 : (metS c low tall x z).length ≤ c.length := by
    unfold metS
    rw [List.length_map]
    exact partL_len _ _ _
  have h2 : ∀ a : List ((Int × Int) × (Int × Int)), (a.flatMap (pieceL low tall x z)).length ≤ 2 * a.length := by
    intro a
    induction a with
    | nil => simp
    | cons p r ih =>
      rw [List.flatMap_cons, List.length_append, List.length_cons]
      have := piece_len low tall x z p
      omega
  intro a
  unfold metL
  rw [List.length_append]
  have := h2 a
  omega
theorem metL_nil (c : Prs) (low tall x z : Int) : metL c [] low tall x z = metS c low tall x z := by
  unfold metL
  simp
/-! ### fractions -/
def frac (low tall : Int) (x : Int × Int) : Int := (x.1 - low * x.2) / (x.2 * tall)
theorem frac_le {low tall r : Int} {x : Int × Int} (ht : 0 < tall) (hx : 0 < x.2) : x.1 < (low + (r + 1) * tall) * x.2 ↔ frac low tall x ≤ r := by
  have hd : 0 < x.2 * tall := Int.mul_pos hx ht
  have e : (low + (r + 1) * tall) * x.2 = low * x.2 + (r + 1) * (x.2 * tall) := by
    rw [Int.add_mul, Int.mul_assoc, Int.mul_comm tall]
  unfold frac
  rw [e, ← Int.lt_add_one_iff, Int.ediv_lt_iff_lt_mul hd]
  omega
theorem frac_ge {low tall r : Int} {x : Int × Int} (ht : 0 < tall) (hx : 0 < x.2) : ¬ x.1 < (low + r * tall) * x.2 ↔ r ≤ frac low tall x := by
  have hd : 0 < x.2 * tall := Int.mul_pos hx ht
  have e : (low + r * tall) * x.2 = low * x.2 + r * (x.2 * tall) := by
    rw [Int.add_mul, Int.mul_assoc, Int.mul_comm tall]
  unfold frac
  rw [e, Int.le_ediv_iff_mul_le hd]
  omega
def lessF (x y : Int × Int) : Prop := x.1 * y.2 < y.1 * x.2
theorem frac_mono {low tall : Int} {x y : Int × Int} (ht : 0 < tall) (hx : 0 < x.2) (hy : 0 < y.2) (h : ¬ lessF x y) : frac low tall y ≤ frac low tall x := by
  refine (frac_le ht hy).mp ?_
  have h1 := (frac_le (low := low) (r := frac low tall x) ht hx).mpr (Int.le_refl _)
  have h2 : y.1 * x.2 ≤ x.1 * y.2 := by
    unfold lessF at h
    omega
  generalize low + (frac low tall x + 1) * tall = c at *
  have h3 : x.1 * y.2 < c * x.2 * y.2 := Int.mul_lt_mul_of_pos_right h1 hy
  have h4 : y.1 * x.2 < c * y.2 * x.2 := by
    rw [Int.mul_right_comm c]
    omega
  exact Int.lt_of_mul_lt_mul_right h4 (Int.le_of_lt hx)
theorem lessF_trans {x y z : Int × Int} (hx : 0 < x.2) (hy : 0 < y.2) (hz : 0 < z.2) (h1 : ¬ lessF y x) (h2 : ¬ lessF z y) : ¬ lessF z x := by
  unfold lessF at *
  intro h
  have a1 : x.1 * y.2 ≤ y.1 * x.2 := by omega
  have a2 : y.1 * z.2 ≤ z.1 * y.2 := by omega
  have b1 : x.1 * y.2 * z.2 ≤ y.1 * x.2 * z.2 := Int.mul_le_mul_of_nonneg_right a1 (Int.le_of_lt hz)
  have b2 : y.1 * z.2 * x.2 ≤ z.1 * y.2 * x.2 := Int.mul_le_mul_of_nonneg_right a2 (Int.le_of_lt hx)
  have b3 : z.1 * x.2 * y.2 < x.1 * z.2 * y.2 := Int.mul_lt_mul_of_pos_right h hy
  rw [Int.mul_right_comm x.1] at b1
  rw [Int.mul_right_comm y.1] at b2
  rw [Int.mul_right_comm z.1] at b2
  omega
/-! ### lists by numbers -/
section
variable {K : PySem.W.Frag} {σ : St} {H H' H0 H1 : Hp} {Q : VK} {td ty tx : TE} {d a : Addr} {f : Int → List Int} {z : Nat}
structure Bags (H0 H : Hp) (d : Addr) (f : Int → List Int) (z : Nat) : Prop where
  same : Same H0 H
  ex : ∃ kvs : List (Key × V), H d = some (.dK kvs) ∧ kvs.length ≤ z ∧ (∀ k : Int, (valV kvs (Sum.inl k) = none ∧ f k = []) ∨ ∃ a, valV kvs (Sum.inl k) = some (.ref a) ∧ H a = some (.lst ((f k).map V.int)) ∧ H0 a = none) ∧
    ∀ (k k' : Int) (a : Addr), valV kvs (Sum.inl k) = some (.ref a) → valV kvs (Sum.inl k') = some (.ref a) → k = k'
  new : H0 d = none
theorem Bags.to (B : Bags H0 H d f z) (s : Same H H') : Bags H0 H' d f z := by
  obtain ⟨kvs, e, l, h1, h2⟩ := B.ex
  refine ⟨B.same.trans s, ⟨kvs, s _ _ e, l, fun k => ?_, h2⟩, B.new⟩
  rcases h1 k with h | ⟨a, q1, q2, q3⟩
  · exact .inl h
  · exact .inr ⟨a, q1, s _ _ q2, q3⟩
theorem Bags.more {z' : Nat} (B : Bags H0 H d f z) (h : z ≤ z') : Bags H0 H d f z' := by
  obtain ⟨kvs, e, l, r⟩ := B.ex
  exact ⟨B.same, ⟨kvs, e, Nat.le_trans l h, r⟩, B.new⟩
theorem Bags.new_ (hn : H d = none) (s : Same H H') (e : H' d = some (.dK [])) : Bags H H' d (fun _ => []) 0 := ⟨s, ⟨[], e, Nat.le_refl _, fun k => .inl ⟨rfl, rfl⟩, fun k k' a h => by simp [valV] at h⟩, hn⟩
def uDSetb (a : Addr) (y z : V) (H : Hp) (Q : VK) : Prop := ∃ (kvs : List (Key × V)) (k : Key), H a = some (.dK kvs) ∧ y = kV k ∧ kvs.length < sizeLine ∧ (∀ v, valV kvs k = some v → Q v H) ∧ (valV kvs k = none → Q z (upd H a (.dK (putK kvs k z))))
def uDSet (ty tx : TE) (σ : St) (x : V) (H : Hp) (Q : VK) : Prop := ∃ a, x = .ref a ∧ IsD H a ∧ ty σ H fun y H2 => tx σ H2 fun z H3 => uDSetb a y z H3 Q
theorem r_dset (q : td σ H fun x H1 => uDSet ty tx σ x H1 Q) : tDSetd td ty tx σ H Q := q
theorem r_dseti (B : Bags H0 H d f z) (q : ty σ H fun y H2 => tx σ H2 fun z H3 => uDSetb d y z H3 Q) : uDSet ty tx σ (.ref d) H Q := by
  obtain ⟨kvs, e, _⟩ := B.ex
  exact ⟨d, rfl, .inl ⟨_, .inl e⟩, q⟩
/-- d.setdefault(k, []), the list being made just now -/
theorem bags_set {k : Int} {p : Addr} (B : Bags H0 H1 d f z) (hz : z < 16777216) (n : H1 p = none) (s : Same H1 H) (e : H p = some (.lst []))
    (q : ∀ (a : Addr) (H' : Hp), TExt H1 H' → H0 a = none → H' a = some (.lst ((f k).map V.int)) → (∀ ys H'', Keep (At a) H' H'' → H'' a = some (.lst (ys.map V.int)) → Bags H0 H'' d (fun j => if j = k then ys else f j) (z + 1)) → Q (.ref a) H') : uDSetb d (.int k) (.ref p) H Q := by
  have BH := B.to s
  obtain ⟨kvs, e1, l, h1, h2⟩ := BH.ex
  have hpn : ∀ (k : Int) (a : Addr), valV kvs (Sum.inl k) = some (.ref a) → a ≠ p := fun k a h => by
    obtain ⟨kvs', e1', _, h1', _⟩ := B.ex
    have ek : kvs' = kvs := by
      have := s _ _ e1'
      rw [e1] at this
      injection this with this
      injection this with this
      exact this.symm
    subst ek
    rcases h1' k with h3 | ⟨a', q1, q2, q3⟩
    · rw [h3.1] at h; cases h
    · rw [h] at q1
      cases q1
      exact ne_of_none q2 n
  have pd : p ≠ d := ne_of e e1 (by intro z; cases z)
  have p0 : H0 p = none := (Keep.of_same (F := No) B.same).back n (fun z => z)
  have fin : ∀ (a : Addr) (H2 : Hp) (kvs2 : List (Key × V)), Same H0 H2 → H2 d = some (.dK kvs2) → kvs2.length ≤ z + 1 → valV kvs2 (Sum.inl k) = some (.ref a) → H2 a = some (.lst ((f k).map V.int)) → H0 a = none →
      (∀ j, j ≠ k → valV kvs2 (Sum.inl j) = valV kvs (Sum.inl j)) → (∀ j b, j ≠ k → valV kvs (Sum.inl j) = some (.ref b) → b ≠ a ∧ H2 b = some (.lst ((f j).map V.int))) →
      ∀ ys H'', Keep (At a) H2 H'' → H'' a = some (.lst (ys.map V.int)) → Bags H0 H'' d (fun j => if j = k then ys else f j) (z + 1) := by
    intro a H2 kvs2 s2 hd2 l2 v2 ha2 a0 o2 b2 ys H'' k'' e''
    have ad : d ≠ a := ne_of hd2 ha2 (by intro z; cases z)
    refine ⟨fun b o eb => k'' b o (s2 b o eb) (ne_of_none eb a0), ⟨kvs2, k'' _ _ hd2 ad, l2, fun j => ?_, fun j j' c hj hj' => ?_⟩, B.new⟩
    · by_cases hjk : j = k
      · subst hjk
        exact .inr ⟨a, v2, by rw [if_pos rfl]; exact e'', a0⟩
      · rw [o2 j hjk, if_neg hjk]
        rcases h1 j with h3 | ⟨b, q1, q2, q3⟩
        · exact .inl h3
        · obtain ⟨g1, g2⟩ := b2 j b hjk q1
          exact .inr ⟨b, q1, k'' _ _ g2 g1, q3⟩
    · by_cases hjk : j = k
      · by_cases hjk' : j' = k
        · rw [hjk, hjk']
        · subst hjk
          rw [v2] at hj
          cases hj
          rw [o2 j' hjk'] at hj'
          exact absurd rfl (b2 j' _ hjk' hj').1
      · by_cases hjk' : j' = k
        · subst hjk'
          rw [v2] at hj'
          cases hj'
          rw [o2 j hjk] at hj
          exact absurd rfl (b2 j _ hjk hj).1
        · rw [o2 j hjk] at hj
          rw [o2 j' hjk'] at hj'
          exact h2 j j' c hj hj'
  refine ⟨kvs, Sum.inl k, e1, rfl, by rw [sizeLine_eq]; omega, fun v hv => ?_, fun hv => ?_⟩
  · rcases h1 k with h3 | ⟨a, q1, q2, q3⟩
    · rw [h3.1] at hv; cases hv
    · rw [hv] at q1
      cases q1
      refine q a H (TExt.of_same s) q3 q2 (fin a H kvs BH.same e1 (by omega) hv q2 q3 (fun _ _ => rfl) fun j b hjk hb => ?_)
      rcases h1 j with h3 | ⟨b', q1', q2', q3'⟩
      · rw [h3.1] at hb; cases hb
      · rw [hb] at q1'
        cases q1'
        exact ⟨fun z => hjk (h2 j k b hb (by rw [z]; exact hv)), q2'⟩
  · have fk : f k = [] := by
      rcases h1 k with h3 | ⟨a, q1, _⟩
      · exact h3.2
      · rw [hv] at q1; cases q1
    have kd : Keep (At d) H (upd H d (.dK (putK kvs (Sum.inl k) (.ref p)))) := Keep.at_
    have ep : upd H d (.dK (putK kvs (Sum.inl k) (.ref p))) p = some (.lst []) := kd _ _ e pd
    have tx : TExt H1 (upd H d (.dK (putK kvs (Sum.inl k) (.ref p)))) := (TExt.of_same s).trans (kd.text fun b hb => by rw [show b = d from hb, e1]; trivial)
    have s2 : Same H0 (upd H d (.dK (putK kvs (Sum.inl k) (.ref p)))) := fun b o eb => kd b o (BH.same b o eb) (ne_of_none eb B.new)
    refine q p _ tx p0 (by rw [ep, fk]; rfl) (fin p _ (putK kvs (Sum.inl k) (.ref p)) s2 upd_same ?_ (by rw [valV_put, if_pos rfl]) (by rw [ep, fk]; rfl) p0 (fun j hjk => by rw [valV_put, if_neg (by simpa using hjk)]) fun j b hjk hb => ?_)
    · have := length_putK kvs (Sum.inl k) (.ref p)
      omega
    · rcases h1 j with h3 | ⟨b', q1', q2', q3'⟩
      · rw [h3.1] at hb; cases hb
      · rw [hb] at q1'
        cases q1'
        exact ⟨hpn j b hb, kd _ _ q2' (ne_of q2' e1 (by intro z; cases z))⟩
theorem mul_abs {x y : Int} {n m : Nat} (h1 : x.natAbs < 2 ^ n) (h2 : y.natAbs < 2 ^ m) : (x * y).natAbs < 2 ^ (n + m) := by
  rw [Int.natAbs_mul, Nat.pow_add]
  exact Nat.mul_lt_mul'' h1 h2
/-- min, max of a list of numbers -/
theorem r_min {ns : List Int} (h : SqL K H a (ns.map V.int)) (h0 : ns ≠ []) (q : ∀ m, m ∈ ns → (∀ y, y ∈ ns → m ≤ y) → Q (.int m) H) : rMin K [.ref a] H Q := ⟨a, ns, rfl, h, List.length_pos_iff.mpr h0, q⟩
theorem r_max {ns : List Int} (h : SqL K H a (ns.map V.int)) (h0 : ns ≠ []) (q : ∀ m, m ∈ ns → (∀ y, y ∈ ns → y ≤ m) → Q (.int m) H) : rMax K [.ref a] H Q := ⟨a, ns, rfl, h, List.length_pos_iff.mpr h0, q⟩
end
/-! ### what is kept -/
theorem low_all : ∀ (r : Prs) (f : Int × Int), r.foldl lowP f ∈ f :: r ∧ ∀ p ∈ f :: r, (r.foldl lowP f).2 ≤ p.2
  | [], f => ⟨List.mem_cons_self .., fun p hp => by rw [List.mem_singleton.mp hp]; exact Int.le_refl _⟩
  | g :: r, f => by
    obtain ⟨h1, h2⟩ := low_all r (lowP f g)
    have e : (lowP f g = f ∨ lowP f g = g) ∧ (lowP f g).2 ≤ f.2 ∧ (lowP f g).2 ≤ g.2 := by
      unfold lowP
      split
      · exact ⟨.inr rfl, by omega, Int.le_refl _⟩
      · exact ⟨.inl rfl, Int.le_refl _, by omega⟩
    have h3 := h2 _ (List.mem_cons_self ..)
    refine ⟨?_, fun p hp => ?_⟩
    · rw [List.foldl_cons]
      rcases List.mem_cons.mp h1 with z | z
      · rw [z]
        rcases e.1 with y | y
        · rw [y]; exact List.mem_cons_self ..
        · rw [y]; exact List.mem_cons_of_mem _ (List.mem_cons_self ..)
      · exact List.mem_cons_of_mem _ (List.mem_cons_of_mem _ z)
    · rw [List.foldl_cons]
      rcases List.mem_cons.mp hp with rfl | hp
      · exact Int.le_trans h3 e.2.1
      · rcases List.mem_cons.mp hp with rfl | hp
        · exact Int.le_trans h3 e.2.2
        · exact h2 _ (List.mem_cons_of_mem _ hp)
theorem high_all : ∀ (r : Prs) (f : Int × Int), r.foldl highP f ∈ f :: r ∧ ∀ p ∈ f :: r, p.2 ≤ (r.foldl highP f).2
  | [], f => ⟨List.mem_cons_self .., fun p hp => by rw [List.mem_singleton.mp hp]; exact Int.le_refl _⟩
  | g :: r, f => by
    obtain ⟨h1, h2⟩ := high_all r (highP f g)
    have e : (highP f g = f ∨ highP f g = g) ∧ f.2 ≤ (highP f g).2 ∧ g.2 ≤ (highP f g).2 := by
      unfold highP
      split
      · exact ⟨.inr rfl, by omega, Int.le_refl _⟩
      · exact ⟨.inl rfl, Int.le_refl _, by omega⟩
    have h3 := h2 _ (List.mem_cons_self ..)
    refine ⟨?_, fun p hp => ?_⟩
    · rw [List.foldl_cons]
      rcases List.mem_cons.mp h1 with z | z
      · rw [z]
        rcases e.1 with y | y
        · rw [y]; exact List.mem_cons_self ..
        · rw [y]; exact List.mem_cons_of_mem _ (List.mem_cons_self ..)
      · exact List.mem_cons_of_mem _ (List.mem_cons_of_mem _ z)
    · rw [List.foldl_cons]
      rcases List.mem_cons.mp hp with rfl | hp
      · exact Int.le_trans e.2.1 h3
      · rcases List.mem_cons.mp hp with rfl | hp
        · exact Int.le_trans e.2.2 h3
        · exact h2 _ (List.mem_cons_of_mem _ hp)
structure FourIn (c : Prs) (F : Four) : Prop where
  f : F.f ∈ c
  l : F.l ∈ c
  lo : F.lo ∈ c
  hi : F.hi ∈ c
  first : Up c → ∀ p ∈ c, F.f.1 ≤ p.1
  last : Up c → ∀ p ∈ c, p.1 ≤ F.l.1
  low : ∀ p ∈ c, F.lo.2 ≤ p.2
  high : ∀ p ∈ c, p.2 ≤ F.hi.2
theorem four_in {c : Prs} {F : Four} (h : fourL c = some F) : FourIn c F := by
  cases c with
  | nil => rw [fourL_nil] at h; cases h
  | cons f r =>
    rw [fourL_eq] at h
    cases h
    refine ⟨List.mem_cons_self .., ?_, (low_all r f).1, (high_all r f).1, fun up p hp => ?_, fun up p hp => ?_, (low_all r f).2, (high_all r f).2⟩
    · show (r.getLast?).getD f ∈ f :: r
      cases hr : r.getLast? with
      | none => exact List.mem_cons_self ..
      | some x => exact List.mem_cons_of_mem _ (List.mem_of_getLast? hr)
    · rcases List.mem_cons.mp hp with rfl | hp
      · exact Int.le_refl _
      · exact Int.le_of_lt ((List.pairwise_cons.mp up).1 p hp)
    · show p.1 ≤ ((r.getLast?).getD f).1
      rcases List.eq_nil_or_concat r with rfl | ⟨i, l, rfl⟩
      · rw [List.mem_singleton.mp hp]; exact Int.le_refl _
      · rw [List.concat_eq_append] at *
        rw [show ((i ++ [l]).getLast?).getD f = l by simp]
        have up2 : Up ((f :: i) ++ [l]) := up
        rcases List.mem_append.mp (show p ∈ (f :: i) ++ [l] from hp) with z | z
        · exact Int.le_of_lt ((List.pairwise_append.mp up2).2.2 p z l (List.mem_singleton.mpr rfl))
        · rw [List.mem_singleton.mp z]; exact Int.le_refl _
theorem four_some {c : Prs} {p : Int × Int} (h : p ∈ c) : ∃ F, fourL c = some F := by
  cases c with
  | nil => simp at h
  | cons f r => exact ⟨_, fourL_eq f r⟩
theorem mem_partL {c : Prs} {x z : Int} {p : Int × Int} : p ∈ partL c x z ↔ p ∈ c ∧ x ≤ p.1 ∧ p.1 < z := by
  unfold partL
  rw [List.mem_filter]
  simp
/-- T are samples of c within the window, among them each column's four -/
structure Kin (c : Prs) (b w m : Int) (T : Prs) : Prop where
  up : Up T
  sub : ∀ p ∈ T, p ∈ partL c b (b + w * m)
  has : ∀ k, 0 ≤ k → k < m → ∀ F, fourL (partL c (b + k * w) (b + k * w + w)) = some F → F.f ∈ T ∧ F.l ∈ T ∧ F.lo ∈ T ∧ F.hi ∈ T
theorem col_in {c : Prs} {b w m : Int} {p : Int × Int} (hw : 0 < w) (h : p ∈ partL c b (b + w * m)) : 0 ≤ (p.1 - b) / w ∧ (p.1 - b) / w < m ∧ p ∈ partL c (b + (p.1 - b) / w * w) (b + (p.1 - b) / w * w + w) := by
  obtain ⟨h1, h2, h3⟩ := mem_partL.mp h
  exact ⟨Int.ediv_nonneg (by omega) (by omega), (Int.ediv_lt_iff_lt_mul hw).mpr (by rw [Int.mul_comm]; omega), mem_partL.mpr ⟨h1, (col_iff hw).mp rfl⟩⟩
theorem Kin.keeps {c : Prs} {b w m : Int} {T : Prs} (h : Kin c b w m T) (up : Up c) (hw : 0 < w) : Keeps b w (partL c b (b + w * m)) T := by
  have key : ∀ p ∈ partL c b (b + w * m), ∃ F, FourIn (partL c (b + (p.1 - b) / w * w) (b + (p.1 - b) / w * w + w)) F ∧ (F.f ∈ T ∧ F.l ∈ T ∧ F.lo ∈ T ∧ F.hi ∈ T) ∧ p ∈ partL c (b + (p.1 - b) / w * w) (b + (p.1 - b) / w * w + w) := fun p hp => by
    obtain ⟨h1, h2, h3⟩ := col_in hw hp
    obtain ⟨F, hF⟩ := four_some h3
    exact ⟨F, four_in hF, h.has _ h1 h2 F hF, h3⟩
  have upC : ∀ k : Int, Up (partL c (b + k * w) (b + k * w + w)) := fun k => up.sublist List.filter_sublist
  have col : ∀ {q : Int × Int} {k : Int}, q ∈ partL c (b + k * w) (b + k * w + w) → (q.1 - b) / w = k := fun {q k} hq => (col_iff hw).mpr (mem_partL.mp hq).2
  refine ⟨up.sublist List.filter_sublist, h.up, h.sub, fun p hp => ?_, fun p hp => ?_, fun p hp => ?_, fun p hp => ?_⟩
  · obtain ⟨F, hF, t, m⟩ := key p hp
    exact ⟨F.f, t.1, col hF.f, hF.first (upC _) p m⟩
  · obtain ⟨F, hF, t, m⟩ := key p hp
    exact ⟨F.l, t.2.1, col hF.l, hF.last (upC _) p m⟩
  · obtain ⟨F, hF, t, m⟩ := key p hp
    exact ⟨F.lo, t.2.2.1, col hF.lo, hF.low p m⟩
  · obtain ⟨F, hF, t, m⟩ := key p hp
    exact ⟨F.hi, t.2.2.2, col hF.hi, hF.high p m⟩
theorem Kin.self {c : Prs} {b w m : Int} {T : Prs} (h : Kin c b w m T) : partL T b (b + w * m) = T := by
  unfold partL
  refine List.filter_eq_self.mpr fun p hp => ?_
  obtain ⟨_, h1, h2⟩ := mem_partL.mp (h.sub p hp)
  rw [decide_eq_true h1, decide_eq_true h2]
  rfl
theorem Kin.dots {c : Prs} {b w m low tall n : Int} {T : Prs} (h : Kin c b w m T) (up : Up c) (hw : 0 < w) (ht : 0 < tall) : dotsD T b w m low tall n = dotsD c b w m low tall n := by
  unfold dotsD dotsL
  rw [h.self]
  congr 2
  exact List.map_congr_left fun k _ => (keeps_run hw ht (h.keeps up hw)).symm
theorem up_sub_len {l l' : Prs} (u : Up l) (u' : Up l') (h : ∀ p ∈ l, p ∈ l') : l.length ≤ l'.length := by
  have e : l = l'.filter fun p => decide (p ∈ l) := up_ext u (u'.sublist List.filter_sublist) fun p => by
    rw [List.mem_filter]
    simp
    exact h p
  rw [e]
  exact List.length_filter_le _ _
theorem Kin.sub_len {c : Prs} {b w m : Int} {T : Prs} (h : Kin c b w m T) (up : Up c) : T.length ≤ (partL c b (b + w * m)).length := up_sub_len h.up (up.sublist List.filter_sublist) h.sub
/-- two such are one -/
theorem Kin.uniq {c : Prs} {b w m : Int} {T : Prs} (h : Kin c b w m T) {T' : Prs} (up : Up T') (e : ∀ p, p ∈ T' ↔ p ∈ T) : T' = T := up_ext up h.up e
theorem TExt.dK {H H' : Hp} {p : Addr} {m : List (Key × V)} (k : Keep (At p) H H') (h : H p = some (.dK m)) : TExt H H' := k.text fun b e => by rw [show b = p from e, h]; trivial
theorem dp_lastD {K : PySem.W.Frag} {H : Hp} {y0 : V} {yr : List V} {f : Int × Int} {r : Prs} (d0 : Dp K H y0 (pairP f)) (dr : DpAll K H yr (r.map pairP)) : ∃ yl, atI (y0 :: yr) (-1) = some yl ∧ Dp K H yl (pairP ((r.getLast?).getD f)) := by
  have hyl : yr.length = r.length := by rw [dpAll_len dr, List.length_map]
  rcases List.eq_nil_or_concat yr with rfl | ⟨yi, yl, rfl⟩
  · have : r = [] := List.length_eq_zero_iff.mp (by simpa using hyl.symm)
    subst this
    exact ⟨y0, atI_last [] y0, d0⟩
  · rw [List.concat_eq_append] at *
    refine ⟨yl, atI_last (y0 :: yi) yl, ?_⟩
    obtain ⟨q, hq, hd⟩ := dpAll_map_at dr (i := yi.length) (x := yl) (by simp)
    have : r.getLast? = some q := by
      rw [List.getLast?_eq_getElem?]
      have : r.length - 1 = yi.length := by simp at hyl; omega
      rw [this]
      exact hq
    rw [this]
    exact hd
end Fp
/-! a comprehension over a dict's own keys -/
namespace Fp
open PySem PySem.Spec PyProof.Rows L2
section
variable {K : PySem.W.Frag} {σ : St} {H : Hp} {Q : VK} {d : Addr}
/-- the dict is held fast while it is walked -/
theorem r_lockE {t : TE} {u : List (Key × V)} (hd : H d = some (.dK u)) (q : ∀ od H1, H1 d = some (.frz od (.dK u)) → (∀ b, b ≠ d → H1 b = H b) → t σ H1 fun v H' => H' d = some (.frz od (.dK u)) ∧ Q v (upd H' d (.dK u))) : tLockE t σ H Q :=
  ⟨d, .dK u, hd, trivial, fun od => q od _ upd_same fun b hb => upd_ne hb⟩
def uKeys (x : V) (H : Hp) (R : It → Hp → Prop) : Prop := ∃ d o, x = .ref d ∧ ((∃ kvs, H d = some (.frz o (.dK kvs)) ∧ R (Itk d o kvs) H) ∨ ∃ kvs, H d = some (.frz o (.dT kvs)) ∧ R (Itkt d o kvs) H)
theorem r_ikeys {td : TE} {R : It → Hp → Prop} (q : td σ H fun x H1 => uKeys x H1 R) : iKeys td σ H R := q
theorem r_keys {od : Obj} {u : List (Key × V)} {R : It → Hp → Prop} (hd : H d = some (.frz od (.dK u))) (q : R (Itk d od u) H) : uKeys (.ref d) H R := ⟨d, od, rfl, .inl ⟨u, hd, q⟩⟩
theorem wk_keys {od : Obj} {u : List (Key × V)} : Wk (Itk d od u) u.length (fun H => H d = some (.frz od (.dK u))) (fun i H x H' => H' = H ∧ ∃ k v, u[i]? = some (k, v) ∧ x = kV k) :=
  ⟨fun _ _ e h => ⟨e, h⟩, fun _ _ e h => ⟨e, h⟩, fun _ _ _ _ _ y => y⟩
theorem lc_keysD {J : Obj} {m : Prs} {g : TG} {tt : TT} {te : TE} {vs : List Nat} (hd : H d = some (.frz J (.dK (m.map inj)))) (hn : m.length ≤ 16777216) (f : Int × Int → Bool) (fx : Int × Int → PyData) (hi : ∀ c, imm (fx c) = true)
    (hs : ∀ c H2 (S : VK) (N : Hp → Prop), c ∈ m → Same H H2 → (f c = true → ∀ y H3, Same H2 H3 → Dp K H3 y (fx c) → S y H3) → (f c = false → ∀ H3, Same H2 H3 → N H3) →
      g (.int c.1) (wipe σ vs) H2 fun σ2 H3 => wipe σ2 vs = wipe σ vs ∧ tt σ2 H3 fun b H4 => if b = true then te σ2 H4 S else N H4)
    (q : ∀ D H' ys, H D = none → Same H H' → H' D = some (.lst ys) → DpAll K H' ys ((m.filter f).map fx) → Q (.ref D) H') : LcW (Itk d J (m.map inj)) g tt te vs σ H Q := by
  have w : Wk (Itk d J (m.map inj)) m.length (fun H' => H' d = some (.frz J (.dK (m.map inj)))) (fun i H2 x H' => H' = H2 ∧ ∃ k v, (m.map inj)[i]? = some (k, v) ∧ x = kV k) := by
    have := wk_keys (d := d) (od := J) (u := m.map inj)
    rwa [List.length_map] at this
  refine lc_gen m (fun c x _ => x = .int c.1) w (fun i H2 x H' hi' h => ?_) (fun H' s => s _ _ hd) hn f (fun H c y => Dp K H y (fx c)) (fun H H' c y e h => Dp.text e _ _ (hi c) h)
    (fun c x H2 S N hc s hx k1 k2 => by rw [hx]; exact hs c H2 S N hc s k1 k2) (fun D H' ys hD s e p => q D H' ys hD s e (paired_dp p))
  obtain ⟨rfl, k, v, e, rfl⟩ := h
  rw [List.getElem?_map] at e
  obtain ⟨c, hc, e2⟩ := Option.map_eq_some_iff.mp e
  cases e2
  exact ⟨c, hc, Same.refl _, rfl⟩
theorem r_dgetf {m : Prs} {od : Obj} {t h : Int} (hd : H d = some (.frz od (.dK (m.map inj)))) (e : valP m t = some h) (q : Q (.int h) H) : uDGet (.ref d) (.int t) H Q := by
  refine ⟨d, .int h, rfl, ?_, q⟩
  have z : DGet H d (kV (Sum.inl t)) (valV (m.map inj) (Sum.inl t)) := .inl ⟨m.map inj, Sum.inl t, .inr ⟨od, hd⟩, rfl, rfl⟩
  rw [val_inj, e] at z
  exact z
/-- the dict is free again -/
theorem unlock_pair {H' : Hp} {od : Obj} {u : List (Key × V)} (hd : H' d = some (.frz od (.dK u))) {v : V} {p : Int × Int} (h : Dp K H' v (pairP p)) : Dp K (upd H' d (.dK u)) v (pairP p) := by
  obtain ⟨a, rfl, sq⟩ := dp_pair h
  clear h
  refine dp_of_pair ?_
  unfold SqT Rd at sq
  rcases sq with (h | ⟨o, h⟩) | h
  · exact .inl (.inl (by rw [upd_ne (fun z => by rw [z, hd] at h; cases h)]; exact h))
  · exact .inl (.inr ⟨o, by rw [upd_ne (fun z => by rw [z, hd] at h; cases h)]; exact h⟩)
  · exact .inr h
theorem unlock_pairs {H' : Hp} {od : Obj} {u : List (Key × V)} (hd : H' d = some (.frz od (.dK u))) : ∀ {ys : List V} {l : Prs}, DpAll K H' ys (l.map pairP) → DpAll K (upd H' d (.dK u)) ys (l.map pairP)
  | [], [], _ => .nil
  | _ :: _, _ :: _, .cons h1 h2 => .cons (unlock_pair hd h1) (unlock_pairs hd h2)
theorem unlock_same {H1 H' : Hp} {u : List (Key × V)} (hd : H d = some (.dK u)) (e : ∀ b, b ≠ d → H1 b = H b) (s : Same H1 H') : Same H (upd H' d (.dK u)) := fun b o hb => by
  by_cases z : b = d
  · subst z
    rw [hd] at hb
    rw [upd_same]
    exact hb
  · rw [upd_ne z]
    exact s b o (by rw [e b z]; exact hb)
end
end Fp
/-! the least, the greatest of a list of pairs -/
namespace Fp
open PySem PySem.Spec PyProof.Rows L2
def ltP (p q : Int × Int) : Prop := p.1 < q.1 ∨ (p.1 = q.1 ∧ p.2 < q.2)
instance (p q : Int × Int) : Decidable (ltP p q) := by unfold ltP; infer_instance
theorem dataLt_pair (p q : Int × Int) : PySem.W.dataLt (pairP p) (pairP q) = decide (ltP p q) := by
  have e : PySem.W.dataLt (pairP p) (pairP q) = PyProof.Rows.lexLt PyProof.Rows.itemOrd ([Sum.inl 1, Sum.inl p.1, Sum.inl 1, Sum.inl p.2, Sum.inl 0] : List (Int ⊕ List Nat)) ([Sum.inl 1, Sum.inl q.1, Sum.inl 1, Sum.inl q.2, Sum.inl 0] : List (Int ⊕ List Nat)) := rfl
  rw [e]
  have st : ∀ (a b : Int) (r t : List (Int ⊕ List Nat)), PyProof.Rows.lexLt PyProof.Rows.itemOrd (Sum.inl a :: r) (Sum.inl b :: t) = (decide (a < b) || (!decide (b < a) && PyProof.Rows.lexLt PyProof.Rows.itemOrd r t)) := fun _ _ _ _ => rfl
  rw [st, st, st, st, st]
  have e0 : PyProof.Rows.lexLt PyProof.Rows.itemOrd [] [] = false := rfl
  rw [e0]
  unfold ltP
  rw [Bool.eq_iff_iff]
  by_cases h1 : p.1 < q.1 <;> by_cases h2 : q.1 < p.1 <;> by_cases h3 : p.2 < q.2 <;> simp [h1, h2, h3] <;> omega
/-- one of those than which none is less -/
theorem fold_least (lt : Int × Int → Int × Int → Bool) (irr : ∀ x, lt x x = false) (tr : ∀ {x y z}, lt x y = true → lt y z = true → lt x z = true) (tot : ∀ {x y z}, lt y x = false → lt z y = false → lt z x = false) : ∀ (r : Prs) (f : Int × Int), r.foldl (fun a y => if lt y a = true then y else a) f ∈ f :: r ∧ ∀ x ∈ f :: r, lt x (r.foldl (fun a y => if lt y a = true then y else a) f) = false
  | [], f => ⟨List.mem_cons_self .., fun x hx => by rw [List.mem_singleton.mp hx]; exact irr _⟩
  | g :: r, f => by
    rw [List.foldl_cons]
    by_cases h : lt g f = true
    · rw [if_pos h]
      obtain ⟨h1, h2⟩ := fold_least lt irr tr tot r g
      refine ⟨List.mem_cons_of_mem _ h1, fun x hx => ?_⟩
      rcases List.mem_cons.mp hx with rfl | hx
      · cases z : lt x (r.foldl (fun a y => if lt y a = true then y else a) g) with
        | false => rfl
        | true =>
          have := h2 g (List.mem_cons_self ..)
          rw [tr h z] at this
          cases this
      · exact h2 x hx
    · have h' : lt g f = false := by simpa using h
      rw [if_neg h]
      obtain ⟨h1, h2⟩ := fold_least lt irr tr tot r f
      refine ⟨?_, fun x hx => ?_⟩
      · rcases List.mem_cons.mp h1 with z | z
        · rw [z]; exact List.mem_cons_self ..
        · exact List.mem_cons_of_mem _ (List.mem_cons_of_mem _ z)
      · rcases List.mem_cons.mp hx with rfl | hx
        · exact h2 x (List.mem_cons_self ..)
        rcases List.mem_cons.mp hx with rfl | hx
        · exact tot (h2 f (List.mem_cons_self ..)) h'
        · exact h2 x (List.mem_cons_of_mem _ hx)
theorem ltP_irr (x : Int × Int) : decide (ltP x x) = false := decide_eq_false (by unfold ltP; omega)
theorem ltP_tr {x y z : Int × Int} (h : decide (ltP x y) = true) (h' : decide (ltP y z) = true) : decide (ltP x z) = true := by
  have := of_decide_eq_true h
  have := of_decide_eq_true h'
  refine decide_eq_true ?_
  unfold ltP at *
  omega
theorem ltP_tot {x y z : Int × Int} (h : decide (ltP y x) = false) (h' : decide (ltP z y) = false) : decide (ltP z x) = false := by
  have := of_decide_eq_false h
  have := of_decide_eq_false h'
  refine decide_eq_false ?_
  unfold ltP at *
  omega
theorem minD_pairs : ∀ (r : Prs) (f : Int × Int), PySem.W.minD (pairP f) (r.map pairP) = pairP (r.foldl (fun a y => if decide (ltP y a) = true then y else a) f)
  | [], f => rfl
  | g :: r, f => by
    have ih := minD_pairs r
    unfold PySem.W.minD at *
    rw [List.map_cons, List.foldl_cons, List.foldl_cons, dataLt_pair]
    by_cases h : decide (ltP g f) = true
    · rw [if_pos h, if_pos h]; exact ih g
    · rw [if_neg h, if_neg h]; exact ih f
theorem maxD_pairs : ∀ (r : Prs) (f : Int × Int), PySem.W.maxD (pairP f) (r.map pairP) = pairP (r.foldl (fun a y => if decide (ltP a y) = true then y else a) f)
  | [], f => rfl
  | g :: r, f => by
    have ih := maxD_pairs r
    unfold PySem.W.maxD at *
    rw [List.map_cons, List.foldl_cons, List.foldl_cons, dataLt_pair]
    by_cases h : decide (ltP f g) = true
    · rw [if_pos h, if_pos h]; exact ih g
    · rw [if_neg h, if_neg h]; exact ih f
theorem pairP_inj {p q : Int × Int} (h : pairP p = pairP q) : p = q := by
  obtain ⟨a, b⟩ := p
  obtain ⟨c, d⟩ := q
  simp only [pairP, PyData.tuple.injEq, List.cons.injEq, PyData.int.injEq, and_true] at h
  rw [h.1, h.2]
theorem alike_pairs (l : Prs) : PySem.W.AlikeAll (l.map pairP) := by
  refine ⟨fun x hx y hy => ?_, fun x hx e => ?_⟩
  · obtain ⟨p, _, rfl⟩ := List.mem_map.mp hx
    obtain ⟨q, _, rfl⟩ := List.mem_map.mp hy
    rfl
  · obtain ⟨p, _, rfl⟩ := List.mem_map.mp hx
    cases e
theorem depth_pairs : ∀ l : Prs, PyData.depthAll (l.map pairP) ≤ 3
  | [] => by simp [PyData.depthAll]
  | p :: l => by
    have := depth_pairs l
    rw [List.map_cons, PyData.depthAll]
    have e : (pairP p).depth ≤ 3 := by simp [pairP, PyData.depth, PyData.depthAll]
    omega
section
variable {X : Cx}
def uMinP (K : PySem.W.Frag) (lt : Int × Int → Int × Int → Bool) : List V → Hp → VK → Prop := fun vs H Q => ∃ (a : Addr) (ws : List V) (l : Prs), vs = [.ref a] ∧ SqL K H a ws ∧ DpAll K H ws (l.map pairP) ∧ l ≠ [] ∧ ∀ u p, p ∈ l → (∀ x ∈ l, lt x p = false) → Dp K H u (pairP p) → Q u H
def ltB (x y : Int × Int) : Bool := decide (ltP x y)
def gtB (x y : Int × Int) : Bool := decide (ltP y x)
theorem least_at {X : Cx} {pins : List (Addr × Obj)} {σ : St} {H : Hp} {s : Shared} {h' : Heap} {ws : List V} {its : List Value} {l : Prs} {i : Nat} {v : Value} {bs : List Addr} {p : Int × Int} (I : Inv X pins σ H s) (rv : Vals ws its) (hd : DpAll X.K H ws (l.map pairP)) (hv : its.toArray[i]? = some v) (kp : ∀ b o, s.heap.get? b = some o → h'.get? b = some o) (rd : Reads h' v (pairP p) bs) : ∃ u, RelV u v ∧ Dp X.K H u (pairP p) := by
  have hv' : its[i]? = some v := by simpa using hv
  have hi : i < ws.length := by rw [rv.length]; exact (List.getElem?_eq_some_iff.mp hv').1
  obtain ⟨v2, e2, r2⟩ := rv.get (List.getElem?_eq_getElem hi)
  rw [hv'] at e2
  cases e2
  obtain ⟨pi, hpi, dpi⟩ := dpAll_map_at hd (List.getElem?_eq_getElem hi)
  obtain ⟨as2, rd2⟩ := Dp.reads I _ _ v dpi r2
  have e := (Reads.unique (Reads.keeps kp rd2) _ _ rd).1
  rw [pairP_inj e] at dpi
  exact ⟨ws[i], r2, dpi⟩
theorem c_minP (hc : X.calm = true) (hu : X.A.units + 64 < cLine) : CallR X (.builtin "min") (uMinP X.K ltB) := by
  intro pins s σ H xs us Q I r h
  obtain ⟨a, ws, l, rfl, hl, hd, hne, q⟩ := h
  obtain ⟨its, rv, pl, hz⟩ := I.list hl
  rw [Vals.ref1 r]
  obtain ⟨f, rr, rfl⟩ := List.exists_cons_of_ne_nil hne
  obtain ⟨as, ra⟩ := Dp.readsAll I _ ws its hd rv
  refine PySem.W.min_list_data (x := pairP f) (xs := rr.map pairP) (I.ok.hd hc) pl.isList (by simpa using ra) (alike_pairs (f :: rr)) (by have := depth_pairs (f :: rr); simp only [List.map_cons] at this; omega) fun i v h' tk bs hv rd kp => ?_
  rw [minD_pairs] at rd
  obtain ⟨h1, h2⟩ := fold_least ltB ltP_irr ltP_tr ltP_tot rr f
  obtain ⟨u, ru, du⟩ := least_at I rv hd hv kp rd
  exact ⟨u, H, I.kept (t' := tk) kp, ru, q u _ h1 h2 du⟩
theorem c_maxP (hc : X.calm = true) (hu : X.A.units + 64 < cLine) : CallR X (.builtin "max") (uMinP X.K gtB) := by
  intro pins s σ H xs us Q I r h
  obtain ⟨a, ws, l, rfl, hl, hd, hne, q⟩ := h
  obtain ⟨its, rv, pl, hz⟩ := I.list hl
  rw [Vals.ref1 r]
  obtain ⟨f, rr, rfl⟩ := List.exists_cons_of_ne_nil hne
  obtain ⟨as, ra⟩ := Dp.readsAll I _ ws its hd rv
  refine PySem.W.max_list_data (x := pairP f) (xs := rr.map pairP) (I.ok.hd hc) pl.isList (by simpa using ra) (alike_pairs (f :: rr)) (by have := depth_pairs (f :: rr); simp only [List.map_cons] at this; omega) fun i v h' tk bs hv rd kp => ?_
  rw [maxD_pairs] at rd
  obtain ⟨h1, h2⟩ := fold_least gtB ltP_irr (fun h h' => ltP_tr h' h) (fun {x y z} h h' => by
    have := of_decide_eq_false h
    have := of_decide_eq_false h'
    refine decide_eq_false ?_
    unfold ltP at *
    omega) rr f
  obtain ⟨u, ru, du⟩ := least_at I rv hd hv kp rd
  exact ⟨u, H, I.kept (t' := tk) kp, ru, q u _ h1 h2 du⟩
theorem r_minP {K : PySem.W.Frag} {lt : Int × Int → Int × Int → Bool} {H : Hp} {Q : VK} {a : Addr} {ws : List V} {l : Prs} (h : SqL K H a ws) (hd : DpAll K H ws (l.map pairP)) (hne : l ≠ []) (q : ∀ u p, p ∈ l → (∀ x ∈ l, lt x p = false) → Dp K H u (pairP p) → Q u H) : uMinP K lt [.ref a] H Q := ⟨a, ws, l, rfl, h, hd, hne, q⟩
def uMin1 (K : PySem.W.Frag) := uMinP K ltB
def uMax1 (K : PySem.W.Frag) := uMinP K gtB
theorem c_min1 (hc : X.calm = true) (hu : X.A.units + 64 < cLine) : CallR X (.builtin "min") (uMin1 X.K) := c_minP hc hu
theorem c_max1 (hc : X.calm = true) (hu : X.A.units + 64 < cLine) : CallR X (.builtin "max") (uMax1 X.K) := c_maxP hc hu
end
end Fp
/-! list(range(n)) -/
namespace Fp
open PySem PySem.Spec PyProof.Rows L2
section
theorem vals_get : ∀ {vs : List V} {us : List Value}, vs.length = us.length → (∀ (j : Nat) (v : V) (u : Value), vs[j]? = some v → us[j]? = some u → RelV v u) → Vals vs us
  | [], [], _, _ => .nil
  | v :: vs, u :: us, h, k => .cons (k 0 v u rfl rfl) (vals_get (by simpa using h) fun j v' u' e1 e2 => k (j + 1) v' u' (by simpa using e1) (by simpa using e2))
variable {X : Cx}
def uRange1 : List V → Hp → VK → Prop := fun vs H Q => ∃ n, vs = [.int n] ∧ ∀ p, H p = none → Q (.ref p) (upd H p (.rng 0 n))
theorem c_range1 : CallR X (.type "range") uRange1 := by
  intro pins s σ H vs us Q I r h
  obtain ⟨n, rfl, q⟩ := h
  obtain ⟨u1, rfl, ri⟩ := vals1 r
  obtain ⟨t, rfl⟩ := ri
  refine call_range_1 ⟨.ref s.heap.objs.size, upd H s.heap.objs.size (.rng 0 n), I.laid (t' := s.toks + 1 + 1) (fun b o e => Heap.get?_push_of_some _ e) (Nat.le_refl _) ?_, rfl, q _ (I.hok.fresh (Nat.le_refl _))⟩
  exact ⟨s.toks, t, s.toks + 1, Heap.get?_push_size _ rfl⟩
theorem r_range1 {H : Hp} {Q : VK} {n : Int} (q : ∀ p H', H p = none → Same H H' → H' p = some (.rng 0 n) → Q (.ref p) H') : uRange1 [.int n] H Q := ⟨n, rfl, fun p hp => q p _ hp (Keep.same (Keep.new hp)) upd_same⟩
def uListRng : List V → Hp → VK → Prop := fun xs H Q => ∃ a n, xs = [.ref a] ∧ H a = some (.rng 0 n) ∧ 0 ≤ n ∧ n ≤ 1000000 ∧ ∀ l, H l = none → Q (.ref l) (upd H l (.lst ((List.range n.toNat).map fun k : Nat => V.int k)))
theorem c_listRng (hc : X.calm = true) : CallR X (.type "list") uListRng := by
  intro pins s σ H xs us Q I r h
  obtain ⟨a, n, rfl, ha, n0, n1, q⟩ := h
  obtain ⟨u, rfl, rx⟩ := vals1 r
  cases rx
  obtain ⟨t1, t2, t3, ho⟩ := I.hok a _ ha
  have hs : Builtin.Range.rangeSize 0 n 1 = (n.toNat : Int) := by
    unfold Builtin.Range.rangeSize
    rw [if_pos (by omega)]
    split
    · rw [Int.ediv_one]; omega
    · omega
  refine call_list_range (n := n.toNat) (I.ok.hd hc) ho ?_ hs (by omega) fun h' tk acc c kp e hi => ?_
  · exact small_one (by decide) (by decide) (by omega) (by omega)
  · have hv : Vals ((List.range n.toNat).map fun k : Nat => V.int k) acc.toList := by
      refine vals_get (by rw [List.length_map, List.length_range, Array.length_toList, hi.1]) fun j v u e1 e2 => ?_
      rw [List.getElem?_map] at e1
      obtain ⟨k, hk, rfl⟩ := Option.map_eq_some_iff.mp e1
      have hj : j = k := by
        have := List.getElem?_eq_some_iff.mp hk
        obtain ⟨_, e⟩ := this
        simpa using e
      subst hj
      obtain ⟨t, rfl⟩ := hi.2 j u (by rw [← Array.getElem?_toList]; exact e2)
      exact ⟨t, by rw [Int.mul_one, Int.zero_add]⟩
    exact ⟨.ref s.heap.objs.size, _, I.laid (t' := tk) kp (Nat.le_refl _) (show ObjOk X.prog X.w _ h' _ (.lst _) from ⟨by rw [List.length_map, List.length_range, sizeLine_eq]; omega, acc.toList, c, hv, by simpa using e⟩), rfl, q _ (I.hok.fresh (Nat.le_refl _))⟩
theorem r_listRng {H : Hp} {Q : VK} {a : Addr} {n : Int} (ha : H a = some (.rng 0 n)) (h0 : 0 ≤ n) (h1 : n ≤ 1000000) (q : ∀ p H', H p = none → Same H H' → H' p = some (.lst ((List.range n.toNat).map fun k : Nat => V.int k)) → Q (.ref p) H') : uListRng [.ref a] H Q := ⟨a, n, rfl, ha, h0, h1, fun p hp => q p _ hp (Keep.same (Keep.new hp)) upd_same⟩
def rInF (K : PySem.W.Frag) : R2 := rIn K false
theorem o_inF : OpR X (compareOp .In) (rInF X.K) := op_in_seq
theorem inV_ints {i : Int} : ∀ ks : List Int, inV (.int i) (ks.map V.int) = decide (i ∈ ks)
  | [] => rfl
  | k :: ks => by
    have ih := inV_ints (i := i) ks
    unfold inV at *
    rw [List.map_cons, List.any_cons, ih]
    by_cases e : i = k
    · subst e
      simp [eqV]
    · simp [eqV, e, Ne.symm e]
theorem r_inF {K : PySem.W.Frag} {H : Hp} {Q : VK} {a : Addr} {i : Int} {ks : List Int} (h : H a = some (.lst (ks.map V.int))) (q : Q (.bl (decide (i ∈ ks))) H) : rInF K (.int i) (.ref a) H Q := by
  refine ⟨a, _, rfl, .inl (SqL.of h), rfl, ?_, ?_⟩
  · rw [List.all_map, List.all_eq_true]
    intro x _
    rfl
  · rw [if_neg (by decide), inV_ints]
    exact q
end
end Fp
namespace Lk73
open PySem PySem.Spec PyProof.Rows L2 Fp
/-! steps by their head -/
local macro_rules | `(tactic| walk_at "s") => `(tactic| first
  | (with_reducible refine' r_seq ?_)
  | (with_reducible refine' r_cons ?_)
  | ((with_reducible refine' r_var ?hvv ?_); (case hvv => exact rfl))
  | (with_reducible refine' r_c ?_)
  | (with_reducible refine' r_nil ?_)
  | (with_reducible refine' r_op ?_)
  | (with_reducible refine' r_tup ?_)
  | (with_reducible refine' r_lst ?_)
  | (with_reducible refine' r_I0 ?_)
  | (with_reducible refine' r_asg ?_)
  | (with_reducible refine' r_fn ?_)
  | (with_reducible refine' r_fnS ?_)
  | (with_reducible refine' r_CB ?_)
  | (with_reducible refine' r_ret ?_)
  | (with_reducible refine' r_ifS ?_)
  | (with_reducible refine' r_test ?_)
  | (with_reducible refine' r_B ?_)
  | (with_reducible refine' r_bl ?_)
  | (with_reducible refine' r_and ?_)
  | (with_reducible refine' r_or ?_)
  | (with_reducible refine' r_not ?_)
  | (with_reducible refine' r_yes ?_)
  | (with_reducible refine' r_andV ?_)
  | (with_reducible refine' r_orV ?_)
  | (with_reducible refine' r_notV ?_)
  | (with_reducible refine' r_if ?_)
  | (with_reducible refine' r_chain ?_)
  | (with_reducible refine' r_eq_i ?_)
  | (with_reducible refine' r_ne_i ?_)
  | (with_reducible refine' r_un ?_)
  | (with_reducible refine' r_U ?_)
  | (with_reducible refine' r_int_i ?_)
  | (with_reducible refine' r_int_b ?_)
  | (with_reducible refine' r_abs ?_)
  | (with_reducible refine' r_max2 ?_)
  | (with_reducible refine' r_min2 ?_)
  | (with_reducible refine' r_isB ?_)
  | (with_reducible refine' r_notB ?_)
  | (with_reducible refine' r_isN_n ?_)
  | (with_reducible refine' r_isN_i ?_)
  | (with_reducible refine' r_isN_r ?_)
  | (with_reducible refine' r_isN_s ?_)
  | (with_reducible refine' r_notN_n ?_)
  | (with_reducible refine' r_notN_i ?_)
  | (with_reducible refine' r_notN_r ?_)
  | (with_reducible refine' r_notN_s ?_)
  | ((with_reducible refine' r_isN ?hvv ?_); (case hvv => exact rfl))
  | ((with_reducible refine' r_notN ?hvv ?_); (case hvv => exact rfl))
  | ((with_reducible refine' r_aug ?hvv ?_); (case hvv => exact rfl))
  | (with_reducible refine' r_ipI ?_)
  | (with_reducible refine' r_next ?_)
  | (with_reducible refine' r_par ?_)
  | (with_reducible refine' r_par2 ?_)
  | (with_reducible refine' r_drop ?_)
  | (with_reducible refine' r_gname ?_)
  | (with_reducible refine' r_asgG ?_)
  | (with_reducible refine' r_gsub ?_)
  | (with_reducible refine' r_gcons ?_)
  | (with_reducible refine' r_gnil ?_)
  | (with_reducible refine' r_retN ?_)
  | (with_reducible refine' r_for ?_)
  | (with_reducible refine' r_lc ?_)
  | (with_reducible refine' r_ilist ?_)
  | (with_reducible refine' r_itup ?_)
  | (with_reducible refine' r_irng1 ?_)
  | (with_reducible refine' r_irng2 ?_)
  | (with_reducible refine' r_izip ?_)
  | (with_reducible refine' r_sl ?_)
  | (with_reducible refine' r_nopart ?_)
  | (with_reducible refine' r_part ?_)
  | (with_reducible refine' r_parti ?_)
  | (with_reducible refine' r_bm ?_)
  | (with_reducible refine' r_m1 ?_)
  | (with_reducible refine' r_m1s ?_)
  | (with_reducible refine' r_irngU ?_)
  | (with_reducible refine' r_bm0 ?_)
  | (with_reducible refine' r_revL ?_)
  | (with_reducible refine' r_isi_ii ?_)
  | (with_reducible refine' r_isi_ib ?_)
  | (with_reducible refine' r_isi_it ?_)
  | (with_reducible refine' r_isi_is ?_)
  | (with_reducible refine' r_isi_ni ?_)
  | (with_reducible refine' r_isi_nt ?_)
  | (with_reducible refine' r_isi_bb ?_)
  | (with_reducible refine' r_isi_bi ?_)
  | (with_reducible refine' r_isi_ss ?_)
  | (with_reducible refine' r_isi_si ?_)
  | (with_reducible refine' r_isi_st ?_)
  | (with_reducible refine' r_brk ?_)
  | (with_reducible refine' r_cont ?_)
  | (with_reducible refine' i_T ?_)
  | (with_reducible refine' i_F ?_)
  | (with_reducible refine' i_NT ?_)
  | (with_reducible refine' i_NF ?_)
  | fail)
/-! sides -/
local macro_rules | `(tactic| walk_at "mul") => `(tactic| first
  | exact mul_r (by decide) (by decide)
  | exact mul_l (by decide) (by decide)
  | exact mul_r (by omega) (by omega)
  | exact mul_l (by omega) (by omega)
  | exact mul_b (n := 256) (m := 256) (by omega) (by omega)
  | fail)
local macro_rules | `(tactic| walk_at "div") => `(tactic| first
  | exact div_b (n := 64) (by decide) (by decide)
  | exact div_b (n := 64) (by omega) (by omega)
  | exact div_b (n := 256) (by omega) (by omega)
  | fail)
local macro_rules | `(tactic| walk_at "ix") => `(tactic| first
  | rfl
  | assumption
  | fail)
/-- what a tuple, a list at an address is: by what is known, the heaps between going on -/
local macro_rules | `(tactic| walk_at "kp") => `(tactic| first
  | assumption
  | exact Keep.of_same (by assumption)
  | exact Keep.refl _
  | (refine' Keep.trans ?hk1 ?hk2; (case hk2 => first | assumption | exact Keep.of_same (by assumption)); (case hk1 => walk_at "kp"))
  | fail)
local macro_rules | `(tactic| walk_at "sm") => `(tactic| first
  | assumption
  | exact Same.refl _
  | (refine' Same.trans ?hk1 ?hk2; (case hk2 => assumption); (case hk1 => walk_at "sm"))
  | fail)
local macro_rules | `(tactic| walk_at "lk") => `(tactic| first
  | assumption
  | (refine' same_app ?hk1 ?hk2; (case hk1 => assumption); (case hk2 => walk_at "lk"))
  | (refine' Keep.app ?hk1 ?hk2 ?hk3; (case hk1 => assumption); (case hk2 => walk_at "lk"); (case hk3 => walk_at "ne"))
  | fail)
local macro_rules | `(tactic| walk_at "sqt") => `(tactic| first
  | assumption
  | (refine' SqT.of ?hk1; (case hk1 => walk_at "lk"))
  | walk_at "st"
  | fail)
local macro_rules | `(tactic| walk_at "sql") => `(tactic| first
  | assumption
  | (refine' SqL.of ?hk1; (case hk1 => walk_at "lk"))
  | (refine' Same.seq ?hk1 ?hk2; (case hk1 => assumption); (case hk2 => walk_at "sql"))
  | (refine' scr_sql ?hk1 ?hk2; (case hk1 => assumption); (case hk2 => walk_at "te"))
  | fail)
local macro_rules | `(tactic| walk_at "i") => `(tactic| first
  | ((with_reducible refine' r_ix01 ?hva ?_); (case hva => walk_at "sql"); intro _ _)
  | ((with_reducible refine' r_gtup ?hva ?hvb ?_); (case hva => walk_at "sqt"); (case hvb => exact rfl))
  | ((with_reducible refine' r_glst ?hva ?hvb ?_); (case hva => walk_at "sql"); (case hvb => exact rfl))
  | ((with_reducible refine' r_new ?hvv ?_); (case hvv => exact sz_lit rfl); intro _ _ _ _ _)
  | ((with_reducible refine' r_I ?hvv ?_); (case hvv => first | (with_reducible show IntMulOk _ _; walk_at "mul") | (with_reducible show CDivW _ _; walk_at "div") | (with_reducible show (0 : Int) < _; first | omega | exact two_pos _) | decide))
  | ((with_reducible refine' r_ixl ?hva ?hvb ?_); (case hva => walk_at "sql"); (case hvb => walk_at "ix"))
  | ((with_reducible refine' r_ixt ?hva ?hvb ?_); (case hva => walk_at "sqt"); (case hvb => walk_at "ix"))
  | ((with_reducible refine' r_len_l ?hva ?hvb ?_); (case hva => walk_at "sql"); (case hvb => first | (simp only [List.length_cons, List.length_nil, List.length_map, Nat.reduceAdd, Nat.zero_add]; exact rfl) | exact rfl))
  | ((with_reducible refine' r_len_t ?hva ?hvb ?_); (case hva => walk_at "sqt"); (case hvb => first | (simp only [List.length_cons, List.length_nil, List.length_map, Nat.reduceAdd, Nat.zero_add]; exact rfl) | exact rfl))
  | ((with_reducible refine' r_isi_tt ?hva ?_); (case hva => walk_at "sqt"))
  | ((with_reducible refine' r_isi_ti ?hva ?_); (case hva => walk_at "sqt"))
  | ((with_reducible refine' r_sll ?hva ?_); (case hva => walk_at "sql"); intro _ _ _ _ _)
  | ((with_reducible refine' r_revl ?hva ?_); (case hva => walk_at "sql"); intro _ _ _ _ _)
  | ((with_reducible refine' r_sla ?hva ?_); (case hva => walk_at "sqt"); intro _ _ _ _)
  | ((with_reducible refine' r_cat ?hva ?hvb ?hvc ?_); (case hva => walk_at "lk"); (case hvb => walk_at "lk"); (case hvc => first | exact sz_lit rfl | (refine sz_le ?_; omega)); intro _ _ _ _ _)
  | ((with_reducible refine' r_catA ?hva ?hvb ?hvc ?_); (case hva => walk_at "sqt"); (case hvb => walk_at "sqt"); (case hvc => first | exact sz_lit rfl | (refine sz_le ?_; omega)); intro _ _ _ _)
  | ((with_reducible refine' r_tuple_l ?hva ?_); (case hva => walk_at "sql"); intro _ _ _ _ _)
  | ((with_reducible refine' r_tuple_t ?hva ?_); (case hva => walk_at "sqt"))
  | ((with_reducible refine' r_list_l ?hva ?_); (case hva => walk_at "sql"); intro _ _ _ _ _)
  | ((with_reducible refine' r_list_t ?hva ?_); (case hva => walk_at "sqt"); intro _ _ _ _ _)
  | ((with_reducible refine' r_shl1 ?hva ?_); (case hva => omega))
  | ((with_reducible refine' r_shl2 ?hva ?_); (case hva => omega))
  | ((with_reducible refine' r_shl ?hva ?_); (case hva => omega))
  | (with_reducible refine' r_shr ?_)
  | ((with_reducible refine' i_pos ?hvv ?_); (case hvv => first | decide | omega))
  | ((with_reducible refine' i_neg ?hvv ?_); (case hvv => first | decide | omega))
  | ((with_reducible refine' i_npos ?hvv ?_); (case hvv => first | decide | omega))
  | ((with_reducible refine' i_nneg ?hvv ?_); (case hvv => first | decide | omega))
  | ((with_reducible refine' r_rng1 ?hva ?hvb ?_); (case hva => omega); (case hvb => omega))
  | ((with_reducible refine' r_rng2 ?hva ?hvb ?hvc ?hvd ?_); (case hva => omega); (case hvb => omega); (case hvc => omega); (case hvd => omega))
  | ((with_reducible refine' r_wl ?hva ?_); (case hva => walk_at "sql"))
  | ((with_reducible refine' r_wt ?hva ?_); (case hva => walk_at "sqt"))
  | fail)
local macro_rules | `(tactic| walk_at "call") => `(tactic| fail)
local macro_rules | `(tactic| walk_at "a") => `(tactic| repeat' (first | walk_at "s" | walk_at "i" | walk_at "call" | fail))

/-! steps of classes -/
local macro_rules | `(tactic| walk_at "flk") => `(tactic| first
  | exact lk_here
  | (refine' lk_next ?hk1 ?hk2; (case hk1 => decide +kernel); (case hk2 => walk_at "flk"))
  | exact lk_nil
  | fail)
local macro_rules | `(tactic| walk_at "fput") => `(tactic| first
  | exact pf_nil
  | exact pf_here
  | (refine' pf_next ?hk1 ?hk2; (case hk1 => decide +kernel); (case hk2 => walk_at "fput"))
  | fail)
local macro_rules | `(tactic| walk_at "call") => `(tactic| first
  | (with_reducible refine' r_meth ?_)
  | ((with_reducible refine' r_methi ?hva ?hvb ?_); (case hva => walk_at "lk"); (case hvb => walk_at "flk"))
  | (with_reducible refine' r_make ?_)
  | (with_reducible refine' r_makeKw ?_)
  | (with_reducible refine' r_makeKi ?_)
  | (with_reducible refine' r_fld ?_)
  | ((with_reducible refine' r_fldi ?hva ?hvb ?hvc ?hvd ?_); (case hvc => walk_at "lk"); (case hva => first | exact ClT.cl (by assumption)); (case hvb => assumption); (case hvd => walk_at "flk"))
  | (with_reducible refine' r_sfld ?_)
  | ((with_reducible refine' r_sfldi ?hva ?hvb ?hvc ?hvd ?hve ?_); (case hvc => walk_at "lk"); (case hva => first | exact ClT.cl (by assumption)); (case hvb => assumption); (case hvd => first | decide | (simp; done)); (case hve => walk_at "fput"); intro _ _ _)
  | (with_reducible refine' r_faug ?_)
  | ((with_reducible refine' r_faugi ?hva ?hvb ?hvc ?hvd ?_); (case hvc => walk_at "lk"); (case hva => first | exact ClT.cl (by assumption)); (case hvb => assumption); (case hvd => walk_at "flk"))
  | ((with_reducible refine' r_enda ?hva ?hvb ?hvc ?_); (case hva => walk_at "lk"); (case hvb => first | decide | (simp; done)); (case hvc => walk_at "fput"); intro _ _ _)
  | (with_reducible refine' r_orT ?_)
  | (with_reducible refine' r_orTn ?_)
  | ((with_reducible refine' r_dnewT ?_); intro _ _ _ _ _)
  | (with_reducible refine' r_revT ?_)
  | ((with_reducible refine' r_revt ?hva ?_); (case hva => walk_at "sqt"); intro _ _ _ _ _)
  | (with_reducible refine' r_dget ?_)
  | (with_reducible refine' r_dget1 ?_)
  | ((with_reducible refine' r_dg1T ?hva ?_); (case hva => walk_at "lk"))
  | ((with_reducible refine' r_dg2T ?hva ?hvb ?_); (case hva => walk_at "lk"); (case hvb => walk_at "lk"))
  | (with_reducible refine' r_dput ?_)
  | ((with_reducible refine' r_dnew ?_); intro _ _ _ _ _)
  | fail)

/-! steps of dicts by numbers -/
local macro_rules | `(tactic| walk_at "call") => `(tactic| first
  | (with_reducible refine' r_dpop1 ?_)
  | (with_reducible refine' r_dpop2 ?_)
  | (with_reducible refine' r_din ?_)
  | (with_reducible refine' r_dnotin ?_)
  | (with_reducible refine' r_dget2 ?_)
  | ((with_reducible refine' r_dpop1i ?hva ?_); (case hva => walk_at "lk"))
  | ((with_reducible refine' r_dpop2i ?hva ?_); (case hva => walk_at "lk"))
  | ((with_reducible refine' r_dget2i ?hva ?_); (case hva => walk_at "lk"))
  | ((with_reducible refine' r_dg1K ?hva ?_); (case hva => walk_at "lk"))
  | ((with_reducible refine' r_dini ?hva ?_); (case hva => walk_at "lk"))
  | ((with_reducible refine' r_dnotini ?hva ?_); (case hva => walk_at "lk"))
  | ((with_reducible refine' r_eqNil ?hva ?hvb ?_); (case hva => walk_at "sql"); (case hvb => walk_at "sql"))
  | ((with_reducible refine' r_neNil ?hva ?hvb ?_); (case hva => walk_at "sql"); (case hvb => walk_at "sql"))
  | fail)

/-! steps of try -/
local macro_rules | `(tactic| walk_at "call") => `(tactic| first
  | (with_reducible refine' r_tryAs ?_)
  | (with_reducible refine' r_tryOnly ?_)
  | (with_reducible refine' r_methS ?_)
  | (with_reducible refine' r_makeS ?_)
  | fail)

def top (i : Nat) : Stmt := PySem.Challenge.pw_fourpoints_k73_whole_views_of_changing_s.main.body.getD i (.Pass ⟨0, 0, 0, 0⟩)
abbrev s_wall : Stmt := top 0
abbrev s_is_number : Stmt := top 8
abbrev s_column_of : Stmt := top 9
abbrev s_times_of : Stmt := top 10
abbrev s_moved : Stmt := top 11
abbrev s_widened : Stmt := top 12
abbrev s_narrowed : Stmt := top 13
abbrev s_with_columns : Stmt := top 14
abbrev s_shared : Stmt := top 15
abbrev s_lower_of : Stmt := top 17
abbrev s_higher_of : Stmt := top 18
abbrev s_joined : Stmt := top 19
abbrev s_is_end : Stmt := top 24
abbrev s_want_time : Stmt := top 25
abbrev s_level_from : Stmt := top 26
abbrev s_stretches : Stmt := top 27
abbrev s_want_within : Stmt := top 29
abbrev s_View___init : Stmt := inClass (top 30) 0
abbrev s_View_hear : Stmt := inClass (top 30) 1
abbrev s_View_learn : Stmt := inClass (top 30) 2
abbrev s_View_fours : Stmt := inClass (top 30) 3
abbrev s_View_go : Stmt := inClass (top 30) 4
abbrev s_View_on : Stmt := inClass (top 30) 5
abbrev s_View_wide : Stmt := inClass (top 30) 6
abbrev s_View_narrow : Stmt := inClass (top 30) 7
abbrev s_View_columns : Stmt := inClass (top 30) 8
abbrev s_Store___init : Stmt := inClass (top 32) 0
abbrev s_Store_set_height : Stmt := inClass (top 32) 1
abbrev s_Store_set_four : Stmt := inClass (top 32) 2
abbrev s_Store_put : Stmt := inClass (top 32) 3
abbrev s_Store_take : Stmt := inClass (top 32) 4
abbrev s_Store_height : Stmt := inClass (top 32) 5
abbrev s_Store_four : Stmt := inClass (top 32) 6
abbrev s_Store_fours : Stmt := inClass (top 32) 7
abbrev s_Store_told : Stmt := inClass (top 32) 8
abbrev s_Store_watch : Stmt := inClass (top 32) 9
abbrev s_Store_news : Stmt := inClass (top 32) 10
abbrev s_Store_undo : Stmt := inClass (top 32) 11
abbrev s_Store_times : Stmt := inClass (top 32) 12
abbrev s_law_cell : Stmt := top 34
abbrev s_law_pot : Stmt := top 35
abbrev s_law_draw : Stmt := top 36
abbrev s_law_in : Stmt := top 37
abbrev s_law_within : Stmt := top 38
abbrev s_law_height : Stmt := top 39
abbrev s_law_window : Stmt := top 40
abbrev s_law_time : Stmt := top 41
abbrev s_law_curve : Stmt := top 42
abbrev s_law_four : Stmt := top 43
abbrev s_law_fours : Stmt := top 44
abbrev s_law_step : Stmt := top 45
abbrev s_law_go : Stmt := top 46
abbrev s_law_known : Stmt := top 47
abbrev s_law_column : Stmt := top 48
abbrev s_law_deed : Stmt := top 49
abbrev s_law_asked : Stmt := top 50
abbrev s_law_moved : Stmt := top 51
abbrev s_law : Stmt := top 52
theorem sc_wall : FnScope ["k"] ["k"] (defScope s_wall) := ⟨rfl, rfl, rfl, by decide +kernel, rfl, by decide +kernel, by decide +kernel⟩
theorem sc_is_number : FnScope ["thing"] ["thing"] (defScope s_is_number) := ⟨rfl, rfl, rfl, by decide +kernel, rfl, by decide +kernel, by decide +kernel⟩
theorem sc_column_of : FnScope ["window", "t", "begin", "wide", "many", "number"] ["window", "t"] (defScope s_column_of) := ⟨rfl, rfl, rfl, by decide +kernel, rfl, by decide +kernel, by decide +kernel⟩
theorem sc_times_of : FnScope ["window", "k", "begin", "wide", "many", "first"] ["window", "k"] (defScope s_times_of) := ⟨rfl, rfl, rfl, by decide +kernel, rfl, by decide +kernel, by decide +kernel⟩
theorem sc_moved : FnScope ["window", "c", "begin", "wide", "many"] ["window", "c"] (defScope s_moved) := ⟨rfl, rfl, rfl, by decide +kernel, rfl, by decide +kernel, by decide +kernel⟩
theorem sc_widened : FnScope ["window", "begin", "wide", "many"] ["window"] (defScope s_widened) := ⟨rfl, rfl, rfl, by decide +kernel, rfl, by decide +kernel, by decide +kernel⟩
theorem sc_narrowed : FnScope ["window", "begin", "wide", "many"] ["window"] (defScope s_narrowed) := ⟨rfl, rfl, rfl, by decide +kernel, rfl, by decide +kernel, by decide +kernel⟩
theorem sc_with_columns : FnScope ["window", "n", "begin", "wide", "many"] ["window", "n"] (defScope s_with_columns) := ⟨rfl, rfl, rfl, by decide +kernel, rfl, by decide +kernel, by decide +kernel⟩
theorem sc_shared : FnScope ["one", "other", "begin", "wide", "many", "other_begin", "other_wide", "other_many", "ahead", "k"] ["one", "other"] (defScope s_shared) := ⟨rfl, rfl, rfl, by decide +kernel, rfl, by decide +kernel, by decide +kernel⟩
theorem sc_lower_of : FnScope ["one", "other"] ["one", "other"] (defScope s_lower_of) := ⟨rfl, rfl, rfl, by decide +kernel, rfl, by decide +kernel, by decide +kernel⟩
theorem sc_higher_of : FnScope ["one", "other"] ["one", "other"] (defScope s_higher_of) := ⟨rfl, rfl, rfl, by decide +kernel, rfl, by decide +kernel, by decide +kernel⟩
theorem sc_joined : FnScope ["one", "other"] ["one", "other"] (defScope s_joined) := ⟨rfl, rfl, rfl, by decide +kernel, rfl, by decide +kernel, by decide +kernel⟩
theorem sc_is_end : FnScope ["thing"] ["thing"] (defScope s_is_end) := ⟨rfl, rfl, rfl, by decide +kernel, rfl, by decide +kernel, by decide +kernel⟩
theorem sc_want_time : FnScope ["t"] ["t"] (defScope s_want_time) := ⟨rfl, rfl, rfl, by decide +kernel, rfl, by decide +kernel, by decide +kernel⟩
theorem sc_level_from : FnScope ["begin", "end", "level"] ["begin", "end"] (defScope s_level_from) := ⟨rfl, rfl, rfl, by decide +kernel, rfl, by decide +kernel, by decide +kernel⟩
theorem sc_stretches : FnScope ["begin", "end", "found", "level"] ["begin", "end"] (defScope s_stretches) := ⟨rfl, rfl, rfl, by decide +kernel, rfl, by decide +kernel, by decide +kernel⟩
theorem sc_want_within : FnScope ["window", "begin", "wide", "many"] ["window"] (defScope s_want_within) := ⟨rfl, rfl, rfl, by decide +kernel, rfl, by decide +kernel, by decide +kernel⟩
theorem sc_View___init : FnScope ["self", "store", "window"] ["self", "store", "window"] (defScope s_View___init) := ⟨rfl, rfl, rfl, by decide +kernel, rfl, by decide +kernel, by decide +kernel⟩
theorem sc_View_hear : FnScope ["self", "times", "t"] ["self"] (defScope s_View_hear) := ⟨rfl, rfl, rfl, by decide +kernel, rfl, by decide +kernel, by decide +kernel⟩
theorem sc_View_learn : FnScope ["self", "k", "first", "behind"] ["self", "k"] (defScope s_View_learn) := ⟨rfl, rfl, rfl, by decide +kernel, rfl, by decide +kernel, by decide +kernel⟩
theorem sc_View_fours : FnScope ["self", "k"] ["self"] (defScope s_View_fours) := ⟨rfl, rfl, rfl, by decide +kernel, rfl, by decide +kernel, by decide +kernel⟩
theorem sc_View_go : FnScope ["self", "window", "known", "k", "j"] ["self", "window"] (defScope s_View_go) := ⟨rfl, rfl, rfl, by decide +kernel, rfl, by decide +kernel, by decide +kernel⟩
theorem sc_View_on : FnScope ["self", "c"] ["self", "c"] (defScope s_View_on) := ⟨rfl, rfl, rfl, by decide +kernel, rfl, by decide +kernel, by decide +kernel⟩
theorem sc_View_wide : FnScope ["self", "window", "known", "k"] ["self"] (defScope s_View_wide) := ⟨rfl, rfl, rfl, by decide +kernel, rfl, by decide +kernel, by decide +kernel⟩
theorem sc_View_narrow : FnScope ["self"] ["self"] (defScope s_View_narrow) := ⟨rfl, rfl, rfl, by decide +kernel, rfl, by decide +kernel, by decide +kernel⟩
theorem sc_View_columns : FnScope ["self", "n"] ["self", "n"] (defScope s_View_columns) := ⟨rfl, rfl, rfl, by decide +kernel, rfl, by decide +kernel, by decide +kernel⟩
theorem sc_Store___init : FnScope ["self", "curve", "t", "h"] ["self", "curve"] (defScope s_Store___init) := ⟨rfl, rfl, rfl, by decide +kernel, rfl, by decide +kernel, by decide +kernel⟩
theorem sc_Store_set_height : FnScope ["self", "t", "h", "level", "s", "one", "other"] ["self", "t", "h"] (defScope s_Store_set_height) := ⟨rfl, rfl, rfl, by decide +kernel, rfl, by decide +kernel, by decide +kernel⟩
theorem sc_Store_set_four : FnScope ["self", "stretch", "found"] ["self", "stretch", "found"] (defScope s_Store_set_four) := ⟨rfl, rfl, rfl, by decide +kernel, rfl, by decide +kernel, by decide +kernel⟩
theorem sc_Store_put : FnScope ["self", "t", "h", "before"] ["self", "t", "h"] (defScope s_Store_put) := ⟨rfl, rfl, rfl, by decide +kernel, rfl, by decide +kernel, by decide +kernel⟩
theorem sc_Store_take : FnScope ["self", "t", "before"] ["self", "t"] (defScope s_Store_take) := ⟨rfl, rfl, rfl, by decide +kernel, rfl, by decide +kernel, by decide +kernel⟩
theorem sc_Store_height : FnScope ["self", "t"] ["self", "t"] (defScope s_Store_height) := ⟨rfl, rfl, rfl, by decide +kernel, rfl, by decide +kernel, by decide +kernel⟩
theorem sc_Store_four : FnScope ["self", "begin", "end", "found", "stretch"] ["self", "begin", "end"] (defScope s_Store_four) := ⟨rfl, rfl, rfl, by decide +kernel, rfl, by decide +kernel, by decide +kernel⟩
theorem sc_Store_fours : FnScope ["self", "window", "begin", "wide", "many", "ends", "k", "first", "behind"] ["self", "window"] (defScope s_Store_fours) := ⟨rfl, rfl, rfl, by decide +kernel, rfl, by decide +kernel, by decide +kernel⟩
theorem sc_Store_told : FnScope ["self", "t"] ["self"] (defScope s_Store_told) := ⟨rfl, rfl, rfl, by decide +kernel, rfl, by decide +kernel, by decide +kernel⟩
theorem sc_Store_watch : FnScope ["self", "window"] ["self", "window"] (defScope s_Store_watch) := ⟨rfl, rfl, rfl, by decide +kernel, rfl, by decide +kernel, by decide +kernel⟩
theorem sc_Store_news : FnScope ["self", "number"] ["self", "number"] (defScope s_Store_news) := ⟨rfl, rfl, rfl, by decide +kernel, rfl, by decide +kernel, by decide +kernel⟩
theorem sc_Store_undo : FnScope ["self", "t", "before"] ["self"] (defScope s_Store_undo) := ⟨rfl, rfl, rfl, by decide +kernel, rfl, by decide +kernel, by decide +kernel⟩
theorem sc_Store_times : FnScope ["self"] ["self"] (defScope s_Store_times) := ⟨rfl, rfl, rfl, by decide +kernel, rfl, by decide +kernel, by decide +kernel⟩
theorem sc_law_cell : FnScope ["_law_script", "_law_k"] ["_law_script", "_law_k"] (defScope s_law_cell) := ⟨rfl, rfl, rfl, by decide +kernel, rfl, by decide +kernel, by decide +kernel⟩
theorem sc_law_pot : FnScope ["_law_cell_here"] ["_law_cell_here"] (defScope s_law_pot) := ⟨rfl, rfl, rfl, by decide +kernel, rfl, by decide +kernel, by decide +kernel⟩
theorem sc_law_draw : FnScope ["_law_pot_here", "_law_many", "_law_digit"] ["_law_pot_here", "_law_many"] (defScope s_law_draw) := ⟨rfl, rfl, rfl, by decide +kernel, rfl, by decide +kernel, by decide +kernel⟩
theorem sc_law_in : FnScope ["_law_t"] ["_law_t"] (defScope s_law_in) := ⟨rfl, rfl, rfl, by decide +kernel, rfl, by decide +kernel, by decide +kernel⟩
theorem sc_law_within : FnScope ["_law_window_here"] ["_law_window_here"] (defScope s_law_within) := ⟨rfl, rfl, rfl, by decide +kernel, rfl, by decide +kernel, by decide +kernel⟩
theorem sc_law_height : FnScope ["_law_pot_here"] ["_law_pot_here"] (defScope s_law_height) := ⟨rfl, rfl, rfl, by decide +kernel, rfl, by decide +kernel, by decide +kernel⟩
theorem sc_law_window : FnScope ["_law_pot_here", "_law_wide", "_law_many", "_law_place", "_law_begin"] ["_law_pot_here"] (defScope s_law_window) := ⟨rfl, rfl, rfl, by decide +kernel, rfl, by decide +kernel, by decide +kernel⟩
theorem sc_law_time : FnScope ["_law_pot_here", "_law_window_here", "_law_begin", "_law_wide", "_law_many"] ["_law_pot_here", "_law_window_here"] (defScope s_law_time) := ⟨rfl, rfl, rfl, by decide +kernel, rfl, by decide +kernel, by decide +kernel⟩
theorem sc_law_curve : FnScope ["_law_pot_here", "_law_window_here", "_law_made", "_law_k", "_law_t"] ["_law_pot_here", "_law_window_here"] (defScope s_law_curve) := ⟨rfl, rfl, rfl, by decide +kernel, rfl, by decide +kernel, by decide +kernel⟩
theorem sc_law_four : FnScope ["_law_some", "_law_low", "_law_high", "_law_t", "_law_h"] ["_law_some"] (defScope s_law_four) := ⟨rfl, rfl, rfl, by decide +kernel, rfl, by decide +kernel, by decide +kernel⟩
theorem sc_law_fours : FnScope ["_law_made", "_law_window_here", "_law_begin", "_law_wide", "_law_many", "_law_columns", "_law_k", "_law_first", "_law_t"] ["_law_made", "_law_window_here"] (defScope s_law_fours) := ⟨rfl, rfl, rfl, by decide +kernel, rfl, by decide +kernel, by decide +kernel⟩
theorem sc_law_step : FnScope ["_law_pot_here", "_law_window_here", "_law_begin", "_law_wide", "_law_many", "_law_way", "_law_n", "_law_c"] ["_law_pot_here", "_law_window_here"] (defScope s_law_step) := ⟨rfl, rfl, rfl, by decide +kernel, rfl, by decide +kernel, by decide +kernel⟩
theorem sc_law_go : FnScope ["_law_view", "_law_step_here", "_law_told"] ["_law_view", "_law_step_here"] (defScope s_law_go) := ⟨rfl, rfl, rfl, by decide +kernel, rfl, by decide +kernel, by decide +kernel⟩
theorem sc_law_known : FnScope ["_law_step_here", "_law_window_here", "_law_known_here", "_law_begin", "_law_wide", "_law_many", "_law_found", "_law_k", "_law_j"] ["_law_step_here", "_law_window_here", "_law_known_here"] (defScope s_law_known) := ⟨rfl, rfl, rfl, by decide +kernel, rfl, by decide +kernel, by decide +kernel⟩
theorem sc_law_column : FnScope ["_law_window_here", "_law_t", "_law_k"] ["_law_window_here", "_law_t"] (defScope s_law_column) := ⟨rfl, rfl, rfl, by decide +kernel, rfl, by decide +kernel, by decide +kernel⟩
theorem sc_law_deed : FnScope ["_law_pot_here", "_law_store", "_law_made", "_law_done", "_law_window_here", "_law_way", "_law_t", "_law_h"] ["_law_pot_here", "_law_store", "_law_made", "_law_done", "_law_window_here"] (defScope s_law_deed) := ⟨rfl, rfl, rfl, by decide +kernel, rfl, by decide +kernel, by decide +kernel⟩
theorem sc_law_asked : FnScope ["_law_view", "_law_own", "_law_made"] ["_law_view", "_law_own", "_law_made"] (defScope s_law_asked) := ⟨rfl, rfl, rfl, by decide +kernel, rfl, by decide +kernel, by decide +kernel⟩
theorem sc_law_moved : FnScope ["_law_pot_here", "_law_view", "_law_own", "_law_step_here", "_law_is_let"] ["_law_pot_here", "_law_view", "_law_own"] (defScope s_law_moved) := ⟨rfl, rfl, rfl, by decide +kernel, rfl, by decide +kernel, by decide +kernel⟩
theorem sc_law : FnScope ["_law_script", "_law_pot_here", "_law_window_here", "_law_made", "_law_other", "_law_store", "_law_views", "_law_own", "_law_done", "_law_number", "_law_at", "_law_t", "_law_one", "_law_way", "_law_k"] ["_law_script"] (defScope s_law) := ⟨rfl, rfl, rfl, by decide +kernel, rfl, by decide +kernel, by decide +kernel⟩
/-! script[k] or 0 -/
def sp_nth (K : PySem.W.Frag) : Sp := fun vs H Q _ => ∃ (a : Addr) (ns : List Int) (k : Nat), vs = [.ref a, .int k] ∧ SqL K H a (ns.map V.int) ∧ Q (.int (ns.getD k 0)) H
theorem getD_map_int {ns : List Int} {k : Nat} (h : k < ns.length) : (ns.map V.int)[k]? = some (V.int (ns.getD k 0)) := by
  rw [List.getElem?_map, List.getElem?_eq_getElem h]
  simp [List.getD, h]
section
variable {P : Program} {w : World} {K : PySem.W.Frag} {mg : Str → Option Value} {base : Heap}
theorem ok_law_cell (B : Blt mg) (D : Def K mg "_law_cell" s_law_cell ["_law_script", "_law_k"]) :
    Fn P w K mg base 1 "_law_cell" ["_law_script", "_law_k"] (sp_nth K) := by
  refine D.ok sc_law_cell (fun vs H Q E h => ?_) (fun f cdv A outer s H vs Q E hr h => ?_)
  · obtain ⟨a, ns, k, rfl, hS, q⟩ := h
    rfl
  · obtain ⟨a, ns, k, rfl, hS, q⟩ := h
    refine ⟨_, (pss_cons (ps_if (pt_cmpR op_lt (pv 1) (pe_callB (crK K c_len) rfl B.len (by decide +kernel) (pa_cons (pv 0) pa_nil)) (nomark _))
      (pss_one (ps_ret (pe_ix (ixK K ix_seq) (pv 0) (pv 1) (fun _ _ => rfl))))
      pss_nil)
      (pss_one (ps_ret pe_int))), ?_⟩
    refine r_start (σ' := [some (.ref a), some (.int k)]) rfl ?_
    walk_at "a"
    refine i_cases (fun hk => ?_) (fun hk => ?_)
    · walk_at "a"
      exact r_ixl hS (at_of rfl (getD_map_int (by omega))) q
    · walk_at "a"
      have e0 : ns.getD k 0 = 0 := by
        have h1 : ns.length ≤ k := by omega
        simp [List.getD, h1]
      rw [e0] at q
      exact q
end
theorem use_nth {K : PySem.W.Frag} {H : Hp} {Q : VK} {E : XK} {a : Addr} {ns : List Int} {z : Int} (h : SqL K H a (ns.map V.int)) (h0 : 0 ≤ z) (q : Q (.int (ns.getD z.toNat 0)) H) : sp_nth K [.ref a, .int z] H Q E :=
  ⟨a, ns, z.toNat, by rw [Int.toNat_of_nonneg h0], h, q⟩
local macro_rules | `(tactic| walk_at "call") => `(tactic| ((with_reducible refine' use_nth ?hva ?hvb ?_); (case hva => walk_at "sql"); (case hvb => omega)))

/-! the pot: a list of two numbers -/
structure Pot (H : Hp) (p : Addr) : Prop where
  ex : ∃ a b : Int, H p = some (.lst [.int a, .int b]) ∧ 0 ≤ a ∧ 0 ≤ b ∧ b < 4294967296
theorem Pot.keep {H H' : Hp} {p : Addr} {F : Addr → Prop} (h : Pot H p) (k : Keep F H H') (n : ¬ F p) : Pot H' p := by
  obtain ⟨a, b, e, r⟩ := h.ex
  exact ⟨a, b, k p _ e n, r⟩
theorem Pot.same {H H' : Hp} {p : Addr} (h : Pot H p) (k : Same H H') : Pot H' p := by
  obtain ⟨a, b, e, r⟩ := h.ex
  exact ⟨a, b, k p _ e, r⟩
theorem Pot.text {H H' : Hp} {p : Addr} (h : Pot H p) (k : Keep (At p) H H') : TExt H H' := by
  obtain ⟨a, b, e, r⟩ := h.ex
  exact TExt.lst k e
theorem Pot.ne_new {H : Hp} {p q : Addr} (h : Pot H p) (hn : H q = none) : q ≠ p := by
  obtain ⟨a, b, e, r⟩ := h.ex
  exact fun z => by rw [z, e] at hn; cases hn
def sp_pot (K : PySem.W.Frag) : Sp := fun vs H Q _ => ∃ c : Int, vs = [.int c] ∧ ∀ (p : Addr) (H' : Hp), H p = none → Same H H' → Pot H' p → Q (.ref p) H'
def sp_take (K : PySem.W.Frag) : Sp := fun vs H Q _ => ∃ (p : Addr) (n : Int), vs = [.ref p, .int n] ∧ Pot H p ∧ 0 < n ∧ n ≤ 1000000000000000000000000000000000000000000000000000000000000000000000000000 ∧
  ∀ (r : Int) (H' : Hp), Keep (At p) H H' → Pot H' p → 0 ≤ r → r < n → Q (.int r) H'
section
variable {P : Program} {w : World} {K : PySem.W.Frag} {mg : Str → Option Value} {base : Heap}
theorem ok_law_pot (B : Blt mg) (D : Def K mg "_law_pot" s_law_pot ["_law_cell_here"]) :
    Fn P w K mg base 1 "_law_pot" ["_law_cell_here"] (sp_pot K) := by
  refine D.ok sc_law_pot (fun vs H Q E h => ?_) (fun f cdv A outer s H vs Q E hr h => ?_)
  · obtain ⟨c, rfl, q⟩ := h
    rfl
  · obtain ⟨c, rfl, q⟩ := h
    refine ⟨_, (pss_one (ps_ret (pe_lst (pa_cons (pe_callB (c_max2 rfl) rfl B.max (by decide +kernel) (pa_cons pe_int (pa_cons (pe_op op_sub (pe_callB c_abs rfl B.abs (by decide +kernel) (pa_cons (pv 0) pa_nil)) (pe_powC (z := 1000000000000000000) (by decide +kernel) (by decide +kernel))) pa_nil))) (pa_cons (pe_op op_add (pe_op op_mod (pe_callB c_abs rfl B.abs (by decide +kernel) (pa_cons (pv 0) pa_nil)) pe_int) pe_int) pa_nil))))), ?_⟩
    refine r_start (σ' := [some (.int c)]) rfl ?_
    walk_at "a"
    rename_i p H' hn h1 h2
    refine q p H' hn h1 ⟨_, _, h2, ?_, ?_, ?_⟩
    · (try split) <;> omega
    · omega
    · omega
end
section
variable {P : Program} {w : World} {K : PySem.W.Frag} {mg : Str → Option Value} {base : Heap}
theorem ok_law_draw (B : Blt mg) (D : Def K mg "_law_draw" s_law_draw ["_law_pot_here", "_law_many"]) :
    Fn P w K mg base 1 "_law_draw" ["_law_pot_here", "_law_many"] (sp_take K) := by
  refine D.ok sc_law_draw (fun vs H Q E h => ?_) (fun f cdv A outer s H vs Q E hr h => ?_)
  · obtain ⟨p, n, rfl, hp, hn, hb, q⟩ := h
    rfl
  · obtain ⟨p, n, rfl, hp, hn, hb, q⟩ := h
    refine ⟨_, (pss_cons (ps_if (pt_cmpR op_gt (pe_ix (ixK K ix_seq) (pv 0) pe_int (fun _ _ => rfl)) pe_int (nomark _))
      (pss_cons (ps_asg (pe_callB call_divmodW rfl B.divmod (by decide +kernel) (pa_cons (pe_ix (ixK K ix_seq) (pv 0) pe_int (fun _ _ => rfl)) (pa_cons (pv 1) pa_nil))) (pgK_tup K (n := 2) rfl (pgs_cons (pg_sub (pv 0) pe_int set_list) (pgs_cons (pg_name (i := 2) sc_law_draw.nd rfl (Or.inl rfl)) pgs_nil))))
      (pss_one (ps_ret (pv 2))))
      pss_nil)
      (pss_cons (ps_asg (pe_op op_mod (pe_op op_add (pe_op op_mulY (pe_ix (ixK K ix_seq) (pv 0) pe_int (fun _ _ => rfl)) pe_int) pe_int) pe_int) (pg_sub (pv 0) pe_int set_list))
      (pss_one (ps_ret (pe_op op_mod (pe_op op_fdivW (pe_op op_mod (pe_op op_mulY (pe_ix (ixK K ix_seq) (pv 0) pe_int (fun _ _ => rfl)) (pe_ix (ixK K ix_seq) (pv 0) pe_int (fun _ _ => rfl))) pe_int) pe_int) (pv 1)))))), ?_⟩
    refine r_start (σ' := [some (.ref p), some (.int n), none]) rfl ?_
    obtain ⟨a, b, hp, ha, hb0, hb1⟩ := hp.ex
    walk_at "a"
    refine i_cases (fun hk => ?_) (fun hk => ?_)
    · walk_at "a"
      have hb' : n.natAbs < 2 ^ 300 := by
        have : (2 : Nat) ^ 300 > 1000000000000000000000000000000000000000000000000000000000000000000000000000 := by decide +kernel
        omega
      have cw : CDivW a n := div_b hn hb'
      refine ⟨_, _, rfl, ⟨hn, PyProof.noPylong_of_log2 cw.2⟩, fun pp hpp => ?_⟩
      obtain ⟨H1, e1⟩ : ∃ H1, H1 = upd H pp (.tup [.int (a / n), .int (a % n)]) := ⟨_, rfl⟩
      rw [← e1]
      have s1 : Same H H1 := by rw [e1]; exact Keep.same (Keep.new hpp)
      have e1 : H1 pp = some (.tup [.int (a / n), .int (a % n)]) := by rw [e1, upd_same]
      walk_at "a"
      refine r_setl (s1 _ _ hp) rfl fun H' h1 h2 => ?_
      walk_at "a"
      exact q _ H' ((Keep.of_same s1).trans h1) ⟨_, _, h2, Int.ediv_nonneg ha (by omega), hb0, hb1⟩ (Int.emod_nonneg _ (by omega)) (Int.emod_lt_of_pos _ hn)
    · walk_at "a"
      refine r_setl hp rfl fun H' h1 e2 => ?_
      have e2 : H' p = some (.lst [.int a, .int ((b * 48271 + 11) % 2147483647)]) := e2
      generalize hc : (b * 48271 + 11) % 2147483647 = c at e2
      have c0 : 0 ≤ c := by omega
      have c1 : c < 4294967296 := by omega
      clear hc
      walk_at "a"
      exact q _ H' h1 ⟨_, _, e2, ha, c0, c1⟩ (Int.emod_nonneg _ (by omega)) (Int.emod_lt_of_pos _ hn)
end
theorem use_pot {K : PySem.W.Frag} {H : Hp} {Q : VK} {E : XK} {c : Int} (q : ∀ (p : Addr) (H' : Hp), H p = none → Same H H' → Pot H' p → Q (.ref p) H') : sp_pot K [.int c] H Q E := ⟨c, rfl, q⟩
theorem use_take {K : PySem.W.Frag} {H : Hp} {Q : VK} {E : XK} {p : Addr} {n : Int} (h : Pot H p) (h0 : 0 < n) (h1 : n ≤ 1000000000000000000000000000000000000000000000000000000000000000000000000000) (q : ∀ (r : Int) (H' : Hp), Keep (At p) H H' → Pot H' p → 0 ≤ r → r < n → Q (.int r) H') : sp_take K [.ref p, .int n] H Q E :=
  ⟨p, n, rfl, h, h0, h1, q⟩
local macro_rules | `(tactic| walk_at "call") => `(tactic| ((with_reducible refine' use_take ?hva ?hvb ?hvc ?_); (case hva => walk_at "pot"); (case hvb => omega); (case hvc => omega); intro _ _ _ _ _ _))
local macro_rules | `(tactic| walk_at "call") => `(tactic| ((with_reducible refine' use_pot ?_); intro _ _ _ _ _))
local macro_rules | `(tactic| walk_at "pot") => `(tactic| first
  | assumption
  | (refine' Pot.same ?hk1 ?hk2; (case hk2 => assumption); (case hk1 => walk_at "pot"))
  | (refine' Pot.keep ?hk1 ?hk2 ?hk3; (case hk2 => assumption); (case hk1 => walk_at "pot"); (case hk3 => walk_at "ne"))
  | fail)
local macro_rules | `(tactic| walk_at "te") => `(tactic| first
  | assumption
  | exact TExt.refl _
  | exact TExt.of_same (by assumption)
  | (refine' Pot.text ?hk1 ?hk2; (case hk2 => assumption); (case hk1 => assumption))
  | (refine' TExt.trans ?hk1 ?hk2; (case hk2 => first | exact TExt.of_same (by assumption) | (refine' Pot.text ?hk3 ?hk4; (case hk4 => assumption); (case hk3 => walk_at "pot"))); (case hk1 => walk_at "te"))
  | fail)
/-- a tuple through the heaps -/
local macro_rules | `(tactic| walk_at "st") => `(tactic| first
  | assumption
  | exact SqT.of (by assumption)
  | (refine' SqT.text ?hk1 ?hk2; (case hk1 => first | exact TExt.of_same (by assumption) | (refine' Pot.text ?hk3 ?hk4; (case hk4 => assumption); (case hk3 => walk_at "pot"))); (case hk2 => walk_at "st"))
  | fail)
local macro_rules | `(tactic| walk_at "ne") => `(tactic| first
  | assumption
  | exact Ne.symm (by assumption)
  | (refine' Pot.ne_new ?hk1 ?hk2; (case hk2 => assumption); (case hk1 => walk_at "pot"))
  | fail)
/-! the law's promise -/
def sp_law (K : PySem.W.Frag) : Sp := fun vs H Q _ => ∃ a ns, vs = [.ref a] ∧ Scr K H a ns ∧ ns.length ≤ 63 ∧ ∀ H', Q (.bl true) H'
theorem sp_law_top {K : PySem.W.Frag} {H : Hp} {a : Addr} {ns : List Int} {E : XK} (hl : ns.length ≤ 63) (hb : ∀ z ∈ ns, Builtin.Int.intBits z ≤ 1048576) (hO : Only H) (hS : SqL K H a (ns.map V.int)) : sp_law K [.ref a] H (fun v _ => v = .bl true) E :=
  ⟨a, ns, rfl, Scr.of hO hS, hl, fun _ => rfl⟩
/-- a drawn number -/
def sp_drawn (lo hi : Int) (K : PySem.W.Frag) : Sp := fun vs H Q _ => ∃ p, vs = [.ref p] ∧ Pot H p ∧ ∀ (z : Int) (H' : Hp), Keep (At p) H H' → Pot H' p → lo ≤ z → z ≤ hi → Q (.int z) H'
theorem use_drawn {lo hi : Int} {K : PySem.W.Frag} {H : Hp} {Q : VK} {E : XK} {p : Addr} (h : Pot H p) (q : ∀ (z : Int) (H' : Hp), Keep (At p) H H' → Pot H' p → lo ≤ z → z ≤ hi → Q (.int z) H') : sp_drawn lo hi K [.ref p] H Q E := ⟨p, rfl, h, q⟩
local macro_rules | `(tactic| walk_at "call") => `(tactic| ((with_reducible refine' use_drawn ?hva ?_); (case hva => walk_at "pot"); intro _ _ _ _ _ _))
/-- a comprehension over range(n) that draws from the pot -/
theorem lc_pot {σ : L2.St} {H : Hp} {Q : VK} {n : Nat} {lo : Int} {p : Addr} {te : TE} {j : Nat} (hp : Pot H p) (hn : n ≤ 16777216) (R : Hp → Nat → V → Prop) (hR : ∀ H H' i y, TExt H H' → R H i y → R H' i y)
    (hs : ∀ (i : Nat) H2 (S : VK), i < n → Keep (At p) H H2 → Pot H2 p → (∀ y H3, Keep (At p) H2 H3 → Pot H3 p → R H3 i y → S y H3) → te ((wipe σ [j]).set j (some (.int (lo + i)))) H2 S)
    (q : ∀ D H' ys, H D = none → Keep (At p) H H' → Pot H' p → H' D = some (.lst ys) → Paired (R H') (List.range n) ys → Q (.ref D) H') : LcW (Itr lo n) (gName j) tYes te [j] σ H Q :=
  lc_rngK (fun H => Pot H p) hp (fun D hD => hp.ne_new hD) (fun H1 H2 h e => by obtain ⟨a, b, z, r⟩ := h.ex; exact ⟨a, b, by rw [e]; exact z, r⟩) (fun H1 H2 h k => h.text k) hn R hR hs q

/-! whether a thing is a whole number -/
def numV : V → Bool
  | .int _ => true
  | _ => false
theorem numV_dp {K : PySem.W.Frag} {H : Hp} {v : V} {d : PyData} (h : Dp K H v d) : (isT "int" d && !isT "bool" d) = numV v := by
  cases h <;> simp [isT, isK, tyN, numV]
def sp_is_number (K : PySem.W.Frag) : Sp := fun vs H Q _ => ∃ v d, vs = [v] ∧ Dp K H v d ∧ Q (.bl (numV v)) H
section
variable {P : Program} {w : World} {K : PySem.W.Frag} {mg : Str → Option Value} {base : Heap}
theorem ok_is_number (B : Blt mg) (D : Def K mg "is_number" s_is_number ["thing"]) :
    Fn P w K mg base 1 "is_number" ["thing"] (sp_is_number K) := by
  refine D.ok sc_is_number (fun vs H Q E h => ?_) (fun f cdv A outer s H vs Q E hr h => ?_)
  · obtain ⟨v, d, rfl, hd, q⟩ := h
    rfl
  · obtain ⟨v, d, rfl, hd, q⟩ := h
    refine ⟨_, (pss_one (ps_ret (pe_and (pe_callB (crK K call_isi) rfl B.isinstance (by decide +kernel) (pa_cons (pv 0) (pa_cons (pe_bltn (v := .ty "int") rfl B.int (by decide +kernel) rfl) pa_nil))) (pe_one (pe_not (pe_callB (crK K call_isi) rfl B.isinstance (by decide +kernel) (pa_cons (pv 0) (pa_cons (pe_bltn (v := .ty "bool") rfl B.bool (by decide +kernel) rfl) pa_nil)))))))), ?_⟩
    refine r_start (σ' := [some (v)]) rfl ?_
    rw [← numV_dp hd] at q
    walk_at "a"
    refine r_isi hd (by decide) ?_
    walk_at "a"
    cases h1 : isT "int" d with
    | false =>
      rw [h1] at q
      walk_at "a"
      exact q
    | true =>
      rw [h1] at q
      walk_at "a"
      refine r_isi hd (by decide) ?_
      walk_at "a"
      exact q
end
theorem use_is_number {K : PySem.W.Frag} {H : Hp} {Q : VK} {E : XK} {v : V} {d : PyData} (h : Dp K H v d) (q : Q (.bl (numV v)) H) : sp_is_number K [v] H Q E := ⟨v, d, rfl, h, q⟩
theorem use_is_number_i {K : PySem.W.Frag} {H : Hp} {Q : VK} {E : XK} {i : Int} (q : Q (.bl true) H) : sp_is_number K [.int i] H Q E := ⟨_, .int i, rfl, .int i, q⟩
local macro_rules | `(tactic| walk_at "call") => `(tactic| ((with_reducible refine' use_is_number_i ?_)))

/-! ### column_of -/
def colOf (b w m t : Int) : Option Int := if (t - b) / w < 0 ∨ (t - b) / w ≥ m then none else some ((t - b) / w)
def optI : Option Int → V
  | none => .non
  | some i => .int i
def sp_column_of (K : PySem.W.Frag) : Sp := fun vs H Q _ => ∃ (a : Addr) (b w m t : Int), vs = [.ref a, .int t] ∧ SqT K H a [.int b, .int w, .int m] ∧ 0 < w ∧ w ≤ 1000000000000000000000000000000000000000000000000000000000000000000000000000 ∧ Q (optI (colOf b w m t)) H
section
variable {P : Program} {w : World} {K : PySem.W.Frag} {mg : Str → Option Value} {base : Heap}
theorem ok_column_of (B : Blt mg) (D : Def K mg "column_of" s_column_of ["window", "t"]) :
    Fn P w K mg base 1 "column_of" ["window", "t"] (sp_column_of K) := by
  refine D.ok sc_column_of (fun vs H Q E h => ?_) (fun f cdv A outer s H vs Q E hr h => ?_)
  · obtain ⟨a, b, w', m, t, rfl, hw, h0, h1, q⟩ := h
    rfl
  · obtain ⟨a, b, w', m, t, rfl, hw, h0, h1, q⟩ := h
    refine ⟨_, (pss_cons (ps_asg (pv 0) (pgK_tup K (n := 3) rfl (pgs_cons (pg_name (i := 2) sc_column_of.nd rfl (Or.inl rfl)) (pgs_cons (pg_name (i := 3) sc_column_of.nd rfl (Or.inl rfl)) (pgs_cons (pg_name (i := 4) sc_column_of.nd rfl (Or.inl rfl)) pgs_nil)))))
      (pss_cons (ps_set (i := 5) sc_column_of.nd rfl (Or.inl rfl) (pe_op op_fdivW (pe_op op_sub (pv 1) (pv 2)) (pv 3)))
      (pss_cons (ps_if (PW.pt (pw_or (pt_cmpR op_lt (pv 5) pe_int (nomark _)) (pw_or1 (pt_cmpR op_ge (pv 5) (pv 4) (nomark _)))))
      (pss_one (ps_ret pe_non))
      pss_nil)
      (pss_one (ps_ret (pv 5)))))), ?_⟩
    refine r_start (σ' := [some (.ref a), some (.int t), none, none, none, none]) rfl ?_
    walk_at "a"
    unfold colOf at q
    refine i_cases (fun h2 => ?_) (fun h2 => ?_)
    · rw [if_pos (.inl h2)] at q
      walk_at "a"
      exact q
    · walk_at "a"
      refine i_cases (fun h3 => ?_) (fun h3 => ?_)
      · rw [if_pos (.inr h3)] at q
        walk_at "a"
        exact q
      · rw [if_neg (by omega)] at q
        walk_at "a"
        exact q
end
theorem use_column_of {K : PySem.W.Frag} {H : Hp} {Q : VK} {E : XK} {a : Addr} {b w m t : Int} (hw : SqT K H a [.int b, .int w, .int m]) (h0 : 0 < w) (h1 : w ≤ 1000000000000000000000000000000000000000000000000000000000000000000000000000) (q : Q (optI (colOf b w m t)) H) : sp_column_of K [.ref a, .int t] H Q E :=
  ⟨a, b, w, m, t, rfl, hw, h0, h1, q⟩
local macro_rules | `(tactic| walk_at "call") => `(tactic| ((with_reducible refine' use_column_of ?hva ?hvb ?hvc ?_); (case hva => walk_at "sqt"); (case hvb => omega); (case hvc => omega)))

/-! ### times_of -/
def sp_times_of (K : PySem.W.Frag) (C : Addr) : Sp := fun vs H Q E => ∃ (a : Addr) (b w m : Int) (v : V) (d : PyData), vs = [.ref a, v] ∧ SqT K H a [.int b, .int w, .int m] ∧ Dp K H v d ∧ -1000000000000000000000000000000000000000000000000000000000000000000000000000 ≤ w ∧ w ≤ 1000000000000000000000000000000000000000000000000000000000000000000000000000 ∧
  m ≤ 1000000000000000000000000000000000000000000000000000000000000000000000000000 ∧
  (∀ k, v = .int k → 0 ≤ k → k < m → ∀ (p : Addr) (H' : Hp), Same H H' → H' p = some (.tup [.int (b + k * w), .int (b + k * w + w)]) → Q (.ref p) H') ∧
  ((∀ k, v = .int k → ¬ (0 ≤ k ∧ k < m)) → E (.ref C) none H)
section
variable {P : Program} {w : World} {K : PySem.W.Frag} {mg : Str → Option Value} {base : Heap}
theorem ok_times_of (B : Blt mg) (D : Def K mg "times_of" s_times_of ["window", "k"]) {E_NoColumn : Addr} (X_NoColumn : Exc K mg "NoColumn" E_NoColumn) (G_is_number : Fn P w K mg base 1 "is_number" ["thing"] (sp_is_number K)) :
    Fn P w K mg base 2 "times_of" ["window", "k"] (sp_times_of K E_NoColumn) := by
  refine D.okX sc_times_of (fun vs H Q E h => ?_) (fun f cdv A outer s H vs Q E hr h => ?_)
  · obtain ⟨a, b, w', m, v, d, rfl, hw, hd, h0, h1, h2, q, e⟩ := h
    rfl
  · obtain ⟨a, b, w', m, v, d, rfl, hw, hd, h0, h1, h2, q, e⟩ := h
    refine ⟨_, (pss_cons (ps_asg (pv 0) (pgK_tup K (n := 3) rfl (pgs_cons (pg_name (i := 2) sc_times_of.nd rfl (Or.inl rfl)) (pgs_cons (pg_name (i := 3) sc_times_of.nd rfl (Or.inl rfl)) (pgs_cons (pg_name (i := 4) sc_times_of.nd rfl (Or.inl rfl)) pgs_nil)))))
      (pss_cons (ps_if (PW.pt (pw_or (pt_not (pt_val (pe_fn G_is_number hr (pa_cons (pv 1) pa_nil)))) (pw_or (pt_cmpR op_lt (pv 1) pe_int (nomark _)) (pw_or1 (pt_cmpR op_ge (pv 1) (pv 4) (nomark _))))))
      (pss_one (ps_rs X_NoColumn (takes_of rfl rfl rfl rfl)))
      pss_nil)
      (pss_cons (ps_set (i := 5) sc_times_of.nd rfl (Or.inl rfl) (pe_op op_add (pv 2) (pe_op op_mulY (pv 1) (pv 3))))
      (pss_one (ps_ret (pe_tup (pa_cons (pv 5) (pa_cons (pe_op op_add (pv 5) (pv 3)) pa_nil)))))))), ?_⟩
    refine r_start (σ' := [some (.ref a), some (v), none, none, none, none]) rfl ?_
    have hn : numV v = true ∨ numV v = false := by cases numV v <;> simp
    walk_at "a"
    refine use_is_number hd ?_
    rcases hn with hn | hn
    · rw [hn]
      obtain ⟨k, rfl⟩ : ∃ k, v = .int k := by cases v <;> simp [numV] at hn; exact ⟨_, rfl⟩
      walk_at "a"
      refine i_cases (fun h3 => ?_) (fun h3 => ?_)
      · walk_at "a"
        exact e (fun j hj hk => by cases hj; omega)
      · walk_at "a"
        refine i_cases (fun h4 => ?_) (fun h4 => ?_)
        · walk_at "a"
          exact e (fun j hj hk => by cases hj; omega)
        · walk_at "a"
          rename_i p H' hn hs hp
          exact q k rfl (by omega) (by omega) p H' hs hp
    · rw [hn]
      walk_at "a"
      exact e (fun j hj hk => by subst hj; simp [numV] at hn)
end
theorem use_times_of {K : PySem.W.Frag} {C : Addr} {H : Hp} {Q : VK} {E : XK} {a : Addr} {b w m k : Int} (hw : SqT K H a [.int b, .int w, .int m]) (h0 : -1000000000000000000000000000000000000000000000000000000000000000000000000000 ≤ w) (h1 : w ≤ 1000000000000000000000000000000000000000000000000000000000000000000000000000)
    (h2 : m ≤ 1000000000000000000000000000000000000000000000000000000000000000000000000000) (h3 : 0 ≤ k) (h4 : k < m)
    (q : ∀ (p : Addr) (H' : Hp), Same H H' → H' p = some (.tup [.int (b + k * w), .int (b + k * w + w)]) → Q (.ref p) H') : sp_times_of K C [.ref a, .int k] H Q E :=
  ⟨a, b, w, m, _, _, rfl, hw, .int k, h0, h1, h2, fun j hj _ _ => by cases hj; exact q, fun n => absurd ⟨h3, h4⟩ (n k rfl)⟩
local macro_rules | `(tactic| walk_at "call") => `(tactic| ((with_reducible refine' use_times_of ?hva ?hvb ?hvc ?hvd ?hve ?hvf ?_); (case hva => walk_at "sqt"); (case hvb => omega); (case hvc => omega); (case hvd => omega); (case hve => omega); (case hvf => omega); intro _ _ _ _))

/-! ### steps of windows -/
def sp_moved (K : PySem.W.Frag) : Sp := fun vs H Q _ => ∃ (a : Addr) (b w m c : Int), vs = [.ref a, .int c] ∧ SqT K H a [.int b, .int w, .int m] ∧ IntMulOk c w ∧ ∀ (p : Addr) (H' : Hp), Same H H' → H' p = some (.tup [.int (b + c * w), .int w, .int m]) → Q (.ref p) H'
def sp_widened (K : PySem.W.Frag) : Sp := fun vs H Q _ => ∃ (a : Addr) (b w m : Int), vs = [.ref a] ∧ SqT K H a [.int b, .int w, .int m] ∧ ∀ (p : Addr) (H' : Hp), Same H H' → H' p = some (.tup [.int b, .int (2 * w), .int m]) → Q (.ref p) H'
def sp_narrowed (K : PySem.W.Frag) (C : Addr) : Sp := fun vs H Q E => ∃ (a : Addr) (b w m : Int), vs = [.ref a] ∧ SqT K H a [.int b, .int w, .int m] ∧
  (w % 2 = 0 → ∀ (p : Addr) (H' : Hp), Same H H' → H' p = some (.tup [.int b, .int (w / 2), .int m]) → Q (.ref p) H') ∧ (¬ w % 2 = 0 → E (.ref C) none H)
def sp_with_columns (K : PySem.W.Frag) : Sp := fun vs H Q _ => ∃ (a : Addr) (b w m n : Int), vs = [.ref a, .int n] ∧ SqT K H a [.int b, .int w, .int m] ∧ ∀ (p : Addr) (H' : Hp), Same H H' → H' p = some (.tup [.int b, .int w, .int n]) → Q (.ref p) H'
section
variable {P : Program} {w : World} {K : PySem.W.Frag} {mg : Str → Option Value} {base : Heap}
theorem ok_moved (B : Blt mg) (D : Def K mg "moved" s_moved ["window", "c"]) :
    Fn P w K mg base 1 "moved" ["window", "c"] (sp_moved K) := by
  refine D.ok sc_moved (fun vs H Q E h => ?_) (fun f cdv A outer s H vs Q E hr h => ?_)
  · obtain ⟨a, b, w', m, c, rfl, hw, hc, q⟩ := h
    rfl
  · obtain ⟨a, b, w', m, c, rfl, hw, hc, q⟩ := h
    refine ⟨_, (pss_cons (ps_asg (pv 0) (pgK_tup K (n := 3) rfl (pgs_cons (pg_name (i := 2) sc_moved.nd rfl (Or.inl rfl)) (pgs_cons (pg_name (i := 3) sc_moved.nd rfl (Or.inl rfl)) (pgs_cons (pg_name (i := 4) sc_moved.nd rfl (Or.inl rfl)) pgs_nil)))))
      (pss_one (ps_ret (pe_tup (pa_cons (pe_op op_add (pv 2) (pe_op op_mulY (pv 1) (pv 3))) (pa_cons (pv 3) (pa_cons (pv 4) pa_nil))))))), ?_⟩
    refine r_start (σ' := [some (.ref a), some (.int c), none, none, none]) rfl ?_
    walk_at "a"
    refine r_I hc ?_
    walk_at "a"
    exact q _ _ (by assumption) (by assumption)
end
section
variable {P : Program} {w : World} {K : PySem.W.Frag} {mg : Str → Option Value} {base : Heap}
theorem ok_widened (B : Blt mg) (D : Def K mg "widened" s_widened ["window"]) :
    Fn P w K mg base 1 "widened" ["window"] (sp_widened K) := by
  refine D.ok sc_widened (fun vs H Q E h => ?_) (fun f cdv A outer s H vs Q E hr h => ?_)
  · obtain ⟨a, b, w', m, rfl, hw, q⟩ := h
    rfl
  · obtain ⟨a, b, w', m, rfl, hw, q⟩ := h
    refine ⟨_, (pss_cons (ps_asg (pv 0) (pgK_tup K (n := 3) rfl (pgs_cons (pg_name (i := 1) sc_widened.nd rfl (Or.inl rfl)) (pgs_cons (pg_name (i := 2) sc_widened.nd rfl (Or.inl rfl)) (pgs_cons (pg_name (i := 3) sc_widened.nd rfl (Or.inl rfl)) pgs_nil)))))
      (pss_one (ps_ret (pe_tup (pa_cons (pv 1) (pa_cons (pe_op op_mulY pe_int (pv 2)) (pa_cons (pv 3) pa_nil))))))), ?_⟩
    refine r_start (σ' := [some (.ref a), none, none, none]) rfl ?_
    walk_at "a"
    exact q _ _ (by assumption) (by assumption)
end
section
variable {P : Program} {w : World} {K : PySem.W.Frag} {mg : Str → Option Value} {base : Heap}
theorem ok_narrowed (B : Blt mg) (D : Def K mg "narrowed" s_narrowed ["window"]) {E_NotHalf : Addr} (X_NotHalf : Exc K mg "NotHalf" E_NotHalf) :
    Fn P w K mg base 1 "narrowed" ["window"] (sp_narrowed K E_NotHalf) := by
  refine D.okX sc_narrowed (fun vs H Q E h => ?_) (fun f cdv A outer s H vs Q E hr h => ?_)
  · obtain ⟨a, b, w', m, rfl, hw, q, e⟩ := h
    rfl
  · obtain ⟨a, b, w', m, rfl, hw, q, e⟩ := h
    refine ⟨_, (pss_cons (ps_asg (pv 0) (pgK_tup K (n := 3) rfl (pgs_cons (pg_name (i := 1) sc_narrowed.nd rfl (Or.inl rfl)) (pgs_cons (pg_name (i := 2) sc_narrowed.nd rfl (Or.inl rfl)) (pgs_cons (pg_name (i := 3) sc_narrowed.nd rfl (Or.inl rfl)) pgs_nil)))))
      (pss_cons (ps_if (pt_cmpR (opK K (o_ne hr.units)) (pe_op op_mod (pv 2) pe_int) pe_int (nomark _))
      (pss_one (ps_rs X_NotHalf (takes_of rfl rfl rfl rfl)))
      pss_nil)
      (pss_one (ps_ret (pe_tup (pa_cons (pv 1) (pa_cons (pe_op op_fdivW (pv 2) pe_int) (pa_cons (pv 3) pa_nil)))))))), ?_⟩
    refine r_start (σ' := [some (.ref a), none, none, none]) rfl ?_
    walk_at "a"
    refine i_ncases (fun h => ?_) (fun h => ?_)
    · walk_at "a"
      exact e h
    · walk_at "a"
      exact q h _ _ (by assumption) (by assumption)
end
section
variable {P : Program} {w : World} {K : PySem.W.Frag} {mg : Str → Option Value} {base : Heap}
theorem ok_with_columns (B : Blt mg) (D : Def K mg "with_columns" s_with_columns ["window", "n"]) :
    Fn P w K mg base 1 "with_columns" ["window", "n"] (sp_with_columns K) := by
  refine D.ok sc_with_columns (fun vs H Q E h => ?_) (fun f cdv A outer s H vs Q E hr h => ?_)
  · obtain ⟨a, b, w', m, n, rfl, hw, q⟩ := h
    rfl
  · obtain ⟨a, b, w', m, n, rfl, hw, q⟩ := h
    refine ⟨_, (pss_cons (ps_asg (pv 0) (pgK_tup K (n := 3) rfl (pgs_cons (pg_name (i := 2) sc_with_columns.nd rfl (Or.inl rfl)) (pgs_cons (pg_name (i := 3) sc_with_columns.nd rfl (Or.inl rfl)) (pgs_cons (pg_name (i := 4) sc_with_columns.nd rfl (Or.inl rfl)) pgs_nil)))))
      (pss_one (ps_ret (pe_tup (pa_cons (pv 2) (pa_cons (pv 3) (pa_cons (pv 1) pa_nil))))))), ?_⟩
    refine r_start (σ' := [some (.ref a), some (.int n), none, none, none]) rfl ?_
    walk_at "a"
    exact q _ _ (by assumption) (by assumption)
end
section
variable {K : PySem.W.Frag} {H : Hp} {Q : VK} {E : XK} {a C : Addr} {b w m c n : Int}
theorem use_moved (hw : SqT K H a [.int b, .int w, .int m]) (hc : IntMulOk c w) (q : ∀ (p : Addr) (H' : Hp), Same H H' → H' p = some (.tup [.int (b + c * w), .int w, .int m]) → Q (.ref p) H') : sp_moved K [.ref a, .int c] H Q E := ⟨a, b, w, m, c, rfl, hw, hc, q⟩
theorem use_widened (hw : SqT K H a [.int b, .int w, .int m]) (q : ∀ (p : Addr) (H' : Hp), Same H H' → H' p = some (.tup [.int b, .int (2 * w), .int m]) → Q (.ref p) H') : sp_widened K [.ref a] H Q E := ⟨a, b, w, m, rfl, hw, q⟩
theorem use_narrowed (hw : SqT K H a [.int b, .int w, .int m]) (h : w % 2 = 0) (q : ∀ (p : Addr) (H' : Hp), Same H H' → H' p = some (.tup [.int b, .int (w / 2), .int m]) → Q (.ref p) H') : sp_narrowed K C [.ref a] H Q E := ⟨a, b, w, m, rfl, hw, fun _ => q, fun n => absurd h n⟩
theorem use_with_columns (hw : SqT K H a [.int b, .int w, .int m]) (q : ∀ (p : Addr) (H' : Hp), Same H H' → H' p = some (.tup [.int b, .int w, .int n]) → Q (.ref p) H') : sp_with_columns K [.ref a, .int n] H Q E := ⟨a, b, w, m, n, rfl, hw, q⟩
end
local macro_rules | `(tactic| walk_at "call") => `(tactic| ((with_reducible refine' use_moved ?hva ?hvb ?_); (case hva => walk_at "sqt"); (case hvb => walk_at "mul"); intro _ _ _ _))
local macro_rules | `(tactic| walk_at "call") => `(tactic| ((with_reducible refine' use_widened ?hva ?_); (case hva => walk_at "sqt"); intro _ _ _ _))
local macro_rules | `(tactic| walk_at "call") => `(tactic| ((with_reducible refine' use_narrowed ?hva ?hvb ?_); (case hva => walk_at "sqt"); (case hvb => omega); intro _ _ _ _))
local macro_rules | `(tactic| walk_at "call") => `(tactic| ((with_reducible refine' use_with_columns ?hva ?_); (case hva => walk_at "sqt"); intro _ _ _ _))

/-! ### shared -/
def sp_shared (K : PySem.W.Frag) : Sp := fun vs H Q _ => ∃ (a c : Addr) (b w m ob ow om : Int), vs = [.ref a, .ref c] ∧ SqT K H a [.int b, .int w, .int m] ∧ SqT K H c [.int ob, .int ow, .int om] ∧ 0 < w ∧ w ≤ 1000000000000000000000000000000000000000000000000000000000000000000000000000 ∧ 0 ≤ m ∧ m ≤ 100000 ∧
  ∀ p H', Same H H' → Dp K H' (.ref p) (prsD (shareL b w ob ow m.toNat om)) → Q (.ref p) H'
theorem filter_dec {α : Type} {p q : α → Bool} {l : List α} (h : ∀ x, p x = q x) : l.filter p = l.filter q := by
  have : p = q := funext h
  rw [this]
theorem shared_list {b w ob ow om : Int} {m : Nat} (h1 : w = ow) (h2 : (ob - b) % w = 0) :
    ((List.range m).filter fun (k : Nat) => decide (0 ≤ (k : Int) - (ob - b) / w) && decide ((k : Int) - (ob - b) / w < om)).map (fun (k : Nat) => pairP ((k : Int), (k : Int) - (ob - b) / w)) = (shareL b w ob ow m om).map pairP := by
  unfold shareL
  rw [if_neg (fun z => z.elim (fun y => y h1) (fun y => y h2)), List.map_map]
  congr 1
  exact filter_dec fun k => by rw [Bool.eq_iff_iff]; simp
section
variable {P : Program} {w : World} {K : PySem.W.Frag} {mg : Str → Option Value} {base : Heap}
theorem ok_shared (B : Blt mg) (D : Def K mg "shared" s_shared ["one", "other"]) :
    Fn P w K mg base 1 "shared" ["one", "other"] (sp_shared K) := by
  refine D.ok sc_shared (fun vs H Q E h => ?_) (fun f cdv A outer s H vs Q E hr h => ?_)
  · obtain ⟨a, c, b, w', m, ob, ow, om, rfl, ha, hc, w0, w1, m0, m1, q⟩ := h
    rfl
  · obtain ⟨a, c, b, w', m, ob, ow, om, rfl, ha, hc, w0, w1, m0, m1, q⟩ := h
    refine ⟨_, (pss_cons (ps_asg (pv 0) (pgK_tup K (n := 3) rfl (pgs_cons (pg_name (i := 2) sc_shared.nd rfl (Or.inl rfl)) (pgs_cons (pg_name (i := 3) sc_shared.nd rfl (Or.inl rfl)) (pgs_cons (pg_name (i := 4) sc_shared.nd rfl (Or.inl rfl)) pgs_nil)))))
      (pss_cons (ps_asg (pv 1) (pgK_tup K (n := 3) rfl (pgs_cons (pg_name (i := 5) sc_shared.nd rfl (Or.inl rfl)) (pgs_cons (pg_name (i := 6) sc_shared.nd rfl (Or.inl rfl)) (pgs_cons (pg_name (i := 7) sc_shared.nd rfl (Or.inr rfl)) pgs_nil)))))
      (pss_cons (ps_if (PW.pt (pw_or (pt_cmpR (opK K (o_ne hr.units)) (pv 3) (pv 6) (nomark _)) (pw_or1 (pt_cmpR (opK K (o_ne hr.units)) (pe_op op_mod (pe_op op_sub (pv 5) (pv 2)) (pv 3)) pe_int (nomark _)))))
      (pss_one (ps_ret (pe_tup pa_nil)))
      pss_nil)
      (pss_cons (ps_set (i := 8) sc_shared.nd rfl (Or.inr rfl) (pe_op op_fdivW (pe_op op_sub (pv 5) (pv 2)) (pv 3)))
      (pss_one (ps_ret (pe_callTy (crK K c_tuple) rfl B.tuple (by decide +kernel) (pa_cons (pe_lc (own := [("k", 9)]) (g := gName 9) (tt := _) rfl sc_shared.nd (pi_range1 rfl B.range (pa_cons (pv 4) pa_nil)) (blkOk_by (N := ["one", "other", "begin", "wide", "many", "other_begin", "other_wide", "other_many", "ahead", "k"]) (sc := defScope s_shared) (by decide +kernel)) (fun _ _ _ _ _ => (pg_name (i := 9) sc_shared.nd rfl (Or.inl rfl))) (fun _ _ _ _ _ => pts_one (pt_chain op_le op_lt pe_int (pe_op op_sub (pv 9) (pv 8)) (pv 7))) (fun _ _ _ _ _ => (pe_tup (pa_cons (pv 9) (pa_cons (pe_op op_sub (pv 9) (pv 8)) pa_nil))))) pa_nil)))))))), ?_⟩
    refine r_start (σ' := [some (.ref a), some (.ref c), none, none, none, none, none, none, none, none]) rfl ?_
    walk_at "a"
    have fin : shareL b w' ob ow m.toNat om = [] → ∀ p H', Same H H' → H' p = some (.tup []) → Q (.ref p) H' := fun e p H' s h => by
      refine q p H' s ?_
      rw [e]
      exact .tup (SqT.of h) .nil
    refine i_ncases (fun h1 => ?_) (fun h1 => ?_)
    · walk_at "a"
      exact fin (by unfold shareL; rw [if_pos (.inl h1)]) _ _ (by assumption) (by assumption)
    walk_at "a"
    refine i_ncases (fun h2 => ?_) (fun h2 => ?_)
    · walk_at "a"
      exact fin (by unfold shareL; rw [if_pos (.inr h2)]) _ _ (by assumption) (by assumption)
    walk_at "a"
    refine lc_rngD (K := K) (by omega) (fun k => decide (0 ≤ (k : Int) - (ob - b) / w') && decide ((k : Int) - (ob - b) / w' < om)) (fun k => pairP ((k : Int), (k : Int) - (ob - b) / w')) (fun c => imm_pair _) (fun k H2 S N hk s k1 k2 => ?_) (fun D H' ys hD s e p => ?_)
    · refine r_gname ⟨wipe_one, ?_⟩
      rw [Int.zero_add]
      walk_at "a"
      refine i_cases (fun h3 => ?_) (fun h3 => ?_)
      · walk_at "a"
        refine i_cases (fun h4 => ?_) (fun h4 => ?_)
        · walk_at "a"
          exact k1 (by rw [decide_eq_true h3, decide_eq_true h4]; rfl) _ _ (by assumption) (dp_of_pair (SqT.of (by assumption)))
        · exact k2 (by rw [decide_eq_true h3, decide_eq_false h4]; rfl) _ (Same.refl _)
      · walk_at "a"
        exact k2 (by rw [decide_eq_false h3]; rfl) _ (Same.refl _)
    · rw [shared_list h1 h2] at p
      walk_at "a"
      refine q _ _ (by walk_at "sm") (.tup (SqT.of (by assumption)) (DpAll.same (by assumption) _ _ p))
end
theorem use_shared {K : PySem.W.Frag} {H : Hp} {Q : VK} {E : XK} {a c : Addr} {b w m ob ow om : Int} (ha : SqT K H a [.int b, .int w, .int m]) (hc : SqT K H c [.int ob, .int ow, .int om]) (h : 0 < w ∧ w ≤ 1000000000000000000000000000000000000000000000000000000000000000000000000000 ∧ 0 ≤ m ∧ m ≤ 100000)
    (q : ∀ p H', Same H H' → Dp K H' (.ref p) (prsD (shareL b w ob ow m.toNat om)) → Q (.ref p) H') : sp_shared K [.ref a, .ref c] H Q E := ⟨a, c, b, w, m, ob, ow, om, rfl, ha, hc, h.1, h.2.1, h.2.2.1, h.2.2.2, q⟩
local macro_rules | `(tactic| walk_at "call") => `(tactic| ((with_reducible refine' use_shared ?hva ?hvb ?hvc ?_); (case hva => walk_at "sqt"); (case hvb => walk_at "sqt"); (case hvc => omega); intro _ _ _ _))

/-! ends of times, levels, stretches -/
def endV : V → Bool
  | .int i => decide (-1099511627776 ≤ i) && decide (i ≤ 1099511627776)
  | _ => false
theorem endV_true {i : Int} (h : -1099511627776 ≤ i ∧ i ≤ 1099511627776) : endV (.int i) = true := by
  show (decide (-1099511627776 ≤ i) && decide (i ≤ 1099511627776)) = true
  rw [decide_eq_true h.1, decide_eq_true h.2]
  rfl
theorem endV_false {i : Int} (h : ¬ (-1099511627776 ≤ i ∧ i ≤ 1099511627776)) : endV (.int i) = false := by
  show (decide (-1099511627776 ≤ i) && decide (i ≤ 1099511627776)) = false
  simp
  omega
def sp_is_end (K : PySem.W.Frag) : Sp := fun vs H Q _ => ∃ v d, vs = [v] ∧ Dp K H v d ∧ Q (.bl (endV v)) H
section
variable {P : Program} {w : World} {K : PySem.W.Frag} {mg : Str → Option Value} {base : Heap}
theorem ok_is_end (B : Blt mg) (D : Def K mg "is_end" s_is_end ["thing"]) {tk_FIRST : Tok} (C_FIRST : mg "FIRST" = some (.int (-1099511627776) tk_FIRST)) {tk_BEHIND : Tok} (C_BEHIND : mg "BEHIND" = some (.int (1099511627776) tk_BEHIND)) :
    Fn P w K mg base 1 "is_end" ["thing"] (sp_is_end K) := by
  refine D.ok sc_is_end (fun vs H Q E h => ?_) (fun f cdv A outer s H vs Q E hr h => ?_)
  · obtain ⟨v, d, rfl, hd, q⟩ := h
    rfl
  · obtain ⟨v, d, rfl, hd, q⟩ := h
    refine ⟨_, (pss_one (ps_ret (pe_and (pe_callB (crK K call_isi) rfl B.isinstance (by decide +kernel) (pa_cons (pv 0) (pa_cons (pe_bltn (v := .ty "int") rfl B.int (by decide +kernel) rfl) pa_nil))) (pe_and (pe_not (pe_callB (crK K call_isi) rfl B.isinstance (by decide +kernel) (pa_cons (pv 0) (pa_cons (pe_bltn (v := .ty "bool") rfl B.bool (by decide +kernel) rfl) pa_nil)))) (pe_one (pe_chain op_le op_le (pe_glob (v := .int (-1099511627776)) rfl C_FIRST ⟨_, rfl⟩) (pv 0) (pe_glob (v := .int (1099511627776)) rfl C_BEHIND ⟨_, rfl⟩))))))), ?_⟩
    refine r_start (σ' := [some (v)]) rfl ?_
    walk_at "a"
    refine r_isi hd (by decide) ?_
    cases hd with
    | int i =>
      rw [show isT "int" (.int i) = true by simp [isT, isK, tyN]]
      have q : Q (.bl (decide (-1099511627776 ≤ i) && decide (i ≤ 1099511627776))) H := q
      walk_at "a"
      refine i_cases (fun h1 => ?_) (fun h1 => ?_)
      · rw [decide_eq_true h1, Bool.true_and] at q
        walk_at "a"
        exact q
      · rw [decide_eq_false h1, Bool.false_and] at q
        exact q
    | bl b =>
      rw [show isT "int" (.bool b) = true by simp [isT, isK, tyN]]
      walk_at "a"
      exact q
    | non =>
      walk_at "a"
      exact q
    | str s =>
      rw [show isT "int" (.str s) = false by simp [isT, isK, tyN]]
      walk_at "a"
      exact q
    | lst h1 h2 =>
      rw [show isT "int" (.list _) = false by simp [isT, isK, tyN]]
      walk_at "a"
      exact q
    | tup h1 h2 =>
      rw [show isT "int" (.tuple _) = false by simp [isT, isK, tyN]]
      walk_at "a"
      exact q
end
theorem use_is_end {K : PySem.W.Frag} {H : Hp} {Q : VK} {E : XK} {v : V} {d : PyData} (h : Dp K H v d) (q : Q (.bl (endV v)) H) : sp_is_end K [v] H Q E := ⟨v, d, rfl, h, q⟩
def sp_level_from (K : PySem.W.Frag) : Sp := fun vs H Q _ => ∃ b e : Int, vs = [.int b, .int e] ∧ Q (.int ((lvl b e : Nat) : Int)) H
section
variable {P : Program} {w : World} {K : PySem.W.Frag} {mg : Str → Option Value} {base : Heap}
theorem ok_level_from (B : Blt mg) (D : Def K mg "level_from" s_level_from ["begin", "end"]) {tk_MOST_LEVEL : Tok} (C_MOST_LEVEL : mg "MOST_LEVEL" = some (.int (40) tk_MOST_LEVEL)) :
    Fn P w K mg base 1 "level_from" ["begin", "end"] (sp_level_from K) := by
  refine D.ok sc_level_from (fun vs H Q E h => ?_) (fun f cdv A outer s H vs Q E hr h => ?_)
  · obtain ⟨b, e, rfl, q⟩ := h
    rfl
  · obtain ⟨b, e, rfl, q⟩ := h
    refine ⟨_, (pss_cons (ps_set (i := 2) sc_level_from.nd rfl (Or.inl rfl) pe_int)
      (pss_cons (ps_while PassesOwn.never (PW.pt (pw_and (pt_cmpR op_lt (pv 2) (pe_glob (v := .int (40)) rfl C_MOST_LEVEL ⟨_, rfl⟩) (nomark _)) (pw_and (pt_cmpR (opK K (o_eq hr.units)) (pe_op op_mod (pv 0) (pe_op o_shl pe_int (pv 2))) pe_int (nomark _)) (pw_and1 (pt_cmpR op_le (pe_op op_add (pv 0) (pe_op o_shl pe_int (pv 2))) (pv 1) (nomark _))))))
      (pss_one (ps_aug (i := 2) sc_level_from.nd rfl (Or.inl rfl) pe_int ip_add)))
      (pss_one (ps_ret (pv 2))))), ?_⟩
    refine r_start (σ' := [some (.int b), some (.int e), none]) rfl ?_
    walk_at "a"
    refine ⟨fun m σ H' => ∃ k : Nat, σ = [some (.int b), some (.int e), some (.int (k : Int))] ∧ H' = H ∧ m + k = 40 ∧ lvlF b e m k = lvl b e, ⟨40, 0, rfl, rfl, rfl, rfl⟩, ?_⟩
    rintro m σ H' ⟨k, rfl, rfl, hm, hk⟩
    have stop : k = lvl b e → tRet (tVar 2) { nx := fun x H' => Q V.non H', rt := Q } [some (.int b), some (.int e), some (.int (k : Int))] H' := fun h => by
      rw [← h] at q
      walk_at "a"
      exact q
    walk_at "a"
    refine i_cases (fun h1 => ?_) (fun h1 => ?_)
    · obtain ⟨m', rfl⟩ : ∃ m', m = m' + 1 := ⟨m - 1, by omega⟩
      have hk' : (if b % 2 ^ (k + 1) = 0 ∧ b + 2 ^ (k + 1) ≤ e then lvlF b e m' (k + 1) else k) = lvl b e := hk
      walk_at "a"
      refine i_cases (fun h2 => ?_) (fun h2 => ?_)
      · walk_at "a"
        refine i_cases (fun h3 => ?_) (fun h3 => ?_)
        · refine ⟨_, fun _ _ h => h, ?_⟩
          walk_at "a"
          rw [if_pos ⟨h2, h3⟩] at hk'
          exact ⟨m', by omega, k + 1, rfl, rfl, by omega, hk'⟩
        · rw [if_neg (fun z => h3 z.2)] at hk'
          exact stop hk'
      · rw [if_neg (fun z => h2 z.1)] at hk'
        exact stop hk'
    · have : m = 0 := by omega
      subst this
      exact stop hk
end
theorem use_level_from {K : PySem.W.Frag} {H : Hp} {Q : VK} {E : XK} {b e : Int} (q : Q (.int ((lvl b e : Nat) : Int)) H) : sp_level_from K [.int b, .int e] H Q E := ⟨b, e, rfl, q⟩
def sp_stretches (K : PySem.W.Frag) (C : Addr) : Sp := fun vs H Q E => ∃ (x y : V) (dx dy : PyData), vs = [x, y] ∧ Dp K H x dx ∧ Dp K H y dy ∧
  (endV x = true → endV y = true → ∀ b e : Int, x = .int b → y = .int e → ∀ p ws H', Same H H' → H' p = some (.tup ws) → RawP H' ws (strL b e) → Q (.ref p) H') ∧ ((endV x && endV y) = false → E (.ref C) none H)
theorem endV_int {v : V} (h : endV v = true) : ∃ i : Int, v = .int i ∧ -1099511627776 ≤ i ∧ i ≤ 1099511627776 := by
  cases v with
  | int i => exact ⟨i, rfl, by simpa [endV] using h⟩
  | _ => simp [endV] at h
section
variable {P : Program} {w : World} {K : PySem.W.Frag} {mg : Str → Option Value} {base : Heap}
theorem ok_stretches (B : Blt mg) {A_View : Addr} (T_View : ClT K mg "View" A_View) (N_View_shown : NoAttr K A_View "shown") (N_View_window : NoAttr K A_View "window") (N_View_known : NoAttr K A_View "known") (N_View_heard : NoAttr K A_View "heard") (N_View_asked : NoAttr K A_View "asked") {A_Store : Addr} (T_Store : ClT K mg "Store" A_Store) (N_Store_heights : NoAttr K A_Store "heights") (N_Store_by_stretches : NoAttr K A_Store "by_stretches") (N_Store_deeds : NoAttr K A_Store "deeds") (N_Store_deed_times : NoAttr K A_Store "deed_times") (N_Store_watches : NoAttr K A_Store "watches") (D : Def K mg "stretches" s_stretches ["begin", "end"]) {E_OutOfTimes : Addr} (X_OutOfTimes : Exc K mg "OutOfTimes" E_OutOfTimes) (G_level_from : Fn P w K mg base 1 "level_from" ["begin", "end"] (sp_level_from K)) (G_is_end : Fn P w K mg base 1 "is_end" ["thing"] (sp_is_end K)) :
    Fn P w K mg base 2 "stretches" ["begin", "end"] (sp_stretches K E_OutOfTimes) := by
  refine D.okX sc_stretches (fun vs H Q E h => ?_) (fun f cdv A outer s H vs Q E hr h => ?_)
  · obtain ⟨x, y, dx, dy, rfl, hx, hy, q, e⟩ := h
    rfl
  · obtain ⟨x, y, dx, dy, rfl, hx, hy, q, e⟩ := h
    refine ⟨_, (pss_cons (ps_if (PW.pt (pw_or (pt_not (pt_val (pe_fn G_is_end hr (pa_cons (pv 0) pa_nil)))) (pw_or1 (pt_not (pt_val (pe_fn G_is_end hr (pa_cons (pv 1) pa_nil)))))))
      (pss_one (ps_rs X_OutOfTimes (takes_of rfl rfl rfl rfl)))
      pss_nil)
      (pss_cons (ps_set (i := 2) sc_stretches.nd rfl (Or.inl rfl) (pe_lst pa_nil))
      (pss_cons (ps_while (passes_of rfl) (pt_cmpR op_lt (pv 0) (pv 1) (nomark _))
      (pss_cons (ps_set (i := 3) sc_stretches.nd rfl (Or.inl rfl) (pe_fn G_level_from hr (pa_cons (pv 0) (pa_cons (pv 1) pa_nil))))
      (pss_cons (ps_expr (peK_bm K PySem.F.plainAttrs_list PySem.F.slot_list_append PySem.F.type_list_append mt_append (pv 2) (pa_cons (pe_tup (pa_cons (pv 3) (pa_cons (pe_op o_shr (pv 0) (pv 3)) pa_nil))) pa_nil)))
      (pss_one (ps_aug (i := 0) sc_stretches.nd rfl (Or.inl rfl) (pe_op o_shl pe_int (pv 3)) ip_add)))))
      (pss_one (ps_ret (pe_callTy (crK K c_tuple) rfl B.tuple (by decide +kernel) (pa_cons (pv 2) pa_nil))))))), ?_⟩
    refine r_start (σ' := [some (x), some (y), none, none]) rfl ?_
    walk_at "a"
    refine use_is_end hx ?_
    cases h1 : endV x with
    | false =>
      walk_at "a"
      exact e (by rw [h1]; rfl)
    | true =>
    walk_at "a"
    refine use_is_end hy ?_
    cases h2 : endV y with
    | false =>
      walk_at "a"
      exact e (by rw [h1, h2]; rfl)
    | true =>
    obtain ⟨b, rfl, b0, b1⟩ := endV_int h1
    obtain ⟨e', rfl, e0, e1⟩ := endV_int h2
    have q := q h1 h2 b e' rfl rfl
    have hln := str_len (b := b) (e := e') b0 e1
    walk_at "a"
    rename_i f Hf nf sf ef
    refine ⟨fun m σ H' => (∃ v1 : Option V, ∃ c : Int, σ = [some (.int c), some (.int e'), some (.ref f), v1]) ∧ ∃ c : Int, σ[0]? = some (some (.int c)) ∧ m = (e' - c).toNat ∧ Same H H' ∧ ∃ ws pre, H' f = some (.lst ws) ∧ RawP H' ws pre ∧ strL b e' = pre ++ strL c e', ⟨_, ⟨_, b, rfl⟩, b, rfl, rfl, sf, [], [], ef, .nil, rfl⟩, ?_⟩
    rintro m σ H1 ⟨⟨v1, c, rfl⟩, c2, hc2, rfl, s1, ws, pre, ew, dw, hs⟩
    cases Option.some.inj (Option.some.inj hc2)
    have hwl : ws.length ≤ 80 := by
      rw [dw.len]
      have := congrArg List.length hs
      rw [List.length_append] at this
      omega
    walk_at "a"
    refine i_cases (fun h3 => ?_) (fun h3 => ?_)
    · rw [str_cons h3] at hs
      have hlv := lvl_le c e'
      refine ⟨_, fun _ _ h => h, ?_⟩
      walk_at "a"
      refine use_level_from ?_
      walk_at "a"
      refine r_bml (SqL.of ew) ?_
      walk_at "a"
      rename_i p2 H2 n2 s2 e2
      refine r_append (s2 _ _ ew) (by rw [sizeLine_eq]; omega) fun H3 k3 e3 => ?_
      have t3 := TExt.lst k3 (s2 _ _ ew)
      walk_at "a"
      have hp := two_pos (lvl c e')
      refine ⟨(e' - (c + 2 ^ lvl c e')).toNat, by omega, ⟨_, _, rfl⟩, _, rfl, rfl, same_at (s1.trans s2) nf k3, _, pre ++ [((lvl c e' : Int), c / 2 ^ lvl c e')], e3, ?_, ?_⟩
      · have d3 := (dw.same s2).keep k3 fun b hb => by rw [show b = f from hb, s2 _ _ ew]; trivial
        exact Paired.snoc d3 ⟨_, rfl, k3 _ _ e2 (ne_of e2 (s2 _ _ ew) (by intro z; cases z))⟩
      · rw [List.append_assoc]
        exact hs
    · rw [str_nil h3, List.append_nil] at hs
      walk_at "a"
      rename_i p2 H2 n2 s2 e2
      rw [← hs] at dw
      exact q p2 ws H2 (s1.trans s2) e2 (dw.same s2)
end
theorem use_stretchesR {K : PySem.W.Frag} {H : Hp} {Q : VK} {E : XK} {C : Addr} {b e : Int} (h : -1099511627776 ≤ b ∧ b ≤ 1099511627776 ∧ -1099511627776 ≤ e ∧ e ≤ 1099511627776) (q : ∀ p ws H', Same H H' → H' p = some (.tup ws) → RawP H' ws (strL b e) → Q (.ref p) H') : sp_stretches K C [.int b, .int e] H Q E :=
  ⟨_, _, .int b, .int e, rfl, .int b, .int e, fun _ _ x y hx hy => by cases hx; cases hy; exact q, fun z => by simp [endV] at z; omega⟩
theorem use_stretches {K : PySem.W.Frag} {H : Hp} {Q : VK} {E : XK} {C : Addr} {b e : Int} (h : -1099511627776 ≤ b ∧ b ≤ 1099511627776 ∧ -1099511627776 ≤ e ∧ e ≤ 1099511627776) (q : ∀ p H', Same H H' → Dp K H' (.ref p) (prsD (strL b e)) → Q (.ref p) H') : sp_stretches K C [.int b, .int e] H Q E :=
  use_stretchesR h fun p ws H' s ep hr => q p H' s (.tup (SqT.of ep) hr.dp)

/-! fours joined -/
def sp_lower (K : PySem.W.Frag) : Sp := fun vs H Q _ => ∃ (x y : V) (a b : Int × Int), vs = [x, y] ∧ Dp K H x (pairP a) ∧ Dp K H y (pairP b) ∧ ∀ v, Dp K H v (pairP (lowP a b)) → Q v H
section
variable {P : Program} {w : World} {K : PySem.W.Frag} {mg : Str → Option Value} {base : Heap}
theorem ok_lower_of (B : Blt mg) (D : Def K mg "lower_of" s_lower_of ["one", "other"]) :
    Fn P w K mg base 1 "lower_of" ["one", "other"] (sp_lower K) := by
  refine D.ok sc_lower_of (fun vs H Q E h => ?_) (fun f cdv A outer s H vs Q E hr h => ?_)
  · obtain ⟨x, y, a, b, rfl, hx, hy, q⟩ := h
    rfl
  · obtain ⟨x, y, a, b, rfl, hx, hy, q⟩ := h
    refine ⟨_, (pss_cons (ps_if (pt_cmpR op_lt (pe_ix (ixK K ix_seq) (pv 1) pe_int (fun _ _ => rfl)) (pe_ix (ixK K ix_seq) (pv 0) pe_int (fun _ _ => rfl)) (nomark _))
      (pss_one (ps_ret (pv 1)))
      pss_nil)
      (pss_one (ps_ret (pv 0)))), ?_⟩
    refine r_start (σ' := [some (x), some (y)]) rfl ?_
    obtain ⟨px, rfl, ha⟩ := dp_pair hx
    obtain ⟨py, rfl, hb⟩ := dp_pair hy
    unfold lowP at q
    walk_at "a"
    refine i_cases (fun h => ?_) (fun h => ?_)
    · rw [if_pos h] at q
      walk_at "a"
      exact q _ hy
    · rw [if_neg h] at q
      walk_at "a"
      exact q _ hx
end
theorem use_lower {K : PySem.W.Frag} {H : Hp} {Q : VK} {E : XK} {x y : V} {a b : Int × Int} (hx : Dp K H x (pairP a)) (hy : Dp K H y (pairP b)) (q : ∀ v, Dp K H v (pairP (lowP a b)) → Q v H) : sp_lower K [x, y] H Q E := ⟨x, y, a, b, rfl, hx, hy, q⟩
def sp_higher (K : PySem.W.Frag) : Sp := fun vs H Q _ => ∃ (x y : V) (a b : Int × Int), vs = [x, y] ∧ Dp K H x (pairP a) ∧ Dp K H y (pairP b) ∧ ∀ v, Dp K H v (pairP (highP a b)) → Q v H
section
variable {P : Program} {w : World} {K : PySem.W.Frag} {mg : Str → Option Value} {base : Heap}
theorem ok_higher_of (B : Blt mg) (D : Def K mg "higher_of" s_higher_of ["one", "other"]) :
    Fn P w K mg base 1 "higher_of" ["one", "other"] (sp_higher K) := by
  refine D.ok sc_higher_of (fun vs H Q E h => ?_) (fun f cdv A outer s H vs Q E hr h => ?_)
  · obtain ⟨x, y, a, b, rfl, hx, hy, q⟩ := h
    rfl
  · obtain ⟨x, y, a, b, rfl, hx, hy, q⟩ := h
    refine ⟨_, (pss_cons (ps_if (pt_cmpR op_gt (pe_ix (ixK K ix_seq) (pv 1) pe_int (fun _ _ => rfl)) (pe_ix (ixK K ix_seq) (pv 0) pe_int (fun _ _ => rfl)) (nomark _))
      (pss_one (ps_ret (pv 1)))
      pss_nil)
      (pss_one (ps_ret (pv 0)))), ?_⟩
    refine r_start (σ' := [some (x), some (y)]) rfl ?_
    obtain ⟨px, rfl, ha⟩ := dp_pair hx
    obtain ⟨py, rfl, hb⟩ := dp_pair hy
    unfold highP at q
    walk_at "a"
    refine i_cases (fun h => ?_) (fun h => ?_)
    · rw [if_pos h] at q
      walk_at "a"
      exact q _ hy
    · rw [if_neg h] at q
      walk_at "a"
      exact q _ hx
end
theorem use_higher {K : PySem.W.Frag} {H : Hp} {Q : VK} {E : XK} {x y : V} {a b : Int × Int} (hx : Dp K H x (pairP a)) (hy : Dp K H y (pairP b)) (q : ∀ v, Dp K H v (pairP (highP a b)) → Q v H) : sp_higher K [x, y] H Q E := ⟨x, y, a, b, rfl, hx, hy, q⟩
def sp_joined (K : PySem.W.Frag) : Sp := fun vs H Q _ => ∃ (x y : V) (a b : Option Four), vs = [x, y] ∧ Dp K H x (fourD a) ∧ Dp K H y (fourD b) ∧ ∀ v H', Same H H' → Dp K H' v (fourD (joinF a b)) → Q v H'
section
variable {P : Program} {w : World} {K : PySem.W.Frag} {mg : Str → Option Value} {base : Heap}
theorem ok_joined (B : Blt mg) (D : Def K mg "joined" s_joined ["one", "other"]) (G_lower_of : Fn P w K mg base 1 "lower_of" ["one", "other"] (sp_lower K)) (G_higher_of : Fn P w K mg base 1 "higher_of" ["one", "other"] (sp_higher K)) :
    Fn P w K mg base 2 "joined" ["one", "other"] (sp_joined K) := by
  refine D.ok sc_joined (fun vs H Q E h => ?_) (fun f cdv A outer s H vs Q E hr h => ?_)
  · obtain ⟨x, y, a, b, rfl, hx, hy, q⟩ := h
    rfl
  · obtain ⟨x, y, a, b, rfl, hx, hy, q⟩ := h
    refine ⟨_, (pss_cons (ps_if (pt_cmpR o_isN (pv 0) pe_non (nomark _))
      (pss_one (ps_ret (pv 1)))
      pss_nil)
      (pss_cons (ps_if (pt_cmpR o_isN (pv 1) pe_non (nomark _))
      (pss_one (ps_ret (pv 0)))
      pss_nil)
      (pss_one (ps_ret (pe_tup (pa_cons (pe_ix (ixK K ix_seq) (pv 0) pe_int (fun _ _ => rfl)) (pa_cons (pe_ix (ixK K ix_seq) (pv 1) pe_int (fun _ _ => rfl)) (pa_cons (pe_fn G_lower_of hr (pa_cons (pe_ix (ixK K ix_seq) (pv 0) pe_int (fun _ _ => rfl)) (pa_cons (pe_ix (ixK K ix_seq) (pv 1) pe_int (fun _ _ => rfl)) pa_nil))) (pa_cons (pe_fn G_higher_of hr (pa_cons (pe_ix (ixK K ix_seq) (pv 0) pe_int (fun _ _ => rfl)) (pa_cons (pe_ix (ixK K ix_seq) (pv 1) pe_int (fun _ _ => rfl)) pa_nil))) pa_nil))))))))), ?_⟩
    refine r_start (σ' := [some (x), some (y)]) rfl ?_
    cases a with
    | none =>
      cases dp_non hx
      walk_at "a"
      exact q _ _ (Same.refl _) hy
    | some F =>
    obtain ⟨px, wx, rfl, hsx, hwx⟩ := dp_tup hx
    cases b with
    | none =>
      cases dp_non hy
      walk_at "a"
      exact q _ _ (Same.refl _) hx
    | some G =>
    obtain ⟨py, wy, rfl, hsy, hwy⟩ := dp_tup hy
    obtain ⟨x0, x1, x2, x3, rfl, d0, d1, d2, d3⟩ := dp4 hwx
    obtain ⟨y0, y1, y2, y3, rfl, e0, e1, e2, e3⟩ := dp4 hwy
    walk_at "a"
    refine use_lower d2 e2 fun v hv => ?_
    walk_at "a"
    refine use_higher d3 e3 fun u hu => ?_
    walk_at "a"
    rename_i p H1 n1 s1 h1
    exact q _ H1 s1 (.tup (SqT.of h1) (DpAll.same s1 _ _ (.cons d0 (.cons e1 (.cons hv (.cons hu .nil))))))
end
theorem use_joined {K : PySem.W.Frag} {H : Hp} {Q : VK} {E : XK} {x y : V} {a b : Option Four} (hx : Dp K H x (fourD a)) (hy : Dp K H y (fourD b)) (q : ∀ v H', Same H H' → Dp K H' v (fourD (joinF a b)) → Q v H') : sp_joined K [x, y] H Q E := ⟨x, y, a, b, rfl, hx, hy, q⟩

/-! ### tree times wanted -/
def timeV (v : V) : Bool := endV v && !decide (v = .int 1099511627776)
def sp_want_time (K : PySem.W.Frag) (C : Addr) : Sp := fun vs H Q E => ∃ v d, vs = [v] ∧ Dp K H v d ∧ (timeV v = true → Q .non H) ∧ (timeV v = false → E (.ref C) none H)
section
variable {P : Program} {w : World} {K : PySem.W.Frag} {mg : Str → Option Value} {base : Heap}
theorem ok_want_time (B : Blt mg) (D : Def K mg "want_time" s_want_time ["t"]) {tk_BEHIND : Tok} (C_BEHIND : mg "BEHIND" = some (.int (1099511627776) tk_BEHIND)) {E_OutOfTimes : Addr} (X_OutOfTimes : Exc K mg "OutOfTimes" E_OutOfTimes) (G_is_end : Fn P w K mg base 1 "is_end" ["thing"] (sp_is_end K)) :
    Fn P w K mg base 2 "want_time" ["t"] (sp_want_time K E_OutOfTimes) := by
  refine D.okX sc_want_time (fun vs H Q E h => ?_) (fun f cdv A outer s H vs Q E hr h => ?_)
  · obtain ⟨v, d, rfl, hd, q, e⟩ := h
    rfl
  · obtain ⟨v, d, rfl, hd, q, e⟩ := h
    refine ⟨_, (pss_one (ps_if (PW.pt (pw_or (pt_not (pt_val (pe_fn G_is_end hr (pa_cons (pv 0) pa_nil)))) (pw_or1 (pt_cmpR (opK K (o_eq hr.units)) (pv 0) (pe_glob (v := .int (1099511627776)) rfl C_BEHIND ⟨_, rfl⟩) (nomark _)))))
      (pss_one (ps_rs X_OutOfTimes (takes_of rfl rfl rfl rfl)))
      pss_nil)), ?_⟩
    refine r_start (σ' := [some (v)]) rfl ?_
    walk_at "a"
    refine use_is_end hd ?_
    cases h1 : endV v with
    | false =>
      walk_at "a"
      exact e (by unfold timeV; rw [h1]; rfl)
    | true =>
      obtain ⟨i, rfl, i0, i1⟩ := endV_int h1
      walk_at "a"
      refine i_cases (fun h2 => ?_) (fun h2 => ?_)
      · walk_at "a"
        exact e (by unfold timeV; rw [h1, h2]; rfl)
      · walk_at "a"
        exact q (by unfold timeV; rw [h1, decide_eq_false (by simpa using h2)]; rfl)
end
theorem timeV_int {i : Int} (h : -1099511627776 ≤ i ∧ i < 1099511627776) : timeV (.int i) = true := by
  show ((decide (-1099511627776 ≤ i) && decide (i ≤ 1099511627776)) && !decide (V.int i = V.int 1099511627776)) = true
  rw [decide_eq_true h.1, decide_eq_true (show i ≤ 1099511627776 by omega), decide_eq_false (show ¬ V.int i = V.int 1099511627776 by simp; omega)]
  rfl
theorem use_want_time {K : PySem.W.Frag} {C : Addr} {H : Hp} {Q : VK} {E : XK} {i : Int} (h : -1099511627776 ≤ i ∧ i < 1099511627776) (q : Q .non H) : sp_want_time K C [.int i] H Q E :=
  ⟨_, .int i, rfl, .int i, fun _ => q, fun z => by rw [timeV_int h] at z; cases z⟩
theorem timeV_false {i : Int} (h : ¬ (-1099511627776 ≤ i ∧ i < 1099511627776)) : timeV (.int i) = false := by
  show ((decide (-1099511627776 ≤ i) && decide (i ≤ 1099511627776)) && !decide (V.int i = V.int 1099511627776)) = false
  by_cases h1 : i = 1099511627776
  · subst h1; decide
  · rw [Bool.and_eq_false_iff, Bool.and_eq_false_iff]
    by_cases h2 : -1099511627776 ≤ i
    · exact .inl (.inr (decide_eq_false (by omega)))
    · exact .inl (.inl (decide_eq_false h2))
theorem use_no_time {K : PySem.W.Frag} {C : Addr} {H : Hp} {Q : VK} {E : XK} {i : Int} (h : ¬ (-1099511627776 ≤ i ∧ i < 1099511627776)) (e : E (.ref C) none H) : sp_want_time K C [.int i] H Q E :=
  ⟨_, .int i, rfl, .int i, fun z => (by rw [timeV_false h] at z; cases z), fun _ => e⟩

/-! ### the class Store -/
def sp_set_four (K : PySem.W.Frag) (C : Addr) : Sp := fun vs H Q _ => ∃ (p hd bd dx b : Addr) (x3 x4 x5 : V) (kvs : List (List Key × V)) (i j : Int) (v : V) (F : Option Four), vs = [.ref p, .ref b, v] ∧
  H p = some (.ins C dx [("heights", .ref hd), ("by_stretches", .ref bd), ("deeds", x3), ("deed_times", x4), ("watches", x5)]) ∧ H bd = some (.dT kvs) ∧ kvs.length ≤ 1000000 ∧ H b = some (.tup [.int i, .int j]) ∧ Dp K H v (fourD F) ∧
  ∀ kvs' H', Keep (At bd) H H' → H' bd = some (.dT kvs') → kvs'.length ≤ kvs.length + 1 → Fits K H' (valV kvs' [Sum.inl i, Sum.inl j]) F → (∀ k, k ≠ [Sum.inl i, Sum.inl j] → valV kvs' k = valV kvs k) → Q .non H'
section
variable {P : Program} {w : World} {K : PySem.W.Frag} {mg : Str → Option Value} {base : Heap}
theorem ok_Store_set_four (B : Blt mg) {A_View : Addr} (T_View : ClT K mg "View" A_View) (N_View_shown : NoAttr K A_View "shown") (N_View_window : NoAttr K A_View "window") (N_View_known : NoAttr K A_View "known") (N_View_heard : NoAttr K A_View "heard") (N_View_asked : NoAttr K A_View "asked") {A_Store : Addr} (T_Store : ClT K mg "Store" A_Store) (N_Store_heights : NoAttr K A_Store "heights") (N_Store_by_stretches : NoAttr K A_Store "by_stretches") (N_Store_deeds : NoAttr K A_Store "deeds") (N_Store_deed_times : NoAttr K A_Store "deed_times") (N_Store_watches : NoAttr K A_Store "watches") (D : MDef K A_Store "set_four" "Store.set_four" s_Store_set_four ["self", "stretch", "found"]) :
    MFn P w K mg base 1 A_Store "set_four" ["self", "stretch", "found"] (sp_set_four K A_Store) := by
  refine D.ok sc_Store_set_four (fun vs H Q E h => ?_) (fun f cdv A outer s H vs Q E hr h => ?_)
  · obtain ⟨p, hd, bd, dx, b, x3, x4, x5, kvs, i, j, v, F, rfl, ob, hb, hl, hk, hv, q⟩ := h
    rfl
  · obtain ⟨p, hd, bd, dx, b, x3, x4, x5, kvs, i, j, v, F, rfl, ob, hb, hl, hk, hv, q⟩ := h
    refine ⟨_, (pss_one (ps_if (pt_cmpR o_isN (pv 2) pe_non (nomark _))
      (pss_one (ps_expr (peK_bm K PySem.F.plainAttrs_dict PySem.F.slot_dict_pop PySem.F.type_dict_pop (L2.DX.mt_popT (hu_of hr)) (peK_fld K (pv 0)) (pa_cons (pv 1) (pa_cons pe_non pa_nil)))))
      (pss_one (ps_dput (hu_of hr) (peK_fld K (pv 0)) (pv 1) (pv 2) rfl)))), ?_⟩
    refine r_start (σ' := [some (.ref p), some (.ref b), some (v)]) rfl ?_
    cases F with
    | none =>
      cases dp_non hv
      walk_at "a"
      refine r_bmdT hb ?_
      walk_at "a"
      refine r_popT hb hk (fun v H' e k' e' => ?_) (fun e => ?_)
      · walk_at "a"
        refine q _ H' k' e' (Nat.le_succ_of_le (dropK_len _ _)) ?_ fun k hk' => ?_
        · rw [valV_drop, if_pos rfl]
          exact .none
        · rw [valV_drop, if_neg hk']
      · walk_at "a"
        refine q _ H (Keep.refl _) hb (Nat.le_succ _) ?_ fun k _ => rfl
        rw [e]
        exact .none
    | some F =>
      obtain ⟨px, wx, rfl, hsx, hwx⟩ := dp_tup hv
      walk_at "a"
      refine r_dputT hb hk (by omega) fun H' k' e' => ?_
      have hl' := length_putK kvs [Sum.inl i, Sum.inl j] (.ref px)
      walk_at "a"
      refine q _ H' k' e' hl' ?_ fun k hk' => ?_
      · rw [valV_put, if_pos rfl]
        exact .some (Dp.text (k'.text fun z hz => by rw [show z = bd from hz, hb]; trivial) _ _ (imm_four (some F)) hv)
      · rw [valV_put, if_neg hk']
end
theorem use_set_four {K : PySem.W.Frag} {C : Addr} {H : Hp} {Q : VK} {E : XK} {p hd bd dx b : Addr} {x3 x4 x5 : V} {kvs : List (List Key × V)} {i j : Int} {v : V} {F : Option Four} (ob : H p = some (.ins C dx [("heights", .ref hd), ("by_stretches", .ref bd), ("deeds", x3), ("deed_times", x4), ("watches", x5)])) (hb : H bd = some (.dT kvs))
    (hl : kvs.length ≤ 1000000) (hk : H b = some (.tup [.int i, .int j])) (hv : Dp K H v (fourD F))
    (q : ∀ kvs' H', Keep (At bd) H H' → H' bd = some (.dT kvs') → kvs'.length ≤ kvs.length + 1 → Fits K H' (valV kvs' [Sum.inl i, Sum.inl j]) F → (∀ k, k ≠ [Sum.inl i, Sum.inl j] → valV kvs' k = valV kvs k) → Q .non H') : sp_set_four K C [.ref p, .ref b, v] H Q E :=
  ⟨p, hd, bd, dx, b, x3, x4, x5, kvs, i, j, v, F, rfl, ob, hb, hl, hk, hv, q⟩
abbrev Two (hd bd : Addr) : Addr → Prop := fun b => b = hd ∨ b = bd
def sp_set_height (K : PySem.W.Frag) (C : Addr) : Sp := fun vs H Q _ => ∃ (p hd bd dx : Addr) (x3 x4 x5 : V) (c : Prs) (z : Nat) (t : Int) (o : Option Int), vs = [.ref p, .int t, optV o] ∧
  H p = some (.ins C dx [("heights", .ref hd), ("by_stretches", .ref bd), ("deeds", x3), ("deed_times", x4), ("watches", x5)]) ∧ CoreAt K H hd bd c z ∧ z ≤ 20000 ∧ (-1099511627776 ≤ t ∧ t < 1099511627776) ∧ (o = none → (valP c t).isSome = true) ∧
  ∀ H', Keep (Two hd bd) H H' → CoreAt K H' hd bd (setC c t o) (z + 1) → Q .non H'
section
variable {P : Program} {w : World} {K : PySem.W.Frag} {mg : Str → Option Value} {base : Heap}
theorem ok_Store_set_height (B : Blt mg) {A_View : Addr} (T_View : ClT K mg "View" A_View) (N_View_shown : NoAttr K A_View "shown") (N_View_window : NoAttr K A_View "window") (N_View_known : NoAttr K A_View "known") (N_View_heard : NoAttr K A_View "heard") (N_View_asked : NoAttr K A_View "asked") {A_Store : Addr} (T_Store : ClT K mg "Store" A_Store) (N_Store_heights : NoAttr K A_Store "heights") (N_Store_by_stretches : NoAttr K A_Store "by_stretches") (N_Store_deeds : NoAttr K A_Store "deeds") (N_Store_deed_times : NoAttr K A_Store "deed_times") (N_Store_watches : NoAttr K A_Store "watches") (D : MDef K A_Store "set_height" "Store.set_height" s_Store_set_height ["self", "t", "h"]) {tk_MOST_LEVEL : Tok} (C_MOST_LEVEL : mg "MOST_LEVEL" = some (.int (40) tk_MOST_LEVEL)) (G_Store_set_four : MFn P w K mg base 1 A_Store "set_four" ["self", "stretch", "found"] (sp_set_four K A_Store)) (G_joined : Fn P w K mg base 2 "joined" ["one", "other"] (sp_joined K)) :
    MFn P w K mg base 3 A_Store "set_height" ["self", "t", "h"] (sp_set_height K A_Store) := by
  refine D.ok sc_Store_set_height (fun vs H Q E h => ?_) (fun f cdv A outer s H vs Q E hr h => ?_)
  · obtain ⟨p, hd, bd, dx, x3, x4, x5, c, z, t, o, rfl, ob, core, hz, ht, ho, q⟩ := h
    rfl
  · obtain ⟨p, hd, bd, dx, x3, x4, x5, c, z, t, o, rfl, ob, core, hz, ht, ho, q⟩ := h
    refine ⟨_, (Evl.pss_cut (ps_if (pt_cmpR o_isN (pv 2) pe_non (nomark _))
      (pss_cons (ps_expr (pe_dpop1 (peK_fld K (pv 0)) (pv 1) ⟨rfl, rfl, rfl, rfl⟩))
      (pss_one (ps_expr (pe_methN G_Store_set_four hr T_Store.cl (pv 0) (pa_cons (pe_tup (pa_cons pe_int (pa_cons (pv 1) pa_nil))) (pa_cons pe_non pa_nil))))))
      (pss_cons (ps_dput (hu_of hr) (peK_fld K (pv 0)) (pv 1) (pv 2) rfl)
      (pss_one (ps_expr (pe_methN G_Store_set_four hr T_Store.cl (pv 0) (pa_cons (pe_tup (pa_cons pe_int (pa_cons (pv 1) pa_nil))) (pa_cons (pe_tup (pa_cons (pe_tup (pa_cons (pv 1) (pa_cons (pv 2) pa_nil))) (pa_cons (pe_tup (pa_cons (pv 1) (pa_cons (pv 2) pa_nil))) (pa_cons (pe_tup (pa_cons (pv 1) (pa_cons (pv 2) pa_nil))) (pa_cons (pe_tup (pa_cons (pv 1) (pa_cons (pv 2) pa_nil))) pa_nil))))) pa_nil)))))))
      (pss_one (ps_for PassesOwn.never rfl (pi_range2 rfl B.range (pa_cons pe_int (pa_cons (pe_op op_add (pe_glob (v := .int (40)) rfl C_MOST_LEVEL ⟨_, rfl⟩) pe_int) pa_nil))) (pg_name (i := 3) sc_Store_set_height.nd rfl (Or.inl rfl))
      (pss_cons (ps_set (i := 4) sc_Store_set_height.nd rfl (Or.inl rfl) (pe_op o_shr (pv 1) (pv 3)))
      (pss_cons (ps_set (i := 5) sc_Store_set_height.nd rfl (Or.inl rfl) (pe_dget1 (hu_of hr) (peK_fld K (pv 0)) (pe_tup (pa_cons (pe_op op_sub (pv 3) pe_int) (pa_cons (pe_op op_mulY pe_int (pv 4)) pa_nil))) ⟨rfl, rfl, rfl, rfl⟩))
      (pss_cons (ps_set (i := 6) sc_Store_set_height.nd rfl (Or.inl rfl) (pe_dget1 (hu_of hr) (peK_fld K (pv 0)) (pe_tup (pa_cons (pe_op op_sub (pv 3) pe_int) (pa_cons (pe_op op_add (pe_op op_mulY pe_int (pv 4)) pe_int) pa_nil))) ⟨rfl, rfl, rfl, rfl⟩))
      (pss_one (ps_expr (pe_methN G_Store_set_four hr T_Store.cl (pv 0) (pa_cons (pe_tup (pa_cons (pv 3) (pa_cons (pv 4) pa_nil))) (pa_cons (pe_fn G_joined hr (pa_cons (pv 5) (pa_cons (pv 6) pa_nil))) pa_nil))))))))))), ?_⟩
    refine r_start (σ' := [some (.ref p), some (.int t), some (optV o), none, none, none, none]) rfl ?_
    obtain ⟨⟨m, h1, h2, h3, h4⟩, ⟨kvs, b1, b2, b3⟩, crv⟩ := id core
    have hpb : p ≠ bd := ne_of ob b1 (by intro z; cases z)
    have hph : p ≠ hd := ne_of ob h1 (by intro z; cases z)
    have hhb : hd ≠ bd := ne_of h1 b1 (by intro z; cases z)
    have hc' := setC_up crv.up t o
    have hb' := setC_beside crv.up t o
    have hk0 : ([Sum.inl 0, Sum.inl t] : List Key) = skey 0 (t / 2 ^ 0) := by simp [skey]
    refine r_cut (fun σ' H' => σ' = [some (.ref p), some (.int t), some (optV o), none, none, none, none] ∧ Keep (Two hd bd) H H' ∧ (∃ m' : Prs, H' hd = some (.dK (m'.map inj)) ∧ (m'.map (·.1)).Nodup ∧ (∀ q, q ∈ m' ↔ q ∈ setC c t o) ∧ m'.length ≤ z + 1) ∧
        ∃ ks, H' bd = some (.dT ks) ∧ Mix K H' ks c (setC c t o) 1 ∧ ks.length ≤ kvs.length + 1) ?_ ?_
    · cases o with
      | none =>
        obtain ⟨h, hh⟩ := Option.isSome_iff_exists.mp (ho rfl)
        have hv : valP m t = some h := by rw [val_ext h2 (up_nodup crv.up) h3]; exact hh
        walk_at "a"
        refine r_dpop1k h1 hv fun H1 k1 e1 => ?_
        have T1 : TExt H H1 := k1.text fun b hb => by rw [show b = hd from hb, h1]; trivial
        have ob1 := k1 _ _ ob hph
        have b11 := k1 _ _ b1 (Ne.symm hhb)
        walk_at "a"
        rename_i p2 H2 n2 s2 e2
        refine use_set_four (F := none) (s2 _ _ ob1) (s2 _ _ b11) (by omega) e2 .non fun ks H3 k3 e3 l3 f3 o3 => ?_
        walk_at "a"
        have T3 : TExt H H3 := (T1.trans (TExt.of_same s2)).trans (k3.text fun b hb => by rw [show b = bd from hb, s2 _ _ b11]; trivial)
        refine ⟨rfl, fun b o e n => k3 b o (s2 _ _ (k1 b o e fun z => n (.inl z))) fun z => n (.inr z), ⟨_, k3 _ _ (s2 _ _ e1) hhb, nd_drop t h2, fun y => ?_, Nat.le_succ_of_le (Nat.le_trans (len_drop _ _) h4)⟩, ks, e3, ?_, l3⟩
        · show y ∈ dropP m t ↔ y ∈ dropP c t
          rw [mem_drop, mem_drop, h3]
        · refine Mix.step hb' (b2.zero _) T3 (fun j hj => o3 j (by rw [hk0]; exact hj)) ?_
          rw [hk0] at f3
          rw [show t / 2 ^ 0 = t by simp] at f3 ⊢
          have ez : fourL (seg (setC c t none) 0 t) = none := by
            show fourL (seg (dropP c t) 0 t) = none
            rw [seg_zero_not fun y hy => (mem_drop.mp hy).2]
            rfl
          rw [ez]
          exact f3
      | some h =>
        simp only [show optV (some h) = V.int h from rfl]
        walk_at "a"
        refine r_dputi h1 (by omega) fun H1 k1 e1 => ?_
        have T1 : TExt H H1 := k1.text fun b hb => by rw [show b = hd from hb, h1]; trivial
        have ob1 := k1 _ _ ob hph
        have b11 := k1 _ _ b1 (Ne.symm hhb)
        walk_at "a"
        rename_i pk Hk nk sk ek p2 H2 n2 s2 e2 p3 H3 n3 s3 e3 p4 H4 n4 s4 e4 p5 H5 n5 s5 e5 p6 H6 n6 s6 e6
        have sa := ((((sk.trans s2).trans s3).trans s4).trans s5).trans s6
        have e2' := s6 _ _ (s5 _ _ (s4 _ _ (s3 _ _ e2)))
        have e3' := s6 _ _ (s5 _ _ (s4 _ _ e3))
        have e4' := s6 _ _ (s5 _ _ e4)
        have e5' := s6 _ _ e5
        have ek' := s6 _ _ (s5 _ _ (s4 _ _ (s3 _ _ (s2 _ _ ek))))
        refine use_set_four (F := some ⟨(t, h), (t, h), (t, h), (t, h)⟩) (sa _ _ ob1) (sa _ _ b11) (by omega) ek' (.tup (SqT.of e6) (.cons (dp_of_pair (SqT.of e2')) (.cons (dp_of_pair (SqT.of e3')) (.cons (dp_of_pair (SqT.of e4')) (.cons (dp_of_pair (SqT.of e5')) .nil))))) fun ks H7 k7 e7 l7 f7 o7 => ?_
        walk_at "a"
        have T7 : TExt H H7 := (T1.trans (TExt.of_same sa)).trans (k7.text fun b hb => by rw [show b = bd from hb, sa _ _ b11]; trivial)
        refine ⟨rfl, fun b o e n => k7 b o (sa _ _ (k1 b o e fun z => n (.inl z))) fun z => n (.inr z), ⟨_, k7 _ _ (sa _ _ e1) hhb, nd_put t h h2, fun y => ?_, by have := len_put m t h; omega⟩, ks, e7, ?_, l7⟩
        · show y ∈ putP m t h ↔ y ∈ insC c t h
          rw [mem_put, insC_mem, h3]
        · refine Mix.step hb' (b2.zero _) T7 (fun j hj => o7 j (by rw [hk0]; exact hj)) ?_
          rw [hk0] at f7
          rw [show t / 2 ^ 0 = t by simp] at f7 ⊢
          have ez : fourL (seg (setC c t (some h)) 0 t) = oneF (t, h) := by
            rw [seg_zero_mem hc' (show (t, h) ∈ setC c t (some h) from insC_mem.mpr (.inl rfl))]
            rfl
          rw [ez]
          exact f7
    · rintro σ' H1 ⟨rfl, k1, hm1, ks1, b11, mix1, l1⟩
      have ob1 := k1 _ _ ob (fun z => by rcases z with z | z; exact hph z; exact hpb z)
      have tx : ∀ {b' : Hp}, Keep (Two hd bd) H b' → TExt H b' := fun k => k.text fun b hb => by
        rcases hb with rfl | rfl
        · rw [h1]; trivial
        · rw [b1]; trivial
      walk_at "a"
      have e40 : ((40 : Int) + 1 - 1).toNat = 40 := by decide
      rw [e40]
      refine for_wk wk_rng (fun i σ H' => (∃ v1 v2 v3 v4 : Option V, σ = [some (.ref p), some (.int t), some (optV o), v1, v2, v3, v4]) ∧ Keep (Two hd bd) H H' ∧ H' p = some (.ins A_Store dx [("heights", .ref hd), ("by_stretches", .ref bd), ("deeds", x3), ("deed_times", x4), ("watches", x5)]) ∧
          (∃ m' : Prs, H' hd = some (.dK (m'.map inj)) ∧ (m'.map (·.1)).Nodup ∧ (∀ q, q ∈ m' ↔ q ∈ setC c t o) ∧ m'.length ≤ z + 1) ∧ ∃ ks, H' bd = some (.dT ks) ∧ Mix K H' ks c (setC c t o) (i + 1) ∧ ks.length ≤ kvs.length + 1 + i)
        ⟨⟨_, _, _, _, rfl⟩, k1, ob1, hm1, ks1, b11, mix1, l1⟩ (fun _ _ _ _ _ => trivial) ?_ ?_
      · rintro i x σ H7 H7' hi ⟨⟨v1, v2, v3, v4, rfl⟩, k7, ob7, ⟨m7, h17, nd7, mm7, ml7⟩, ks, b7, mix7, l7⟩ ⟨rfl, rfl⟩
        have ei : (1 : Int) + (i : Int) = ((i + 1 : Nat) : Int) := by omega
        rw [ei]
        walk_at "a"
        rename_i pa Ha na sa ea pb Hb nb sb eb pc Hc nc sc ec
        have ei2 : ((i + 1 : Nat) : Int) - 1 = (i : Int) := by omega
        rw [ei2]
        obtain ⟨f1, f2⟩ := mix7.two (by omega) (t / 2 ^ (i + 1))
        have sabc := (sa.trans sb).trans sc
        refine use_joined ((f1.text (TExt.of_same sabc)).getD) ((f2.text (TExt.of_same sabc)).getD) fun v Hd sd dv => ?_
        have obd := sd _ _ (sabc _ _ ob7)
        have bd' := sd _ _ (sabc _ _ b7)
        walk_at "a"
        rw [← fourL_app, ← seg_succ hc'] at dv
        refine use_set_four obd bd' (by omega) (sd _ _ ec) dv fun ks' He ke ee le fe oe => ?_
        have hk : ([Sum.inl ((i + 1 : Nat) : Int), Sum.inl (t / 2 ^ (i + 1))] : List Key) = skey (i + 1) (t / 2 ^ (i + 1)) := rfl
        rw [hk] at fe oe
        refine ⟨⟨_, _, _, _, rfl⟩, ?_, ?_, ⟨m7, ?_, nd7, mm7, ml7⟩, ks', ee, ?_, by omega⟩
        · exact fun b o e nb => ke b o (sd _ _ (sabc _ _ (k7 b o e nb))) fun z => nb (.inr z)
        · exact ke _ _ obd hpb
        · exact ke _ _ (sd _ _ (sabc _ _ h17)) hhb
        · exact Mix.step hb' mix7 ((TExt.of_same (sabc.trans sd)).trans (ke.text fun b hb => by rw [show b = bd from hb, bd']; trivial)) oe fe
      · rintro σ H7 ⟨⟨v1, v2, v3, v4, rfl⟩, k7, ob7, hm7, ks, b7, mix7, l7⟩
        exact q H7 k7 ⟨hm7, ⟨ks, b7, mix7.full, by omega⟩, setC_crv crv ht o⟩
end
theorem use_set_height {K : PySem.W.Frag} {C : Addr} {H : Hp} {Q : VK} {E : XK} {p hd bd dx : Addr} {x3 x4 x5 : V} {c : Prs} {z : Nat} {t : Int} {o : Option Int} (ob : H p = some (.ins C dx [("heights", .ref hd), ("by_stretches", .ref bd), ("deeds", x3), ("deed_times", x4), ("watches", x5)])) (core : CoreAt K H hd bd c z) (hz : z ≤ 20000)
    (ht : -1099511627776 ≤ t ∧ t < 1099511627776) (ho : o = none → (valP c t).isSome = true) (q : ∀ H', Keep (Two hd bd) H H' → CoreAt K H' hd bd (setC c t o) (z + 1) → Q .non H') : sp_set_height K C [.ref p, .int t, optV o] H Q E := ⟨p, hd, bd, dx, x3, x4, x5, c, z, t, o, rfl, ob, core, hz, ht, ho, q⟩
/-! making -/
abbrev InT (t : Int) : Prop := -1099511627776 ≤ t ∧ t < 1099511627776
def sp_s_init (K : PySem.W.Frag) (C X : Addr) : Sp := fun vs H Q E => ∃ (p dx : Addr) (v : V) (c : Prs), vs = [.ref p, v] ∧ H p = some (.ins C dx []) ∧ ((v = .non ∧ c = []) ∨ Dp K H v (prsD c)) ∧ (c.Pairwise fun p q => p.1 < q.1) ∧ c.length ≤ 5000 ∧
  ((∀ q ∈ c, InT q.1) → ∀ a H', a.p = p → a.was = [] → (∀ b ∈ a.all, b ≠ p → H b = none) → Keep (At p) H H' → StoreAt K C H' a c [] [] [] c.length → Q .non H') ∧ (¬ (∀ q ∈ c, InT q.1) → ∀ H', Keep (At p) H H' → E (.ref X) none H')
section
variable {P : Program} {w : World} {K : PySem.W.Frag} {mg : Str → Option Value} {base : Heap}
theorem ok_Store___init (B : Blt mg) {A_View : Addr} (T_View : ClT K mg "View" A_View) (N_View_shown : NoAttr K A_View "shown") (N_View_window : NoAttr K A_View "window") (N_View_known : NoAttr K A_View "known") (N_View_heard : NoAttr K A_View "heard") (N_View_asked : NoAttr K A_View "asked") {A_Store : Addr} (T_Store : ClT K mg "Store" A_Store) (N_Store_heights : NoAttr K A_Store "heights") (N_Store_by_stretches : NoAttr K A_Store "by_stretches") (N_Store_deeds : NoAttr K A_Store "deeds") (N_Store_deed_times : NoAttr K A_Store "deed_times") (N_Store_watches : NoAttr K A_Store "watches") (D : IDef K A_Store "Store.__init__" s_Store___init ["self", "curve"]) (G_want_time : Fn P w K mg base 2 "want_time" ["t"] (sp_want_time K E_OutOfTimes)) (G_Store_set_height : MFn P w K mg base 3 A_Store "set_height" ["self", "t", "h"] (sp_set_height K A_Store)) :
    IFn P w K mg base 4 A_Store ["self", "curve"] (sp_s_init K A_Store E_OutOfTimes) := by
  refine D.okX sc_Store___init (fun vs H Q E h => ?_) (fun f cdv A outer s H vs Q E hr h => ?_)
  · obtain ⟨p, dx, v, c, rfl, ob, hv, up, hl, q, e⟩ := h
    rfl
  · obtain ⟨p, dx, v, c, rfl, ob, hv, up, hl, q, e⟩ := h
    refine ⟨_, (pss_cons (psK_fld K (pv 0) pe_dnewK)
      (pss_cons (psK_fld K (pv 0) pe_dnewT)
      (pss_cons (psK_fld K (pv 0) (pe_lst pa_nil))
      (pss_cons (psK_fld K (pv 0) (pe_lst pa_nil))
      (pss_cons (psK_fld K (pv 0) (pe_lst pa_nil))
      (pss_one (ps_for (passes_of rfl) rfl (piK_tup K (peK_orT K (pv 1) (pe_one (pe_tup pa_nil)))) (pgK_tup K (n := 2) rfl (pgs_cons (pg_name (i := 2) sc_Store___init.nd rfl (Or.inl rfl)) (pgs_cons (pg_name (i := 3) sc_Store___init.nd rfl (Or.inl rfl)) pgs_nil)))
      (pss_cons (ps_expr (pe_fnX G_want_time hr (takes_of rfl rfl rfl rfl) (pa_cons (pv 2) pa_nil)))
      (pss_one (ps_expr (pe_methN G_Store_set_height hr T_Store.cl (pv 0) (pa_cons (pv 2) (pa_cons (pv 3) pa_nil))))))))))))), ?_⟩
    refine r_start (σ' := [some (.ref p), some (v), none, none]) rfl ?_
    walk_at "a"
    rename_i hd H1 n1 s1 e1 H2 k2 e2 bd H3 n3 s3 e3 H4 k4 e4 dd H5 n5 s5 e5 H6 k6 e6 td H7 n7 s7 e7 H8 k8 e8 wd H9 n9 s9 e9 H10 k10 e10
    have hph : p ≠ hd := ne_of_none ob n1
    have hpb : p ≠ bd := ne_of_none e2 n3
    have hpd : p ≠ dd := ne_of_none e4 n5
    have hpt : p ≠ td := ne_of_none e6 n7
    have hpw : p ≠ wd := ne_of_none e8 n9
    have j9 : Keep (At p) H9 H10 := k10
    have j7 : Keep (At p) H7 H10 := (k8.trans (Keep.of_same s9)).trans j9
    have j5 : Keep (At p) H5 H10 := (k6.trans (Keep.of_same s7)).trans j7
    have j3 : Keep (At p) H3 H10 := (k4.trans (Keep.of_same s5)).trans j5
    have j1 : Keep (At p) H1 H10 := (k2.trans (Keep.of_same s3)).trans j3
    have j0 : Keep (At p) H H10 := (Keep.of_same s1).trans j1
    have hh : H10 hd = some (.dK []) := j1 _ _ e1 (Ne.symm hph)
    have hb : H10 bd = some (.dT []) := j3 _ _ e3 (Ne.symm hpb)
    have hdd : H10 dd = some (.lst []) := j5 _ _ e5 (Ne.symm hpd)
    have htd : H10 td = some (.lst []) := j7 _ _ e7 (Ne.symm hpt)
    have hwd : H10 wd = some (.lst []) := j9 _ _ e9 (Ne.symm hpw)
    have b2 : Keep (At p) H H2 := (Keep.of_same s1).trans k2
    have b4 : Keep (At p) H H4 := (b2.trans (Keep.of_same s3)).trans k4
    have b6 : Keep (At p) H H6 := (b4.trans (Keep.of_same s5)).trans k6
    have b8 : Keep (At p) H H8 := (b6.trans (Keep.of_same s7)).trans k8
    have fb := b2.back n3 (Ne.symm hpb)
    have fd := b4.back n5 (Ne.symm hpd)
    have ft := b6.back n7 (Ne.symm hpt)
    have fw := b8.back n9 (Ne.symm hpw)
    have ndt : dd ≠ td := ne_of_none (k6 _ _ e5 (Ne.symm hpd)) n7
    have e7' := k8 _ _ e7 (Ne.symm hpt)
    have ntw : td ≠ wd := ne_of_none e7' n9
    have ndw : dd ≠ wd := ne_of_none (k8 _ _ (s7 _ _ (k6 _ _ e5 (Ne.symm hpd))) (Ne.symm hpd)) n9
    have t0 : TExt H H10 := j0.text fun b hb => by rw [show b = p from hb, ob]; trivial
    have core0 : CoreAt K H10 hd bd [] 0 := ⟨⟨[], hh, by simp, by simp, by simp⟩, ⟨[], hb, fourInv_nil K H10, by simp⟩, Crv.nil⟩
    have new : ∀ b o, H b = some o → b ≠ p → b ≠ hd ∧ b ≠ bd ∧ b ≠ dd ∧ b ≠ td ∧ b ≠ wd := fun b o eb _ => ⟨ne_of_none eb n1, ne_of_none eb fb, ne_of_none eb fd, ne_of_none eb ft, ne_of_none eb fw⟩
    have tx : ∀ {H11 H' : Hp}, Same H10 H11 → Keep (Two hd bd) H11 H' → TExt H11 H' := fun s k => k.text fun b hb' => by
      rcases hb' with rfl | rfl
      · rw [s _ _ hh]; trivial
      · rw [s _ _ hb]; trivial
    have back : ∀ {H11 H' : Hp}, Same H10 H11 → Keep (Two hd bd) H11 H' → Keep (At p) H H' := fun s k b o eb nb => k b o (s _ _ (j0 b o eb nb)) fun z => by
      have := new b o eb nb
      rcases z with z | z
      · exact this.1 z
      · exact this.2.1 z
    have loop : ∀ (x : Addr) (ws : List V) (H11 : Hp), Same H10 H11 → SqT K H11 x ws → DpAll K H11 ws (c.map pairP) → ForW (Itt K x) (gTup K 2 (gCons (gName 2) (gCons (gName 3) gNil)))
        (tSeq (tDrop (tFn (sp_want_time K E_OutOfTimes) E (tCons (tVar 2) tNil))) (tDrop (tMethU A_Store "set_height" (sp_set_height K A_Store) E0 (tVar 0) (tCons (tVar 2) (tCons (tVar 3) tNil))))) { nx := fun x H' => Q V.non H', rt := Q } [some (V.ref p), some v, none, none] H11 := by
      intro x ws H11 s11 hx hw
      have hwl : ws.length = c.length := by rw [dpAll_len hw, List.length_map]
      have core11 := core0.keep (F := No) (Keep.of_same s11) (TExt.of_same s11) (fun z => z) (fun z => z)
      refine for_wk wk_tup (fun i σ H' => (∃ v1 v2 : Option V, σ = [some (.ref p), some v, v1, v2]) ∧ Keep (Two hd bd) H11 H' ∧ CoreAt K H' hd bd (c.take i) i ∧ ∀ q ∈ c.take i, InT q.1) ⟨⟨_, _, rfl⟩, Keep.refl _, core11, by simp⟩ (fun i σ H' _ z => SqT.text (tx s11 z.2.1) hx) ?_ ?_
      · rintro i y σ H12 H12' hi ⟨⟨v1, v2, rfl⟩, k12, core12, r12⟩ ⟨rfl, hy⟩
        obtain ⟨pc, hpc, hdx⟩ := dpAll_map_at (DpAll.text (tx s11 k12) _ _ (imm_all c) hw) hy
        obtain ⟨px, rfl, hpx⟩ := dp_pair hdx
        have ob12 := k12 _ _ (s11 _ _ e10) fun z => by rcases z with z | z; exact hph z; exact hpb z
        walk_at "a"
        by_cases hr' : InT pc.1
        · refine use_want_time hr' ?_
          walk_at "a"
          refine use_set_height (o := some pc.2) ob12 core12 (by omega) hr' (fun z => by cases z) fun H13 k13 core13 => ?_
          refine ⟨⟨_, _, rfl⟩, k12.trans k13, ?_, fun y hy' => ?_⟩
          · rw [show setC (c.take i) pc.1 (some pc.2) = c.take (i + 1) from insC_take up hpc] at core13
            exact core13
          · rw [take_snoc hpc, List.mem_append, List.mem_singleton] at hy'
            rcases hy' with hy' | rfl
            · exact r12 _ hy'
            · exact hr'
        · exact use_no_time hr' (e (fun z => hr' (z _ (List.mem_of_getElem? hpc))) _ (back s11 k12))
      · rintro σ H12 ⟨⟨v1, v2, rfl⟩, k12, core12, r12⟩
        rw [List.take_of_length_le (by omega)] at core12 r12
        rw [hwl] at core12
        have n12 : ∀ b, b ≠ hd → b ≠ bd → ¬ Two hd bd b := fun b h1 h2 z => by rcases z with z | z; exact h1 z; exact h2 z
        have kd : ∀ b l, H10 b = some (.lst l) → ¬ Two hd bd b := fun b l h => n12 b (fun z => by rw [z, hh] at h; cases h) (fun z => by rw [z, hb] at h; cases h)
        refine q r12 ⟨p, hd, bd, dd, td, wd, []⟩ H12 rfl rfl (fun b hb' nb => ?_) (back s11 k12) ⟨⟨dx, k12 _ _ (s11 _ _ e10) (n12 _ hph hpb)⟩, core12, ⟨[], k12 _ _ (s11 _ _ hdd) (kd _ _ hdd), .nil⟩, k12 _ _ (s11 _ _ htd) (kd _ _ htd), ⟨k12 _ _ (s11 _ _ hwd) (kd _ _ hwd), .nil⟩, ⟨ndt, ndw, ntw, by simp⟩, ⟨up, r12⟩, ⟨by simp, by simp, by simp, by omega⟩⟩
        rcases mem_all.mp hb' with rfl | rfl | rfl | rfl | rfl | rfl | hb'
        · exact absurd rfl nb
        · exact n1
        · exact fb
        · exact fd
        · exact ft
        · exact fw
        · simp at hb'
    rcases hv with ⟨rfl, rfl⟩ | hv
    · walk_at "a"
      rename_i p6 H11 n11 s11 e11
      exact loop p6 [] H11 s11 (SqT.of e11) .nil
    · obtain ⟨x, ws, rfl, ha, hw⟩ := dp_tup (Dp.text t0 _ _ (imm_prs c) hv)
      refine r_orTt ha (fun _ => ?_) (fun hnil => ?_)
      · walk_at "a"
        exact loop x ws H10 (Same.refl _) ha hw
      · subst hnil
        have hc : c = [] := by
          have := dpAll_len hw
          simp at this
          exact List.length_eq_zero_iff.mp this.symm
        subst hc
        walk_at "a"
        rename_i p6 H11 n11 s11 e11
        exact loop p6 [] H11 s11 (SqT.of e11) .nil
end
theorem use_s_init {K : PySem.W.Frag} {C X : Addr} {H : Hp} {Q : VK} {E : XK} {p dx : Addr} {v : V} {c : Prs} (ob : H p = some (.ins C dx [])) (hv : (v = .non ∧ c = []) ∨ Dp K H v (prsD c)) (up : c.Pairwise fun p q => p.1 < q.1) (hl : c.length ≤ 5000) (rg : ∀ q ∈ c, InT q.1)
    (q : ∀ a H', a.p = p → a.was = [] → (∀ b ∈ a.all, b ≠ p → H b = none) → Keep (At p) H H' → StoreAt K C H' a c [] [] [] c.length → Q .non H') : sp_s_init K C X [.ref p, v] H Q E := ⟨p, dx, v, c, rfl, ob, hv, up, hl, fun _ => q, fun z => absurd rg z⟩
/-! deeds -/
def sp_s_put (K : PySem.W.Frag) (C X : Addr) : Sp := fun vs H Q E => ∃ (a : SA) (c : Prs) (hs : List (Int × Prs)) (ts : List Int) (ws : List Watch) (z : Nat) (t h : Int), vs = [.ref a.p, .int t, .int h] ∧ StoreAt K C H a c hs ts ws z ∧ z < 10000 ∧
  (InT t → ∀ H', Keep (· ∈ a.all) H H' → StoreAt K C H' a (insC c t h) ((t, c) :: hs) (ts ++ [t]) ws (z + 1) → Q (optV (valP c t)) H') ∧ (¬ InT t → E (.ref X) none H)
section
variable {P : Program} {w : World} {K : PySem.W.Frag} {mg : Str → Option Value} {base : Heap}
theorem ok_Store_put (B : Blt mg) {A_View : Addr} (T_View : ClT K mg "View" A_View) (N_View_shown : NoAttr K A_View "shown") (N_View_window : NoAttr K A_View "window") (N_View_known : NoAttr K A_View "known") (N_View_heard : NoAttr K A_View "heard") (N_View_asked : NoAttr K A_View "asked") {A_Store : Addr} (T_Store : ClT K mg "Store" A_Store) (N_Store_heights : NoAttr K A_Store "heights") (N_Store_by_stretches : NoAttr K A_Store "by_stretches") (N_Store_deeds : NoAttr K A_Store "deeds") (N_Store_deed_times : NoAttr K A_Store "deed_times") (N_Store_watches : NoAttr K A_Store "watches") (D : MDef K A_Store "put" "Store.put" s_Store_put ["self", "t", "h"]) (G_want_time : Fn P w K mg base 2 "want_time" ["t"] (sp_want_time K E_OutOfTimes)) (G_Store_set_height : MFn P w K mg base 3 A_Store "set_height" ["self", "t", "h"] (sp_set_height K A_Store)) :
    MFn P w K mg base 4 A_Store "put" ["self", "t", "h"] (sp_s_put K A_Store E_OutOfTimes) := by
  refine D.okX sc_Store_put (fun vs H Q E h => ?_) (fun f cdv A outer s H vs Q E hr h => ?_)
  · obtain ⟨a, c, hs, ts, ws, z, t, h, rfl, S, hz, q, e⟩ := h
    rfl
  · obtain ⟨a, c, hs, ts, ws, z, t, h, rfl, S, hz, q, e⟩ := h
    refine ⟨_, (pss_cons (ps_expr (pe_fnX G_want_time hr (takes_of rfl rfl rfl rfl) (pa_cons (pv 1) pa_nil)))
      (pss_cons (ps_set (i := 3) sc_Store_put.nd rfl (Or.inl rfl) (pe_dget1 (hu_of hr) (peK_fld K (pv 0)) (pv 1) ⟨rfl, rfl, rfl, rfl⟩))
      (pss_cons (ps_expr (peK_bm K PySem.F.plainAttrs_list PySem.F.slot_list_append PySem.F.type_list_append mt_append (peK_fld K (pv 0)) (pa_cons (pe_tup (pa_cons (pv 1) (pa_cons (pv 3) pa_nil))) pa_nil)))
      (pss_cons (ps_expr (peK_bm K PySem.F.plainAttrs_list PySem.F.slot_list_append PySem.F.type_list_append mt_append (peK_fld K (pv 0)) (pa_cons (pv 1) pa_nil)))
      (pss_cons (ps_expr (pe_methN G_Store_set_height hr T_Store.cl (pv 0) (pa_cons (pv 1) (pa_cons (pv 2) pa_nil))))
      (pss_one (ps_ret (pv 3)))))))), ?_⟩
    refine r_start (σ' := [some (.ref a.p), some (.int t), some (.int h), none]) rfl ?_
    obtain ⟨⟨dx, ob⟩, core, ⟨vs, d1, d2⟩, tl, ⟨w1, w2⟩, ne, ch, sz⟩ := id S
    obtain ⟨⟨m, h1, h2, h3, h4⟩, ⟨kvs, b1, b2, b3⟩, crv⟩ := id core
    walk_at "a"
    by_cases hr' : InT t
    case neg => exact use_no_time hr' (e hr')
    refine use_want_time hr' ?_
    walk_at "a"
    refine r_dg2K h1 ?_
    rw [opt_val, val_ext h2 (up_nodup crv.up) h3]
    walk_at "a"
    refine r_bml (SqL.of d1) ?_
    walk_at "a"
    rename_i p2 H2 n2 s2 e2
    have vl : vs.length = hs.length := by rw [dpAll_len d2, List.length_map, List.length_reverse]
    refine r_append (s2 _ _ d1) (by rw [sizeLine_eq]; omega) fun H3 k3 e3 => ?_
    have t3 : TExt H2 H3 := TExt.lst k3 (s2 _ _ d1)
    have hpd : a.p ≠ a.dd := ne_of ob d1 (by intro z; cases z)
    have hpt : a.p ≠ a.td := ne_of ob tl (by intro z; cases z)
    have ob3 := k3 _ _ (s2 _ _ ob) hpd
    have tl3 := k3 _ _ (s2 _ _ tl) (Ne.symm ne.1)
    walk_at "a"
    refine r_bml (SqL.of tl3) ?_
    walk_at "a"
    refine r_append tl3 (by rw [sizeLine_eq, List.length_map]; omega) fun H4 k4 e4 => ?_
    have t4 : TExt H3 H4 := TExt.lst k4 tl3
    have ob4 := k4 _ _ ob3 hpt
    have t24 : TExt H H4 := ((TExt.of_same s2).trans t3).trans t4
    have nn : ∀ b o, H b = some o → (∀ l, o ≠ .lst l) → b ≠ a.dd ∧ b ≠ a.td := fun b o e hn => ⟨fun z => by rw [z, d1] at e; cases e; exact hn _ rfl, fun z => by rw [z, tl] at e; cases e; exact hn _ rfl⟩
    have k24 : Keep (fun b => b = a.dd ∨ b = a.td) H H4 := fun b o e n => k4 _ _ (k3 _ _ (s2 _ _ e) fun z => n (.inl z)) fun z => n (.inr z)
    have core4 := core.keep k24 t24 (fun z => by have := nn _ _ h1 (by intros; intro z; cases z); rcases z with z | z; exact this.1 z; exact this.2 z) (fun z => by have := nn _ _ b1 (by intros; intro z; cases z); rcases z with z | z; exact this.1 z; exact this.2 z)
    walk_at "a"
    refine use_set_height (o := some h) ob4 core4 (by omega) hr' (fun z => by cases z) fun H5 k5 core5 => ?_
    have n5 : ∀ b l, H4 b = some (.lst l) → ¬ Two a.hd a.bd b := fun b l e z => by
      obtain ⟨⟨_, y1, _⟩, ⟨_, y2, _⟩, _⟩ := core4
      rcases z with rfl | rfl
      · rw [y1] at e; cases e
      · rw [y2] at e; cases e
    have t5 : TExt H4 H5 := k5.text fun b hb => by
      obtain ⟨⟨_, y1, _⟩, ⟨_, y2, _⟩, _⟩ := core4
      rcases hb with rfl | rfl
      · rw [y1]; trivial
      · rw [y2]; trivial
    walk_at "a"
    have e3' := k4 _ _ e3 ne.1
    have kk : Keep (fun b => b = a.hd ∨ b = a.bd ∨ b = a.dd ∨ b = a.td) H H5 := fun b o e n => k5 _ _ (k24 _ _ e fun z => n (by rcases z with z | z; exact .inr (.inr (.inl z)); exact .inr (.inr (.inr z)))) fun z => n (by rcases z with z | z; exact .inl z; exact .inr (.inl z))
    refine q hr' H5 (StoreAt.four_all kk) (S.step kk (t24.trans t5) core5 (k5 _ _ e3' (n5 _ _ e3')) ?_ (k5 _ _ (by rw [e4]; simp) (n5 _ _ e4)) ⟨setC_crv crv hr' (some h), hr', deed_put crv t h, ch⟩ (by simp; omega) (by simp; omega) (by omega))
    rw [List.reverse_cons, List.map_append]
    refine dpAll_snoc (DpAll.text (t24.trans t5) _ _ (immAll_map _ imm_deed _) d2) (.tup (SqT.text ((t3.trans t4).trans t5) (SqT.of e2)) (.cons (.int t) (.cons (dp_optV K _ _) .nil)))
end
theorem use_s_put {K : PySem.W.Frag} {C X : Addr} {H : Hp} {Q : VK} {E : XK} {a : SA} {c : Prs} {hs : List (Int × Prs)} {ts : List Int} {ws : List Watch} {z : Nat} {t h : Int} (S : StoreAt K C H a c hs ts ws z) (hz : z < 10000) (ht : InT t)
    (q : ∀ H', Keep (· ∈ a.all) H H' → StoreAt K C H' a (insC c t h) ((t, c) :: hs) (ts ++ [t]) ws (z + 1) → Q (optV (valP c t)) H') : sp_s_put K C X [.ref a.p, .int t, .int h] H Q E := ⟨a, c, hs, ts, ws, z, t, h, rfl, S, hz, fun _ => q, fun n => absurd ht n⟩
def sp_s_height (K : PySem.W.Frag) (C X : Addr) : Sp := fun vs H Q E => ∃ (a : SA) (c : Prs) (hs : List (Int × Prs)) (ts : List Int) (ws : List Watch) (z : Nat) (v : V) (d : PyData), vs = [.ref a.p, v] ∧ StoreAt K C H a c hs ts ws z ∧ Dp K H v d ∧
  (∀ t h, v = .int t → valP c t = some h → Q (.int h) H) ∧ ((∀ t, v = .int t → valP c t = none) → E (.ref X) none H)
section
variable {P : Program} {w : World} {K : PySem.W.Frag} {mg : Str → Option Value} {base : Heap}
theorem ok_Store_height (B : Blt mg) {A_View : Addr} (T_View : ClT K mg "View" A_View) (N_View_shown : NoAttr K A_View "shown") (N_View_window : NoAttr K A_View "window") (N_View_known : NoAttr K A_View "known") (N_View_heard : NoAttr K A_View "heard") (N_View_asked : NoAttr K A_View "asked") {A_Store : Addr} (T_Store : ClT K mg "Store" A_Store) (N_Store_heights : NoAttr K A_Store "heights") (N_Store_by_stretches : NoAttr K A_Store "by_stretches") (N_Store_deeds : NoAttr K A_Store "deeds") (N_Store_deed_times : NoAttr K A_Store "deed_times") (N_Store_watches : NoAttr K A_Store "watches") (D : MDef K A_Store "height" "Store.height" s_Store_height ["self", "t"]) {E_NoSample : Addr} (X_NoSample : Exc K mg "NoSample" E_NoSample) (G_is_end : Fn P w K mg base 1 "is_end" ["thing"] (sp_is_end K)) :
    MFn P w K mg base 2 A_Store "height" ["self", "t"] (sp_s_height K A_Store E_NoSample) := by
  refine D.okX sc_Store_height (fun vs H Q E h => ?_) (fun f cdv A outer s H vs Q E hr h => ?_)
  · obtain ⟨a, c, hs, ts, ws, z, v, d, rfl, S, hd, q, e⟩ := h
    rfl
  · obtain ⟨a, c, hs, ts, ws, z, v, d, rfl, S, hd, q, e⟩ := h
    refine ⟨_, (pss_cons (ps_if (PW.pt (pw_or (pt_not (pt_val (pe_fn G_is_end hr (pa_cons (pv 1) pa_nil)))) (pw_or1 (pt_cmp (pc_dnotin (hu_of hr) (pv 1) (peK_fld K (pv 0)))))))
      (pss_one (ps_rs X_NoSample (takes_of rfl rfl rfl rfl)))
      pss_nil)
      (pss_one (ps_ret (pe_dget (hu_of hr) (peK_fld K (pv 0)) (pv 1) (fun _ _ => rfl))))), ?_⟩
    refine r_start (σ' := [some (.ref a.p), some (v)]) rfl ?_
    obtain ⟨⟨dx, ob⟩, ⟨⟨m, h1, h2, h3, h4⟩, _, crv⟩, _⟩ := id S
    walk_at "a"
    refine use_is_end hd ?_
    cases hE : endV v with
    | false =>
      walk_at "a"
      refine e fun t et => ?_
      subst et
      cases hv : valP c t with
      | none => rfl
      | some h =>
        have := val_range crv hv
        rw [endV_true (by omega)] at hE
        cases hE
    | true =>
      obtain ⟨t, rfl, _, _⟩ := endV_int hE
      walk_at "a"
      rw [val_ext h2 (up_nodup crv.up) h3]
      cases hv : valP c t with
      | none =>
        rw [if_pos (by simp)]
        exact e fun t' et => by cases et; exact hv
      | some h =>
        rw [if_neg (by simp)]
        walk_at "a"
        refine r_dgeti h1 (by rw [val_ext h2 (up_nodup crv.up) h3]; exact hv) ?_
        exact q t h rfl hv
end
theorem use_s_height {K : PySem.W.Frag} {C X : Addr} {H : Hp} {Q : VK} {E : XK} {a : SA} {c : Prs} {hs : List (Int × Prs)} {ts : List Int} {ws : List Watch} {z : Nat} {t h : Int} (S : StoreAt K C H a c hs ts ws z) (hv : valP c t = some h) (q : Q (.int h) H) : sp_s_height K C X [.ref a.p, .int t] H Q E :=
  ⟨a, c, hs, ts, ws, z, _, .int t, rfl, S, .int t, fun t' h' e1 e2 => by cases e1; rw [hv] at e2; cases e2; exact q, fun n => by have := n t rfl; rw [hv] at this; cases this⟩
def sp_s_take (K : PySem.W.Frag) (C X : Addr) : Sp := fun vs H Q E => ∃ (a : SA) (c : Prs) (hs : List (Int × Prs)) (ts : List Int) (ws : List Watch) (z : Nat) (v : V) (d : PyData), vs = [.ref a.p, v] ∧ StoreAt K C H a c hs ts ws z ∧ z < 10000 ∧ Dp K H v d ∧
  (∀ t h, v = .int t → valP c t = some h → ∀ H', Keep (· ∈ a.all) H H' → StoreAt K C H' a (dropP c t) ((t, c) :: hs) (ts ++ [t]) ws (z + 1) → Q (.int h) H') ∧ ((∀ t, v = .int t → valP c t = none) → E (.ref X) none H)
section
variable {P : Program} {w : World} {K : PySem.W.Frag} {mg : Str → Option Value} {base : Heap}
theorem ok_Store_take (B : Blt mg) {A_View : Addr} (T_View : ClT K mg "View" A_View) (N_View_shown : NoAttr K A_View "shown") (N_View_window : NoAttr K A_View "window") (N_View_known : NoAttr K A_View "known") (N_View_heard : NoAttr K A_View "heard") (N_View_asked : NoAttr K A_View "asked") {A_Store : Addr} (T_Store : ClT K mg "Store" A_Store) (N_Store_heights : NoAttr K A_Store "heights") (N_Store_by_stretches : NoAttr K A_Store "by_stretches") (N_Store_deeds : NoAttr K A_Store "deeds") (N_Store_deed_times : NoAttr K A_Store "deed_times") (N_Store_watches : NoAttr K A_Store "watches") (D : MDef K A_Store "take" "Store.take" s_Store_take ["self", "t"]) (G_Store_height : MFn P w K mg base 2 A_Store "height" ["self", "t"] (sp_s_height K A_Store E_NoSample)) (G_Store_set_height : MFn P w K mg base 3 A_Store "set_height" ["self", "t", "h"] (sp_set_height K A_Store)) :
    MFn P w K mg base 4 A_Store "take" ["self", "t"] (sp_s_take K A_Store E_NoSample) := by
  refine D.okX sc_Store_take (fun vs H Q E h => ?_) (fun f cdv A outer s H vs Q E hr h => ?_)
  · obtain ⟨a, c, hs, ts, ws, z, v, d, rfl, S, hz, hd, q, e⟩ := h
    rfl
  · obtain ⟨a, c, hs, ts, ws, z, v, d, rfl, S, hz, hd, q, e⟩ := h
    refine ⟨_, (pss_cons (ps_set (i := 2) sc_Store_take.nd rfl (Or.inl rfl) (pe_methX G_Store_height hr T_Store.cl (takes_of rfl rfl rfl rfl) (pv 0) (pa_cons (pv 1) pa_nil)))
      (pss_cons (ps_expr (peK_bm K PySem.F.plainAttrs_list PySem.F.slot_list_append PySem.F.type_list_append mt_append (peK_fld K (pv 0)) (pa_cons (pe_tup (pa_cons (pv 1) (pa_cons (pv 2) pa_nil))) pa_nil)))
      (pss_cons (ps_expr (peK_bm K PySem.F.plainAttrs_list PySem.F.slot_list_append PySem.F.type_list_append mt_append (peK_fld K (pv 0)) (pa_cons (pv 1) pa_nil)))
      (pss_cons (ps_expr (pe_methN G_Store_set_height hr T_Store.cl (pv 0) (pa_cons (pv 1) (pa_cons pe_non pa_nil))))
      (pss_one (ps_ret (pv 2))))))), ?_⟩
    refine r_start (σ' := [some (.ref a.p), some (v), none]) rfl ?_
    obtain ⟨⟨dx, ob⟩, core, ⟨vs, d1, d2⟩, tl, ⟨w1, w2⟩, ne, ch, sz⟩ := id S
    obtain ⟨⟨m, h1, h2, h3, h4⟩, ⟨kvs, b1, b2, b3⟩, crv⟩ := id core
    walk_at "a"
    refine ⟨a, c, hs, ts, ws, z, v, d, rfl, S, hd, fun t h et hv => ?_, e⟩
    have q2 := q t h et hv
    subst et
    have hr' := val_range crv hv
    walk_at "a"
    refine r_bml (SqL.of d1) ?_
    walk_at "a"
    rename_i p2 H2 n2 s2 e2
    have vl : vs.length = hs.length := by rw [dpAll_len d2, List.length_map, List.length_reverse]
    refine r_append (s2 _ _ d1) (by rw [sizeLine_eq]; omega) fun H3 k3 e3 => ?_
    have t3 : TExt H2 H3 := TExt.lst k3 (s2 _ _ d1)
    have hpd : a.p ≠ a.dd := ne_of ob d1 (by intro z; cases z)
    have hpt : a.p ≠ a.td := ne_of ob tl (by intro z; cases z)
    have ob3 := k3 _ _ (s2 _ _ ob) hpd
    have tl3 := k3 _ _ (s2 _ _ tl) (Ne.symm ne.1)
    walk_at "a"
    refine r_bml (SqL.of tl3) ?_
    walk_at "a"
    refine r_append tl3 (by rw [sizeLine_eq, List.length_map]; omega) fun H4 k4 e4 => ?_
    have t4 : TExt H3 H4 := TExt.lst k4 tl3
    have ob4 := k4 _ _ ob3 hpt
    have t24 : TExt H H4 := ((TExt.of_same s2).trans t3).trans t4
    have nn : ∀ b o, H b = some o → (∀ l, o ≠ .lst l) → b ≠ a.dd ∧ b ≠ a.td := fun b o e hn => ⟨fun z => by rw [z, d1] at e; cases e; exact hn _ rfl, fun z => by rw [z, tl] at e; cases e; exact hn _ rfl⟩
    have k24 : Keep (fun b => b = a.dd ∨ b = a.td) H H4 := fun b o e n => k4 _ _ (k3 _ _ (s2 _ _ e) fun z => n (.inl z)) fun z => n (.inr z)
    have core4 := core.keep k24 t24 (fun z => by have := nn _ _ h1 (by intros; intro z; cases z); rcases z with z | z; exact this.1 z; exact this.2 z) (fun z => by have := nn _ _ b1 (by intros; intro z; cases z); rcases z with z | z; exact this.1 z; exact this.2 z)
    walk_at "a"
    refine use_set_height (o := none) ob4 core4 (by omega) hr' (fun _ => by rw [hv]; rfl) fun H5 k5 core5 => ?_
    have n5 : ∀ b l, H4 b = some (.lst l) → ¬ Two a.hd a.bd b := fun b l e z => by
      obtain ⟨⟨_, y1, _⟩, ⟨_, y2, _⟩, _⟩ := core4
      rcases z with rfl | rfl
      · rw [y1] at e; cases e
      · rw [y2] at e; cases e
    have t5 : TExt H4 H5 := k5.text fun b hb => by
      obtain ⟨⟨_, y1, _⟩, ⟨_, y2, _⟩, _⟩ := core4
      rcases hb with rfl | rfl
      · rw [y1]; trivial
      · rw [y2]; trivial
    walk_at "a"
    have e3' := k4 _ _ e3 ne.1
    have kk : Keep (fun b => b = a.hd ∨ b = a.bd ∨ b = a.dd ∨ b = a.td) H H5 := fun b o e n => k5 _ _ (k24 _ _ e fun z => n (by rcases z with z | z; exact .inr (.inr (.inl z)); exact .inr (.inr (.inr z)))) fun z => n (by rcases z with z | z; exact .inl z; exact .inr (.inl z))
    refine q2 H5 (StoreAt.four_all kk) (S.step kk (t24.trans t5) core5 (k5 _ _ e3' (n5 _ _ e3')) ?_ (k5 _ _ (by rw [e4]; simp) (n5 _ _ e4)) ⟨setC_crv crv hr' none, hr', deed_take hv, ch⟩ (by simp; omega) (by simp; omega) (by omega))
    rw [List.reverse_cons, List.map_append]
    refine dpAll_snoc (DpAll.text (t24.trans t5) _ _ (immAll_map _ imm_deed _) d2) (.tup (SqT.text ((t3.trans t4).trans t5) (SqT.of e2)) (.cons (.int t) (.cons ?_ .nil)))
    rw [show optD (valP (t, c).2 (t, c).1) = .int h by show optD (valP c t) = _; rw [hv]; rfl]
    exact .int h
end
theorem use_s_take {K : PySem.W.Frag} {C X : Addr} {H : Hp} {Q : VK} {E : XK} {a : SA} {c : Prs} {hs : List (Int × Prs)} {ts : List Int} {ws : List Watch} {z : Nat} {t h : Int} (S : StoreAt K C H a c hs ts ws z) (hz : z < 10000) (hv : valP c t = some h)
    (q : ∀ H', Keep (· ∈ a.all) H H' → StoreAt K C H' a (dropP c t) ((t, c) :: hs) (ts ++ [t]) ws (z + 1) → Q (.int h) H') : sp_s_take K C X [.ref a.p, .int t] H Q E :=
  ⟨a, c, hs, ts, ws, z, _, .int t, rfl, S, hz, .int t, fun t' h' e1 e2 => by cases e1; rw [hv] at e2; cases e2; exact q, fun n => by have := n t rfl; rw [hv] at this; cases this⟩
def sp_s_undo (K : PySem.W.Frag) (C : Addr) : Sp := fun vs H Q _ => ∃ (a : SA) (c : Prs) (hs : List (Int × Prs)) (ts : List Int) (ws : List Watch) (z : Nat), vs = [.ref a.p] ∧ StoreAt K C H a c hs ts ws z ∧ z < 10000 ∧
  (hs = [] → ∀ H', Same H H' → Q (.bl false) H') ∧ (∀ t c0 r, hs = (t, c0) :: r → ∀ H', Keep (· ∈ a.all) H H' → StoreAt K C H' a c0 r (ts ++ [t]) ws (z + 1) → Q (.bl true) H')
section
variable {P : Program} {w : World} {K : PySem.W.Frag} {mg : Str → Option Value} {base : Heap}
theorem ok_Store_undo (B : Blt mg) {A_View : Addr} (T_View : ClT K mg "View" A_View) (N_View_shown : NoAttr K A_View "shown") (N_View_window : NoAttr K A_View "window") (N_View_known : NoAttr K A_View "known") (N_View_heard : NoAttr K A_View "heard") (N_View_asked : NoAttr K A_View "asked") {A_Store : Addr} (T_Store : ClT K mg "Store" A_Store) (N_Store_heights : NoAttr K A_Store "heights") (N_Store_by_stretches : NoAttr K A_Store "by_stretches") (N_Store_deeds : NoAttr K A_Store "deeds") (N_Store_deed_times : NoAttr K A_Store "deed_times") (N_Store_watches : NoAttr K A_Store "watches") (D : MDef K A_Store "undo" "Store.undo" s_Store_undo ["self"]) (G_Store_set_height : MFn P w K mg base 3 A_Store "set_height" ["self", "t", "h"] (sp_set_height K A_Store)) :
    MFn P w K mg base 4 A_Store "undo" ["self"] (sp_s_undo K A_Store) := by
  refine D.ok sc_Store_undo (fun vs H Q E h => ?_) (fun f cdv A outer s H vs Q E hr h => ?_)
  · obtain ⟨a, c, hs, ts, ws, z, rfl, S, hz, q0, q1⟩ := h
    rfl
  · obtain ⟨a, c, hs, ts, ws, z, rfl, S, hz, q0, q1⟩ := h
    refine ⟨_, (pss_cons (ps_if (pt_cmpR (opK K (o_eq hr.units)) (peK_fld K (pv 0)) (pe_lst pa_nil) (nomark _))
      (pss_one (ps_ret pe_bl))
      pss_nil)
      (pss_cons (ps_asg (peK_bm0 K PySem.F.plainAttrs_list PySem.F.slot_list_pop PySem.F.type_list_pop mt_pop (peK_fld K (pv 0))) (pgK_tup K (n := 2) rfl (pgs_cons (pg_name (i := 1) sc_Store_undo.nd rfl (Or.inl rfl)) (pgs_cons (pg_name (i := 2) sc_Store_undo.nd rfl (Or.inl rfl)) pgs_nil))))
      (pss_cons (ps_expr (peK_bm K PySem.F.plainAttrs_list PySem.F.slot_list_append PySem.F.type_list_append mt_append (peK_fld K (pv 0)) (pa_cons (pv 1) pa_nil)))
      (pss_cons (ps_expr (pe_methN G_Store_set_height hr T_Store.cl (pv 0) (pa_cons (pv 1) (pa_cons (pv 2) pa_nil))))
      (pss_one (ps_ret pe_bl)))))), ?_⟩
    refine r_start (σ' := [some (.ref a.p), none, none]) rfl ?_
    obtain ⟨⟨dx, ob⟩, core, ⟨vs, d1, d2⟩, tl, ⟨w1, w2⟩, ne, ch, sz⟩ := id S
    obtain ⟨⟨m, h1, h2, h3, h4⟩, ⟨kvs, b1, b2, b3⟩, crv⟩ := id core
    walk_at "a"
    rename_i p2 H2 n2 s2 e2
    refine r_eq_d (.lst (SqL.of (s2 _ _ d1)) (DpAll.same s2 _ _ d2)) (.lst (SqL.of e2) .nil) (Shp.listM (n := 1) shp_deed).ok (Shp.list (n := 1) (by simp)).ok ?_
    rw [eqv_nil]
    walk_at "a"
    refine i_cases (fun hnil => ?_) (fun hnil => ?_)
    · walk_at "a"
      refine q0 ?_ H2 s2
      rw [List.map_eq_nil_iff, List.reverse_eq_nil_iff] at hnil
      exact hnil
    cases hs with
    | nil => exact absurd rfl hnil
    | cons d r =>
    obtain ⟨t, c0⟩ := d
    obtain ⟨_, hr', hdeed, ch'⟩ := ch
    have crv0 := ch'.crv
    rw [List.reverse_cons, List.map_append] at d2
    obtain ⟨vi, vl, rfl, d3, d4⟩ : ∃ vi vl, vs = vi ++ [vl] ∧ DpAll K H vi (r.reverse.map deedD) ∧ Dp K H vl (deedD (t, c0)) := by
      have hl := dpAll_len d2
      refine ⟨vs.take (r.reverse.map deedD).length, (vs.drop (r.reverse.map deedD).length).getD 0 .non, ?_, ?_, ?_⟩
      · have h5 : (vs.drop (r.reverse.map deedD).length).length = 1 := by rw [List.length_drop, hl]; simp
        obtain ⟨y, hy⟩ := List.length_eq_one_iff.mp h5
        rw [hy]
        show vs = _ ++ [y]
        rw [← hy, List.take_append_drop]
      · have := dpAll_take (r.reverse.map deedD).length d2
        rwa [List.take_left'] at this
        rfl
      · have h6 := dpAll_drop (r.reverse.map deedD).length d2
        rw [List.drop_left'] at h6
        · cases hdr : vs.drop (r.reverse.map deedD).length with
          | nil => rw [hdr] at h6; cases h6
          | cons y ys => rw [hdr] at h6; cases h6 with | cons h7 _ => exact h7
        · rfl
    obtain ⟨pl, rfl, hpl⟩ := dp_deed d4
    have d1' := s2 _ _ d1
    walk_at "a"
    refine r_bm0l (SqL.of d1') ?_
    refine r_pop d1' fun H3 k3 e3 => ?_
    have t3 : TExt H2 H3 := TExt.lst k3 d1'
    have hpd : a.p ≠ a.dd := ne_of ob d1 (by intro z; cases z)
    have hpt : a.p ≠ a.td := ne_of ob tl (by intro z; cases z)
    have ob3 := k3 _ _ (s2 _ _ ob) hpd
    have tl3 := k3 _ _ (s2 _ _ tl) (Ne.symm ne.1)
    have hpl3 := SqT.text ((TExt.of_same s2).trans t3) hpl
    walk_at "a"
    refine r_bml (SqL.of tl3) ?_
    walk_at "a"
    refine r_append tl3 (by rw [sizeLine_eq, List.length_map]; omega) fun H4 k4 e4 => ?_
    have t4 : TExt H3 H4 := TExt.lst k4 tl3
    have ob4 := k4 _ _ ob3 hpt
    have t24 : TExt H H4 := ((TExt.of_same s2).trans t3).trans t4
    have nn : ∀ b o, H b = some o → (∀ l, o ≠ .lst l) → b ≠ a.dd ∧ b ≠ a.td := fun b o e hn => ⟨fun z => by rw [z, d1] at e; cases e; exact hn _ rfl, fun z => by rw [z, tl] at e; cases e; exact hn _ rfl⟩
    have k24 : Keep (fun b => b = a.dd ∨ b = a.td) H H4 := fun b o e n => k4 _ _ (k3 _ _ (s2 _ _ e) fun z => n (.inl z)) fun z => n (.inr z)
    have core4 := core.keep k24 t24 (fun z => by have := nn _ _ h1 (by intros; intro z; cases z); rcases z with z | z; exact this.1 z; exact this.2 z) (fun z => by have := nn _ _ b1 (by intros; intro z; cases z); rcases z with z | z; exact this.1 z; exact this.2 z)
    walk_at "a"
    refine use_set_height (o := valP c0 t) ob4 core4 (by omega) hr' (fun hn => by
      cases hv : valP c t with
      | some _ => rfl
      | none =>
        have := hdeed.some hv
        rw [hn] at this
        cases this) fun H5 k5 core5 => ?_
    rw [setC_back crv0 crv hdeed] at core5
    have n5 : ∀ b l, H4 b = some (.lst l) → ¬ Two a.hd a.bd b := fun b l e z => by
      obtain ⟨⟨_, y1, _⟩, ⟨_, y2, _⟩, _⟩ := core4
      rcases z with rfl | rfl
      · rw [y1] at e; cases e
      · rw [y2] at e; cases e
    have t5 : TExt H4 H5 := k5.text fun b hb => by
      obtain ⟨⟨_, y1, _⟩, ⟨_, y2, _⟩, _⟩ := core4
      rcases hb with rfl | rfl
      · rw [y1]; trivial
      · rw [y2]; trivial
    walk_at "a"
    have e3' := k4 _ _ e3 ne.1
    have kk : Keep (fun b => b = a.hd ∨ b = a.bd ∨ b = a.dd ∨ b = a.td) H H5 := fun b o e n => k5 _ _ (k24 _ _ e fun z => n (by rcases z with z | z; exact .inr (.inr (.inl z)); exact .inr (.inr (.inr z)))) fun z => n (by rcases z with z | z; exact .inl z; exact .inr (.inl z))
    have szz := sz.1
    simp only [List.length_cons] at szz
    exact q1 t c0 r rfl H5 (StoreAt.four_all kk) (S.step kk (t24.trans t5) core5 (k5 _ _ e3' (n5 _ _ e3')) (DpAll.text (t24.trans t5) _ _ (immAll_map _ imm_deed _) d3) (k5 _ _ (by rw [e4]; simp) (n5 _ _ e4)) ch' (by omega) (by simp; omega) (by omega))
end
/-! telling -/
def sp_s_four (K : PySem.W.Frag) (C X : Addr) : Sp := fun vs H Q E => ∃ (a : SA) (c : Prs) (hs : List (Int × Prs)) (ts : List Int) (ws : List Watch) (z : Nat) (x y : V) (dx dy : PyData), vs = [.ref a.p, x, y] ∧ StoreAt K C H a c hs ts ws z ∧ Dp K H x dx ∧ Dp K H y dy ∧
  (∀ b e : Int, x = .int b → y = .int e → -1099511627776 ≤ b → b ≤ 1099511627776 → -1099511627776 ≤ e → e ≤ 1099511627776 → ∀ v H', Same H H' → Dp K H' v (fourD (fourL (partL c b e))) → Q v H') ∧ ((endV x && endV y) = false → E (.ref X) none H)
section
variable {P : Program} {w : World} {K : PySem.W.Frag} {mg : Str → Option Value} {base : Heap}
theorem ok_Store_four (B : Blt mg) {A_View : Addr} (T_View : ClT K mg "View" A_View) (N_View_shown : NoAttr K A_View "shown") (N_View_window : NoAttr K A_View "window") (N_View_known : NoAttr K A_View "known") (N_View_heard : NoAttr K A_View "heard") (N_View_asked : NoAttr K A_View "asked") {A_Store : Addr} (T_Store : ClT K mg "Store" A_Store) (N_Store_heights : NoAttr K A_Store "heights") (N_Store_by_stretches : NoAttr K A_Store "by_stretches") (N_Store_deeds : NoAttr K A_Store "deeds") (N_Store_deed_times : NoAttr K A_Store "deed_times") (N_Store_watches : NoAttr K A_Store "watches") (D : MDef K A_Store "four" "Store.four" s_Store_four ["self", "begin", "end"]) (G_stretches : Fn P w K mg base 2 "stretches" ["begin", "end"] (sp_stretches K E_OutOfTimes)) (G_joined : Fn P w K mg base 2 "joined" ["one", "other"] (sp_joined K)) :
    MFn P w K mg base 3 A_Store "four" ["self", "begin", "end"] (sp_s_four K A_Store E_OutOfTimes) := by
  refine D.okX sc_Store_four (fun vs H Q E h => ?_) (fun f cdv A outer s H vs Q E hr h => ?_)
  · obtain ⟨a, c, hs, ts, ws, z, x, y, dx, dy, rfl, S, hx, hy, q, e⟩ := h
    rfl
  · obtain ⟨a, c, hs, ts, ws, z, x, y, dx, dy, rfl, S, hx, hy, q, e⟩ := h
    refine ⟨_, (pss_cons (ps_set (i := 3) sc_Store_four.nd rfl (Or.inl rfl) pe_non)
      (pss_cons (ps_for (passes_of rfl) rfl (piK_tup K (pe_fnX G_stretches hr (takes_of rfl rfl rfl rfl) (pa_cons (pv 1) (pa_cons (pv 2) pa_nil)))) (pg_name (i := 4) sc_Store_four.nd rfl (Or.inl rfl))
      (pss_one (ps_set (i := 3) sc_Store_four.nd rfl (Or.inl rfl) (pe_fn G_joined hr (pa_cons (pv 3) (pa_cons (pe_dget1 (hu_of hr) (peK_fld K (pv 0)) (pv 4) ⟨rfl, rfl, rfl, rfl⟩) pa_nil))))))
      (pss_one (ps_ret (pv 3))))), ?_⟩
    refine r_start (σ' := [some (.ref a.p), some (x), some (y), none, none]) rfl ?_
    walk_at "a"
    refine ⟨_, _, dx, dy, rfl, hx, hy, fun h1 h2 b e' ex ey p2 vs H2 s2 e2 r2 => ?_, e⟩
    have hb : -1099511627776 ≤ b ∧ b ≤ 1099511627776 := by
      obtain ⟨i, ei, h⟩ := endV_int h1
      rw [ex] at ei; cases ei; exact h
    have he : -1099511627776 ≤ e' ∧ e' ≤ 1099511627776 := by
      obtain ⟨i, ei, h⟩ := endV_int h2
      rw [ey] at ei; cases ei; exact h
    have qq := q b e' ex ey hb.1 hb.2 he.1 he.2
    subst ex
    subst ey
    have S2 := S.same s2
    obtain ⟨⟨dx0, ob⟩, ⟨_, ⟨kvs, b1, b2, b3⟩, crv⟩, _⟩ := id S2
    let acc : Nat → Option Four := fun i => ((strL b e').take i).foldl (fun a q => joinF a (fourL (seg c q.1.toNat q.2))) none
    walk_at "a"
    refine for_wk wk_tup (fun i σ H' => ∃ v, (∃ v1 : Option V, σ = [some (.ref a.p), some (.int b), some (.int e'), some v, v1]) ∧ Same H2 H' ∧ Dp K H' v (fourD (acc i)))
      ⟨.non, ⟨_, rfl⟩, Same.refl _, .non⟩ (fun i σ H' _ z => by obtain ⟨_, _, k, _⟩ := z; exact SqT.text (TExt.of_same k) (SqT.of e2)) ?_ ?_
    · rintro i x σ H3 H3' hi ⟨v, ⟨v1, rfl⟩, s3, d3⟩ ⟨rfl, hx⟩
      obtain ⟨q', w, hq, rfl, hw⟩ := r2.at_ hx
      obtain ⟨l, hl, el⟩ := str_mem _ b rfl q' (List.mem_of_getElem? hq)
      have ob3 := s3 _ _ ob
      have hw3 := s3 _ _ hw
      have b13 := s3 _ _ b1
      walk_at "a"
      have f4 : Dp K H3' ((valV kvs [Sum.inl q'.1, Sum.inl q'.2]).getD .non) (fourD (fourL (seg c q'.1.toNat q'.2))) := by
        have := (b2 l q'.2 hl).text (TExt.of_same s3)
        rw [if_neg (by omega)] at this
        rw [el, show ((l : Nat) : Int).toNat = l from rfl]
        exact this.getD
      refine use_joined d3 f4 fun u H5 s5 d5 => ?_
      refine ⟨u, ⟨_, rfl⟩, s3.trans s5, ?_⟩
      show Dp K H5 u (fourD (((strL b e').take (i + 1)).foldl (fun a q => joinF a (fourL (seg c q.1.toNat q.2))) none))
      rw [take_snoc hq, List.foldl_append]
      exact d5
    · rintro σ H3 ⟨v, ⟨v1, rfl⟩, s3, d3⟩
      walk_at "a"
      refine qq v H3 (s2.trans s3) ?_
      have e1 : acc vs.length = fourL (partL c b e') := by
        show ((strL b e').take vs.length).foldl _ none = _
        rw [List.take_of_length_le (by rw [r2.len]; exact Nat.le_refl _)]
        exact str_four crv.up e' _ b rfl
      rw [e1] at d3
      exact d3
end
theorem use_s_four {K : PySem.W.Frag} {C X : Addr} {H : Hp} {Q : VK} {E : XK} {a : SA} {c : Prs} {hs : List (Int × Prs)} {ts : List Int} {ws : List Watch} {z : Nat} {b e : Int} (S : StoreAt K C H a c hs ts ws z) (h : -1099511627776 ≤ b ∧ b ≤ 1099511627776 ∧ -1099511627776 ≤ e ∧ e ≤ 1099511627776)
    (q : ∀ v H', Same H H' → Dp K H' v (fourD (fourL (partL c b e))) → Q v H') : sp_s_four K C X [.ref a.p, .int b, .int e] H Q E :=
  ⟨a, c, hs, ts, ws, z, _, _, .int b, .int e, rfl, S, .int b, .int e, fun b' e' h1 h2 _ _ _ _ => by cases h1; cases h2; exact q, fun z => by simp [endV] at z; omega⟩
abbrev InW (b w m : Int) : Prop := -1099511627776 ≤ b ∧ b ≤ 1099511627776 ∧ -1099511627776 ≤ b + w * m ∧ b + w * m ≤ 1099511627776
def sp_s_fours (K : PySem.W.Frag) (C X : Addr) : Sp := fun vs H Q E => ∃ (a : SA) (c : Prs) (hs : List (Int × Prs)) (ts : List Int) (ws : List Watch) (z : Nat) (wn : Addr) (b w m : Int), vs = [.ref a.p, .ref wn] ∧ StoreAt K C H a c hs ts ws z ∧ SqT K H wn [.int b, .int w, .int m] ∧
  0 ≤ m ∧ m ≤ 100000 ∧ 1 ≤ w ∧ w ≤ 100000000000000000000000000000000000000000000000000000000000000000000 ∧ -100000000000000000000000000000000000000000000000000000000000000000000 ≤ b ∧ b ≤ 100000000000000000000000000000000000000000000000000000000000000000000 ∧
  (InW b w m → ∀ v H', Same H H' → Dp K H' v (foursDS c b w m.toNat) → Q v H') ∧ (¬ InW b w m → E (.ref X) none H)
section
variable {P : Program} {w : World} {K : PySem.W.Frag} {mg : Str → Option Value} {base : Heap}
theorem ok_Store_fours (B : Blt mg) {A_View : Addr} (T_View : ClT K mg "View" A_View) (N_View_shown : NoAttr K A_View "shown") (N_View_window : NoAttr K A_View "window") (N_View_known : NoAttr K A_View "known") (N_View_heard : NoAttr K A_View "heard") (N_View_asked : NoAttr K A_View "asked") {A_Store : Addr} (T_Store : ClT K mg "Store" A_Store) (N_Store_heights : NoAttr K A_Store "heights") (N_Store_by_stretches : NoAttr K A_Store "by_stretches") (N_Store_deeds : NoAttr K A_Store "deeds") (N_Store_deed_times : NoAttr K A_Store "deed_times") (N_Store_watches : NoAttr K A_Store "watches") (D : MDef K A_Store "fours" "Store.fours" s_Store_fours ["self", "window"]) {E_OutOfTimes : Addr} (X_OutOfTimes : Exc K mg "OutOfTimes" E_OutOfTimes) (G_times_of : Fn P w K mg base 2 "times_of" ["window", "k"] (sp_times_of K E_NoColumn)) (G_is_end : Fn P w K mg base 1 "is_end" ["thing"] (sp_is_end K)) (G_Store_four : MFn P w K mg base 3 A_Store "four" ["self", "begin", "end"] (sp_s_four K A_Store E_OutOfTimes)) :
    MFn P w K mg base 4 A_Store "fours" ["self", "window"] (sp_s_fours K A_Store E_OutOfTimes) := by
  refine D.okX sc_Store_fours (fun vs H Q E h => ?_) (fun f cdv A outer s H vs Q E hr h => ?_)
  · obtain ⟨a, c, hs, ts, ws, z, wn, b, w', m, rfl, S, ha, m0, m1, w0, w1, b0, b1, q, e⟩ := h
    rfl
  · obtain ⟨a, c, hs, ts, ws, z, wn, b, w', m, rfl, S, ha, m0, m1, w0, w1, b0, b1, q, e⟩ := h
    refine ⟨_, (pss_cons (ps_asg (pv 1) (pgK_tup K (n := 3) rfl (pgs_cons (pg_name (i := 2) sc_Store_fours.nd rfl (Or.inl rfl)) (pgs_cons (pg_name (i := 3) sc_Store_fours.nd rfl (Or.inl rfl)) (pgs_cons (pg_name (i := 4) sc_Store_fours.nd rfl (Or.inl rfl)) pgs_nil)))))
      (pss_cons (ps_if (PW.pt (pw_or (pt_not (pt_val (pe_fn G_is_end hr (pa_cons (pv 2) pa_nil)))) (pw_or1 (pt_not (pt_val (pe_fn G_is_end hr (pa_cons (pe_op op_add (pv 2) (pe_op op_mulY (pv 3) (pv 4))) pa_nil)))))))
      (pss_one (ps_rs X_OutOfTimes (takes_of rfl rfl rfl rfl)))
      pss_nil)
      (pss_cons (ps_setLc (i := 5) (own := [("k", 6)]) (g := gName 6) (tt := tYes) rfl sc_Store_fours.nd rfl rfl (sw_true rfl rfl rfl (by decide +kernel)) (pi_range1 rfl B.range (pa_cons (pv 4) pa_nil)) (blkOk_by (N := ["self", "window", "begin", "wide", "many", "ends", "k", "first", "behind"]) (sc := defScope s_Store_fours) (by decide +kernel)) (fun _ _ _ _ _ => (pg_name (i := 6) sc_Store_fours.nd rfl (Or.inl rfl))) (fun _ _ _ _ _ => pts_nil) (fun _ _ _ _ _ => (pe_fn G_times_of hr (pa_cons (pv 1) (pa_cons (pv 6) pa_nil)))))
      (pss_one (ps_ret (pe_callTy (crK K c_tuple) rfl B.tuple (by decide +kernel) (pa_cons (pe_lc (own := [("first", 7), ("behind", 8)]) (g := gTup K 2 (gCons (gName 7) (gCons (gName 8) gNil))) (tt := tYes) rfl sc_Store_fours.nd (piK_list K (pv 5)) (blkOk_by (N := ["self", "window", "begin", "wide", "many", "ends", "k", "first", "behind"]) (sc := defScope s_Store_fours) (by decide +kernel)) (fun _ _ _ _ _ => (pgK_tup K (n := 2) rfl (pgs_cons (pg_name (i := 7) sc_Store_fours.nd rfl (Or.inl rfl)) (pgs_cons (pg_name (i := 8) sc_Store_fours.nd rfl (Or.inl rfl)) pgs_nil)))) (fun _ _ _ _ _ => pts_nil) (fun _ _ _ _ _ => (pe_methN G_Store_four hr T_Store.cl (pv 0) (pa_cons (pv 7) (pa_cons (pv 8) pa_nil))))) pa_nil))))))), ?_⟩
    refine r_start (σ' := [some (.ref a.p), some (.ref wn), none, none, none, none, none, none, none]) rfl ?_
    walk_at "a"
    refine use_is_end (.int b) ?_
    by_cases hb : ¬ (-1099511627776 ≤ b ∧ b ≤ 1099511627776)
    · rw [endV_false hb]
      walk_at "a"
      exact e (by omega)
    have hb := Decidable.not_not.mp hb
    rw [endV_true hb]
    walk_at "a"
    refine use_is_end (.int _) ?_
    by_cases he : ¬ (-1099511627776 ≤ b + w' * m ∧ b + w' * m ≤ 1099511627776)
    · rw [endV_false he]
      walk_at "a"
      exact e (by omega)
    have he := Decidable.not_not.mp he
    rw [endV_true he]
    walk_at "a"
    have hk : ∀ k : Nat, k < m.toNat → -1099511627776 ≤ (winS b w' k).1 ∧ (winS b w' k).1 ≤ 1099511627776 ∧ -1099511627776 ≤ (winS b w' k).2 ∧ (winS b w' k).2 ≤ 1099511627776 := by
      intro k hk
      have h1 : 0 ≤ (k : Int) * w' := Int.mul_nonneg (by omega) (by omega)
      have h2 : ((k : Int) + 1) * w' ≤ m * w' := Int.mul_le_mul_of_nonneg_right (by omega) (by omega)
      rw [Int.add_mul, Int.one_mul, Int.mul_comm m w'] at h2
      show -1099511627776 ≤ b + (k : Int) * w' ∧ b + (k : Int) * w' ≤ 1099511627776 ∧ -1099511627776 ≤ b + (k : Int) * w' + w' ∧ b + (k : Int) * w' + w' ≤ 1099511627776
      omega
    refine lc_rngD (K := K) (by omega) (fun _ => true) (fun k => pairP (winS b w' k)) (fun c => imm_pair _) (fun k H2 S2 N hk2 s2 k1 k2 => ?_) (fun D H2 ys hD s2 e2 p2 => ?_)
    · refine r_gname ⟨wipe_one, ?_⟩
      rw [Int.zero_add (k : Int)]
      have ha2 := SqT.text (TExt.of_same s2) ha
      walk_at "a"
      exact k1 rfl _ _ (by assumption) (dp_of_pair (SqT.of (by assumption)))
    rw [Fp.filter_all] at p2
    walk_at "a"
    have T2 := S.same s2
    have hyl : ys.length = m.toNat := by rw [dpAll_len p2]; simp
    refine lc_lstD (K := K) (as := List.range m.toNat) (fa := fun k => pairP (winS b w' k)) (SqL.of e2) p2 (by simp; omega) (fun _ => true) (fun k => fourD (fourL (partL c (winS b w' k).1 (winS b w' k).2))) (fun k => imm_four _) (fun k x H3 S3 N hkm s3 hx k1 k2 => ?_) (fun D3 H3 zs hD3 s3 e3 p3 => ?_)
    · obtain ⟨px, rfl, hpx⟩ := dp_pair hx
      have hk := hk k (by simpa using hkm)
      have T3 := T2.same s3
      obtain ⟨dx3, ob3⟩ := T3.ob
      walk_at "a"
      refine ⟨rfl, ?_⟩
      walk_at "a"
      exact use_s_four T3 hk fun v H4 s4 d4 => k1 rfl v H4 s4 d4
    · rw [Fp.filter_all] at p3
      walk_at "a"
      rename_i p4 H4 n4 s4 e4
      refine q ⟨hb.1, hb.2, he.1, he.2⟩ _ H4 ((s2.trans s3).trans s4) (.tup (SqT.of e4) ?_)
      have := DpAll.same s4 _ _ p3
      unfold foursS
      rw [List.map_map]
      exact this
end
theorem use_s_fours {K : PySem.W.Frag} {C X : Addr} {H : Hp} {Q : VK} {E : XK} {a : SA} {c : Prs} {hs : List (Int × Prs)} {ts : List Int} {ws : List Watch} {z : Nat} {wn : Addr} {b w m : Int} (S : StoreAt K C H a c hs ts ws z) (ha : SqT K H wn [.int b, .int w, .int m]) (h : -1099511627776 ≤ b ∧ b + w * m ≤ 1099511627776 ∧ 1 ≤ w ∧ w ≤ 1000000000000000 ∧ 1 ≤ m ∧ m ≤ 1000)
    (q : ∀ v H', Same H H' → Dp K H' v (foursDS c b w m.toNat) → Q v H') : sp_s_fours K C X [.ref a.p, .ref wn] H Q E := by
  obtain ⟨h1, h2, h3, h4, h5, h6⟩ := h
  have h0 : 0 ≤ w * m := Int.mul_nonneg (by omega) (by omega)
  exact ⟨a, c, hs, ts, ws, z, wn, b, w, m, rfl, S, ha, by omega, by omega, h3, by omega, by omega, by omega, fun _ => q, fun n => absurd ⟨h1, by omega, by omega, h2⟩ n⟩
def sp_s_told (K : PySem.W.Frag) (C : Addr) : Sp := fun vs H Q _ => ∃ (a : SA) (c : Prs) (hs : List (Int × Prs)) (ts : List Int) (ws : List Watch) (z : Nat), vs = [.ref a.p] ∧ StoreAt K C H a c hs ts ws z ∧ c.length < 5000 ∧ ∀ v H', Same H H' → Dp K H' v (prsD c) → Q v H'
theorem perm_len {m c : Prs} (nd : (m.map (·.1)).Nodup) (nd' : (c.map (·.1)).Nodup) (h : ∀ q, q ∈ m ↔ q ∈ c) : m.length = c.length := by
  have n1 : m.Nodup := List.Pairwise.of_map _ (fun a b h z => h (by rw [z])) nd
  have n2 : c.Nodup := List.Pairwise.of_map _ (fun a b h z => h (by rw [z])) nd'
  exact ((List.perm_ext_iff_of_nodup n1 n2).mpr h).length_eq
section
variable {P : Program} {w : World} {K : PySem.W.Frag} {mg : Str → Option Value} {base : Heap}
theorem ok_Store_told (B : Blt mg) {A_View : Addr} (T_View : ClT K mg "View" A_View) (N_View_shown : NoAttr K A_View "shown") (N_View_window : NoAttr K A_View "window") (N_View_known : NoAttr K A_View "known") (N_View_heard : NoAttr K A_View "heard") (N_View_asked : NoAttr K A_View "asked") {A_Store : Addr} (T_Store : ClT K mg "Store" A_Store) (N_Store_heights : NoAttr K A_Store "heights") (N_Store_by_stretches : NoAttr K A_Store "by_stretches") (N_Store_deeds : NoAttr K A_Store "deeds") (N_Store_deed_times : NoAttr K A_Store "deed_times") (N_Store_watches : NoAttr K A_Store "watches") (D : MDef K A_Store "told" "Store.told" s_Store_told ["self"]) :
    MFn P w K mg base 1 A_Store "told" ["self"] (sp_s_told K A_Store) := by
  refine D.ok sc_Store_told (fun vs H Q E h => ?_) (fun f cdv A outer s H vs Q E hr h => ?_)
  · obtain ⟨a, c, hs, ts, ws, z, rfl, S, hz, q⟩ := h
    rfl
  · obtain ⟨a, c, hs, ts, ws, z, rfl, S, hz, q⟩ := h
    refine ⟨_, (pss_one (ps_ret (pe_callTy (crK K c_tuple) rfl B.tuple (by decide +kernel) (pa_cons (pe_lc (own := [("t", 1)]) (g := gName 1) (tt := tYes) rfl sc_Store_told.nd (piK_list K (pe_callB (c_sortedDW rfl) rfl B.sorted (by decide +kernel) (pa_cons (peK_fld K (pv 0)) pa_nil))) (blkOk_by (N := ["self", "t"]) (sc := defScope s_Store_told) (by decide +kernel)) (fun _ _ _ _ _ => (pg_name (i := 1) sc_Store_told.nd rfl (Or.inl rfl))) (fun _ _ _ _ _ => pts_nil) (fun _ _ _ _ _ => (pe_tup (pa_cons (pv 1) (pa_cons (pe_dget (hu_of hr) (peK_fld K (pv 0)) (pv 1) (fun _ _ => rfl)) pa_nil))))) pa_nil)))), ?_⟩
    refine r_start (σ' := [some (.ref a.p), none]) rfl ?_
    obtain ⟨⟨dx, ob⟩, ⟨⟨m, h1, h2, h3, h4⟩, _, crv⟩, _⟩ := id S
    have up := crv.up
    have hml := perm_len h2 (up_nodup up) h3
    walk_at "a"
    refine r_sortedDW h1 (by omega) fun ys p2 H2 hp hs n2 s2 e2 => ?_
    walk_at "a"
    refine lc_lstD (K := K) (as := ys) (fa := PyData.int) (SqL.of e2) (dpAll_ints K _ ys) (by rw [hp.length_eq, List.length_map]; omega) (fun _ => true) (fun t => pairP (t, (valP m t).getD 0)) (fun c => imm_pair _) (fun t x H3 S N ht s3 hx k1 k2 => ?_) (fun D H3 ys2 hD s3 e3 p3 => ?_)
    · cases dp_int hx
      refine r_gname ⟨wipe_one, ?_⟩
      have ob3 := s3 _ _ (s2 _ _ ob)
      walk_at "a"
      obtain ⟨h, hh⟩ : ∃ h, valP m t = some h := by
        obtain ⟨q, hq, rfl⟩ := List.mem_map.mp (hp.mem_iff.mp ht)
        exact ⟨q.2, (valP_iff h2).mpr hq⟩
      refine r_dgeti (s3 _ _ (s2 _ _ h1)) hh ?_
      walk_at "a"
      rw [hh] at k1
      exact k1 rfl _ _ (by assumption) (dp_of_pair (SqT.of (by assumption)))
    · walk_at "a"
      rename_i p4 H4 n4 s4 e4
      have ec : outOf m ys = c := up_ext (out_up h2 hp hs) up fun p => by rw [out_mem h2 hp, h3]
      have e : ((ys.filter fun _ => true).map fun t => pairP (t, (valP m t).getD 0)) = c.map pairP := by
        rw [Fp.filter_all, ← ec]
        unfold outOf
        rw [List.map_map]
        rfl
      rw [e] at p3
      exact q _ H4 ((s2.trans s3).trans s4) (.tup (SqT.of e4) (DpAll.same s4 _ _ p3))
end
theorem use_s_told {K : PySem.W.Frag} {C : Addr} {H : Hp} {Q : VK} {E : XK} {a : SA} {c : Prs} {hs : List (Int × Prs)} {ts : List Int} {ws : List Watch} {z : Nat} (S : StoreAt K C H a c hs ts ws z) (hz : c.length < 5000) (q : ∀ v H', Same H H' → Dp K H' v (prsD c) → Q v H') : sp_s_told K C [.ref a.p] H Q E := ⟨a, c, hs, ts, ws, z, rfl, S, hz, q⟩
def sp_s_times (K : PySem.W.Frag) (C : Addr) : Sp := fun vs H Q _ => ∃ (a : SA) (c : Prs) (hs : List (Int × Prs)) (ts : List Int) (ws : List Watch) (z : Nat), vs = [.ref a.p] ∧ StoreAt K C H a c hs ts ws z ∧ ∀ x H', Same H H' → H' x = some (.tup (ts.map V.int)) → Q (.ref x) H'
section
variable {P : Program} {w : World} {K : PySem.W.Frag} {mg : Str → Option Value} {base : Heap}
theorem ok_Store_times (B : Blt mg) {A_View : Addr} (T_View : ClT K mg "View" A_View) (N_View_shown : NoAttr K A_View "shown") (N_View_window : NoAttr K A_View "window") (N_View_known : NoAttr K A_View "known") (N_View_heard : NoAttr K A_View "heard") (N_View_asked : NoAttr K A_View "asked") {A_Store : Addr} (T_Store : ClT K mg "Store" A_Store) (N_Store_heights : NoAttr K A_Store "heights") (N_Store_by_stretches : NoAttr K A_Store "by_stretches") (N_Store_deeds : NoAttr K A_Store "deeds") (N_Store_deed_times : NoAttr K A_Store "deed_times") (N_Store_watches : NoAttr K A_Store "watches") (D : MDef K A_Store "times" "Store.times" s_Store_times ["self"]) :
    MFn P w K mg base 1 A_Store "times" ["self"] (sp_s_times K A_Store) := by
  refine D.ok sc_Store_times (fun vs H Q E h => ?_) (fun f cdv A outer s H vs Q E hr h => ?_)
  · obtain ⟨a, c, hs, ts, ws, z, rfl, S, q⟩ := h
    rfl
  · obtain ⟨a, c, hs, ts, ws, z, rfl, S, q⟩ := h
    refine ⟨_, (pss_one (ps_ret (pe_callTy (crK K c_tuple) rfl B.tuple (by decide +kernel) (pa_cons (peK_fld K (pv 0)) pa_nil)))), ?_⟩
    refine r_start (σ' := [some (.ref a.p)]) rfl ?_
    obtain ⟨⟨dx, ob⟩, core, ⟨vs, d1, d2⟩, tl, _⟩ := id S
    walk_at "a"
    rename_i x H' n s e
    exact q x H' s e
end
theorem use_s_times {K : PySem.W.Frag} {C : Addr} {H : Hp} {Q : VK} {E : XK} {a : SA} {c : Prs} {hs : List (Int × Prs)} {ts : List Int} {ws : List Watch} {z : Nat} (S : StoreAt K C H a c hs ts ws z) (q : ∀ x H', Same H H' → H' x = some (.tup (ts.map V.int)) → Q (.ref x) H') : sp_s_times K C [.ref a.p] H Q E := ⟨a, c, hs, ts, ws, z, rfl, S, q⟩

/-! ### what the law holds: a dict of its own -/
structure HeldAt (H : Hp) (q : Addr) (c : Prs) : Prop where
  ex : ∃ m : Prs, H q = some (.dK (m.map inj)) ∧ (m.map (·.1)).Nodup ∧ (∀ p, p ∈ m ↔ p ∈ c)
  crv : Crv c
theorem HeldAt.keep {H H' : Hp} {q : Addr} {c : Prs} {F : Addr → Prop} (h : HeldAt H q c) (k : Keep F H H') (n : ¬ F q) : HeldAt H' q c := by
  obtain ⟨⟨m, e, r⟩, cr⟩ := h
  exact ⟨⟨m, k _ _ e n, r⟩, cr⟩
theorem HeldAt.same {H H' : Hp} {q : Addr} {c : Prs} (h : HeldAt H q c) (s : Same H H') : HeldAt H' q c := h.keep (F := No) (Keep.of_same s) (fun z => z)
theorem HeldAt.live {H : Hp} {q : Addr} {c : Prs} (h : HeldAt H q c) : H q ≠ none := by
  obtain ⟨⟨m, e, r⟩, cr⟩ := h
  rw [e]; simp
theorem HeldAt.text {H H' : Hp} {q : Addr} {c : Prs} (h : HeldAt H q c) (k : Keep (At q) H H') : TExt H H' := by
  obtain ⟨⟨m, e, r⟩, cr⟩ := h
  exact k.text fun b hb => by rw [show b = q from hb, e]; trivial
theorem HeldAt.pot {H H' : Hp} {q p : Addr} {c : Prs} (h : HeldAt H q c) (hp : Pot H p) (k : Keep (At p) H H') : HeldAt H' q c := by
  obtain ⟨_, _, e, _⟩ := hp.ex
  obtain ⟨m, e2, _⟩ := h.ex
  exact h.keep k (ne_of e2 e (by intro z; cases z))
theorem Pot.held {H H' : Hp} {q p : Addr} {c : Prs} (hp : Pot H p) (h : HeldAt H q c) (k : Keep (At q) H H') : Pot H' p := by
  obtain ⟨_, _, e, _⟩ := hp.ex
  obtain ⟨m, e2, _⟩ := h.ex
  exact hp.keep k (ne_of e e2 (by intro z; cases z))
/-- of the samples held: sorted, the heights -/
theorem held_put {m c : Prs} (h2 : (m.map (·.1)).Nodup) (h3 : ∀ p, p ∈ m ↔ p ∈ c) (crv : Crv c) {t h : Int} (ht : InT t) : ((putP m t h).map (·.1)).Nodup ∧ (∀ p, p ∈ putP m t h ↔ p ∈ insC c t h) ∧ Crv (insC c t h) :=
  ⟨nd_put t h h2, fun p => by rw [mem_put, insC_mem, h3], setC_crv crv ht (some h)⟩
theorem len_ins {c : Prs} (hc : c.Pairwise fun p q => p.1 < q.1) (t h : Int) : (insC c t h).length ≤ c.length + 1 := by
  have e : (insC c t h).length = (putP c t h).length := by
    refine (perm_len (nd_put t h (up_nodup hc)) (up_nodup (insC_up hc t h)) fun q => ?_).symm
    rw [mem_put, insC_mem]
  rw [e]
  exact len_put c t h

/-! ### the class View -/
def sp_want_within (K : PySem.W.Frag) (X : Addr) : Sp := fun vs H Q E => ∃ (wa : Addr) (b w m : Int), vs = [.ref wa] ∧ SqT K H wa [.int b, .int w, .int m] ∧ 0 ≤ m ∧ m ≤ 100000 ∧ 1 ≤ w ∧ w ≤ 100000000000000000000000000000000000000000000000000000000000000000000 ∧ -100000000000000000000000000000000000000000000000000000000000000000000 ≤ b ∧ b ≤ 100000000000000000000000000000000000000000000000000000000000000000000 ∧
  (InW b w m → Q .non H) ∧ (¬ InW b w m → E (.ref X) none H)
section
variable {P : Program} {w : World} {K : PySem.W.Frag} {mg : Str → Option Value} {base : Heap}
theorem ok_want_within (B : Blt mg) (D : Def K mg "want_within" s_want_within ["window"]) {E_OutOfTimes : Addr} (X_OutOfTimes : Exc K mg "OutOfTimes" E_OutOfTimes) (G_is_end : Fn P w K mg base 1 "is_end" ["thing"] (sp_is_end K)) :
    Fn P w K mg base 2 "want_within" ["window"] (sp_want_within K E_OutOfTimes) := by
  refine D.okX sc_want_within (fun vs H Q E h => ?_) (fun f cdv A outer s H vs Q E hr h => ?_)
  · obtain ⟨wa, b, w', m, rfl, ha, m0, m1, w0, w1, b0, b1, q, e⟩ := h
    rfl
  · obtain ⟨wa, b, w', m, rfl, ha, m0, m1, w0, w1, b0, b1, q, e⟩ := h
    refine ⟨_, (pss_cons (ps_asg (pv 0) (pgK_tup K (n := 3) rfl (pgs_cons (pg_name (i := 1) sc_want_within.nd rfl (Or.inl rfl)) (pgs_cons (pg_name (i := 2) sc_want_within.nd rfl (Or.inl rfl)) (pgs_cons (pg_name (i := 3) sc_want_within.nd rfl (Or.inl rfl)) pgs_nil)))))
      (pss_one (ps_if (PW.pt (pw_or (pt_not (pt_val (pe_fn G_is_end hr (pa_cons (pv 1) pa_nil)))) (pw_or1 (pt_not (pt_val (pe_fn G_is_end hr (pa_cons (pe_op op_add (pv 1) (pe_op op_mulY (pv 2) (pv 3))) pa_nil)))))))
      (pss_one (ps_rs X_OutOfTimes (takes_of rfl rfl rfl rfl)))
      pss_nil))), ?_⟩
    refine r_start (σ' := [some (.ref wa), none, none, none]) rfl ?_
    walk_at "a"
    refine use_is_end (.int b) ?_
    by_cases hb : ¬ (-1099511627776 ≤ b ∧ b ≤ 1099511627776)
    · rw [endV_false hb]
      walk_at "a"
      exact e (by omega)
    have hb := Decidable.not_not.mp hb
    rw [endV_true hb]
    walk_at "a"
    refine use_is_end (.int _) ?_
    by_cases he : ¬ (-1099511627776 ≤ b + w' * m ∧ b + w' * m ≤ 1099511627776)
    · rw [endV_false he]
      walk_at "a"
      exact e (by omega)
    have he := Decidable.not_not.mp he
    rw [endV_true he]
    walk_at "a"
    exact q ⟨hb.1, hb.2, he.1, he.2⟩
end
abbrev BdW (b w m : Int) : Prop := 1 ≤ m ∧ m ≤ 1000 ∧ 1 ≤ w ∧ w ≤ 1000000000000000 ∧ -100000000000000000000000000000000000000000000000000000000000000000000 ≤ b ∧ b ≤ 100000000000000000000000000000000000000000000000000000000000000000000
theorem inW_of {b w m : Int} (h : InWin b w m) : InW b w m := by
  obtain ⟨h1, h2, h3, h4, h5, h6⟩ := h
  have : 0 ≤ w * m := Int.mul_nonneg (by omega) (by omega)
  exact ⟨h1, by omega, by omega, h2⟩
theorem inWin_of {b w m : Int} (h : InW b w m) (bd : BdW b w m) : InWin b w m := ⟨h.1, h.2.2.2, bd.2.2.1, bd.2.2.2.1, bd.1, bd.2.1⟩
theorem use_within {K : PySem.W.Frag} {X : Addr} {H : Hp} {Q : VK} {E : XK} {wa : Addr} {b w m : Int} (ha : SqT K H wa [.int b, .int w, .int m]) (bd : BdW b w m) (q : InWin b w m → Q .non H) (e : ¬ InW b w m → E (.ref X) none H) : sp_want_within K X [.ref wa] H Q E :=
  ⟨wa, b, w, m, rfl, ha, by have := bd.1; omega, by have := bd.2.1; omega, bd.2.2.1, by have := bd.2.2.2.1; omega, bd.2.2.2.2.1, bd.2.2.2.2.2, fun z => q (inWin_of z bd), e⟩
/-! making -/
def sp_v_init (K : PySem.W.Frag) (C CS X : Addr) : Sp := fun vs H Q E => ∃ (p dx wa : Addr) (a : SA) (c : Prs) (hs : List (Int × Prs)) (ts : List Int) (ws : List Watch) (z : Nat) (b w m : Int), vs = [.ref p, .ref a.p, .ref wa] ∧ H p = some (.ins C dx []) ∧ StoreAt K CS H a c hs ts ws z ∧ p ∉ a.all ∧ SqT K H wa [.int b, .int w, .int m] ∧ BdW b w m ∧
  (InWin b w m → ∀ kd H', H kd = none → Keep (At p) H H' → ViewAt K C H' p kd a.p c b w m [] ts.length 0 → Q .non H') ∧ (¬ InW b w m → E (.ref X) none H)
section
variable {P : Program} {w : World} {K : PySem.W.Frag} {mg : Str → Option Value} {base : Heap}
theorem ok_View___init (B : Blt mg) {A_View : Addr} (T_View : ClT K mg "View" A_View) (N_View_shown : NoAttr K A_View "shown") (N_View_window : NoAttr K A_View "window") (N_View_known : NoAttr K A_View "known") (N_View_heard : NoAttr K A_View "heard") (N_View_asked : NoAttr K A_View "asked") {A_Store : Addr} (T_Store : ClT K mg "Store" A_Store) (N_Store_heights : NoAttr K A_Store "heights") (N_Store_by_stretches : NoAttr K A_Store "by_stretches") (N_Store_deeds : NoAttr K A_Store "deeds") (N_Store_deed_times : NoAttr K A_Store "deed_times") (N_Store_watches : NoAttr K A_Store "watches") (D : PDef K A_View "View.__init__" s_View___init ["self", "store", "window"]) (G_want_within : Fn P w K mg base 2 "want_within" ["window"] (sp_want_within K E_OutOfTimes)) (G_Store_times : MFn P w K mg base 1 A_Store "times" ["self"] (sp_s_times K A_Store)) :
    PFn P w K mg base 3 A_View ["self", "store", "window"] (sp_v_init K A_View A_Store E_OutOfTimes) := by
  refine D.okX sc_View___init (fun vs H Q E h => ?_) (fun f cdv A outer s H vs Q E hr h => ?_)
  · obtain ⟨p, dx, wa, a, c, hs, ts, ws, z, b, w', m, rfl, ob, S, np, ha, bd, q, e⟩ := h
    rfl
  · obtain ⟨p, dx, wa, a, c, hs, ts, ws, z, b, w', m, rfl, ob, S, np, ha, bd, q, e⟩ := h
    refine ⟨_, (pss_cons (ps_expr (pe_fnX G_want_within hr (takes_of rfl rfl rfl rfl) (pa_cons (pv 2) pa_nil)))
      (pss_cons (psK_fld K (pv 0) (pv 1))
      (pss_cons (psK_fld K (pv 0) (pv 2))
      (pss_cons (psK_fld K (pv 0) pe_dnewK)
      (pss_cons (psK_fld K (pv 0) (pe_callB (crK K c_len) rfl B.len (by decide +kernel) (pa_cons (pe_meth0N G_Store_times hr T_Store.cl (pv 1)) pa_nil)))
      (pss_one (psK_fld K (pv 0) pe_int))))))), ?_⟩
    refine r_start (σ' := [some (.ref p), some (.ref a.p), some (.ref wa)]) rfl ?_
    walk_at "a"
    refine use_within ha bd (fun win => ?_) e
    walk_at "a"
    rename_i H1 k1 e1 H2 k2 e2 kd H3 n3 s3 e3 H4 k4 e4
    have k24 : Keep (At p) H2 H4 := (Keep.of_same s3).trans k4
    have k04 : Keep (At p) H H4 := (k1.trans k2).trans k24
    have t04 : TExt H H4 := k04.text fun b hb => by rw [show b = p from hb, ob]; trivial
    have S4 := S.other k04 t04 np
    have pk : kd ≠ p := fun z => by rw [z, e2] at n3; cases n3
    have ek := k4 _ _ e3 pk
    obtain ⟨dxs, obs⟩ := S4.ob
    walk_at "a"
    refine use_s_times S4 fun x5 H5 s5 e5 => ?_
    walk_at "a"
    rename_i H6 k6 e6 H7 k7 e7
    have k47 : Keep (At p) H4 H7 := ((Keep.of_same s5).trans k6).trans k7
    have t47 : TExt H4 H7 := k47.text fun b hb => by rw [show b = p from hb, e4]; trivial
    have nk : H kd = none := (k1.trans k2).back n3 pk
    refine q win kd H7 nk (k04.trans k47) ⟨⟨dx, wa, ?_, SqT.text (t04.trans t47) ha⟩, Known.nil (k47 _ _ ek pk), by simp, by simp, win⟩
    simpa using e7
end
theorem use_v_init {K : PySem.W.Frag} {C CS X : Addr} {H : Hp} {Q : VK} {E : XK} {p dx wa : Addr} {a : SA} {c : Prs} {hs : List (Int × Prs)} {ts : List Int} {ws : List Watch} {z : Nat} {b w m : Int} (ob : H p = some (.ins C dx [])) (S : StoreAt K CS H a c hs ts ws z) (np : p ∉ a.all) (ha : SqT K H wa [.int b, .int w, .int m]) (win : InWin b w m)
    (q : ∀ kd H', H kd = none → Keep (At p) H H' → ViewAt K C H' p kd a.p c b w m [] ts.length 0 → Q .non H') : sp_v_init K C CS X [.ref p, .ref a.p, .ref wa] H Q E :=
  ⟨p, dx, wa, a, c, hs, ts, ws, z, b, w, m, rfl, ob, S, np, ha, ⟨win.2.2.2.2.1, win.2.2.2.2.2, win.2.2.1, win.2.2.2.1, by have := win.1; omega, by have := (inW_of win).2.1; omega⟩, fun _ => q, fun n => absurd (inW_of win) n⟩
abbrev PK (p kd : Addr) : Addr → Prop := fun x => x = p ∨ x = kd
theorem pk_not {p kd : Addr} {l : List Addr} (h : p ∉ l ∧ kd ∉ l) : ∀ b ∈ l, ¬ PK p kd b := fun b hb z => by
  rcases z with z | z
  · exact h.1 (by rw [← z]; exact hb)
  · exact h.2 (by rw [← z]; exact hb)
local macro_rules | `(tactic| walk_at "call") => `(tactic| first
  | (with_reducible refine' r_dpopN ?_)
  | ((with_reducible refine' r_dpopNi ?hva ?_); (case hva => walk_at "lk"))
  | fail)
def sp_v_hear (K : PySem.W.Frag) (C CS : Addr) : Sp := fun vs H Q _ => ∃ (p kd : Addr) (a : SA) (c : Prs) (hs : List (Int × Prs)) (ts : List Int) (ws : List Watch) (z : Nat) (b w m : Int) (L : List Int) (n : Int), vs = [.ref p] ∧ StoreAt K CS H a c hs ts ws z ∧ p ∉ a.all ∧ ViewP K C H p kd a.p c b w m L ts n ∧
  ∀ H', Keep (PK p kd) H H' → ViewAt K C H' p kd a.p c b w m L ts.length n → Q .non H'
section
variable {P : Program} {w : World} {K : PySem.W.Frag} {mg : Str → Option Value} {base : Heap}
theorem ok_View_hear (B : Blt mg) {A_View : Addr} (T_View : ClT K mg "View" A_View) (N_View_shown : NoAttr K A_View "shown") (N_View_window : NoAttr K A_View "window") (N_View_known : NoAttr K A_View "known") (N_View_heard : NoAttr K A_View "heard") (N_View_asked : NoAttr K A_View "asked") {A_Store : Addr} (T_Store : ClT K mg "Store" A_Store) (N_Store_heights : NoAttr K A_Store "heights") (N_Store_by_stretches : NoAttr K A_Store "by_stretches") (N_Store_deeds : NoAttr K A_Store "deeds") (N_Store_deed_times : NoAttr K A_Store "deed_times") (N_Store_watches : NoAttr K A_Store "watches") (D : MDef K A_View "hear" "View.hear" s_View_hear ["self"]) (G_Store_times : MFn P w K mg base 1 A_Store "times" ["self"] (sp_s_times K A_Store)) (G_column_of : Fn P w K mg base 1 "column_of" ["window", "t"] (sp_column_of K)) :
    MFn P w K mg base 2 A_View "hear" ["self"] (sp_v_hear K A_View A_Store) := by
  refine D.ok sc_View_hear (fun vs H Q E h => ?_) (fun f cdv A outer s H vs Q E hr h => ?_)
  · obtain ⟨p, kd, a, c, hs, ts, ws, z, b, w', m, L, n, rfl, S, np, Vw, q⟩ := h
    rfl
  · obtain ⟨p, kd, a, c, hs, ts, ws, z, b, w', m, L, n, rfl, S, np, Vw, q⟩ := h
    refine ⟨_, (pss_cons (ps_set (i := 1) sc_View_hear.nd rfl (Or.inl rfl) (pe_meth0N G_Store_times hr T_Store.cl (peK_fld K (pv 0))))
      (pss_cons (ps_for PassesOwn.never rfl (piK_tup K (pe_slice (slK K sl_tupA) (pv 1) (po_some (peK_fld K (pv 0))) po_none)) (pg_name (i := 2) sc_View_hear.nd rfl (Or.inl rfl))
      (pss_one (ps_expr (pe_dpopN (peK_fld K (pv 0)) (pe_fn G_column_of hr (pa_cons (peK_fld K (pv 0)) (pa_cons (pv 2) pa_nil))) pe_non ⟨rfl, rfl, rfl, rfl⟩))))
      (pss_one (psK_fld K (pv 0) (pe_callB (crK K c_len) rfl B.len (by decide +kernel) (pa_cons (pv 1) pa_nil)))))), ?_⟩
    refine r_start (σ' := [some (.ref p), none, none]) rfl ?_
    obtain ⟨h, dx, wa, ob, hw, lh, kn⟩ := Vw.ob
    obtain ⟨dxs, obs⟩ := S.ob
    obtain ⟨h1, h2, h3, h4, h5, h6⟩ := Vw.win
    have pk := Vw.ne
    have pa : a.p ≠ p := fun z => np (by rw [← z]; exact mem_all.mpr (.inl rfl))
    walk_at "a"
    refine use_s_times S fun x1 H1 s1 e1 => ?_
    have ob1 := s1 _ _ ob
    walk_at "a"
    rename_i x2 H2 s2 e2
    rw [show cutV (ts.map V.int) (some (h : Int)) none = (ts.drop h).map V.int by rw [cutV_from, List.map_drop]] at e2
    have ob2 := s2 _ _ ob1
    have e12 := s2 _ _ e1
    have kn2 := kn.keep (F := No) (Keep.of_same (s1.trans s2)) (TExt.of_same (s1.trans s2)) (fun z => z)
    obtain ⟨kvs2, ek2⟩ := kn2.bd
    have tx : ∀ {H'}, Keep (At kd) H2 H' → TExt H2 H' := fun k => k.text fun b hb => by rw [show b = kd from hb, ek2]; trivial
    refine for_wk wk_tup (fun i σ H' => (∃ v1 : Option V, σ = [some (.ref p), some (.ref x1), v1]) ∧ Keep (At kd) H2 H' ∧ PKnown K H' kd c b w' m L ((ts.drop h).drop i)) ⟨⟨_, rfl⟩, Keep.refl _, by simpa using kn2⟩ (fun i σ H' _ z => SqT.text (tx z.2.1) e2) ?_ ?_
    · rintro i y σ H3 H3' hi ⟨⟨v1, rfl⟩, k3, kn3⟩ ⟨rfl, hy⟩
      obtain ⟨t, ht, rfl⟩ : ∃ t, (ts.drop h)[i]? = some t ∧ V.int t = y := by
        rw [List.getElem?_map] at hy
        cases e : (ts.drop h)[i]? with
        | none => rw [e] at hy; cases hy
        | some t => rw [e] at hy; exact ⟨t, rfl, by simpa using hy⟩
      have ed : (ts.drop h).drop i = t :: (ts.drop h).drop (i + 1) := by
        obtain ⟨hl, e⟩ := List.getElem?_eq_some_iff.mp ht
        rw [List.drop_eq_getElem_cons hl, e]
      rw [ed] at kn3
      obtain ⟨kvs, ek⟩ := kn3.bd
      have ob3 := k3 _ _ ob2 pk
      have hw3 := SqT.text ((TExt.of_same (s1.trans s2)).trans (tx k3)) hw
      walk_at "a"
      by_cases hc : (t - b) / w' < 0 ∨ (t - b) / w' ≥ m
      · rw [show colOf b w' m t = none from if_pos hc]
        refine r_popNn ek ?_
        walk_at "a"
        exact ⟨⟨_, rfl⟩, k3, kn3.skip (by omega)⟩
      · rw [show colOf b w' m t = some ((t - b) / w') from if_neg hc]
        refine r_popNi ek fun v H4 k4 e4 => ?_
        walk_at "a"
        exact ⟨⟨_, rfl⟩, k3.trans k4, kn3.pop ek k4 e4⟩
    · rintro σ H3 ⟨⟨v1, rfl⟩, k3, kn3⟩
      rw [List.drop_of_length_le (by rw [List.length_map]; exact Nat.le_refl _)] at kn3
      have ob3 := k3 _ _ ob2 pk
      have e13 := k3 _ _ e12 (fun z => by rw [z, ek2] at e12; cases e12)
      have hw3 := SqT.text ((TExt.of_same (s1.trans s2)).trans (tx k3)) hw
      walk_at "a"
      rename_i H4 k4 e4
      have k04 : Keep (PK p kd) H H4 := fun x o e nx => k4 _ _ (k3 _ _ (s2 _ _ (s1 _ _ e)) fun z => nx (.inr z)) fun z => nx (.inl z)
      have t34 : TExt H3 H4 := k4.text fun b hb => by rw [show b = p from hb, ob3]; trivial
      exact q H4 k04 ⟨⟨dx, wa, by simpa using e4, SqT.text t34 hw3⟩, kn3.known.keep k4 t34 (Ne.symm pk), Vw.nd, Vw.inr, Vw.win⟩
end
theorem use_v_hear {K : PySem.W.Frag} {C CS : Addr} {H : Hp} {Q : VK} {E : XK} {p kd : Addr} {a : SA} {c : Prs} {hs : List (Int × Prs)} {ts : List Int} {ws : List Watch} {z : Nat} {b w m : Int} {L : List Int} {n : Int} (S : StoreAt K CS H a c hs ts ws z) (np : p ∉ a.all) (Vw : ViewP K C H p kd a.p c b w m L ts n)
    (q : ∀ H', Keep (PK p kd) H H' → ViewAt K C H' p kd a.p c b w m L ts.length n → Q .non H') : sp_v_hear K C CS [.ref p] H Q E := ⟨p, kd, a, c, hs, ts, ws, z, b, w, m, L, n, rfl, S, np, Vw, q⟩
def sp_v_learn (K : PySem.W.Frag) (C CS : Addr) : Sp := fun vs H Q _ => ∃ (p kd : Addr) (a : SA) (c : Prs) (hs : List (Int × Prs)) (ts : List Int) (ws : List Watch) (z : Nat) (b w m : Int) (L : List Int) (n k : Int) (h : Nat), vs = [.ref p, .int k] ∧ StoreAt K CS H a c hs ts ws z ∧ (p ∉ a.all ∧ kd ∉ a.all) ∧ ViewAt K C H p kd a.p c b w m L h n ∧ 0 ≤ k ∧ k < m ∧ k ∉ L ∧
  ∀ H', Keep (PK p kd) H H' → ViewAt K C H' p kd a.p c b w m (L ++ [k]) h (n + 1) → Q .non H'
section
variable {P : Program} {w : World} {K : PySem.W.Frag} {mg : Str → Option Value} {base : Heap}
theorem ok_View_learn (B : Blt mg) {A_View : Addr} (T_View : ClT K mg "View" A_View) (N_View_shown : NoAttr K A_View "shown") (N_View_window : NoAttr K A_View "window") (N_View_known : NoAttr K A_View "known") (N_View_heard : NoAttr K A_View "heard") (N_View_asked : NoAttr K A_View "asked") {A_Store : Addr} (T_Store : ClT K mg "Store" A_Store) (N_Store_heights : NoAttr K A_Store "heights") (N_Store_by_stretches : NoAttr K A_Store "by_stretches") (N_Store_deeds : NoAttr K A_Store "deeds") (N_Store_deed_times : NoAttr K A_Store "deed_times") (N_Store_watches : NoAttr K A_Store "watches") (D : MDef K A_View "learn" "View.learn" s_View_learn ["self", "k"]) (G_times_of : Fn P w K mg base 2 "times_of" ["window", "k"] (sp_times_of K E_NoColumn)) (G_Store_four : MFn P w K mg base 3 A_Store "four" ["self", "begin", "end"] (sp_s_four K A_Store E_OutOfTimes)) :
    MFn P w K mg base 4 A_View "learn" ["self", "k"] (sp_v_learn K A_View A_Store) := by
  refine D.ok sc_View_learn (fun vs H Q E h => ?_) (fun f cdv A outer s H vs Q E hr h => ?_)
  · obtain ⟨p, kd, a, c, hs, ts, ws, z, b, w', m, L, n, k, h, rfl, S, np, Vw, k0, k1, nk, q⟩ := h
    rfl
  · obtain ⟨p, kd, a, c, hs, ts, ws, z, b, w', m, L, n, k, h, rfl, S, np, Vw, k0, k1, nk, q⟩ := h
    refine ⟨_, (pss_cons (ps_asg (pe_fn G_times_of hr (pa_cons (peK_fld K (pv 0)) (pa_cons (pv 1) pa_nil))) (pgK_tup K (n := 2) rfl (pgs_cons (pg_name (i := 2) sc_View_learn.nd rfl (Or.inl rfl)) (pgs_cons (pg_name (i := 3) sc_View_learn.nd rfl (Or.inl rfl)) pgs_nil))))
      (pss_cons (ps_dput (hu_of hr) (peK_fld K (pv 0)) (pv 1) (pe_methN G_Store_four hr T_Store.cl (peK_fld K (pv 0)) (pa_cons (pv 2) (pa_cons (pv 3) pa_nil))) rfl)
      (pss_one (psK_fldaug K (pv 0) pe_int in_add)))), ?_⟩
    refine r_start (σ' := [some (.ref p), some (.int k), none, none]) rfl ?_
    obtain ⟨dx, wa, ob, hw⟩ := Vw.ob
    obtain ⟨h1, h2, h3, h4, h5, h6⟩ := Vw.win
    have lL := Vw.len
    have pk := Vw.ne
    have pa : a.p ≠ p := fun z => np.1 (by rw [← z]; exact mem_all.mpr (.inl rfl))
    have g0 : 0 ≤ k * w' := Int.mul_nonneg (by omega) (by omega)
    have g1 : (k + 1) * w' ≤ m * w' := Int.mul_le_mul_of_nonneg_right (by omega) (by omega)
    rw [Int.add_mul, Int.one_mul, Int.mul_comm m] at g1
    walk_at "a"
    rename_i x1 H1 s1 e1
    have S1 := S.same s1
    obtain ⟨dxs, obs⟩ := S1.ob
    have ob1 := s1 _ _ ob
    walk_at "a"
    refine use_s_four S1 ⟨by omega, by omega, by omega, by omega⟩ fun v H2 s2 d2 => ?_
    have ob2 := s2 _ _ ob1
    have knx := (Vw.same (s1.trans s2)).kn
    obtain ⟨kvs, e, l, f1, f2⟩ := knx.ex
    walk_at "a"
    refine r_dputV e (by omega) fun H3 k3 e3 => ?_
    have kn3 := knx.put e k3 e3 d2
    have ob3 := k3 _ _ ob2 pk
    walk_at "a"
    rename_i H4 k4 e4
    have k04 : Keep (PK p kd) H H4 := (((Keep.of_same (s1.trans s2)).trans (k3.mono fun b h => .inr h)).trans (k4.mono fun b h => .inl h))
    have t34 : TExt H3 H4 := k4.text fun b hb => by rw [show b = p from hb, ob3]; trivial
    refine q H4 k04 ⟨⟨dx, wa, by simpa using e4, SqT.text (Vw.text k04) hw⟩, kn3.keep k4 t34 (Ne.symm pk), ?_, fun j hj => ?_, Vw.win⟩
    · refine List.nodup_append.mpr ⟨Vw.nd, by simp, fun x hx y hy => ?_⟩
      rw [List.mem_singleton.mp hy]
      exact fun z => nk (by rw [← z]; exact hx)
    · rcases List.mem_append.mp hj with hj | hj
      · exact Vw.inr j hj
      · rw [List.mem_singleton.mp hj]; exact ⟨k0, k1⟩
end
theorem use_v_learn {K : PySem.W.Frag} {C CS : Addr} {H : Hp} {Q : VK} {E : XK} {p kd : Addr} {a : SA} {c : Prs} {hs : List (Int × Prs)} {ts : List Int} {ws : List Watch} {z : Nat} {b w m : Int} {L : List Int} {n k : Int} {h : Nat} (S : StoreAt K CS H a c hs ts ws z) (np : p ∉ a.all ∧ kd ∉ a.all) (Vw : ViewAt K C H p kd a.p c b w m L h n) (hk : 0 ≤ k ∧ k < m) (nk : k ∉ L)
    (q : ∀ H', Keep (PK p kd) H H' → ViewAt K C H' p kd a.p c b w m (L ++ [k]) h (n + 1) → Q .non H') : sp_v_learn K C CS [.ref p, .int k] H Q E := ⟨p, kd, a, c, hs, ts, ws, z, b, w, m, L, n, k, h, rfl, S, np, Vw, hk.1, hk.2, nk, q⟩
def sp_v_fours (K : PySem.W.Frag) (C CS : Addr) : Sp := fun vs H Q _ => ∃ (p kd : Addr) (a : SA) (c : Prs) (hs : List (Int × Prs)) (ts : List Int) (ws : List Watch) (z : Nat) (b w m : Int) (L : List Int) (n : Int), vs = [.ref p] ∧ StoreAt K CS H a c hs ts ws z ∧ (p ∉ a.all ∧ kd ∉ a.all) ∧ ViewP K C H p kd a.p c b w m L ts n ∧
  ∀ v L' H', Keep (PK p kd) H H' → (∀ k, 0 ≤ k → k < m → k ∈ L') → ViewAt K C H' p kd a.p c b w m L' ts.length (n + (m - L.length)) → Dp K H' v (foursDS c b w m.toNat) → Q v H'
section
variable {P : Program} {w : World} {K : PySem.W.Frag} {mg : Str → Option Value} {base : Heap}
theorem ok_View_fours (B : Blt mg) {A_View : Addr} (T_View : ClT K mg "View" A_View) (N_View_shown : NoAttr K A_View "shown") (N_View_window : NoAttr K A_View "window") (N_View_known : NoAttr K A_View "known") (N_View_heard : NoAttr K A_View "heard") (N_View_asked : NoAttr K A_View "asked") {A_Store : Addr} (T_Store : ClT K mg "Store" A_Store) (N_Store_heights : NoAttr K A_Store "heights") (N_Store_by_stretches : NoAttr K A_Store "by_stretches") (N_Store_deeds : NoAttr K A_Store "deeds") (N_Store_deed_times : NoAttr K A_Store "deed_times") (N_Store_watches : NoAttr K A_Store "watches") (D : MDef K A_View "fours" "View.fours" s_View_fours ["self"]) (G_View_hear : MFn P w K mg base 2 A_View "hear" ["self"] (sp_v_hear K A_View A_Store)) (G_View_learn : MFn P w K mg base 4 A_View "learn" ["self", "k"] (sp_v_learn K A_View A_Store)) :
    MFn P w K mg base 5 A_View "fours" ["self"] (sp_v_fours K A_View A_Store) := by
  refine D.ok sc_View_fours (fun vs H Q E h => ?_) (fun f cdv A outer s H vs Q E hr h => ?_)
  · obtain ⟨p, kd, a, c, hs, ts, ws, z, b, w', m, L, n, rfl, S, np, Vw, q⟩ := h
    rfl
  · obtain ⟨p, kd, a, c, hs, ts, ws, z, b, w', m, L, n, rfl, S, np, Vw, q⟩ := h
    refine ⟨_, (pss_cons (ps_expr (pe_meth0N G_View_hear hr T_View.cl (pv 0)))
      (pss_cons (ps_for PassesOwn.never rfl (pi_range1 rfl B.range (pa_cons (pe_ix (ixK K ix_seq) (peK_fld K (pv 0)) pe_int (fun _ _ => rfl)) pa_nil)) (pg_name (i := 1) sc_View_fours.nd rfl (Or.inl rfl))
      (pss_one (ps_if (pt_cmp (pc_dnotin (hu_of hr) (pv 1) (peK_fld K (pv 0))))
      (pss_one (ps_expr (pe_methN G_View_learn hr T_View.cl (pv 0) (pa_cons (pv 1) pa_nil))))
      pss_nil)))
      (pss_one (ps_ret (pe_callTy (crK K c_tuple) rfl B.tuple (by decide +kernel) (pa_cons (pe_lc (own := [("k", 1)]) (g := gName 1) (tt := tYes) rfl sc_View_fours.nd (pi_range1 rfl B.range (pa_cons (pe_ix (ixK K ix_seq) (peK_fld K (pv 0)) pe_int (fun _ _ => rfl)) pa_nil)) (blkOk_by (N := ["self", "k"]) (sc := defScope s_View_fours) (by decide +kernel)) (fun _ _ _ _ _ => (pg_name (i := 1) sc_View_fours.nd rfl (Or.inl rfl))) (fun _ _ _ _ _ => pts_nil) (fun _ _ _ _ _ => (pe_dget (hu_of hr) (peK_fld K (pv 0)) (pv 1) (fun _ _ => rfl)))) pa_nil)))))), ?_⟩
    refine r_start (σ' := [some (.ref p), none]) rfl ?_
    obtain ⟨h0, dx0, wa0, ob0, hw0, lh0, kn0⟩ := Vw.ob
    walk_at "a"
    refine use_v_hear S np.1 Vw fun H1 k1 V1 => ?_
    have S1 := S.keep k1 (Vw.text k1) (pk_not np)
    obtain ⟨dx, wa, ob, hw⟩ := V1.ob
    obtain ⟨h1, h2, h3, h4, h5, h6⟩ := V1.win
    walk_at "a"
    refine for_wk wk_rng (fun i σ H' => (∃ v1 : Option V, σ = [some (.ref p), v1]) ∧ Keep (PK p kd) H1 H' ∧ ∃ L', ViewAt K A_View H' p kd a.p c b w' m L' ts.length (n + (L'.length - L.length)) ∧ ∀ k, 0 ≤ k → k < (i : Int) → k ∈ L')
      ⟨⟨_, rfl⟩, Keep.refl _, L, by rw [Int.sub_self, Int.add_zero]; exact V1, fun k k0 k1 => by omega⟩ (fun _ _ _ _ _ => trivial) ?_ ?_
    · rintro i y σ H2 H2' hi ⟨⟨v1, rfl⟩, k2, L', V2, all2⟩ ⟨rfl, rfl⟩
      rw [Int.zero_add (i : Int)]
      obtain ⟨dx2, wa2, ob2, hw2⟩ := V2.ob
      obtain ⟨kvs, e, l, f1, f2⟩ := V2.kn.ex
      have S2 := S1.keep k2 (V1.text k2) (pk_not np)
      walk_at "a"
      refine r_dnotinV e ?_
      by_cases hk : (i : Int) ∈ L'
      · obtain ⟨x, g1, g2⟩ := f1 _ hk
        rw [g1]
        walk_at "a"
        rw [if_neg (by simp)]
        walk_at "a"
        refine ⟨⟨_, rfl⟩, k2, L', V2, fun k k0 k1 => ?_⟩
        by_cases z : k = i
        · rw [z]; exact hk
        · exact all2 k k0 (by omega)
      · rw [f2 _ hk]
        walk_at "a"
        rw [if_pos (show (!(none : Option V).isSome) = true from rfl)]
        walk_at "a"
        refine use_v_learn S2 np V2 ⟨by omega, by omega⟩ hk fun H3 k3 V3 => ?_
        refine ⟨⟨_, rfl⟩, k2.trans k3, L' ++ [(i : Int)], ?_, fun k k0 k1 => ?_⟩
        · have : n + ((L' ++ [(i : Int)]).length - L.length : Int) = n + (L'.length - L.length) + 1 := by rw [List.length_append, List.length_singleton]; omega
          rw [this]
          exact V3
        · by_cases z : k = i
          · rw [z]; simp
          · exact List.mem_append_left _ (all2 k k0 (by omega))
    · rintro σ H2 ⟨⟨v1, rfl⟩, k2, L', V2, all2⟩
      have all3 : ∀ k, 0 ≤ k → k < m → k ∈ L' := fun k k0 k1 => all2 k k0 (by omega)
      have lL := all_known V2.nd V2.inr all3
      obtain ⟨dx2, wa2, ob2, hw2⟩ := V2.ob
      obtain ⟨kvs, e, l, f1, f2⟩ := V2.kn.ex
      walk_at "a"
      refine lc_rngD (K := K) (by omega) (fun _ => true) (fun k => fourD (fourL (colP c b w' (k : Int)))) (fun _ => imm_four _) (fun k H5 S' N hk s5 g1 g2 => ?_) (fun D H5 ys hD s5 e5 p5 => ?_)
      · refine r_gname ⟨wipe_one, ?_⟩
        rw [Int.zero_add (k : Int)]
        obtain ⟨x, x1, x2⟩ := f1 k (all3 _ (by omega) (by omega))
        have ob5 := s5 _ _ ob2
        walk_at "a"
        try refine r_dget ?_
        walk_at "a"
        refine r_dgetV (s5 _ _ e) x1 ?_
        exact g1 rfl _ _ (Same.refl _) (Dp.same s5 _ _ x2)
      · rw [Fp.filter_all] at p5
        walk_at "a"
        rename_i p6 H6 n6 s6 e6
        have s26 := s5.trans s6
        refine q _ L' H6 ((k1.trans k2).trans (Keep.of_same s26)) all3 ?_ (.tup (SqT.of e6) ?_)
        · have := V2.same s26
          rw [show n + (m - L.length : Int) = n + (L'.length - L.length) by omega]
          exact this
        · unfold foursS
          rw [List.map_map]
          exact DpAll.same s6 _ _ p5
end
theorem use_v_fours {K : PySem.W.Frag} {C CS : Addr} {H : Hp} {Q : VK} {E : XK} {p kd : Addr} {a : SA} {c : Prs} {hs : List (Int × Prs)} {ts : List Int} {ws : List Watch} {z : Nat} {b w m : Int} {L : List Int} {n : Int} (S : StoreAt K CS H a c hs ts ws z) (np : p ∉ a.all ∧ kd ∉ a.all) (Vw : ViewP K C H p kd a.p c b w m L ts n)
    (q : ∀ v L' H', Keep (PK p kd) H H' → (∀ k, 0 ≤ k → k < m → k ∈ L') → ViewAt K C H' p kd a.p c b w m L' ts.length (n + (m - L.length)) → Dp K H' v (foursDS c b w m.toNat) → Q v H') : sp_v_fours K C CS [.ref p] H Q E := ⟨p, kd, a, c, hs, ts, ws, z, b, w, m, L, n, rfl, S, np, Vw, q⟩
abbrev BdV (b w m : Int) : Prop := BdW b w m
def sp_v_go (K : PySem.W.Frag) (C CS X : Addr) : Sp := fun vs H Q E => ∃ (p kd wb : Addr) (a : SA) (c : Prs) (hs : List (Int × Prs)) (ts : List Int) (ws : List Watch) (z : Nat) (b w m : Int) (L : List Int) (n ob ow om : Int), vs = [.ref p, .ref wb] ∧ StoreAt K CS H a c hs ts ws z ∧ (p ∉ a.all ∧ kd ∉ a.all) ∧ ViewP K C H p kd a.p c b w m L ts n ∧ SqT K H wb [.int ob, .int ow, .int om] ∧ BdW ob ow om ∧
  (InWin ob ow om → ∀ kd' H', H kd' = none → Keep (PK p kd) H H' → ViewAt K C H' p kd' a.p c ob ow om (goL L b w ob ow m.toNat om) ts.length n → Q .non H') ∧ (¬ InW ob ow om → E (.ref X) none H)
section
variable {P : Program} {w : World} {K : PySem.W.Frag} {mg : Str → Option Value} {base : Heap}
theorem ok_View_go (B : Blt mg) {A_View : Addr} (T_View : ClT K mg "View" A_View) (N_View_shown : NoAttr K A_View "shown") (N_View_window : NoAttr K A_View "window") (N_View_known : NoAttr K A_View "known") (N_View_heard : NoAttr K A_View "heard") (N_View_asked : NoAttr K A_View "asked") {A_Store : Addr} (T_Store : ClT K mg "Store" A_Store) (N_Store_heights : NoAttr K A_Store "heights") (N_Store_by_stretches : NoAttr K A_Store "by_stretches") (N_Store_deeds : NoAttr K A_Store "deeds") (N_Store_deed_times : NoAttr K A_Store "deed_times") (N_Store_watches : NoAttr K A_Store "watches") (D : MDef K A_View "go" "View.go" s_View_go ["self", "window"]) (G_want_within : Fn P w K mg base 2 "want_within" ["window"] (sp_want_within K E_OutOfTimes)) (G_View_hear : MFn P w K mg base 2 A_View "hear" ["self"] (sp_v_hear K A_View A_Store)) (G_shared : Fn P w K mg base 1 "shared" ["one", "other"] (sp_shared K)) :
    MFn P w K mg base 3 A_View "go" ["self", "window"] (sp_v_go K A_View A_Store E_OutOfTimes) := by
  refine D.okX sc_View_go (fun vs H Q E h => ?_) (fun f cdv A outer s H vs Q E hr h => ?_)
  · obtain ⟨p, kd, wb, a, c, hs, ts, ws, z, b, w', m, L, n, ob', ow, om, rfl, S, np, Vw, ha, bd, q, e⟩ := h
    rfl
  · obtain ⟨p, kd, wb, a, c, hs, ts, ws, z, b, w', m, L, n, ob', ow, om, rfl, S, np, Vw, ha, bd, q, e⟩ := h
    refine ⟨_, (pss_cons (ps_expr (pe_fnX G_want_within hr (takes_of rfl rfl rfl rfl) (pa_cons (pv 1) pa_nil)))
      (pss_cons (ps_expr (pe_meth0N G_View_hear hr T_View.cl (pv 0)))
      (pss_cons (ps_set (i := 2) sc_View_go.nd rfl (Or.inl rfl) pe_dnewK)
      (pss_cons (ps_for (passes_of rfl) rfl (piK_tup K (pe_fn G_shared hr (pa_cons (peK_fld K (pv 0)) (pa_cons (pv 1) pa_nil)))) (pgK_tup K (n := 2) rfl (pgs_cons (pg_name (i := 3) sc_View_go.nd rfl (Or.inl rfl)) (pgs_cons (pg_name (i := 4) sc_View_go.nd rfl (Or.inl rfl)) pgs_nil)))
      (pss_one (ps_if (pt_cmp (pc_din (hu_of hr) (pv 3) (peK_fld K (pv 0))))
      (pss_one (ps_dput (hu_of hr) (pv 2) (pv 4) (pe_dget (hu_of hr) (peK_fld K (pv 0)) (pv 3) (fun _ _ => rfl)) rfl))
      pss_nil)))
      (pss_cons (psK_fld K (pv 0) (pv 1))
      (pss_one (psK_fld K (pv 0) (pv 2)))))))), ?_⟩
    refine r_start (σ' := [some (.ref p), some (.ref wb), none, none, none]) rfl ?_
    obtain ⟨h0, dx0, wa0, ob0, hw0, lh0, kn0⟩ := Vw.ob
    walk_at "a"
    refine use_within ha bd (fun win => ?_) e
    walk_at "a"
    refine use_v_hear S np.1 Vw fun H1 k1 V1 => ?_
    have t1 := Vw.text k1
    obtain ⟨dx, wa, ob, hw⟩ := V1.ob
    obtain ⟨h1, h2, h3, h4, h5, h6⟩ := V1.win
    walk_at "a"
    rename_i kn H2 n2 s2 e2
    have ha2 := SqT.text (t1.trans (TExt.of_same s2)) ha
    have hw2 := SqT.text (TExt.of_same s2) hw
    refine use_shared hw2 ha2 ⟨by omega, by omega, by omega, by omega⟩ fun x3 H3 s3 d3 => ?_
    obtain ⟨x3', ws3, ex3, hx3, hw3⟩ := dp_tup d3
    cases ex3
    have e3 := s3 _ _ e2
    have V3 := V1.same (s2.trans s3)
    have ob3 := s3 _ _ (s2 _ _ ob)
    have pkn : p ≠ kn := ne_of_none ob n2
    obtain ⟨kvs, e, l, f1, f2⟩ := V3.kn.ex
    have kkn : kd ≠ kn := fun z => by
      obtain ⟨_, e1, _⟩ := V1.kn.ex
      rw [← z, e1] at n2
      cases n2
    obtain ⟨sh, hsh⟩ : ∃ sh, sh = shareL b w' ob' ow m.toNat om := ⟨_, rfl⟩
    rw [← hsh] at hw3
    have hwl : ws3.length = sh.length := by rw [dpAll_len hw3, List.length_map]
    have shl : sh.length ≤ 1000 := by
      rw [hsh]
      unfold shareL
      split
      · simp
      · rw [List.length_map]
        refine Nat.le_trans (List.length_filter_le _ _) ?_
        simp
        omega
    walk_at "a"
    refine for_wk wk_tup (fun i σ H' => (∃ v1 v2 : Option V, σ = [some (.ref p), some (.ref wb), some (.ref kn), v1, v2]) ∧ Keep (At kn) H3 H' ∧ TExt H3 H' ∧ Known K H' kn c ob' ow (((sh.take i).filter fun p => decide (p.1 ∈ L)).map (·.2)))
      ⟨⟨_, _, rfl⟩, Keep.refl _, TExt.refl _, Known.nil e3⟩ (fun i σ H' _ z => SqT.text z.2.2.1 hx3) ?_ ?_
    · rintro i y σ H4 H4' hi ⟨⟨v1, v2, rfl⟩, k4, t4, K4⟩ ⟨rfl, hy⟩
      obtain ⟨pr, hpr, dy⟩ := dpAll_map_at (DpAll.text t4 _ _ (imm_all _) hw3) hy
      obtain ⟨px, rfl, hpx⟩ := dp_pair dy
      have ob4 := k4 _ _ ob3 pkn
      have e4 := k4 _ _ e kkn
      have hmem := (mem_share (by omega : 0 < w')).mp (show pr ∈ shareL b w' ob' ow m.toNat om by rw [← hsh]; exact List.mem_of_getElem? hpr)
      rw [take_snoc hpr, List.filter_append, List.map_append]
      walk_at "a"
      refine r_dinV e4 ?_
      by_cases hk : pr.1 ∈ L
      · obtain ⟨x, g1, g2⟩ := f1 _ hk
        rw [g1]
        walk_at "a"
        rw [if_pos (show (some x).isSome = true from rfl)]
        walk_at "a"
        refine r_dgetV e4 g1 ?_
        walk_at "a"
        obtain ⟨kvs4, m4, l4, f14, f24⟩ := K4.ex
        have l5 : kvs4.length ≤ 1000 := by
          refine Nat.le_trans l4 ?_
          rw [List.length_map]
          exact Nat.le_trans (List.length_filter_le _ _) (Nat.le_trans (List.length_take_le _ _) (by omega))
        refine r_dputV m4 (by omega) fun H5 k5 e5 => ?_
        have t5 : TExt H4' H5 := k5.text fun b hb => by rw [show b = kn from hb, m4]; trivial
        refine ⟨⟨_, _, rfl⟩, k4.trans k5, t4.trans t5, ?_⟩
        have ec : colP c ob' ow pr.2 = colP c b w' pr.1 := by
          unfold colP
          rw [← hmem.2.2.2.2.1, ← hmem.2.2.2.2.2]
        have g2' := Dp.text t4 _ _ (imm_four _) g2
        rw [← ec] at g2'
        have := K4.put m4 k5 e5 g2'
        rw [show ([pr].filter fun p => decide (p.1 ∈ L)) = [pr] by simp [hk]]
        exact this
      · rw [f2 _ hk]
        walk_at "a"
        try rw [if_neg (by simp)]
        walk_at "a"
        refine ⟨⟨_, _, rfl⟩, k4, t4, ?_⟩
        rw [show ([pr].filter fun p => decide (p.1 ∈ L)) = [] by simp [hk], List.map_nil, List.append_nil]
        exact K4
    · rintro σ H4 ⟨⟨v1, v2, rfl⟩, k4, t4, K4⟩
      rw [List.take_of_length_le (by omega)] at K4
      have ob4 := k4 _ _ ob3 pkn
      walk_at "a"
      rename_i H5 k5 e5 H6 k6 e6
      have k46 : Keep (At p) H4 H6 := k5.trans k6
      have t46 : TExt H4 H6 := k46.text fun b hb => by rw [show b = p from hb, ob4]; trivial
      have nk : H kn = none := k1.back n2 (fun z => z.elim (Ne.symm pkn) (Ne.symm kkn))
      have kA : Keep (PK p kd) H H6 := fun x o ex nx => k46 _ _ (k4 _ _ (s3 _ _ (s2 _ _ (k1 _ _ ex nx))) (ne_of_none ex nk)) fun z => nx (.inl z)
      refine q win kn H6 nk kA ⟨⟨dx, wb, by simpa using e6, SqT.text (((TExt.of_same s3).trans t4).trans t46) ha2⟩, ?_, goL_nd .., fun j hj => ?_, win⟩
      · unfold goL
        rw [← hsh]
        exact K4.keep k46 t46 (Ne.symm pkn)
      · obtain ⟨k, _, _, _, j0, j1, _⟩ := (goL_mem (by omega)).mp hj
        exact ⟨j0, j1⟩
end
theorem use_v_go {K : PySem.W.Frag} {C CS X : Addr} {H : Hp} {Q : VK} {E : XK} {p kd wb : Addr} {a : SA} {c : Prs} {hs : List (Int × Prs)} {ts : List Int} {ws : List Watch} {z : Nat} {b w m : Int} {L : List Int} {n ob ow om : Int} (S : StoreAt K CS H a c hs ts ws z) (np : p ∉ a.all ∧ kd ∉ a.all) (Vw : ViewP K C H p kd a.p c b w m L ts n) (ha : SqT K H wb [.int ob, .int ow, .int om]) (bd : BdW ob ow om)
    (q : InWin ob ow om → ∀ kd' H', H kd' = none → Keep (PK p kd) H H' → ViewAt K C H' p kd' a.p c ob ow om (goL L b w ob ow m.toNat om) ts.length n → Q .non H') (e : ¬ InW ob ow om → E (.ref X) none H) : sp_v_go K C CS X [.ref p, .ref wb] H Q E := ⟨p, kd, wb, a, c, hs, ts, ws, z, b, w, m, L, n, ob, ow, om, rfl, S, np, Vw, ha, bd, q, e⟩
def sp_v_on (K : PySem.W.Frag) (C CS X : Addr) : Sp := fun vs H Q E => ∃ (p kd : Addr) (a : SA) (c : Prs) (hs : List (Int × Prs)) (ts : List Int) (ws : List Watch) (z : Nat) (b w m : Int) (L : List Int) (n s : Int), vs = [.ref p, .int s] ∧ StoreAt K CS H a c hs ts ws z ∧ (p ∉ a.all ∧ kd ∉ a.all) ∧ ViewP K C H p kd a.p c b w m L ts n ∧ (-10000000000000000 ≤ s ∧ s ≤ 10000000000000000) ∧
  (InWin (b + s * w) w m → ∀ kd' H', H kd' = none → Keep (PK p kd) H H' → ViewAt K C H' p kd' a.p c (b + s * w) w m (goL L b w (b + s * w) w m.toNat m) ts.length n → Q .non H') ∧ (¬ InW (b + s * w) w m → ∀ H', Same H H' → E (.ref X) none H')
section
variable {P : Program} {w : World} {K : PySem.W.Frag} {mg : Str → Option Value} {base : Heap}
theorem ok_View_on (B : Blt mg) {A_View : Addr} (T_View : ClT K mg "View" A_View) (N_View_shown : NoAttr K A_View "shown") (N_View_window : NoAttr K A_View "window") (N_View_known : NoAttr K A_View "known") (N_View_heard : NoAttr K A_View "heard") (N_View_asked : NoAttr K A_View "asked") {A_Store : Addr} (T_Store : ClT K mg "Store" A_Store) (N_Store_heights : NoAttr K A_Store "heights") (N_Store_by_stretches : NoAttr K A_Store "by_stretches") (N_Store_deeds : NoAttr K A_Store "deeds") (N_Store_deed_times : NoAttr K A_Store "deed_times") (N_Store_watches : NoAttr K A_Store "watches") (D : MDef K A_View "on" "View.on" s_View_on ["self", "c"]) (G_View_go : MFn P w K mg base 3 A_View "go" ["self", "window"] (sp_v_go K A_View A_Store E_OutOfTimes)) (G_moved : Fn P w K mg base 1 "moved" ["window", "c"] (sp_moved K)) :
    MFn P w K mg base 4 A_View "on" ["self", "c"] (sp_v_on K A_View A_Store E_OutOfTimes) := by
  refine D.okX sc_View_on (fun vs H Q E h => ?_) (fun f cdv A outer s H vs Q E hr h => ?_)
  · obtain ⟨p, kd, a, c, hs, ts, ws, z, b, w', m, L, n, s', rfl, S, np, Vw, ⟨s0, s1⟩, q, e⟩ := h
    rfl
  · obtain ⟨p, kd, a, c, hs, ts, ws, z, b, w', m, L, n, s', rfl, S, np, Vw, ⟨s0, s1⟩, q, e⟩ := h
    refine ⟨_, (pss_one (ps_expr (pe_methX G_View_go hr T_View.cl (takes_of rfl rfl rfl rfl) (pv 0) (pa_cons (pe_fn G_moved hr (pa_cons (peK_fld K (pv 0)) (pa_cons (pv 1) pa_nil))) pa_nil)))), ?_⟩
    refine r_start (σ' := [some (.ref p), some (.int s')]) rfl ?_
    obtain ⟨h0, dx0, wa0, ob0, hw0, lh0, kn0⟩ := Vw.ob
    obtain ⟨h1, h2, h3, h4, h5, h6⟩ := Vw.win
    have h7 := (inW_of Vw.win).2.1
    have a1 : s' * w' ≤ 10000000000000000 * 1000000000000000 := by
      rcases Int.le_total 0 s' with z | z
      · exact Int.mul_le_mul (by omega) (by omega) (by omega) (by omega)
      · have : s' * w' ≤ 0 := Int.mul_nonpos_of_nonpos_of_nonneg z (by omega)
        omega
    have a2 : -(10000000000000000 * 1000000000000000) ≤ s' * w' := by
      have : (-s') * w' ≤ 10000000000000000 * 1000000000000000 := by
        rcases Int.le_total 0 (-s') with z | z
        · exact Int.mul_le_mul (by omega) (by omega) (by omega) (by omega)
        · have : (-s') * w' ≤ 0 := Int.mul_nonpos_of_nonpos_of_nonneg z (by omega)
          omega
      rw [Int.neg_mul] at this
      omega
    walk_at "a"
    rename_i wb H1 s1' e1
    refine use_v_go (S.same s1') np (Vw.same s1') (SqT.of e1) ⟨h5, h6, h3, h4, by omega, by omega⟩ (fun win kd' H' nk k V' => ?_) (fun nw => e nw _ s1')
    have nk0 : H kd' = none := (Keep.of_same (F := No) s1').back nk (fun z => z)
    exact q win kd' H' nk0 ((Keep.of_same s1').trans k) V'
end
theorem use_v_on {K : PySem.W.Frag} {C CS X : Addr} {H : Hp} {Q : VK} {E : XK} {p kd : Addr} {a : SA} {c : Prs} {hs : List (Int × Prs)} {ts : List Int} {ws : List Watch} {z : Nat} {b w m : Int} {L : List Int} {n s : Int} (S : StoreAt K CS H a c hs ts ws z) (np : p ∉ a.all ∧ kd ∉ a.all) (Vw : ViewP K C H p kd a.p c b w m L ts n) (hs' : -10000000000000000 ≤ s ∧ s ≤ 10000000000000000)
    (q : InWin (b + s * w) w m → ∀ kd' H', H kd' = none → Keep (PK p kd) H H' → ViewAt K C H' p kd' a.p c (b + s * w) w m (goL L b w (b + s * w) w m.toNat m) ts.length n → Q .non H') (e : ¬ InW (b + s * w) w m → ∀ H', Same H H' → E (.ref X) none H') : sp_v_on K C CS X [.ref p, .int s] H Q E := ⟨p, kd, a, c, hs, ts, ws, z, b, w, m, L, n, s, rfl, S, np, Vw, hs', q, e⟩
def sp_v_columns (K : PySem.W.Frag) (C CS X : Addr) : Sp := fun vs H Q E => ∃ (p kd : Addr) (a : SA) (c : Prs) (hs : List (Int × Prs)) (ts : List Int) (ws : List Watch) (z : Nat) (b w m : Int) (L : List Int) (n s : Int), vs = [.ref p, .int s] ∧ StoreAt K CS H a c hs ts ws z ∧ (p ∉ a.all ∧ kd ∉ a.all) ∧ ViewP K C H p kd a.p c b w m L ts n ∧ (1 ≤ s ∧ s ≤ 1000) ∧
  (InWin b w s → ∀ kd' H', H kd' = none → Keep (PK p kd) H H' → ViewAt K C H' p kd' a.p c b w s (goL L b w b w m.toNat s) ts.length n → Q .non H') ∧ (¬ InW b w s → ∀ H', Same H H' → E (.ref X) none H')
section
variable {P : Program} {w : World} {K : PySem.W.Frag} {mg : Str → Option Value} {base : Heap}
theorem ok_View_columns (B : Blt mg) {A_View : Addr} (T_View : ClT K mg "View" A_View) (N_View_shown : NoAttr K A_View "shown") (N_View_window : NoAttr K A_View "window") (N_View_known : NoAttr K A_View "known") (N_View_heard : NoAttr K A_View "heard") (N_View_asked : NoAttr K A_View "asked") {A_Store : Addr} (T_Store : ClT K mg "Store" A_Store) (N_Store_heights : NoAttr K A_Store "heights") (N_Store_by_stretches : NoAttr K A_Store "by_stretches") (N_Store_deeds : NoAttr K A_Store "deeds") (N_Store_deed_times : NoAttr K A_Store "deed_times") (N_Store_watches : NoAttr K A_Store "watches") (D : MDef K A_View "columns" "View.columns" s_View_columns ["self", "n"]) (G_View_go : MFn P w K mg base 3 A_View "go" ["self", "window"] (sp_v_go K A_View A_Store E_OutOfTimes)) (G_with_columns : Fn P w K mg base 1 "with_columns" ["window", "n"] (sp_with_columns K)) :
    MFn P w K mg base 4 A_View "columns" ["self", "n"] (sp_v_columns K A_View A_Store E_OutOfTimes) := by
  refine D.okX sc_View_columns (fun vs H Q E h => ?_) (fun f cdv A outer s H vs Q E hr h => ?_)
  · obtain ⟨p, kd, a, c, hs, ts, ws, z, b, w', m, L, n, s', rfl, S, np, Vw, ⟨s0, s1⟩, q, e⟩ := h
    rfl
  · obtain ⟨p, kd, a, c, hs, ts, ws, z, b, w', m, L, n, s', rfl, S, np, Vw, ⟨s0, s1⟩, q, e⟩ := h
    refine ⟨_, (pss_one (ps_expr (pe_methX G_View_go hr T_View.cl (takes_of rfl rfl rfl rfl) (pv 0) (pa_cons (pe_fn G_with_columns hr (pa_cons (peK_fld K (pv 0)) (pa_cons (pv 1) pa_nil))) pa_nil)))), ?_⟩
    refine r_start (σ' := [some (.ref p), some (.int s')]) rfl ?_
    obtain ⟨h0, dx0, wa0, ob0, hw0, lh0, kn0⟩ := Vw.ob
    obtain ⟨h1, h2, h3, h4, h5, h6⟩ := Vw.win
    have h7 := (inW_of Vw.win).2.1
    walk_at "a"
    rename_i wb H1 s1' e1
    refine use_v_go (S.same s1') np (Vw.same s1') (SqT.of e1) ⟨s0, s1, h3, h4, by omega, by omega⟩ (fun win kd' H' nk k V' => ?_) (fun nw => e nw _ s1')
    have nk0 : H kd' = none := (Keep.of_same (F := No) s1').back nk (fun z => z)
    exact q win kd' H' nk0 ((Keep.of_same s1').trans k) V'
end
theorem use_v_columns {K : PySem.W.Frag} {C CS X : Addr} {H : Hp} {Q : VK} {E : XK} {p kd : Addr} {a : SA} {c : Prs} {hs : List (Int × Prs)} {ts : List Int} {ws : List Watch} {z : Nat} {b w m : Int} {L : List Int} {n s : Int} (S : StoreAt K CS H a c hs ts ws z) (np : p ∉ a.all ∧ kd ∉ a.all) (Vw : ViewP K C H p kd a.p c b w m L ts n) (hs' : 1 ≤ s ∧ s ≤ 1000)
    (q : InWin b w s → ∀ kd' H', H kd' = none → Keep (PK p kd) H H' → ViewAt K C H' p kd' a.p c b w s (goL L b w b w m.toNat s) ts.length n → Q .non H') (e : ¬ InW b w s → ∀ H', Same H H' → E (.ref X) none H') : sp_v_columns K C CS X [.ref p, .int s] H Q E := ⟨p, kd, a, c, hs, ts, ws, z, b, w, m, L, n, s, rfl, S, np, Vw, hs', q, e⟩
def sp_v_narrow (K : PySem.W.Frag) (C CS X Y : Addr) : Sp := fun vs H Q E => ∃ (p kd : Addr) (a : SA) (c : Prs) (hs : List (Int × Prs)) (ts : List Int) (ws : List Watch) (z : Nat) (b w m : Int) (L : List Int) (n : Int), vs = [.ref p] ∧ StoreAt K CS H a c hs ts ws z ∧ (p ∉ a.all ∧ kd ∉ a.all) ∧ ViewP K C H p kd a.p c b w m L ts n ∧
  (w % 2 = 0 → ∀ kd' H', H kd' = none → Keep (PK p kd) H H' → ViewAt K C H' p kd' a.p c b (w / 2) m (goL L b w b (w / 2) m.toNat m) ts.length n → Q .non H') ∧ (¬ w % 2 = 0 → ∀ H', Same H H' → E (.ref Y) none H')
theorem win_half {b w m : Int} (h : InWin b w m) (h0 : w % 2 = 0) : InWin b (w / 2) m := by
  obtain ⟨h1, h2, h3, h4, h5, h6⟩ := h
  have g1 : w / 2 * m ≤ w * m := Int.mul_le_mul_of_nonneg_right (by omega) (by omega)
  exact ⟨h1, by omega, by omega, by omega, h5, h6⟩
section
variable {P : Program} {w : World} {K : PySem.W.Frag} {mg : Str → Option Value} {base : Heap}
theorem ok_View_narrow (B : Blt mg) {A_View : Addr} (T_View : ClT K mg "View" A_View) (N_View_shown : NoAttr K A_View "shown") (N_View_window : NoAttr K A_View "window") (N_View_known : NoAttr K A_View "known") (N_View_heard : NoAttr K A_View "heard") (N_View_asked : NoAttr K A_View "asked") {A_Store : Addr} (T_Store : ClT K mg "Store" A_Store) (N_Store_heights : NoAttr K A_Store "heights") (N_Store_by_stretches : NoAttr K A_Store "by_stretches") (N_Store_deeds : NoAttr K A_Store "deeds") (N_Store_deed_times : NoAttr K A_Store "deed_times") (N_Store_watches : NoAttr K A_Store "watches") (D : MDef K A_View "narrow" "View.narrow" s_View_narrow ["self"]) (G_View_go : MFn P w K mg base 3 A_View "go" ["self", "window"] (sp_v_go K A_View A_Store E_OutOfTimes)) (G_narrowed : Fn P w K mg base 1 "narrowed" ["window"] (sp_narrowed K E_NotHalf)) :
    MFn P w K mg base 4 A_View "narrow" ["self"] (sp_v_narrow K A_View A_Store E_OutOfTimes E_NotHalf) := by
  refine D.okX sc_View_narrow (fun vs H Q E h => ?_) (fun f cdv A outer s H vs Q E hr h => ?_)
  · obtain ⟨p, kd, a, c, hs, ts, ws, z, b, w', m, L, n, rfl, S, np, Vw, q, e⟩ := h
    rfl
  · obtain ⟨p, kd, a, c, hs, ts, ws, z, b, w', m, L, n, rfl, S, np, Vw, q, e⟩ := h
    refine ⟨_, (pss_one (ps_expr (pe_methX G_View_go hr T_View.cl (takes_of rfl rfl rfl rfl) (pv 0) (pa_cons (pe_fnX G_narrowed hr (takes_of rfl rfl rfl rfl) (pa_cons (peK_fld K (pv 0)) pa_nil)) pa_nil)))), ?_⟩
    refine r_start (σ' := [some (.ref p)]) rfl ?_
    obtain ⟨h0, dx0, wa0, ob0, hw0, lh0, kn0⟩ := Vw.ob
    obtain ⟨h1, h2, h3, h4, h5, h6⟩ := Vw.win
    have h7 := (inW_of Vw.win).2.1
    walk_at "a"
    refine ⟨wa0, b, w', m, rfl, hw0, fun h0 wb H1 s1' e1 => ?_, fun h0 => e h0 H (Same.refl _)⟩
    have ob1 := s1' _ _ ob0
    walk_at "a"
    have win := win_half Vw.win h0
    refine use_v_go (S.same s1') np (Vw.same s1') (SqT.of e1) ⟨h5, h6, by omega, by omega, by omega, by omega⟩ (fun _ kd' H' nk k V' => ?_) (fun nw => absurd (inW_of win) nw)
    have nk0 : H kd' = none := (Keep.of_same (F := No) s1').back nk (fun z => z)
    exact q h0 kd' H' nk0 ((Keep.of_same s1').trans k) V'
end
theorem use_v_narrow {K : PySem.W.Frag} {C CS X Y : Addr} {H : Hp} {Q : VK} {E : XK} {p kd : Addr} {a : SA} {c : Prs} {hs : List (Int × Prs)} {ts : List Int} {ws : List Watch} {z : Nat} {b w m : Int} {L : List Int} {n : Int} (S : StoreAt K CS H a c hs ts ws z) (np : p ∉ a.all ∧ kd ∉ a.all) (Vw : ViewP K C H p kd a.p c b w m L ts n)
    (q : w % 2 = 0 → ∀ kd' H', H kd' = none → Keep (PK p kd) H H' → ViewAt K C H' p kd' a.p c b (w / 2) m (goL L b w b (w / 2) m.toNat m) ts.length n → Q .non H') (e : ¬ w % 2 = 0 → ∀ H', Same H H' → E (.ref Y) none H') : sp_v_narrow K C CS X Y [.ref p] H Q E := ⟨p, kd, a, c, hs, ts, ws, z, b, w, m, L, n, rfl, S, np, Vw, q, e⟩
def sp_v_wide (K : PySem.W.Frag) (C CS X : Addr) : Sp := fun vs H Q E => ∃ (p kd : Addr) (a : SA) (c : Prs) (hs : List (Int × Prs)) (ts : List Int) (ws : List Watch) (z : Nat) (b w m : Int) (L : List Int) (n : Int), vs = [.ref p] ∧ StoreAt K CS H a c hs ts ws z ∧ (p ∉ a.all ∧ kd ∉ a.all) ∧ ViewP K C H p kd a.p c b w m L ts n ∧ w ≤ 400000000000000 ∧
  (InWin b (2 * w) m → ∀ kd' H', H kd' = none → Keep (PK p kd) H H' → ViewAt K C H' p kd' a.p c b (2 * w) m (wideL L m.toNat) ts.length n → Q .non H') ∧ (¬ InW b (2 * w) m → ∀ H', Same H H' → E (.ref X) none H')
section
variable {P : Program} {w : World} {K : PySem.W.Frag} {mg : Str → Option Value} {base : Heap}
theorem ok_View_wide (B : Blt mg) {A_View : Addr} (T_View : ClT K mg "View" A_View) (N_View_shown : NoAttr K A_View "shown") (N_View_window : NoAttr K A_View "window") (N_View_known : NoAttr K A_View "known") (N_View_heard : NoAttr K A_View "heard") (N_View_asked : NoAttr K A_View "asked") {A_Store : Addr} (T_Store : ClT K mg "Store" A_Store) (N_Store_heights : NoAttr K A_Store "heights") (N_Store_by_stretches : NoAttr K A_Store "by_stretches") (N_Store_deeds : NoAttr K A_Store "deeds") (N_Store_deed_times : NoAttr K A_Store "deed_times") (N_Store_watches : NoAttr K A_Store "watches") (D : MDef K A_View "wide" "View.wide" s_View_wide ["self"]) (G_widened : Fn P w K mg base 1 "widened" ["window"] (sp_widened K)) (G_want_within : Fn P w K mg base 2 "want_within" ["window"] (sp_want_within K E_OutOfTimes)) (G_View_hear : MFn P w K mg base 2 A_View "hear" ["self"] (sp_v_hear K A_View A_Store)) (G_joined : Fn P w K mg base 2 "joined" ["one", "other"] (sp_joined K)) :
    MFn P w K mg base 3 A_View "wide" ["self"] (sp_v_wide K A_View A_Store E_OutOfTimes) := by
  refine D.okX sc_View_wide (fun vs H Q E h => ?_) (fun f cdv A outer s H vs Q E hr h => ?_)
  · obtain ⟨p, kd, a, c, hs, ts, ws, z, b, w', m, L, n, rfl, S, np, Vw, w2, q, e⟩ := h
    rfl
  · obtain ⟨p, kd, a, c, hs, ts, ws, z, b, w', m, L, n, rfl, S, np, Vw, w2, q, e⟩ := h
    refine ⟨_, (pss_cons (ps_set (i := 1) sc_View_wide.nd rfl (Or.inl rfl) (pe_fn G_widened hr (pa_cons (peK_fld K (pv 0)) pa_nil)))
      (pss_cons (ps_expr (pe_fnX G_want_within hr (takes_of rfl rfl rfl rfl) (pa_cons (pv 1) pa_nil)))
      (pss_cons (ps_expr (pe_meth0N G_View_hear hr T_View.cl (pv 0)))
      (pss_cons (ps_set (i := 2) sc_View_wide.nd rfl (Or.inl rfl) pe_dnewK)
      (pss_cons (ps_for (passes_of rfl) rfl (pi_range1 rfl B.range (pa_cons (pe_ix (ixK K ix_seq) (pv 1) pe_int (fun _ _ => rfl)) pa_nil)) (pg_name (i := 3) sc_View_wide.nd rfl (Or.inl rfl))
      (pss_one (ps_if (PW.pt (pw_and (pt_cmp (pc_din (hu_of hr) (pe_op op_mulY pe_int (pv 3)) (peK_fld K (pv 0)))) (pw_and1 (pt_cmp (pc_din (hu_of hr) (pe_op op_add (pe_op op_mulY pe_int (pv 3)) pe_int) (peK_fld K (pv 0)))))))
      (pss_one (ps_dput (hu_of hr) (pv 2) (pv 3) (pe_fn G_joined hr (pa_cons (pe_dget (hu_of hr) (peK_fld K (pv 0)) (pe_op op_mulY pe_int (pv 3)) (fun _ _ => rfl)) (pa_cons (pe_dget (hu_of hr) (peK_fld K (pv 0)) (pe_op op_add (pe_op op_mulY pe_int (pv 3)) pe_int) (fun _ _ => rfl)) pa_nil))) rfl))
      pss_nil)))
      (pss_cons (psK_fld K (pv 0) (pv 1))
      (pss_one (psK_fld K (pv 0) (pv 2))))))))), ?_⟩
    refine r_start (σ' := [some (.ref p), none, none, none]) rfl ?_
    obtain ⟨h0, dx0, wa0, ob0, hw0, lh0, kn0⟩ := Vw.ob
    obtain ⟨h1, h2, h3, h4, h5, h6⟩ := Vw.win
    have h7 := (inW_of Vw.win).2.1
    walk_at "a"
    rename_i wb Hw sw ew
    refine use_within (SqT.of ew) ⟨h5, h6, by omega, by omega, by omega, by omega⟩ (fun win => ?_) (fun nw => e nw _ sw)
    obtain ⟨hw0', dxw, waw, obw, hww, lhw, knw⟩ := (Vw.same sw).ob
    walk_at "a"
    refine use_v_hear (S.same sw) np.1 (Vw.same sw) fun H1 k1 V1 => ?_
    have t1 := (Vw.same sw).text k1
    obtain ⟨dx, wa, ob, hw⟩ := V1.ob
    have hb1 := SqT.text t1 (SqT.of (K := K) ew)
    walk_at "a"
    rename_i kn H2 n2 s2 e2
    have V3 := V1.same s2
    have ob3 := s2 _ _ ob
    have hb2 := SqT.text (TExt.of_same s2) hb1
    have pkn : p ≠ kn := ne_of_none ob n2
    obtain ⟨kvs, e', l, f1, f2⟩ := V3.kn.ex
    have kkn : kd ≠ kn := fun z => by
      obtain ⟨_, e1, _⟩ := V1.kn.ex
      rw [← z, e1] at n2
      cases n2
    walk_at "a"
    refine for_wk wk_rng (fun i σ H' => (∃ v1 : Option V, σ = [some (.ref p), some (.ref wb), some (.ref kn), v1]) ∧ Keep (At kn) H2 H' ∧ TExt H2 H' ∧ Known K H' kn c b (2 * w') (wideL L i))
      ⟨⟨_, rfl⟩, Keep.refl _, TExt.refl _, Known.nil e2⟩ (fun _ _ _ _ _ => trivial) ?_ ?_
    · rintro i y σ H4 H4' hi ⟨⟨v1, rfl⟩, k4, t4, K4⟩ ⟨rfl, rfl⟩
      have ob4 := k4 _ _ ob3 pkn
      have e4 := k4 _ _ e' kkn
      have i1000 : i < 1000 := by omega
      rw [Int.zero_add (i : Int)]
      have wl : wideL L (i + 1) = wideL L i ++ if (2 * (i : Int)) ∈ L ∧ (2 * (i : Int) + 1) ∈ L then [(i : Int)] else [] := by
        unfold wideL
        rw [List.range_succ, List.filter_append, List.map_append]
        congr 1
        by_cases hz : (2 * (i : Int)) ∈ L ∧ (2 * (i : Int) + 1) ∈ L
        · rw [if_pos hz]; simp [hz]
        · rw [if_neg hz, List.filter_eq_nil_iff.mpr (by simpa using hz)]; rfl
      rw [wl]
      walk_at "a"
      refine r_dinV e4 ?_
      by_cases hk : (2 * (i : Int)) ∈ L
      · obtain ⟨x, g1, g2⟩ := f1 _ hk
        rw [g1]
        walk_at "a"
        try rw [if_pos (show (some x).isSome = true from rfl)]
        walk_at "a"
        refine r_dinV e4 ?_
        by_cases hk2 : (2 * (i : Int) + 1) ∈ L
        · obtain ⟨x', g1', g2'⟩ := f1 _ hk2
          rw [g1']
          walk_at "a"
          try rw [if_pos (show (some x').isSome = true from rfl)]
          walk_at "a"
          refine r_dgetV e4 g1 ?_
          walk_at "a"
          refine r_dgetV e4 g1' ?_
          walk_at "a"
          refine use_joined (Dp.text t4 _ _ (imm_four _) g2) (Dp.text t4 _ _ (imm_four _) g2') fun v H5 s5 d5 => ?_
          rw [← fourL_app, ← colP_two (S.crv.up) (by omega)] at d5
          have K5 := K4.keep (F := No) (Keep.of_same s5) (TExt.of_same s5) (fun z => z)
          obtain ⟨kvs4, m4, l4, f14, f24⟩ := K5.ex
          have l5 : kvs4.length ≤ 1000 := by
            refine Nat.le_trans l4 ?_
            unfold wideL
            rw [List.length_map]
            refine Nat.le_trans (List.length_filter_le _ _) ?_
            simp
            omega
          walk_at "a"
          refine r_dputV m4 (by omega) fun H6 k6 e6 => ?_
          have t6 : TExt H5 H6 := k6.text fun b hb => by rw [show b = kn from hb, m4]; trivial
          have := K5.put m4 k6 e6 d5
          rw [if_pos ⟨hk, hk2⟩]
          exact ⟨⟨_, rfl⟩, (k4.trans (Keep.of_same s5)).trans k6, (t4.trans (TExt.of_same s5)).trans t6, this⟩
        · rw [f2 _ hk2]
          walk_at "a"
          try rw [if_neg (by simp)]
          walk_at "a"
          rw [if_neg (fun z => hk2 z.2), List.append_nil]
          exact ⟨⟨_, rfl⟩, k4, t4, K4⟩
      · rw [f2 _ hk]
        walk_at "a"
        try rw [if_neg (by simp)]
        walk_at "a"
        rw [if_neg (fun z => hk z.1), List.append_nil]
        exact ⟨⟨_, rfl⟩, k4, t4, K4⟩
    · rintro σ H4 ⟨⟨v1, rfl⟩, k4, t4, K4⟩
      have ob4 := k4 _ _ ob3 pkn
      walk_at "a"
      rename_i H5 k5 e5 H6 k6 e6
      have k46 : Keep (At p) H4 H6 := k5.trans k6
      have t46 : TExt H4 H6 := k46.text fun b hb => by rw [show b = p from hb, ob4]; trivial
      have nk : H kn = none := ((Keep.of_same sw).trans k1).back n2 (fun z => z.elim (Ne.symm pkn) (Ne.symm kkn))
      have kA : Keep (PK p kd) H H6 := fun x o ex nx => k46 _ _ (k4 _ _ (s2 _ _ (k1 _ _ (sw _ _ ex) nx)) (ne_of_none ex nk)) fun z => nx (.inl z)
      refine q win kn H6 nk kA ⟨⟨dx, wb, by simpa using e6, SqT.text (t4.trans t46) hb2⟩, K4.keep k46 t46 (Ne.symm pkn), wideL_nd .., fun j hj => ?_, win⟩
      obtain ⟨⟨j0, j1⟩, _⟩ := wideL_mem.mp hj
      exact ⟨j0, by omega⟩
end
theorem use_v_wide {K : PySem.W.Frag} {C CS X : Addr} {H : Hp} {Q : VK} {E : XK} {p kd : Addr} {a : SA} {c : Prs} {hs : List (Int × Prs)} {ts : List Int} {ws : List Watch} {z : Nat} {b w m : Int} {L : List Int} {n : Int} (S : StoreAt K CS H a c hs ts ws z) (np : p ∉ a.all ∧ kd ∉ a.all) (Vw : ViewP K C H p kd a.p c b w m L ts n) (w2 : w ≤ 400000000000000)
    (q : InWin b (2 * w) m → ∀ kd' H', H kd' = none → Keep (PK p kd) H H' → ViewAt K C H' p kd' a.p c b (2 * w) m (wideL L m.toNat) ts.length n → Q .non H') (e : ¬ InW b (2 * w) m → ∀ H', Same H H' → E (.ref X) none H') : sp_v_wide K C CS X [.ref p] H Q E := ⟨p, kd, a, c, hs, ts, ws, z, b, w, m, L, n, rfl, S, np, Vw, w2, q, e⟩

/-! ### what the laws of views draw -/
abbrev Wd (z : Int) : Prop := -1000000000000000000000000000000000000000000000000000000000000 ≤ z ∧ z ≤ 1000000000000000000000000000000000000000000000000000000000000
def sp_in (K : PySem.W.Frag) : Sp := fun vs H Q _ => ∃ t : Int, vs = [.int t] ∧ ∀ r : Int, InT r → Q (.int r) H
section
variable {P : Program} {w : World} {K : PySem.W.Frag} {mg : Str → Option Value} {base : Heap}
theorem ok_law_in (B : Blt mg) (D : Def K mg "_law_in" s_law_in ["_law_t"]) :
    Fn P w K mg base 1 "_law_in" ["_law_t"] (sp_in K) := by
  refine D.ok sc_law_in (fun vs H Q E h => ?_) (fun f cdv A outer s H vs Q E hr h => ?_)
  · obtain ⟨t, rfl, q⟩ := h
    rfl
  · obtain ⟨t, rfl, q⟩ := h
    refine ⟨_, (pss_one (ps_ret (pe_callB (c_max2 rfl) rfl B.max (by decide +kernel) (pa_cons (pe_un un_neg (pe_powC (z := 1099511627776) (by decide +kernel) (by decide +kernel))) (pa_cons (pe_callB (c_min2 rfl) rfl B.min (by decide +kernel) (pa_cons (pe_op op_sub (pe_powC (z := 1099511627776) (by decide +kernel) (by decide +kernel)) pe_int) (pa_cons (pv 0) pa_nil))) pa_nil))))), ?_⟩
    refine r_start (σ' := [some (.int t)]) rfl ?_
    walk_at "a"
    refine q _ ⟨?_, ?_⟩ <;> (split <;> split <;> omega)
end
theorem use_in {K : PySem.W.Frag} {H : Hp} {Q : VK} {E : XK} {t : Int} (q : ∀ r : Int, InT r → Q (.int r) H) : sp_in K [.int t] H Q E := ⟨t, rfl, q⟩
def sp_lwithin (K : PySem.W.Frag) : Sp := fun vs H Q _ => ∃ (a : Addr) (b w m : Int), vs = [.ref a] ∧ SqT K H a [.int b, .int w, .int m] ∧ BdW b w m ∧ ∀ r : Bool, (r = true ↔ InW b w m) → Q (.bl r) H
section
variable {P : Program} {w : World} {K : PySem.W.Frag} {mg : Str → Option Value} {base : Heap}
theorem ok_law_within (B : Blt mg) (D : Def K mg "_law_within" s_law_within ["_law_window_here"]) :
    Fn P w K mg base 1 "_law_within" ["_law_window_here"] (sp_lwithin K) := by
  refine D.ok sc_law_within (fun vs H Q E h => ?_) (fun f cdv A outer s H vs Q E hr h => ?_)
  · obtain ⟨a, b, w', m, rfl, ha, ⟨m0, m1, w0, w1, b0, b1⟩, q⟩ := h
    rfl
  · obtain ⟨a, b, w', m, rfl, ha, ⟨m0, m1, w0, w1, b0, b1⟩, q⟩ := h
    refine ⟨_, (pss_one (ps_ret (pe_and (pe_cmpR op_ge (pe_ix (ixK K ix_seq) (pv 0) pe_int (fun _ _ => rfl)) (pe_un un_neg (pe_powC (z := 1099511627776) (by decide +kernel) (by decide +kernel))) (nomark _)) (pe_one (pe_cmpR op_le (pe_op op_add (pe_ix (ixK K ix_seq) (pv 0) pe_int (fun _ _ => rfl)) (pe_op op_mulY (pe_ix (ixK K ix_seq) (pv 0) pe_int (fun _ _ => rfl)) (pe_ix (ixK K ix_seq) (pv 0) pe_int (fun _ _ => rfl)))) (pe_powC (z := 1099511627776) (by decide +kernel) (by decide +kernel)) (nomark _)))))), ?_⟩
    refine r_start (σ' := [some (.ref a)]) rfl ?_
    have g0 : 0 ≤ w' * m := Int.mul_nonneg (by omega) (by omega)
    have g1 : w' * m ≤ 1000000000000000 * 1000 := Int.mul_le_mul (by omega) (by omega) (by omega) (by omega)
    walk_at "a"
    refine i_cases (fun h => ?_) (fun h => ?_)
    · walk_at "a"
      refine q _ ⟨fun z => ?_, fun z => decide_eq_true z.2.2.2⟩
      have := of_decide_eq_true z
      exact ⟨h, by omega, by omega, this⟩
    · exact q false (Iff.intro (fun z => absurd z (by simp)) (fun z => absurd z.1 h))
end
theorem use_lwithin {K : PySem.W.Frag} {H : Hp} {Q : VK} {E : XK} {a : Addr} {b w m : Int} (ha : SqT K H a [.int b, .int w, .int m]) (bd : BdW b w m) (q : ∀ r : Bool, (r = true ↔ InW b w m) → Q (.bl r) H) : sp_lwithin K [.ref a] H Q E := ⟨a, b, w, m, rfl, ha, bd, q⟩
def sp_lheight (K : PySem.W.Frag) : Sp := sp_drawn (-1000000000000000000000000000000000000000000000000000000000000) 1000000000000000000000000000000000000000000000000000000000000 K
section
variable {P : Program} {w : World} {K : PySem.W.Frag} {mg : Str → Option Value} {base : Heap}
theorem ok_law_height (B : Blt mg) (D : Def K mg "_law_height" s_law_height ["_law_pot_here"]) (G_law_draw : Fn P w K mg base 1 "_law_draw" ["_law_pot_here", "_law_many"] (sp_take K)) :
    Fn P w K mg base 2 "_law_height" ["_law_pot_here"] (sp_lheight K) := by
  refine D.ok sc_law_height (fun vs H Q E h => ?_) (fun f cdv A outer s H vs Q E hr h => ?_)
  · obtain ⟨p, rfl, hp, q⟩ := h
    rfl
  · obtain ⟨p, rfl, hp, q⟩ := h
    refine ⟨_, (pss_cons (ps_if (pt_cmpR op_gt (pe_fn G_law_draw hr (pa_cons (pv 0) (pa_cons pe_int pa_nil))) pe_int (nomark _))
      (pss_one (ps_ret (pe_op op_sub (pe_fn G_law_draw hr (pa_cons (pv 0) (pa_cons pe_int pa_nil))) pe_int)))
      pss_nil)
      (pss_one (ps_ret (pe_op op_add (pe_op op_sub (pe_op op_mod (pe_op op_mulY (pe_fn G_law_draw hr (pa_cons (pv 0) (pa_cons (pe_op op_sub (pe_op op_mulY pe_int (pe_powC (z := 100000000000000000000000000000000000000000000000000000000000) (by decide +kernel) (by decide +kernel))) pe_int) pa_nil))) (pe_powC (z := 899222419395425305473696173720766546965260106838593929) (by decide +kernel) (by decide +kernel))) (pe_op op_sub (pe_op op_mulY pe_int (pe_powC (z := 100000000000000000000000000000000000000000000000000000000000) (by decide +kernel) (by decide +kernel))) pe_int)) (pe_powC (z := 100000000000000000000000000000000000000000000000000000000000) (by decide +kernel) (by decide +kernel))) pe_int)))), ?_⟩
    refine r_start (σ' := [some (.ref p)]) rfl ?_
    walk_at "a"
    refine i_cases (fun h => ?_) (fun h => ?_)
    · walk_at "a"
      exact q _ _ (by walk_at "kp") (by walk_at "pot") (by omega) (by omega)
    walk_at "a"
    exact q _ _ (by walk_at "kp") (by walk_at "pot") (by omega) (by omega)
end
theorem use_lheight {K : PySem.W.Frag} {H : Hp} {Q : VK} {E : XK} {p : Addr} (h : Pot H p) (q : ∀ (z : Int) (H' : Hp), Keep (At p) H H' → Pot H' p → -1000000000000000000000000000000000000000000000000000000000000 ≤ z → z ≤ 1000000000000000000000000000000000000000000000000000000000000 → Q (.int z) H') : sp_lheight K [.ref p] H Q E := ⟨p, rfl, h, q⟩
local macro_rules | `(tactic| walk_at "call") => `(tactic| ((with_reducible refine' use_lheight ?hva ?_); (case hva => walk_at "pot"); intro _ _ _ _ _ _))
def sp_lwindow (K : PySem.W.Frag) : Sp := fun vs H Q _ => ∃ p, vs = [.ref p] ∧ Pot H p ∧ ∀ (a : Addr) (b w m : Int) (H' : Hp), Keep (At p) H H' → Pot H' p → SqT K H' a [.int b, .int w, .int m] → InWin b w m → w ≤ 17179869184 → m ≤ 9 → Q (.ref a) H'
section
variable {P : Program} {w : World} {K : PySem.W.Frag} {mg : Str → Option Value} {base : Heap}
theorem ok_law_window (B : Blt mg) (D : Def K mg "_law_window" s_law_window ["_law_pot_here"]) (G_law_draw : Fn P w K mg base 1 "_law_draw" ["_law_pot_here", "_law_many"] (sp_take K)) :
    Fn P w K mg base 2 "_law_window" ["_law_pot_here"] (sp_lwindow K) := by
  refine D.ok sc_law_window (fun vs H Q E h => ?_) (fun f cdv A outer s H vs Q E hr h => ?_)
  · obtain ⟨p, rfl, hp, q⟩ := h
    rfl
  · obtain ⟨p, rfl, hp, q⟩ := h
    refine ⟨_, (pss_cons (ps_set (i := 1) sc_law_window.nd rfl (Or.inl rfl) (pe_op op_add pe_int (pe_fn G_law_draw hr (pa_cons (pv 0) (pa_cons (pe_ix (ixK K ix_seq) (pe_lst (pa_cons pe_int (pa_cons pe_int (pa_cons (pe_powC (z := 17179869184) (by decide +kernel) (by decide +kernel)) pa_nil)))) (pe_fn G_law_draw hr (pa_cons (pv 0) (pa_cons pe_int pa_nil))) (fun _ _ => rfl)) pa_nil)))))
      (pss_cons (ps_set (i := 2) sc_law_window.nd rfl (Or.inl rfl) (pe_op op_add pe_int (pe_fn G_law_draw hr (pa_cons (pv 0) (pa_cons pe_int pa_nil)))))
      (pss_cons (ps_set (i := 3) sc_law_window.nd rfl (Or.inl rfl) (pe_fn G_law_draw hr (pa_cons (pv 0) (pa_cons pe_int pa_nil))))
      (pss_cons (ps_set (i := 4) sc_law_window.nd rfl (Or.inl rfl) (pe_op op_sub (pe_fn G_law_draw hr (pa_cons (pv 0) (pa_cons pe_int pa_nil))) pe_int))
      (Evl.pss_cut (ps_if (pt_cmpR (opK K (o_eq hr.units)) (pv 3) pe_int (nomark _))
      (pss_one (ps_set (i := 4) sc_law_window.nd rfl (Or.inl rfl) (pe_op op_add (pe_un un_neg (pe_powC (z := 1099511627776) (by decide +kernel) (by decide +kernel))) (pe_op op_mulY (pe_fn G_law_draw hr (pa_cons (pv 0) (pa_cons pe_int pa_nil))) (pv 1)))))
      pss_nil)
      (Evl.pss_cut (ps_if (pt_cmpR (opK K (o_eq hr.units)) (pv 3) pe_int (nomark _))
      (pss_one (ps_set (i := 4) sc_law_window.nd rfl (Or.inl rfl) (pe_op op_sub (pe_op op_sub (pe_powC (z := 1099511627776) (by decide +kernel) (by decide +kernel)) (pe_op op_mulY (pv 1) (pv 2))) (pe_fn G_law_draw hr (pa_cons (pv 0) (pa_cons pe_int pa_nil))))))
      pss_nil)
      (pss_one (ps_ret (pe_tup (pa_cons (pv 4) (pa_cons (pv 1) (pa_cons (pv 2) pa_nil)))))))))))), ?_⟩
    refine r_start (σ' := [some (.ref p), none, none, none, none]) rfl ?_
    walk_at "a"
    rename_i l1 H1 n1 s1 e1 j H2 k2 p2 j0 j1
    obtain ⟨x1, hx1, x10, x11⟩ : ∃ v : Int, atI [V.int 6, V.int 12, V.int 17179869184] j = some (.int v) ∧ 1 ≤ v ∧ v ≤ 17179869184 := by
      obtain rfl | rfl | rfl : j = 0 ∨ j = 1 ∨ j = 2 := by omega
      all_goals exact ⟨_, rfl, by decide, by decide⟩
    refine r_ixl (SqL.of (k2 _ _ e1 (hp.ne_new n1))) hx1 ?_
    walk_at "a"
    rename_i wd H3 k3 p3 w0 w1 mn H4 k4 p4 m0 m1 pl H5 k5 p5 l0 l1' d H6 k6 p6 d0 d1
    have k06 : Keep (At p) H H6 := (((((Keep.of_same s1).trans k2).trans k3).trans k4).trans k5).trans k6
    have g0 : 0 ≤ (1 + wd) * (1 + mn) := Int.mul_nonneg (by omega) (by omega)
    have g1 : (1 + wd) * (1 + mn) ≤ 17179869184 * 9 := Int.mul_le_mul (by omega) (by omega) (by omega) (by omega)
    refine r_cut (fun σ' H' => ∃ b : Int, σ' = [some (.ref p), some (.int (1 + wd)), some (.int (1 + mn)), some (.int pl), some (.int b)] ∧ (-1099511627776 ≤ b ∧ b + (1 + wd) * (1 + mn) ≤ 1099511627776) ∧ Keep (At p) H6 H' ∧ Pot H' p) ?_ ?_
    · walk_at "a"
      refine i_cases (fun h => ?_) (fun h => ?_)
      · walk_at "a"
        rename_i f H7 k7 p7 f0 f1
        have hb : 0 ≤ f * (1 + wd) ∧ f * (1 + wd) ≤ 2 * 17179869184 := by
          obtain rfl | rfl | rfl : f = 0 ∨ f = 1 ∨ f = 2 := by omega
          all_goals omega
        exact ⟨_, rfl, ⟨by omega, by omega⟩, k7, p7⟩
      · walk_at "a"
        exact ⟨_, rfl, ⟨by omega, by omega⟩, Keep.refl _, p6⟩
    rintro σ7 H7 ⟨b7, rfl, ⟨b70, b71⟩, k7, p7⟩
    refine r_cut (fun σ' H' => ∃ b : Int, σ' = [some (.ref p), some (.int (1 + wd)), some (.int (1 + mn)), some (.int pl), some (.int b)] ∧ (-1099511627776 ≤ b ∧ b + (1 + wd) * (1 + mn) ≤ 1099511627776) ∧ Keep (At p) H7 H' ∧ Pot H' p) ?_ ?_
    · walk_at "a"
      refine i_cases (fun h => ?_) (fun h => ?_)
      · walk_at "a"
        rename_i f H8 k8 p8 f0 f1
        exact ⟨_, rfl, ⟨by omega, by omega⟩, k8, p8⟩
      · walk_at "a"
        exact ⟨_, rfl, ⟨b70, b71⟩, Keep.refl _, p7⟩
    rintro σ8 H8 ⟨b8, rfl, ⟨b80, b81⟩, k8, p8⟩
    walk_at "a"
    rename_i a H9 n9 s9 e9
    exact q a _ _ _ H9 (((k06.trans k7).trans k8).trans (Keep.of_same s9)) (p8.same s9) (SqT.of e9) ⟨b80, b81, by omega, by omega, by omega, by omega⟩ (by omega) (by omega)
end
theorem use_lwindow {K : PySem.W.Frag} {H : Hp} {Q : VK} {E : XK} {p : Addr} (h : Pot H p) (q : ∀ (a : Addr) (b w m : Int) (H' : Hp), Keep (At p) H H' → Pot H' p → SqT K H' a [.int b, .int w, .int m] → InWin b w m → w ≤ 17179869184 → m ≤ 9 → Q (.ref a) H') : sp_lwindow K [.ref p] H Q E := ⟨p, rfl, h, q⟩
def sp_ltime (K : PySem.W.Frag) : Sp := fun vs H Q _ => ∃ (p a : Addr) (b w m : Int), vs = [.ref p, .ref a] ∧ Pot H p ∧ SqT K H a [.int b, .int w, .int m] ∧ InWin b w m ∧ ∀ (r : Int) (H' : Hp), Keep (At p) H H' → Pot H' p → InT r → Q (.int r) H'
section
variable {P : Program} {w : World} {K : PySem.W.Frag} {mg : Str → Option Value} {base : Heap}
theorem ok_law_time (B : Blt mg) (D : Def K mg "_law_time" s_law_time ["_law_pot_here", "_law_window_here"]) (G_law_in : Fn P w K mg base 1 "_law_in" ["_law_t"] (sp_in K)) (G_law_draw : Fn P w K mg base 1 "_law_draw" ["_law_pot_here", "_law_many"] (sp_take K)) :
    Fn P w K mg base 2 "_law_time" ["_law_pot_here", "_law_window_here"] (sp_ltime K) := by
  refine D.ok sc_law_time (fun vs H Q E h => ?_) (fun f cdv A outer s H vs Q E hr h => ?_)
  · obtain ⟨p, a, b, w', m, rfl, hp, ha, ⟨h1, h2, h3, h4, h5, h6⟩, q⟩ := h
    rfl
  · obtain ⟨p, a, b, w', m, rfl, hp, ha, ⟨h1, h2, h3, h4, h5, h6⟩, q⟩ := h
    refine ⟨_, (pss_cons (ps_asg (pv 1) (pgK_tup K (n := 3) rfl (pgs_cons (pg_name (i := 2) sc_law_time.nd rfl (Or.inl rfl)) (pgs_cons (pg_name (i := 3) sc_law_time.nd rfl (Or.inl rfl)) (pgs_cons (pg_name (i := 4) sc_law_time.nd rfl (Or.inl rfl)) pgs_nil)))))
      (pss_one (ps_ret (pe_fn G_law_in hr (pa_cons (pe_op op_add (pe_op op_sub (pv 2) (pe_op op_mulY pe_int (pv 3))) (pe_fn G_law_draw hr (pa_cons (pv 0) (pa_cons (pe_op op_mulY (pv 3) (pe_op op_add (pv 4) pe_int)) pa_nil)))) pa_nil))))), ?_⟩
    refine r_start (σ' := [some (.ref p), some (.ref a), none, none, none]) rfl ?_
    have g0 : 0 ≤ w' * (m + 4) := Int.mul_nonneg (by omega) (by omega)
    have g1 : w' * (m + 4) ≤ 1000000000000000 * 1004 := Int.mul_le_mul (by omega) (by omega) (by omega) (by omega)
    have g2 : 1 * (1 : Int) ≤ w' * (m + 4) := Int.mul_le_mul (by omega) (by omega) (by omega) (by omega)
    walk_at "a"
    rename_i d H1 k1 hp1 d0 d1
    exact use_in fun r hr => q r H1 k1 hp1 hr
end
theorem use_ltime {K : PySem.W.Frag} {H : Hp} {Q : VK} {E : XK} {p a : Addr} {b w m : Int} (hp : Pot H p) (ha : SqT K H a [.int b, .int w, .int m]) (win : InWin b w m) (q : ∀ (r : Int) (H' : Hp), Keep (At p) H H' → Pot H' p → InT r → Q (.int r) H') : sp_ltime K [.ref p, .ref a] H Q E := ⟨p, a, b, w, m, rfl, hp, ha, win, q⟩
def sp_lcurve (K : PySem.W.Frag) : Sp := fun vs H Q _ => ∃ (p a : Addr) (b w m : Int), vs = [.ref p, .ref a] ∧ Pot H p ∧ SqT K H a [.int b, .int w, .int m] ∧ InWin b w m ∧ ∀ (qd : Addr) (c : Prs) (H' : Hp), H qd = none → Keep (At p) H H' → Pot H' p → HeldAt H' qd c → c.length ≤ 24 → (∀ x ∈ c, Wd x.2) → Q (.ref qd) H'
section
variable {P : Program} {w : World} {K : PySem.W.Frag} {mg : Str → Option Value} {base : Heap}
theorem ok_law_curve (B : Blt mg) (D : Def K mg "_law_curve" s_law_curve ["_law_pot_here", "_law_window_here"]) (G_law_draw : Fn P w K mg base 1 "_law_draw" ["_law_pot_here", "_law_many"] (sp_take K)) (G_law_time : Fn P w K mg base 2 "_law_time" ["_law_pot_here", "_law_window_here"] (sp_ltime K)) (G_law_height : Fn P w K mg base 2 "_law_height" ["_law_pot_here"] (sp_lheight K)) :
    Fn P w K mg base 3 "_law_curve" ["_law_pot_here", "_law_window_here"] (sp_lcurve K) := by
  refine D.ok sc_law_curve (fun vs H Q E h => ?_) (fun f cdv A outer s H vs Q E hr h => ?_)
  · obtain ⟨p, a, b, w', m, rfl, hp, ha, win, q⟩ := h
    rfl
  · obtain ⟨p, a, b, w', m, rfl, hp, ha, win, q⟩ := h
    refine ⟨_, (pss_cons (ps_set (i := 2) sc_law_curve.nd rfl (Or.inl rfl) pe_dnewK)
      (pss_cons (ps_for PassesOwn.never rfl (pi_range1 rfl B.range (pa_cons (pe_fn G_law_draw hr (pa_cons (pv 0) (pa_cons pe_int pa_nil))) pa_nil)) (pg_name (i := 3) sc_law_curve.nd rfl (Or.inl rfl))
      (pss_cons (ps_set (i := 4) sc_law_curve.nd rfl (Or.inl rfl) (pe_fn G_law_time hr (pa_cons (pv 0) (pa_cons (pv 1) pa_nil))))
      (pss_one (ps_dput (hu_of hr) (pv 2) (pv 4) (pe_fn G_law_height hr (pa_cons (pv 0) pa_nil)) rfl))))
      (pss_one (ps_ret (pv 2))))), ?_⟩
    refine r_start (σ' := [some (.ref p), some (.ref a), none, none, none]) rfl ?_
    walk_at "a"
    rename_i qd H1 n1 s1 e1 r H2 k2 p2 r0 r1
    have hqp : qd ≠ p := hp.ne_new n1
    refine for_wk wk_rng (fun i σ H' => (∃ v1 v2 : Option V, σ = [some (.ref p), some (.ref a), some (.ref qd), v1, v2]) ∧ Keep (At p) H H' ∧ TExt H2 H' ∧ Pot H' p ∧ ∃ c, HeldAt H' qd c ∧ c.length ≤ i ∧ ∀ x ∈ c, Wd x.2) ⟨⟨_, _, rfl⟩, (Keep.of_same s1).trans k2, TExt.refl _, p2, [], ⟨⟨[], k2 _ _ e1 hqp, by simp, by simp⟩, Crv.nil⟩, by simp, by simp⟩ (fun _ _ _ _ _ => trivial) ?_ ?_
    · rintro i x σ H3 H3' hi ⟨⟨v1, v2, rfl⟩, k3, t3, p3, c, h3, l3, w3⟩ ⟨rfl, rfl⟩
      have ha3 := SqT.text ((hp.text ((Keep.of_same s1).trans k2)).trans t3) ha
      walk_at "a"
      refine use_ltime p3 ha3 win fun t H4 k4 p4 ht => ?_
      walk_at "a"
      rename_i h H5 k5 p5 h0 h1
      obtain ⟨⟨md, m1', m2, m3⟩, crv⟩ := (h3.pot p3 k4).pot p4 k5
      have hml := perm_len m2 (up_nodup crv.up) m3
      refine r_dputi m1' (by omega) fun H6 k6 e6 => ?_
      obtain ⟨g1, g2, g3⟩ := held_put m2 m3 crv (t := t) (h := h) ht
      have hl := len_ins crv.up t h
      refine ⟨⟨_, _, rfl⟩, fun b o eb nb => k6 _ _ (k5 _ _ (k4 _ _ (k3 b o eb nb) nb) nb) (ne_of_none eb n1), t3.trans (((p3.text k4).trans (p4.text k5)).trans (TExt.dK k6 m1')), p5.keep k6 (Ne.symm hqp), _, ⟨⟨_, e6, g1, g2⟩, g3⟩, by omega, fun x hx => ?_⟩
      rcases insC_mem.mp hx with rfl | ⟨z, _⟩
      · exact ⟨h0, h1⟩
      · exact w3 x z
    · rintro σ H3 ⟨⟨v1, v2, rfl⟩, k3, t3, p3, c, h3, l3, w3⟩
      walk_at "a"
      exact q qd c H3 n1 k3 p3 h3 (by omega) w3
end
theorem use_lcurve {K : PySem.W.Frag} {H : Hp} {Q : VK} {E : XK} {p a : Addr} {b w m : Int} (hp : Pot H p) (ha : SqT K H a [.int b, .int w, .int m]) (win : InWin b w m) (q : ∀ (qd : Addr) (c : Prs) (H' : Hp), H qd = none → Keep (At p) H H' → Pot H' p → HeldAt H' qd c → c.length ≤ 24 → (∀ x ∈ c, Wd x.2) → Q (.ref qd) H') : sp_lcurve K [.ref p, .ref a] H Q E := ⟨p, a, b, w, m, rfl, hp, ha, win, q⟩
/-- a step -/
inductive Stp where
  | wide
  | narrow
  | cols (n : Int)
  | on (s : Int)
def Stp.word : Stp → Str
  | .wide => "wide"
  | .narrow => "narrow"
  | .cols _ => "columns"
  | .on _ => "on"
def Stp.num : Stp → Int
  | .wide => 0
  | .narrow => 0
  | .cols n => n
  | .on s => s
def Stp.b (s : Stp) (b w : Int) : Int := match s with
  | .on s => b + s * w
  | _ => b
def Stp.w (s : Stp) (w : Int) : Int := match s with
  | .wide => 2 * w
  | .narrow => w / 2
  | _ => w
def Stp.m (s : Stp) (m : Int) : Int := match s with
  | .cols n => n
  | _ => m
def Stp.ok (s : Stp) (w : Int) : Prop := match s with
  | .wide => True
  | .narrow => w % 2 = 0
  | .cols n => 1 ≤ n ∧ n ≤ 40
  | .on s => -10000000000000 ≤ s ∧ s ≤ 10000000000000
noncomputable def Stp.known (s : Stp) (L : List Int) (b w m : Int) : List Int := match s with
  | .wide => wideL L m.toNat
  | .narrow => goL L b w b (w / 2) m.toNat m
  | .cols n => goL L b w b w m.toNat n
  | .on s => goL L b w (b + s * w) w m.toNat m
theorem wm_le {b w m : Int} (h : InWin b w m) : 1 ≤ w * m ∧ w * m ≤ 2199023255552 ∧ w ≤ 2199023255552 := by
  obtain ⟨h1, h2, h3, h4, h5, h6⟩ := h
  have g1 : w * 1 ≤ w * m := Int.mul_le_mul_of_nonneg_left (by omega) (by omega)
  have g2 : 1 * (1 : Int) ≤ w * m := Int.mul_le_mul (by omega) (by omega) (by omega) (by omega)
  omega
theorem stp_bd {b w m : Int} (h : InWin b w m) (s : Stp) (ok : s.ok w) (m40 : m ≤ 40) : BdW (s.b b w) (s.w w) (s.m m) := by
  obtain ⟨g1, g2, g3⟩ := wm_le h
  obtain ⟨h1, h2, h3, h4, h5, h6⟩ := h
  cases s with
  | wide => exact ⟨h5, h6, by show 1 ≤ 2 * w; omega, by show 2 * w ≤ _; omega, by show _ ≤ b; omega, by show b ≤ _; omega⟩
  | narrow =>
    have ok : w % 2 = 0 := ok
    exact ⟨h5, h6, by show 1 ≤ w / 2; omega, by show w / 2 ≤ _; omega, by show _ ≤ b; omega, by show b ≤ _; omega⟩
  | cols n =>
    have ok : 1 ≤ n ∧ n ≤ 40 := ok
    exact ⟨ok.1, by show n ≤ 1000; omega, h3, h4, by show _ ≤ b; omega, by show b ≤ _; omega⟩
  | on s =>
    have ok : -10000000000000 ≤ s ∧ s ≤ 10000000000000 := ok
    have a1 : s * w ≤ 10000000000000 * 1000000000000000 := by
      rcases Int.le_total 0 s with z | z
      · exact Int.mul_le_mul (by omega) (by omega) (by omega) (by omega)
      · have : s * w ≤ 0 := Int.mul_nonpos_of_nonpos_of_nonneg z (by omega)
        omega
    have a2 : -(10000000000000 * 1000000000000000) ≤ s * w := by
      have : (-s) * w ≤ 10000000000000 * 1000000000000000 := by
        rcases Int.le_total 0 (-s) with z | z
        · exact Int.mul_le_mul (by omega) (by omega) (by omega) (by omega)
        · have : (-s) * w ≤ 0 := Int.mul_nonpos_of_nonpos_of_nonneg z (by omega)
          omega
      rw [Int.neg_mul] at this
      omega
    exact ⟨h5, h6, h3, h4, by show _ ≤ b + s * w; omega, by show b + s * w ≤ _; omega⟩
/-- a step's tuple stands at x -/
structure StpAt (K : PySem.W.Frag) (H : Hp) (x wb : Addr) (s : Stp) (b w m : Int) : Prop where
  t : SqT K H x [.str s.word, .int s.num, .ref wb]
  w : SqT K H wb [.int (s.b b w), .int (s.w w), .int (s.m m)]
theorem StpAt.text {K : PySem.W.Frag} {H H' : Hp} {x wb : Addr} {s : Stp} {b w m : Int} (h : StpAt K H x wb s b w m) (t : TExt H H') : StpAt K H' x wb s b w m := ⟨SqT.text t h.t, SqT.text t h.w⟩
def sp_lstep (K : PySem.W.Frag) : Sp := fun vs H Q _ => ∃ (p a : Addr) (b w m : Int), vs = [.ref p, .ref a] ∧ Pot H p ∧ SqT K H a [.int b, .int w, .int m] ∧ InWin b w m ∧ ∀ (s : Stp) (x wb : Addr) (H' : Hp), s.ok w → (∀ n, s = .cols n → n ≤ 12) → Keep (At p) H H' → Pot H' p → StpAt K H' x wb s b w m → Q (.ref x) H'
section
variable {P : Program} {w : World} {K : PySem.W.Frag} {mg : Str → Option Value} {base : Heap}
theorem ok_law_step (B : Blt mg) (D : Def K mg "_law_step" s_law_step ["_law_pot_here", "_law_window_here"]) (G_law_draw : Fn P w K mg base 1 "_law_draw" ["_law_pot_here", "_law_many"] (sp_take K)) :
    Fn P w K mg base 2 "_law_step" ["_law_pot_here", "_law_window_here"] (sp_lstep K) := by
  refine D.ok sc_law_step (fun vs H Q E h => ?_) (fun f cdv A outer s H vs Q E hr h => ?_)
  · obtain ⟨p, a, b, w', m, rfl, hp, ha, win, q⟩ := h
    rfl
  · obtain ⟨p, a, b, w', m, rfl, hp, ha, win, q⟩ := h
    refine ⟨_, (pss_cons (ps_asg (pv 1) (pgK_tup K (n := 3) rfl (pgs_cons (pg_name (i := 2) sc_law_step.nd rfl (Or.inl rfl)) (pgs_cons (pg_name (i := 3) sc_law_step.nd rfl (Or.inl rfl)) (pgs_cons (pg_name (i := 4) sc_law_step.nd rfl (Or.inl rfl)) pgs_nil)))))
      (pss_cons (ps_set (i := 5) sc_law_step.nd rfl (Or.inl rfl) (pe_fn G_law_draw hr (pa_cons (pv 0) (pa_cons pe_int pa_nil))))
      (pss_cons (ps_if (pt_cmpR (opK K (o_eq hr.units)) (pv 5) pe_int (nomark _))
      (pss_one (ps_ret (pe_tup (pa_cons pe_str (pa_cons pe_int (pa_cons (pe_tup (pa_cons (pv 2) (pa_cons (pe_op op_mulY pe_int (pv 3)) (pa_cons (pv 4) pa_nil)))) pa_nil))))))
      pss_nil)
      (pss_cons (ps_if (PW.pt (pw_and (pt_cmpR (opK K (o_eq hr.units)) (pv 5) pe_int (nomark _)) (pw_and1 (pt_cmpR (opK K (o_eq hr.units)) (pe_op op_mod (pv 3) pe_int) pe_int (nomark _)))))
      (pss_one (ps_ret (pe_tup (pa_cons pe_str (pa_cons pe_int (pa_cons (pe_tup (pa_cons (pv 2) (pa_cons (pe_op op_fdivW (pv 3) pe_int) (pa_cons (pv 4) pa_nil)))) pa_nil))))))
      pss_nil)
      (pss_cons (ps_if (pt_cmpR (opK K (o_eq hr.units)) (pv 5) pe_int (nomark _))
      (pss_cons (ps_set (i := 6) sc_law_step.nd rfl (Or.inl rfl) (pe_op op_add pe_int (pe_fn G_law_draw hr (pa_cons (pv 0) (pa_cons pe_int pa_nil)))))
      (pss_one (ps_ret (pe_tup (pa_cons pe_str (pa_cons (pv 6) (pa_cons (pe_tup (pa_cons (pv 2) (pa_cons (pv 3) (pa_cons (pv 6) pa_nil)))) pa_nil)))))))
      pss_nil)
      (pss_cons (ps_set (i := 7) sc_law_step.nd rfl (Or.inl rfl) (pe_op op_sub (pe_fn G_law_draw hr (pa_cons (pv 0) (pa_cons pe_int pa_nil))) pe_int))
      (Evl.pss_cut (ps_if (pt_cmpR (opK K (o_eq hr.units)) (pv 5) pe_int (nomark _))
      (pss_one (ps_set (i := 7) sc_law_step.nd rfl (Or.inl rfl) (pe_op op_sub (pe_fn G_law_draw hr (pa_cons (pv 0) (pa_cons (pe_powC (z := 2199023255552) (by decide +kernel) (by decide +kernel)) pa_nil))) (pe_powC (z := 1099511627776) (by decide +kernel) (by decide +kernel)))))
      pss_nil)
      (pss_one (ps_ret (pe_tup (pa_cons pe_str (pa_cons (pv 7) (pa_cons (pe_tup (pa_cons (pe_op op_add (pv 2) (pe_op op_mulY (pv 7) (pv 3))) (pa_cons (pv 3) (pa_cons (pv 4) pa_nil)))) pa_nil))))))))))))), ?_⟩
    refine r_start (σ' := [some (.ref p), some (.ref a), none, none, none, none, none, none]) rfl ?_
    obtain ⟨g1, g2, g3⟩ := wm_le win
    obtain ⟨h1, h2, h3, h4, h5, h6⟩ := win
    walk_at "a"
    rename_i way H1 k1 hp1 y0 y1
    refine i_cases (fun h => ?_) (fun h => ?_)
    · walk_at "a"
      rename_i wb H2 n2 s2 e2 x H3 n3 s3 e3
      exact q .wide x wb H3 trivial (fun n z => by cases z) (k1.trans (Keep.of_same (s2.trans s3))) ((hp1.same s2).same s3) ⟨SqT.of e3, SqT.of (s3 _ _ e2)⟩
    walk_at "a"
    refine i_cases (fun h2 => ?_) (fun h2 => ?_)
    · walk_at "a"
      refine i_cases (fun h3 => ?_) (fun h3 => ?_)
      · walk_at "a"
        rename_i wb H2 n2 s2 e2 x H3 n3 s3 e3
        exact q .narrow x wb H3 h3 (fun n z => by cases z) (k1.trans (Keep.of_same (s2.trans s3))) ((hp1.same s2).same s3) ⟨SqT.of e3, SqT.of (s3 _ _ e2)⟩
      · walk_at "a"
        rename_i c0 H2 k2 hp2 c00 c01
        refine r_cut (fun σ' H' => ∃ c : Int, σ' = [some (.ref p), some (.ref a), some (.int b), some (.int w'), some (.int m), some (.int way), none, some (.int c)] ∧ (-1099511627776 ≤ c ∧ c ≤ 1099511627776) ∧ Keep (At p) H2 H' ∧ Pot H' p) ?_ ?_
        · walk_at "a"
          exact ⟨_, rfl, ⟨by omega, by omega⟩, Keep.refl _, hp2⟩
        rintro σ3 H3 ⟨cc, rfl, ⟨cc0, cc1⟩, k3, hp3⟩
        walk_at "a"
        rename_i wb H4 n4 s4 e4 x H5 n5 s5 e5
        exact q (.on cc) x wb H5 ⟨by omega, by omega⟩ (fun n z => by cases z) (((k1.trans k2).trans k3).trans (Keep.of_same (s4.trans s5))) ((hp3.same s4).same s5) ⟨SqT.of e5, SqT.of (s5 _ _ e4)⟩
    · walk_at "a"
      refine i_cases (fun h4 => ?_) (fun h4 => ?_)
      · walk_at "a"
        rename_i n0 H2 k2 hp2 n00 n01 wb H3 n3 s3 e3 x H4 n4 s4 e4
        exact q (.cols (1 + n0)) x wb H4 ⟨by omega, by omega⟩ (fun n z => by cases z; omega) ((k1.trans k2).trans (Keep.of_same (s3.trans s4))) ((hp2.same s3).same s4) ⟨SqT.of e4, SqT.of (s4 _ _ e3)⟩
      · walk_at "a"
        rename_i c0 H2 k2 hp2 c00 c01
        refine r_cut (fun σ' H' => ∃ c : Int, σ' = [some (.ref p), some (.ref a), some (.int b), some (.int w'), some (.int m), some (.int way), none, some (.int c)] ∧ (-1099511627776 ≤ c ∧ c ≤ 1099511627776) ∧ Keep (At p) H2 H' ∧ Pot H' p) ?_ ?_
        · walk_at "a"
          refine i_cases (fun h7 => ?_) (fun h7 => ?_)
          · walk_at "a"
            rename_i f H3 k3 hp3 f0 f1
            exact ⟨_, rfl, ⟨by omega, by omega⟩, k3, hp3⟩
          · walk_at "a"
            exact ⟨_, rfl, ⟨by omega, by omega⟩, Keep.refl _, hp2⟩
        rintro σ3 H3 ⟨cc, rfl, ⟨cc0, cc1⟩, k3, hp3⟩
        walk_at "a"
        rename_i wb H4 n4 s4 e4 x H5 n5 s5 e5
        exact q (.on cc) x wb H5 ⟨by omega, by omega⟩ (fun n z => by cases z) (((k1.trans k2).trans k3).trans (Keep.of_same (s4.trans s5))) ((hp3.same s4).same s5) ⟨SqT.of e5, SqT.of (s5 _ _ e4)⟩
end
theorem use_lstep {K : PySem.W.Frag} {H : Hp} {Q : VK} {E : XK} {p a : Addr} {b w m : Int} (hp : Pot H p) (ha : SqT K H a [.int b, .int w, .int m]) (win : InWin b w m) (q : ∀ (s : Stp) (x wb : Addr) (H' : Hp), s.ok w → (∀ n, s = .cols n → n ≤ 12) → Keep (At p) H H' → Pot H' p → StpAt K H' x wb s b w m → Q (.ref x) H') : sp_lstep K [.ref p, .ref a] H Q E := ⟨p, a, b, w, m, rfl, hp, ha, win, q⟩
def Stp.ok0 (s : Stp) : Prop := match s with
  | .cols n => 1 ≤ n ∧ n ≤ 40
  | .on s => -10000000000000 ≤ s ∧ s ≤ 10000000000000
  | _ => True
def Stp.half (s : Stp) (w : Int) : Prop := match s with
  | .narrow => w % 2 = 0
  | _ => True
theorem ok_two {s : Stp} {w : Int} (h : s.ok w) : s.ok0 ∧ s.half w := by
  cases s with
  | wide => exact ⟨trivial, trivial⟩
  | narrow => exact ⟨trivial, h⟩
  | cols n => exact ⟨h, trivial⟩
  | on n => exact ⟨h, trivial⟩
theorem ok_of {s : Stp} {w : Int} (h : s.ok0) (h2 : s.half w) : s.ok w := by
  cases s with
  | wide => exact trivial
  | narrow => exact h2
  | cols n => exact h
  | on n => exact h
def sp_lgo (K : PySem.W.Frag) (C CS X Y : Addr) : Sp := fun vs H Q E => ∃ (p kd x : Addr) (y : V) (a : SA) (c : Prs) (hs : List (Int × Prs)) (ts : List Int) (ws : List Watch) (z : Nat) (b w m : Int) (L : List Int) (n : Int) (s : Stp), vs = [.ref p, .ref x] ∧ StoreAt K CS H a c hs ts ws z ∧ (p ∉ a.all ∧ kd ∉ a.all) ∧ ViewP K C H p kd a.p c b w m L ts n ∧ s.ok0 ∧ SqT K H x [.str s.word, .int s.num, y] ∧
  (s.half w → InWin (s.b b w) (s.w w) (s.m m) → ∀ kd' H', H kd' = none → Keep (PK p kd) H H' → ViewAt K C H' p kd' a.p c (s.b b w) (s.w w) (s.m m) (s.known L b w m) ts.length n → Q (.bl true) H') ∧ (s.half w → ¬ InW (s.b b w) (s.w w) (s.m m) → ∀ H', Same H H' → E (.ref X) none H') ∧ (¬ s.half w → ∀ H', Same H H' → E (.ref Y) none H')
section
variable {P : Program} {w : World} {K : PySem.W.Frag} {mg : Str → Option Value} {base : Heap}
theorem ok_law_go (B : Blt mg) {A_View : Addr} (T_View : ClT K mg "View" A_View) (N_View_shown : NoAttr K A_View "shown") (N_View_window : NoAttr K A_View "window") (N_View_known : NoAttr K A_View "known") (N_View_heard : NoAttr K A_View "heard") (N_View_asked : NoAttr K A_View "asked") {A_Store : Addr} (T_Store : ClT K mg "Store" A_Store) (N_Store_heights : NoAttr K A_Store "heights") (N_Store_by_stretches : NoAttr K A_Store "by_stretches") (N_Store_deeds : NoAttr K A_Store "deeds") (N_Store_deed_times : NoAttr K A_Store "deed_times") (N_Store_watches : NoAttr K A_Store "watches") (D : Def K mg "_law_go" s_law_go ["_law_view", "_law_step_here"]) (G_View_wide : MFn P w K mg base 3 A_View "wide" ["self"] (sp_v_wide K A_View A_Store E_OutOfTimes)) (G_View_narrow : MFn P w K mg base 4 A_View "narrow" ["self"] (sp_v_narrow K A_View A_Store E_OutOfTimes E_NotHalf)) (G_View_columns : MFn P w K mg base 4 A_View "columns" ["self", "n"] (sp_v_columns K A_View A_Store E_OutOfTimes)) (G_View_on : MFn P w K mg base 4 A_View "on" ["self", "c"] (sp_v_on K A_View A_Store E_OutOfTimes)) :
    Fn P w K mg base 5 "_law_go" ["_law_view", "_law_step_here"] (sp_lgo K A_View A_Store E_OutOfTimes E_NotHalf) := by
  refine D.okX sc_law_go (fun vs H Q E h => ?_) (fun f cdv A outer s H vs Q E hr h => ?_)
  · obtain ⟨p, kd, x, y, a, c, hs, ts, ws, z, b, w', m, L, n, s', rfl, S, np, Vw, ok, hx, q, e, e2⟩ := h
    rfl
  · obtain ⟨p, kd, x, y, a, c, hs, ts, ws, z, b, w', m, L, n, s', rfl, S, np, Vw, ok, hx, q, e, e2⟩ := h
    refine ⟨_, (pss_cons (ps_set (i := 2) sc_law_go.nd rfl (Or.inl rfl) pe_non)
      (pss_cons (ps_if (pt_cmpR (opK K (o_eq hr.units)) (pe_ix (ixK K ix_seq) (pv 1) pe_int (fun _ _ => rfl)) pe_str (nomark _))
      (pss_one (ps_set (i := 2) sc_law_go.nd rfl (Or.inl rfl) (pe_meth0X G_View_wide hr T_View.cl (takes_of rfl rfl rfl rfl) (pv 0))))
      (pss_one (ps_if (pt_cmpR (opK K (o_eq hr.units)) (pe_ix (ixK K ix_seq) (pv 1) pe_int (fun _ _ => rfl)) pe_str (nomark _))
      (pss_one (ps_set (i := 2) sc_law_go.nd rfl (Or.inl rfl) (pe_meth0X G_View_narrow hr T_View.cl (takes_of rfl rfl rfl rfl) (pv 0))))
      (pss_one (ps_if (pt_cmpR (opK K (o_eq hr.units)) (pe_ix (ixK K ix_seq) (pv 1) pe_int (fun _ _ => rfl)) pe_str (nomark _))
      (pss_one (ps_set (i := 2) sc_law_go.nd rfl (Or.inl rfl) (pe_methX G_View_columns hr T_View.cl (takes_of rfl rfl rfl rfl) (pv 0) (pa_cons (pe_ix (ixK K ix_seq) (pv 1) pe_int (fun _ _ => rfl)) pa_nil))))
      (pss_one (ps_set (i := 2) sc_law_go.nd rfl (Or.inl rfl) (pe_methX G_View_on hr T_View.cl (takes_of rfl rfl rfl rfl) (pv 0) (pa_cons (pe_ix (ixK K ix_seq) (pv 1) pe_int (fun _ _ => rfl)) pa_nil)))))))))
      (pss_one (ps_ret (pe_cmpR o_isN (pv 2) pe_non (nomark _)))))), ?_⟩
    refine r_start (σ' := [some (.ref p), some (.ref x), none]) rfl ?_
    obtain ⟨h0', dx0, wa0, ob0, hw0, lh0, kn0⟩ := Vw.ob
    walk_at "a"
    cases s' with
    | wide =>
      refine r_eq_s ?_
      rw [show decide (Stp.wide.word = "wide") = true by decide +kernel]
      walk_at "a"
      obtain ⟨g1, g2, g3⟩ := wm_le Vw.win
      refine use_v_wide S np Vw (by omega) (fun win kd' H' nk k V' => ?_) (e trivial)
      walk_at "a"
      exact q trivial win kd' H' nk k V'
    | narrow =>
      refine r_eq_s ?_
      rw [show decide (Stp.narrow.word = "wide") = false by decide +kernel]
      walk_at "a"
      refine r_eq_s ?_
      rw [show decide (Stp.narrow.word = "narrow") = true by decide +kernel]
      walk_at "a"
      refine use_v_narrow S np Vw (fun h0 kd' H' nk k V' => ?_) e2
      walk_at "a"
      exact q h0 (win_half Vw.win h0) kd' H' nk k V'
    | cols n' =>
      refine r_eq_s ?_
      rw [show decide ((Stp.cols n').word = "wide") = false from show decide (("columns" : Str) = "wide") = false by decide +kernel]
      walk_at "a"
      refine r_eq_s ?_
      rw [show decide ((Stp.cols n').word = "narrow") = false from show decide (("columns" : Str) = "narrow") = false by decide +kernel]
      walk_at "a"
      refine r_eq_s ?_
      rw [show decide ((Stp.cols n').word = "columns") = true from show decide (("columns" : Str) = "columns") = true by decide +kernel]
      walk_at "a"
      have ok : 1 ≤ n' ∧ n' ≤ 40 := ok
      refine use_v_columns S np Vw (show 1 ≤ n' ∧ n' ≤ 1000 from ⟨ok.1, by omega⟩) (fun win kd' H' nk k V' => ?_) (e trivial)
      walk_at "a"
      exact q trivial win kd' H' nk k V'
    | on n' =>
      refine r_eq_s ?_
      rw [show decide ((Stp.on n').word = "wide") = false from show decide (("on" : Str) = "wide") = false by decide +kernel]
      walk_at "a"
      refine r_eq_s ?_
      rw [show decide ((Stp.on n').word = "narrow") = false from show decide (("on" : Str) = "narrow") = false by decide +kernel]
      walk_at "a"
      refine r_eq_s ?_
      rw [show decide ((Stp.on n').word = "columns") = false from show decide (("on" : Str) = "columns") = false by decide +kernel]
      walk_at "a"
      have ok : -10000000000000 ≤ n' ∧ n' ≤ 10000000000000 := ok
      refine use_v_on S np Vw (show -10000000000000000 ≤ n' ∧ n' ≤ 10000000000000000 from ⟨by omega, by omega⟩) (fun win kd' H' nk k V' => ?_) (e trivial)
      walk_at "a"
      exact q trivial win kd' H' nk k V'
end
theorem use_lgo {K : PySem.W.Frag} {C CS X Y : Addr} {H : Hp} {Q : VK} {E : XK} {p kd x wb : Addr} {a : SA} {c : Prs} {hs : List (Int × Prs)} {ts : List Int} {ws : List Watch} {z : Nat} {b w m : Int} {L : List Int} {n : Int} {s : Stp} (S : StoreAt K CS H a c hs ts ws z) (np : p ∉ a.all ∧ kd ∉ a.all) (Vw : ViewP K C H p kd a.p c b w m L ts n) (ok : s.ok w) (hs' : StpAt K H x wb s b w m)
    (q : InWin (s.b b w) (s.w w) (s.m m) → ∀ kd' H', H kd' = none → Keep (PK p kd) H H' → ViewAt K C H' p kd' a.p c (s.b b w) (s.w w) (s.m m) (s.known L b w m) ts.length n → Q (.bl true) H') (e : ¬ InW (s.b b w) (s.w w) (s.m m) → ∀ H', Same H H' → E (.ref X) none H') : sp_lgo K C CS X Y [.ref p, .ref x] H Q E := ⟨p, kd, x, _, a, c, hs, ts, ws, z, b, w, m, L, n, s, rfl, S, np, Vw, (ok_two ok).1, hs'.t, fun _ => q, fun _ => e, fun z => absurd (ok_two ok).2 z⟩
theorem cutV_sub {xs : List V} {lo hi : Option Int} : (cutV xs lo hi).Sublist xs := by
  unfold cutV
  exact (List.take_sublist _ _).trans (List.drop_sublist _ _)
theorem same_len {L ks : List Int} (h1 : L.Nodup) (h2 : ks.Nodup) (h : ∀ j, j ∈ ks ↔ j ∈ L) : ks.length = L.length := ((List.perm_ext_iff_of_nodup h2 h1).mpr h).length_eq

/-! ### the law's own account of the known columns -/
theorem known_congr {s : Stp} {L ks : List Int} {b w m : Int} (h : ∀ j, j ∈ ks ↔ j ∈ L) : s.known ks b w m = s.known L b w m := by
  have e : ∀ p : Int × Int, decide (p.1 ∈ ks) = decide (p.1 ∈ L) := fun p => by rw [Bool.eq_iff_iff]; simp [h]
  have g : ∀ (x ow : Int) (om : Int), goL ks b w x ow m.toNat om = goL L b w x ow m.toNat om := fun x ow om => by
    unfold goL
    rw [show (fun p : Int × Int => decide (p.1 ∈ ks)) = fun p => decide (p.1 ∈ L) from funext e]
  cases s with
  | wide =>
    show wideL ks m.toNat = wideL L m.toNat
    unfold wideL
    congr 2
    funext k
    rw [Bool.eq_iff_iff]
    simp [h]
  | narrow => exact g ..
  | cols n => exact g ..
  | on n => exact g ..
def sp_lknown (K : PySem.W.Frag) : Sp := fun vs H Q _ => ∃ (x wb wa ka : Addr) (s : Stp) (b w m : Int) (ks : List Int), vs = [.ref x, .ref wa, .ref ka] ∧ StpAt K H x wb s b w m ∧ SqT K H wa [.int b, .int w, .int m] ∧ InWin b w m ∧ m ≤ 40 ∧ s.ok w ∧ H ka = some (.lst (ks.map V.int)) ∧ ks.Nodup ∧ ks.length ≤ 100 ∧ (∀ k ∈ ks, 0 ≤ k ∧ k < m) ∧
  ∀ (y : Addr) (ks' : List Int) H', H y = none → Same H H' → H' y = some (.lst (ks'.map V.int)) → ks'.Nodup → (∀ j, j ∈ ks' ↔ j ∈ s.known ks b w m) → Q (.ref y) H'
section
variable {P : Program} {w : World} {K : PySem.W.Frag} {mg : Str → Option Value} {base : Heap}
theorem ok_law_known (B : Blt mg) {A_View : Addr} (T_View : ClT K mg "View" A_View) (N_View_shown : NoAttr K A_View "shown") (N_View_window : NoAttr K A_View "window") (N_View_known : NoAttr K A_View "known") (N_View_heard : NoAttr K A_View "heard") (N_View_asked : NoAttr K A_View "asked") {A_Store : Addr} (T_Store : ClT K mg "Store" A_Store) (N_Store_heights : NoAttr K A_Store "heights") (N_Store_by_stretches : NoAttr K A_Store "by_stretches") (N_Store_deeds : NoAttr K A_Store "deeds") (N_Store_deed_times : NoAttr K A_Store "deed_times") (N_Store_watches : NoAttr K A_Store "watches") (D : Def K mg "_law_known" s_law_known ["_law_step_here", "_law_window_here", "_law_known_here"]) :
    Fn P w K mg base 1 "_law_known" ["_law_step_here", "_law_window_here", "_law_known_here"] (sp_lknown K) := by
  refine D.ok sc_law_known (fun vs H Q E h => ?_) (fun f cdv A outer s H vs Q E hr h => ?_)
  · obtain ⟨x, wb, wa, ka, s', b, w', m, ks, rfl, hs', ha, win, m40, ok, hk, nd, lk, kr, q⟩ := h
    rfl
  · obtain ⟨x, wb, wa, ka, s', b, w', m, ks, rfl, hs', ha, win, m40, ok, hk, nd, lk, kr, q⟩ := h
    refine ⟨_, (pss_cons (ps_asg (pe_ix (ixK K ix_seq) (pv 0) pe_int (fun _ _ => rfl)) (pgK_tup K (n := 3) rfl (pgs_cons (pg_name (i := 3) sc_law_known.nd rfl (Or.inl rfl)) (pgs_cons (pg_name (i := 4) sc_law_known.nd rfl (Or.inl rfl)) (pgs_cons (pg_name (i := 5) sc_law_known.nd rfl (Or.inl rfl)) pgs_nil)))))
      (pss_cons (ps_if (pt_cmpR (opK K (o_eq hr.units)) (pe_ix (ixK K ix_seq) (pv 0) pe_int (fun _ _ => rfl)) pe_str (nomark _))
      (pss_one (ps_ret (pe_lc (own := [("_law_k", 7)]) (g := gName 7) (tt := _) rfl sc_law_known.nd (pi_range1 rfl B.range (pa_cons (pv 5) pa_nil)) (blkOk_by (N := ["_law_step_here", "_law_window_here", "_law_known_here", "_law_begin", "_law_wide", "_law_many", "_law_found", "_law_k", "_law_j"]) (sc := defScope s_law_known) (by decide +kernel)) (fun _ _ _ _ _ => (pg_name (i := 7) sc_law_known.nd rfl (Or.inl rfl))) (fun _ _ _ _ _ => pts_one (PW.pt (pw_and (pt_cmpR (opK K o_inF) (pe_op op_mulY pe_int (pv 7)) (pv 2) (by with_unfolding_all rfl)) (pw_and1 (pt_cmpR (opK K o_inF) (pe_op op_add (pe_op op_mulY pe_int (pv 7)) pe_int) (pv 2) (by with_unfolding_all rfl)))))) (fun _ _ _ _ _ => (pv 7)))))
      pss_nil)
      (pss_cons (ps_set (i := 6) sc_law_known.nd rfl (Or.inl rfl) (pe_lst pa_nil))
      (pss_cons (ps_for PassesOwn.never rfl (pi_range1 rfl B.range (pa_cons (pv 5) pa_nil)) (pg_name (i := 7) sc_law_known.nd rfl (Or.inl rfl))
      (pss_one (ps_for PassesOwn.never rfl (piK_list K (pv 2)) (pg_name (i := 8) sc_law_known.nd rfl (Or.inl rfl))
      (pss_one (ps_if (PW.pt (pw_and (pt_cmpR (opK K (o_eq hr.units)) (pv 4) (pe_ix (ixK K ix_seq) (pv 1) pe_int (fun _ _ => rfl)) (nomark _)) (pw_and1 (pt_cmpR (opK K (o_eq hr.units)) (pe_op op_add (pv 3) (pe_op op_mulY (pv 7) (pv 4))) (pe_op op_add (pe_ix (ixK K ix_seq) (pv 1) pe_int (fun _ _ => rfl)) (pe_op op_mulY (pv 8) (pv 4))) (nomark _)))))
      (pss_one (ps_expr (peK_bm K PySem.F.plainAttrs_list PySem.F.slot_list_append PySem.F.type_list_append mt_append (pv 6) (pa_cons (pv 7) pa_nil))))
      pss_nil)))))
      (pss_one (ps_ret (pv 6))))))), ?_⟩
    refine r_start (σ' := [some (.ref x), some (.ref wa), some (.ref ka), none, none, none, none, none, none]) rfl ?_
    obtain ⟨g1, g2, g3⟩ := wm_le win
    have bd := stp_bd win s' ok m40
    obtain ⟨h1, h2, h3, h4, h5, h6⟩ := win
    obtain ⟨hx, hwb⟩ := hs'
    walk_at "a"
    by_cases hwide : s' = .wide
    · subst hwide
      refine r_eq_s ?_
      rw [show decide (Stp.wide.word = "wide") = true by decide +kernel]
      walk_at "a"
      have m0 : (Stp.wide.m m).toNat = m.toNat := rfl
      rw [m0]
      refine lc_rngD (K := K) (by omega) (fun k => decide (2 * (k : Int) ∈ ks) && decide (2 * (k : Int) + 1 ∈ ks)) (fun (k : Nat) => PyData.int (k : Int)) (fun _ => rfl) (fun k H3 S' N hk' s3 g1' g2' => ?_) (fun D3 H3 ys3 hD3 s3 e3 p3 => ?_)
      · refine r_gname ⟨wipe_one, ?_⟩
        rw [Int.zero_add (k : Int)]
        walk_at "a"
        refine r_inF (s3 _ _ hk) ?_
        walk_at "a"
        refine i_cases (fun y3 => ?_) (fun y3 => ?_)
        · walk_at "a"
          refine r_inF (s3 _ _ hk) ?_
          walk_at "a"
          refine i_cases (fun y4 => ?_) (fun y4 => ?_)
          · walk_at "a"
            exact g1' (by rw [decide_eq_true y3, decide_eq_true y4]; rfl) _ _ (Same.refl _) (.int _)
          · exact g2' (by rw [decide_eq_true y3, decide_eq_false y4]; rfl) _ (Same.refl _)
        · walk_at "a"
          exact g2' (by rw [decide_eq_false y3]; rfl) _ (Same.refl _)
      · have e : ys3 = (wideL ks m.toNat).map V.int := by
          have p3' : DpAll K H3 ys3 ((((List.range m.toNat).filter fun k : Nat => decide (2 * (k : Int) ∈ ks) && decide (2 * (k : Int) + 1 ∈ ks)).map fun k : Nat => (k : Int)).map PyData.int) := by rw [List.map_map]; exact p3
          rw [dpAll_all_ints p3']
          unfold wideL
          congr 3
          funext k
          rw [Bool.eq_iff_iff]
          simp
        rw [e] at e3
        exact q D3 _ H3 hD3 s3 e3 (wideL_nd ..) (fun j => Iff.rfl)
    have hne : decide (s'.word = "wide") = false := by
      cases s' with
      | wide => exact absurd rfl hwide
      | narrow => decide +kernel
      | cols n => show decide (("columns" : Str) = "wide") = false; decide +kernel
      | on n => show decide (("on" : Str) = "wide") = false; decide +kernel
    have hgo : s'.known ks b w' m = goL ks b w' (s'.b b w') (s'.w w') m.toNat (s'.m m) := by
      cases s' with
      | wide => exact absurd rfl hwide
      | narrow => rfl
      | cols n => rfl
      | on n => rfl
    rw [hgo] at q
    have M1000 : s'.m m ≤ 1000 := bd.2.1
    refine r_eq_s ?_
    rw [hne]
    walk_at "a"
    clear hgo hne
    generalize s'.b b w' = B at *
    generalize s'.w w' = W at *
    generalize s'.m m = M at *
    obtain ⟨d1, d2, d3, d4, d5, d6⟩ := bd
    rename_i D H1 nD s1 e1
    have hk1 := s1 _ _ hk
    have ha1 := SqT.text (TExt.of_same s1) ha
    have kD : ka ≠ D := ne_of_none hk nD
    have one : ∀ (k j j' : Int), B + k * W = b + j * W → B + k * W = b + j' * W → j = j' := fun k j j' z1 z2 => by
      have : j * W = j' * W := by omega
      exact Int.eq_of_mul_eq_mul_right (by omega) this
    refine for_wk wk_rng (fun i σ H' => (∃ v1 v2 : Option V, σ = [some (.ref x), some (.ref wa), some (.ref ka), some (.int B), some (.int W), some (.int M), some (.ref D), v1, v2]) ∧ Keep (At D) H1 H' ∧ TExt H1 H' ∧ ∃ fs : List Int, H' D = some (.lst (fs.map V.int)) ∧ fs.length ≤ i ∧ fs.Nodup ∧ ∀ j, j ∈ fs ↔ (0 ≤ j ∧ j < (i : Int)) ∧ ∃ k ∈ ks, W = w' ∧ B + j * W = b + k * W)
      ⟨⟨_, _, rfl⟩, Keep.refl _, TExt.refl _, [], e1, by simp, by simp, fun j => ⟨fun z => by simp at z, fun z => by omega⟩⟩ (fun _ _ _ _ _ => trivial) ?_ ?_
    · rintro i y σ H2 H2' hi ⟨⟨v1, v2, rfl⟩, k2, t2, fs, e2, fl, fnd, fm⟩ ⟨rfl, rfl⟩
      rw [Int.zero_add (i : Int)]
      have i1000 : i < 1000 := by omega
      have hk2 := k2 _ _ hk1 kD
      walk_at "a"
      refine for_wk (wk_list (xs := ks.map V.int)) (fun jj σ H' => (∃ v1 : Option V, σ = [some (.ref x), some (.ref wa), some (.ref ka), some (.int B), some (.int W), some (.int M), some (.ref D), some (.int i), v1]) ∧ Keep (At D) H1 H' ∧ TExt H1 H' ∧ ∃ fs' : List Int, H' D = some (.lst (fs'.map V.int)) ∧ ((fs' = fs ∧ ∀ k ∈ ks.take jj, ¬ (W = w' ∧ B + (i : Int) * W = b + k * W)) ∨ (fs' = fs ++ [(i : Int)] ∧ ∃ k ∈ ks.take jj, W = w' ∧ B + (i : Int) * W = b + k * W)))
        ⟨⟨_, rfl⟩, k2, t2, fs, e2, .inl ⟨rfl, by simp⟩⟩ (fun jj σ H' _ z => SqL.of (z.2.1 _ _ hk1 kD)) ?_ ?_
      · rintro jj y σ H3 H3' hjj ⟨⟨v1, rfl⟩, k3, t3, fs', e3, alt⟩ ⟨rfl, hy⟩
        obtain ⟨j, hj, rfl⟩ := int_at hy
        have ha3 := SqT.text t3 ha1
        have jr := kr j (List.mem_of_getElem? hj)
        rw [take_snoc hj]
        have no : ¬ (W = w' ∧ B + (i : Int) * W = b + j * W) → ((fs' = fs ∧ ∀ k ∈ ks.take jj ++ [j], ¬ (W = w' ∧ B + (i : Int) * W = b + k * W)) ∨ (fs' = fs ++ [(i : Int)] ∧ ∃ k ∈ ks.take jj ++ [j], W = w' ∧ B + (i : Int) * W = b + k * W)) := fun hn => by
          rcases alt with ⟨z1, z2⟩ | ⟨z1, k, z2, z3⟩
          · refine .inl ⟨z1, fun k hk' => ?_⟩
            rcases List.mem_append.mp hk' with hk' | hk'
            · exact z2 k hk'
            · rw [List.mem_singleton.mp hk']; exact hn
          · exact .inr ⟨z1, k, List.mem_append_left _ z2, z3⟩
        walk_at "a"
        refine i_cases (fun y3 => ?_) (fun y3 => ?_)
        · walk_at "a"
          refine i_cases (fun y4 => ?_) (fun y4 => ?_)
          · have ef : fs' = fs := by
              rcases alt with ⟨z1, _⟩ | ⟨_, k, z2, z3, z4⟩
              · exact z1
              · exfalso
                have e5 := one i k j z4 y4
                subst e5
                obtain ⟨l, hl⟩ := List.getElem?_of_mem z2
                have hl2 : l < jj := by
                  have := (List.getElem?_eq_some_iff.mp hl).1
                  rw [List.length_take] at this
                  omega
                rw [List.getElem?_take_of_lt hl2] at hl
                have := (List.getElem?_inj (by have := (List.getElem?_eq_some_iff.mp hl).1; exact this) nd).mp (hl.trans hj.symm)
                omega
            subst ef
            walk_at "a"
            refine r_bml (SqL.of e3) ?_
            walk_at "a"
            refine r_append e3 (by rw [sizeLine_eq, List.length_map]; omega) fun H4 k4 e4 => ?_
            walk_at "a"
            exact ⟨⟨_, rfl⟩, k3.trans k4, t3.trans (TExt.lst k4 e3), fs' ++ [(i : Int)], by rw [e4, List.map_append]; rfl, .inr ⟨rfl, j, by simp, y3, y4⟩⟩
          · walk_at "a"
            exact ⟨⟨_, rfl⟩, k3, t3, fs', e3, no (fun z => y4 z.2)⟩
        · walk_at "a"
          exact ⟨⟨_, rfl⟩, k3, t3, fs', e3, no (fun z => y3 z.1)⟩
      · rintro σ H3 ⟨⟨v1, rfl⟩, k3, t3, fs', e3, alt⟩
        rw [List.take_of_length_le (by simp)] at alt
        refine ⟨⟨_, _, rfl⟩, k3, t3, fs', e3, ?_⟩
        rcases alt with ⟨rfl, z2⟩ | ⟨rfl, z2⟩
        · refine ⟨by omega, fnd, fun j => ?_⟩
          rw [fm]
          constructor
          · rintro ⟨y1, y2⟩; exact ⟨by omega, y2⟩
          · rintro ⟨y1, k, y2, y3⟩
            have : j ≠ i := fun z => z2 k y2 (by rw [← z]; exact y3)
            exact ⟨by omega, k, y2, y3⟩
        · refine ⟨by simp; omega, List.nodup_append.mpr ⟨fnd, by simp, fun u hu v hv => ?_⟩, fun j => ?_⟩
          · rw [List.mem_singleton.mp hv]
            have := ((fm u).mp hu).1
            omega
          · rw [List.mem_append, fm, List.mem_singleton]
            constructor
            · rintro (⟨y1, y2⟩ | rfl)
              · exact ⟨by omega, y2⟩
              · exact ⟨by omega, z2⟩
            · rintro ⟨y1, y2⟩
              by_cases z : j = i
              · exact .inr z
              · exact .inl ⟨by omega, y2⟩
    · rintro σ H2 ⟨⟨v1, v2, rfl⟩, k2, t2, fs, e2, fl, fnd, fm⟩
      walk_at "a"
      refine q D fs H2 nD (same_at s1 nD k2) e2 fnd fun j => ?_
      rw [fm, goL_mem (by omega)]
      constructor
      · rintro ⟨⟨y1, y2⟩, k, y3, y4, y5⟩
        have := kr k y3
        exact ⟨k, y3, this.1, by omega, y1, by omega, by rw [y4] at y5 ⊢; exact y5.symm, y4.symm⟩
      · rintro ⟨k, y3, y4, y5, y6, y7, y8, y9⟩
        exact ⟨⟨y6, by omega⟩, k, y3, y9.symm, by rw [← y9] at y8 ⊢; exact y8.symm⟩
end
theorem use_lknown {K : PySem.W.Frag} {H : Hp} {Q : VK} {E : XK} {x wb wa ka : Addr} {s : Stp} {b w m : Int} {ks : List Int} (hs' : StpAt K H x wb s b w m) (ha : SqT K H wa [.int b, .int w, .int m]) (win : InWin b w m) (m40 : m ≤ 40) (ok : s.ok w) (hk : H ka = some (.lst (ks.map V.int))) (nd : ks.Nodup) (lk : ks.length ≤ 100) (kr : ∀ k ∈ ks, 0 ≤ k ∧ k < m)
    (q : ∀ (y : Addr) (ks' : List Int) H', H y = none → Same H H' → H' y = some (.lst (ks'.map V.int)) → ks'.Nodup → (∀ j, j ∈ ks' ↔ j ∈ s.known ks b w m) → Q (.ref y) H') : sp_lknown K [.ref x, .ref wa, .ref ka] H Q E := ⟨x, wb, wa, ka, s, b, w, m, ks, rfl, hs', ha, win, m40, ok, hk, nd, lk, kr, q⟩

/-! the lowest, the highest by sorting -/
theorem low_min : ∀ (r : Prs) (f : Int × Int), (∀ y ∈ r, f.1 < y.1) → (r.Pairwise fun p q => p.1 < q.1) → (r.foldl lowP f = f ∨ r.foldl lowP f ∈ r) ∧ ∀ y, (y = f ∨ y ∈ r) → (r.foldl lowP f).2 < y.2 ∨ ((r.foldl lowP f).2 = y.2 ∧ (r.foldl lowP f).1 ≤ y.1)
  | [], f, _, _ => ⟨.inl rfl, fun y hy => by
    rcases hy with rfl | hy
    · exact .inr ⟨rfl, Int.le_refl _⟩
    · simp at hy⟩
  | g :: r, f, hf, hr => by
    obtain ⟨hg, hr⟩ := List.pairwise_cons.mp hr
    have fg : f.1 < g.1 := hf g (List.mem_cons_self ..)
    have hf' : ∀ y ∈ r, (lowP f g).1 < y.1 := fun y hy => by
      have h1 := hf y (List.mem_cons_of_mem _ hy)
      have h2 := hg y hy
      unfold lowP
      split <;> omega
    obtain ⟨m1, m2⟩ := low_min r (lowP f g) hf' hr
    rw [List.foldl_cons]
    generalize r.foldl lowP (lowP f g) = m at m1 m2
    refine ⟨?_, fun y hy => ?_⟩
    · rcases m1 with e | e
      · rw [e]
        unfold lowP
        split
        · exact .inr (List.mem_cons_self ..)
        · exact .inl rfl
      · exact .inr (List.mem_cons_of_mem _ e)
    · have h0 := m2 (lowP f g) (.inl rfl)
      have hy' : y = f ∨ y = g ∨ y ∈ r := by
        rcases hy with rfl | hy
        · exact .inl rfl
        · rcases List.mem_cons.mp hy with rfl | hy
          · exact .inr (.inl rfl)
          · exact .inr (.inr hy)
      unfold lowP at h0
      rcases hy' with rfl | rfl | hy
      · split at h0 <;> omega
      · split at h0 <;> omega
      · exact m2 y (.inr hy)
theorem high_max : ∀ (r : Prs) (f : Int × Int), (∀ y ∈ r, f.1 < y.1) → (r.Pairwise fun p q => p.1 < q.1) → (r.foldl highP f = f ∨ r.foldl highP f ∈ r) ∧ ∀ y, (y = f ∨ y ∈ r) → y.2 < (r.foldl highP f).2 ∨ ((r.foldl highP f).2 = y.2 ∧ (r.foldl highP f).1 ≤ y.1)
  | [], f, _, _ => ⟨.inl rfl, fun y hy => by
    rcases hy with rfl | hy
    · exact .inr ⟨rfl, Int.le_refl _⟩
    · simp at hy⟩
  | g :: r, f, hf, hr => by
    obtain ⟨hg, hr⟩ := List.pairwise_cons.mp hr
    have fg : f.1 < g.1 := hf g (List.mem_cons_self ..)
    have hf' : ∀ y ∈ r, (highP f g).1 < y.1 := fun y hy => by
      have h1 := hf y (List.mem_cons_of_mem _ hy)
      have h2 := hg y hy
      unfold highP
      split <;> omega
    obtain ⟨m1, m2⟩ := high_max r (highP f g) hf' hr
    rw [List.foldl_cons]
    generalize r.foldl highP (highP f g) = m at m1 m2
    refine ⟨?_, fun y hy => ?_⟩
    · rcases m1 with e | e
      · rw [e]
        unfold highP
        split
        · exact .inr (List.mem_cons_self ..)
        · exact .inl rfl
      · exact .inr (List.mem_cons_of_mem _ e)
    · have h0 := m2 (highP f g) (.inl rfl)
      have hy' : y = f ∨ y = g ∨ y ∈ r := by
        rcases hy with rfl | hy
        · exact .inl rfl
        · rcases List.mem_cons.mp hy with rfl | hy
          · exact .inr (.inl rfl)
          · exact .inr (.inr hy)
      unfold highP at h0
      rcases hy' with rfl | rfl | hy
      · split at h0 <;> omega
      · split at h0 <;> omega
      · exact m2 y (.inr hy)
theorem lex_head {x : Int × Int} {r : Prs} (h : Lex (x :: r)) {y : Int × Int} (hy : y ∈ x :: r) : x.1 < y.1 ∨ (x.1 = y.1 ∧ x.2 ≤ y.2) := by
  rcases List.mem_cons.mp hy with rfl | hy
  · exact .inr ⟨rfl, Int.le_refl _⟩
  · have : SrtO.lexB y x = false := (List.pairwise_cons.mp (show (x :: r).Pairwise fun p q => SrtO.lexB q p = false from h)).1 y hy
    have n : ¬ (y.1 < x.1 ∨ (y.1 = x.1 ∧ y.2 < x.2)) := fun z => by
      rw [SrtO.lexB_iff.mpr z] at this
      cases this
    omega
theorem low_sorted {f : Int × Int} {r l' : Prs} {x : Int × Int} (up : (f :: r).Pairwise fun p q => p.1 < q.1) (hl : Lex (x :: l')) (pm : (x :: l').Perm ((f :: r).map fun p => (p.2, p.1))) : r.foldl lowP f = (x.2, x.1) := by
  obtain ⟨hf, hr⟩ := List.pairwise_cons.mp up
  obtain ⟨m1, m2⟩ := low_min r f hf hr
  have mm : r.foldl lowP f ∈ f :: r := by
    rcases m1 with e | e
    · rw [e]; exact List.mem_cons_self ..
    · exact List.mem_cons_of_mem _ e
  obtain ⟨p, hp, ep⟩ := List.mem_map.mp (pm.mem_iff.mp (List.mem_cons_self ..))
  have h1 := lex_head hl (pm.mem_iff.mpr (List.mem_map.mpr ⟨_, mm, rfl⟩))
  have h2 := m2 p (List.mem_cons.mp hp)
  generalize r.foldl lowP f = m at *
  subst ep
  obtain ⟨ma, mb⟩ := m
  obtain ⟨pa, pb⟩ := p
  simp at h1 h2 ⊢
  omega
theorem high_sorted {f : Int × Int} {r l' : Prs} {x : Int × Int} (up : (f :: r).Pairwise fun p q => p.1 < q.1) (hl : Lex (x :: l')) (pm : (x :: l').Perm ((f :: r).map fun p => (-p.2, p.1))) : r.foldl highP f = (x.2, -x.1) := by
  obtain ⟨hf, hr⟩ := List.pairwise_cons.mp up
  obtain ⟨m1, m2⟩ := high_max r f hf hr
  have mm : r.foldl highP f ∈ f :: r := by
    rcases m1 with e | e
    · rw [e]; exact List.mem_cons_self ..
    · exact List.mem_cons_of_mem _ e
  obtain ⟨p, hp, ep⟩ := List.mem_map.mp (pm.mem_iff.mp (List.mem_cons_self ..))
  have h1 := lex_head hl (pm.mem_iff.mpr (List.mem_map.mpr ⟨_, mm, rfl⟩))
  have h2 := m2 p (List.mem_cons.mp hp)
  generalize r.foldl highP f = m at *
  subst ep
  obtain ⟨ma, mb⟩ := m
  obtain ⟨pa, pb⟩ := p
  simp at h1 h2 ⊢
  omega
theorem dp_lastT {K : PySem.W.Frag} {H : Hp} {y0 : V} {yr : List V} {f : Int × Int} {r : Prs} (d0 : Dp K H y0 (pairP f)) (dr : DpAll K H yr (r.map pairP)) : ∃ yl, atI (y0 :: yr) (-1) = some yl ∧ Dp K H yl (pairP ((r.getLast?).getD f)) := by
  have hyl : yr.length = r.length := by rw [dpAll_len dr, List.length_map]
  rcases List.eq_nil_or_concat yr with rfl | ⟨yi, yl, rfl⟩
  · have : r = [] := List.length_eq_zero_iff.mp (by simpa using hyl.symm)
    subst this
    exact ⟨y0, atI_last [] y0, d0⟩
  · rw [List.concat_eq_append] at *
    refine ⟨yl, atI_last (y0 :: yi) yl, ?_⟩
    obtain ⟨q, hq, hd⟩ := dpAll_map_at dr (i := yi.length) (x := yl) (by simp)
    have : r.getLast? = some q := by
      rw [List.getLast?_eq_getElem?]
      have : r.length - 1 = yi.length := by simp at hyl; omega
      rw [this]
      exact hq
    rw [this]
    exact hd

/-! ### the fours by the laws' own look -/
def sp_vfour (K : PySem.W.Frag) : Sp := fun vs H Q _ => ∃ (a : Addr) (ws : List V) (l c : Prs), vs = [.ref a] ∧ SqL K H a ws ∧ DpAll K H ws (l.map pairP) ∧ (c.Pairwise fun p q => p.1 < q.1) ∧ l.Perm c ∧ l.length ≤ 100000 ∧ ∀ u H', Same H H' → Dp K H' u (fourD (fourL c)) → Q u H'
theorem least_head {f : Int × Int} {r l : Prs} {p : Int × Int} (up : (f :: r).Pairwise fun p q => p.1 < q.1) (pm : l.Perm (f :: r)) (hp : p ∈ l) (h : ∀ x ∈ l, ltB x p = false) : p = f := by
  rcases List.mem_cons.mp (pm.mem_iff.mp hp) with e | e
  · exact e
  · have h1 := (List.pairwise_cons.mp up).1 p e
    have h2 := of_decide_eq_false (h f (pm.mem_iff.mpr (List.mem_cons_self ..)))
    unfold Fp.ltP at h2
    omega
theorem most_last {f : Int × Int} {r l : Prs} {p : Int × Int} (up : (f :: r).Pairwise fun p q => p.1 < q.1) (pm : l.Perm (f :: r)) (hp : p ∈ l) (h : ∀ x ∈ l, gtB x p = false) : p = (r.getLast?).getD f := by
  have key : ∀ x ∈ f :: r, x.1 ≤ p.1 := fun x hx => by
    have h2 := of_decide_eq_false (h x (pm.mem_iff.mpr hx))
    unfold Fp.ltP at h2
    omega
  have hp' := pm.mem_iff.mp hp
  rcases List.eq_nil_or_concat r with rfl | ⟨i, z, rfl⟩
  · rw [List.mem_singleton.mp hp']; rfl
  · rw [List.concat_eq_append] at *
    have hz : z ∈ f :: (i ++ [z]) := by simp
    have e : ((i ++ [z]).getLast?).getD f = z := by simp
    rw [e]
    have up2 : ((f :: i) ++ [z]).Pairwise fun p q => p.1 < q.1 := up
    rcases List.mem_append.mp (show p ∈ (f :: i) ++ [z] from hp') with y | y
    · have := (List.pairwise_append.mp up2).2.2 p y z (List.mem_singleton.mpr rfl)
      have := key z hz
      omega
    · exact List.mem_singleton.mp y
section
variable {P : Program} {w : World} {K : PySem.W.Frag} {mg : Str → Option Value} {base : Heap}
theorem ok_law_four (B : Blt mg) (D : Def K mg "_law_four" s_law_four ["_law_some"]) :
    Fn P w K mg base 1 "_law_four" ["_law_some"] (sp_vfour K) := by
  refine D.ok sc_law_four (fun vs H Q E h => ?_) (fun f cdv A outer s H vs Q E hr h => ?_)
  · obtain ⟨a, ws, l, c, rfl, ha, hd, up, pm, hl, q⟩ := h
    rfl
  · obtain ⟨a, ws, l, c, rfl, ha, hd, up, pm, hl, q⟩ := h
    refine ⟨_, (pss_cons (ps_if (pt_cmpR (opK K (o_eqNil hr.units)) (pv 0) (pe_lst pa_nil) (nomark _))
      (pss_one (ps_ret pe_non))
      pss_nil)
      (pss_cons (ps_set (i := 1) sc_law_four.nd rfl (Or.inl rfl) (pe_ix (ixK K ix_seq) (pe_callB (crK K c_sortedPD) rfl B.sorted (by decide +kernel) (pa_cons (pe_lc (own := [("_law_t", 3), ("_law_h", 4)]) (g := gTup K 2 (gCons (gName 3) (gCons (gName 4) gNil))) (tt := tYes) rfl sc_law_four.nd (piK_list K (pv 0)) (blkOk_by (N := ["_law_some", "_law_low", "_law_high", "_law_t", "_law_h"]) (sc := defScope s_law_four) (by decide +kernel)) (fun _ _ _ _ _ => (pgK_tup K (n := 2) rfl (pgs_cons (pg_name (i := 3) sc_law_four.nd rfl (Or.inl rfl)) (pgs_cons (pg_name (i := 4) sc_law_four.nd rfl (Or.inl rfl)) pgs_nil)))) (fun _ _ _ _ _ => pts_nil) (fun _ _ _ _ _ => (pe_tup (pa_cons (pv 4) (pa_cons (pv 3) pa_nil))))) pa_nil)) pe_int (fun _ _ => rfl)))
      (pss_cons (ps_set (i := 2) sc_law_four.nd rfl (Or.inl rfl) (pe_ix (ixK K ix_seq) (pe_callB (crK K c_sortedPD) rfl B.sorted (by decide +kernel) (pa_cons (pe_lc (own := [("_law_t", 3), ("_law_h", 4)]) (g := gTup K 2 (gCons (gName 3) (gCons (gName 4) gNil))) (tt := tYes) rfl sc_law_four.nd (piK_list K (pv 0)) (blkOk_by (N := ["_law_some", "_law_low", "_law_high", "_law_t", "_law_h"]) (sc := defScope s_law_four) (by decide +kernel)) (fun _ _ _ _ _ => (pgK_tup K (n := 2) rfl (pgs_cons (pg_name (i := 3) sc_law_four.nd rfl (Or.inl rfl)) (pgs_cons (pg_name (i := 4) sc_law_four.nd rfl (Or.inl rfl)) pgs_nil)))) (fun _ _ _ _ _ => pts_nil) (fun _ _ _ _ _ => (pe_tup (pa_cons (pe_un un_neg (pv 4)) (pa_cons (pv 3) pa_nil))))) pa_nil)) pe_int (fun _ _ => rfl)))
      (pss_one (ps_ret (pe_tup (pa_cons (pe_callB (crK K (c_min1 rfl hr.units)) rfl B.min (by decide +kernel) (pa_cons (pv 0) pa_nil)) (pa_cons (pe_callB (crK K (c_max1 rfl hr.units)) rfl B.max (by decide +kernel) (pa_cons (pv 0) pa_nil)) (pa_cons (pe_tup (pa_cons (pe_ix (ixK K ix_seq) (pv 1) pe_int (fun _ _ => rfl)) (pa_cons (pe_ix (ixK K ix_seq) (pv 1) pe_int (fun _ _ => rfl)) pa_nil))) (pa_cons (pe_tup (pa_cons (pe_ix (ixK K ix_seq) (pv 2) pe_int (fun _ _ => rfl)) (pa_cons (pe_un un_neg (pe_ix (ixK K ix_seq) (pv 2) pe_int (fun _ _ => rfl))) pa_nil))) pa_nil)))))))))), ?_⟩
    refine r_start (σ' := [some (.ref a), none, none, none, none]) rfl ?_
    walk_at "a"
    rename_i p1 H1 n1 s1 e1
    refine i_cases (fun h => ?_) (fun h => ?_)
    · subst h
      have : l = [] := by
        cases l with
        | nil => rfl
        | cons x r => cases hd
      subst this
      rw [List.nil_perm.mp pm] at q
      walk_at "a"
      exact q _ _ s1 .non
    have hne : l ≠ [] := fun z => h (by subst z; cases hd; rfl)
    cases c with
    | nil => exact absurd (List.perm_nil.mp pm) hne
    | cons f r =>
    have ha1 := s1.seq ha
    have hd1 := DpAll.same s1 _ _ hd
    walk_at "a"
    refine lc_lstD ha1 hd1 (by omega) (fun _ => true) (fun p => pairP (p.2, p.1)) (fun c => imm_pair _) (fun p x H2 S N hp s2 hx k1 k2 => ?_) (fun D H2 ys hD s2 e2 p2 => ?_)
    · obtain ⟨px, rfl, hpx⟩ := dp_pair hx
      walk_at "a"
      refine ⟨rfl, ?_⟩
      walk_at "a"
      exact k1 rfl _ _ (by assumption) (dp_of_pair (SqT.of (by assumption)))
    rw [Fp.filter_all] at p2
    have p2 : DpAll K H2 ys ((l.map fun p => (p.2, p.1)).map pairP) := by rw [List.map_map]; exact p2
    walk_at "a"
    refine r_sortedPD (SqL.of e2) p2 fun zs l' p3 H3 lex pm' n3 s3 e3 d3 => ?_
    have pm1 := pm'.trans (pm.map fun p : Int × Int => (p.2, p.1))
    cases l' with
    | nil => have := pm1.length_eq; simp at this
    | cons x xr =>
    obtain ⟨zx, zr, rfl, dx, dr⟩ : ∃ zx zr, zs = zx :: zr ∧ Dp K H3 zx (pairP x) ∧ DpAll K H3 zr (xr.map pairP) := by
      have d3 : DpAll K H3 zs (pairP x :: xr.map pairP) := d3
      cases d3 with
      | cons h1 h2 => exact ⟨_, _, rfl, h1, h2⟩
    obtain ⟨px, rfl, hpx⟩ := dp_pair dx
    have elow := low_sorted up lex pm1
    have s13 := s2.trans s3
    have ha3 := s13.seq ha1
    have hd3 := DpAll.same s13 _ _ hd1
    walk_at "a"
    refine r_ixl (SqL.of e3) (atI_nat (j := 0) rfl) ?_
    walk_at "a"
    refine lc_lstD ha3 hd3 (by omega) (fun _ => true) (fun p => pairP (-p.2, p.1)) (fun c => imm_pair _) (fun p x H2 S N hp s2 hx k1 k2 => ?_) (fun D2 H4 ys2 hD2 s4 e4 p4 => ?_)
    · obtain ⟨px, rfl, hpx⟩ := dp_pair hx
      walk_at "a"
      refine ⟨rfl, ?_⟩
      walk_at "a"
      exact k1 rfl _ _ (by assumption) (dp_of_pair (SqT.of (by assumption)))
    rw [Fp.filter_all] at p4
    have p4 : DpAll K H4 ys2 ((l.map fun p => (-p.2, p.1)).map pairP) := by rw [List.map_map]; exact p4
    walk_at "a"
    refine r_sortedPD (SqL.of e4) p4 fun zs2 l2 p5 H5 lex2 pm2' n5 s5 e5 d5 => ?_
    have pm2 := pm2'.trans (pm.map fun p : Int × Int => (-p.2, p.1))
    cases l2 with
    | nil => have := pm2.length_eq; simp at this
    | cons x2 xr2 =>
    obtain ⟨zx2, zr2, rfl, dx2, dr2⟩ : ∃ zx zr, zs2 = zx :: zr ∧ Dp K H5 zx (pairP x2) ∧ DpAll K H5 zr (xr2.map pairP) := by
      have d5 : DpAll K H5 zs2 (pairP x2 :: xr2.map pairP) := d5
      cases d5 with
      | cons h1 h2 => exact ⟨_, _, rfl, h1, h2⟩
    obtain ⟨px2, rfl, hpx2⟩ := dp_pair dx2
    have ehigh := high_sorted up lex2 pm2
    have s35 := s4.trans s5
    have ha5 := s35.seq ha3
    have hd5 := DpAll.same s35 _ _ hd3
    have hpx5 := SqT.text (TExt.of_same s35) hpx
    walk_at "a"
    refine r_ixl (SqL.of e5) (atI_nat (j := 0) rfl) ?_
    walk_at "a"
    refine r_minP ha5 hd5 hne fun um pmn h1 h2 dm => ?_
    walk_at "a"
    refine r_minP ha5 hd5 hne fun ux pmx h3 h4 dmx => ?_
    rw [least_head up pm h1 h2] at dm
    rw [most_last up pm h3 h4] at dmx
    walk_at "a"
    rename_i pl H6 n6 s6 e6 ph H7 n7 s7 e7 pp H8 n8 s8 e8
    rw [fourL_eq, elow, ehigh] at q
    have s58 := (s6.trans s7).trans s8
    refine q _ H8 (((s1.trans s13).trans s35).trans s58) (.tup (SqT.of e8) (.cons (Dp.same s58 _ _ dm) (.cons (Dp.same s58 _ _ dmx) (.cons (dp_of_pair (SqT.of (s8 _ _ (s7 _ _ e6)))) (.cons (dp_of_pair (SqT.of (s8 _ _ e7))) .nil)))))
end
theorem use_vfour {K : PySem.W.Frag} {H : Hp} {Q : VK} {E : XK} {a : Addr} {ws : List V} {l c : Prs} (ha : SqL K H a ws) (hd : DpAll K H ws (l.map pairP)) (up : c.Pairwise fun p q => p.1 < q.1) (pm : l.Perm c) (hl : l.length ≤ 100000) (q : ∀ u H', Same H H' → Dp K H' u (fourD (fourL c)) → Q u H') : sp_vfour K [.ref a] H Q E := ⟨a, ws, l, c, rfl, ha, hd, up, pm, hl, q⟩
def sp_vfours (K : PySem.W.Frag) : Sp := fun vs H Q _ => ∃ (qd a : Addr) (c : Prs) (b w m : Int), vs = [.ref qd, .ref a] ∧ HeldAt H qd c ∧ c.length ≤ 90 ∧ SqT K H a [.int b, .int w, .int m] ∧ InWin b w m ∧ ∀ u H', Same H H' → Dp K H' u (foursDS c b w m.toNat) → Q u H'
section
variable {P : Program} {w : World} {K : PySem.W.Frag} {mg : Str → Option Value} {base : Heap}
theorem ok_law_fours (B : Blt mg) {A_View : Addr} (T_View : ClT K mg "View" A_View) (N_View_shown : NoAttr K A_View "shown") (N_View_window : NoAttr K A_View "window") (N_View_known : NoAttr K A_View "known") (N_View_heard : NoAttr K A_View "heard") (N_View_asked : NoAttr K A_View "asked") {A_Store : Addr} (T_Store : ClT K mg "Store" A_Store) (N_Store_heights : NoAttr K A_Store "heights") (N_Store_by_stretches : NoAttr K A_Store "by_stretches") (N_Store_deeds : NoAttr K A_Store "deeds") (N_Store_deed_times : NoAttr K A_Store "deed_times") (N_Store_watches : NoAttr K A_Store "watches") (D : Def K mg "_law_fours" s_law_fours ["_law_made", "_law_window_here"]) (G_law_four : Fn P w K mg base 1 "_law_four" ["_law_some"] (sp_vfour K)) :
    Fn P w K mg base 2 "_law_fours" ["_law_made", "_law_window_here"] (sp_vfours K) := by
  refine D.ok sc_law_fours (fun vs H Q E h => ?_) (fun f cdv A outer s H vs Q E hr h => ?_)
  · obtain ⟨qd, a, c, b, w', m, rfl, hh, lc, ha, ⟨h1, h2, h3, h4, h5, h6⟩, q⟩ := h
    rfl
  · obtain ⟨qd, a, c, b, w', m, rfl, hh, lc, ha, ⟨h1, h2, h3, h4, h5, h6⟩, q⟩ := h
    refine ⟨_, (pss_cons (ps_asg (pv 1) (pgK_tup K (n := 3) rfl (pgs_cons (pg_name (i := 2) sc_law_fours.nd rfl (Or.inl rfl)) (pgs_cons (pg_name (i := 3) sc_law_fours.nd rfl (Or.inr rfl)) (pgs_cons (pg_name (i := 4) sc_law_fours.nd rfl (Or.inl rfl)) pgs_nil)))))
      (pss_cons (ps_set (i := 5) sc_law_fours.nd rfl (Or.inl rfl) (pe_lst pa_nil))
      (pss_cons (ps_for PassesOwn.never rfl (pi_range1 rfl B.range (pa_cons (pv 4) pa_nil)) (pg_name (i := 6) sc_law_fours.nd rfl (Or.inl rfl))
      (pss_cons (ps_set (i := 7) sc_law_fours.nd rfl (Or.inr rfl) (pe_op op_add (pv 2) (pe_op op_mulY (pv 6) (pv 3))))
      (pss_one (ps_expr (peK_bm K PySem.F.plainAttrs_list PySem.F.slot_list_append PySem.F.type_list_append mt_append (pv 5) (pa_cons (pe_fn G_law_four hr (pa_cons (pe_lock (pe_lc (own := [("_law_t", 8)]) (g := gName 8) (tt := _) rfl sc_law_fours.nd (pi_keys (pv 0)) (blkOk_by (N := ["_law_made", "_law_window_here", "_law_begin", "_law_wide", "_law_many", "_law_columns", "_law_k", "_law_first", "_law_t"]) (sc := defScope s_law_fours) (by decide +kernel)) (fun _ _ _ _ _ => (pg_name (i := 8) sc_law_fours.nd rfl (Or.inl rfl))) (fun _ _ _ _ _ => pts_one (pt_chain op_le op_lt (pv 7) (pv 8) (pe_op op_add (pv 7) (pv 3)))) (fun _ _ _ _ _ => (pe_tup (pa_cons (pv 8) (pa_cons (pe_dget (hu_of hr) (pv 0) (pv 8) (fun _ _ => rfl)) pa_nil)))))) pa_nil)) pa_nil))))))
      (pss_one (ps_ret (pe_callTy (crK K c_tuple) rfl B.tuple (by decide +kernel) (pa_cons (pv 5) pa_nil))))))), ?_⟩
    refine r_start (σ' := [some (.ref qd), some (.ref a), none, none, none, none, none, none, none]) rfl ?_
    walk_at "a"
    rename_i fd H1 n1 s1 e1
    refine for_wk wk_rng (fun i σ H' => (∃ v1 v2 v3 : Option V, σ = [some (.ref qd), some (.ref a), some (.int b), some (.int w'), some (.int m), some (.ref fd), v1, v2, v3]) ∧ Keep (At fd) H1 H' ∧ TExt H1 H' ∧ ∃ us, H' fd = some (.lst us) ∧ DpAll K H' us ((List.range i).map fun k => fourD (fourL (partL c (winS b w' k).1 (winS b w' k).2))))
      ⟨⟨_, _, _, rfl⟩, Keep.refl _, TExt.refl _, [], e1, .nil⟩ (fun _ _ _ _ _ => trivial) ?_ ?_
    · rintro i y σ H2 H2' hi ⟨⟨v1, v2, v3, rfl⟩, k2, t2, us, e2, d2⟩ ⟨rfl, rfl⟩
      have fq : ¬ At fd qd := fun z => hh.live (by rw [show qd = fd from z]; exact n1)
      obtain ⟨⟨md, m1', m2', m3'⟩, crv⟩ := (hh.same s1).keep k2 fq
      have hml := perm_len m2' (up_nodup crv.up) m3'
      have hus : us.length = i := by rw [dpAll_len d2]; simp
      have i1000 : i < 1000 := by omega
      have hkw : (i : Int) * w' ≤ 1000 * 1000000000000000 := Int.mul_le_mul (by omega) (by omega) (by omega) (by omega)
      have hkw0 : 0 ≤ (i : Int) * w' := Int.mul_nonneg (by omega) (by omega)
      rw [Int.zero_add (i : Int)]
      walk_at "a"
      refine r_bml (SqL.of e2) ?_
      walk_at "a"
      refine r_lockE m1' fun od Hl el ol => ?_
      walk_at "a"
      try refine r_ikeys ?_
      walk_at "a"
      refine r_keys el ?_
      refine lc_keysD (K := K) el (by omega) (fun p => decide (b + (i : Int) * w' ≤ p.1) && decide (p.1 < b + (i : Int) * w' + w')) pairP imm_pair (fun p H3 S N hp s3 g1 g2 => ?_) (fun D H3 ys hD s3 e3 p3 => ?_)
      · refine r_gname ⟨wipe_one, ?_⟩
        walk_at "a"
        refine i_cases (fun h3 => ?_) (fun h3 => ?_)
        · walk_at "a"
          refine i_cases (fun h4 => ?_) (fun h4 => ?_)
          · walk_at "a"
            try refine r_dget ?_
            walk_at "a"
            refine r_dgetf (s3 _ _ el) ((valP_iff m2').mpr (show (p.1, p.2) ∈ md from hp)) ?_
            walk_at "a"
            exact g1 (by rw [decide_eq_true h3, decide_eq_true h4]; rfl) _ _ (by assumption) (dp_of_pair (SqT.of (by assumption)))
          · exact g2 (by rw [decide_eq_true h3, decide_eq_false h4]; rfl) _ (Same.refl _)
        · walk_at "a"
          exact g2 (by rw [decide_eq_false h3]; rfl) _ (Same.refl _)
      have p3 : DpAll K H3 ys ((partL md (b + (i : Int) * w') (b + (i : Int) * w' + w')).map pairP) := p3
      refine ⟨s3 _ _ el, ?_⟩
      have s4 := unlock_same m1' ol s3
      have e4 : upd H3 qd (.dK (md.map inj)) D = some (.lst ys) := by rw [upd_ne (fun z => by rw [z, el] at hD; cases hD)]; exact e3
      have p4 := unlock_pairs (s3 _ _ el) p3
      generalize upd H3 qd (.dK (md.map inj)) = H4 at *
      walk_at "a"
      have upc : (partL c (winS b w' i).1 (winS b w' i).2).Pairwise fun p q => p.1 < q.1 := crv.up.sublist List.filter_sublist
      have pmc : (partL md (b + (i : Int) * w') (b + (i : Int) * w' + w')).Perm (partL c (winS b w' i).1 (winS b w' i).2) := by
        have nd1 : md.Nodup := List.Pairwise.of_map _ (fun a b h z => h (by rw [z])) m2'
        have nd2 : c.Nodup := crv.up.imp fun {a b} h e => by subst e; exact Int.lt_irrefl _ h
        refine (List.perm_ext_iff_of_nodup (nd1.sublist List.filter_sublist) (nd2.sublist List.filter_sublist)).mpr fun p => ?_
        show p ∈ partL md _ _ ↔ p ∈ partL c (b + (i : Int) * w') (b + (i : Int) * w' + w')
        rw [mem_partL, mem_partL, m3']
      refine use_vfour (SqL.of e4) p4 upc pmc (Nat.le_trans (partL_len _ _ _) (by omega)) fun u H5 s5 d5 => ?_
      walk_at "a"
      have s25 : Same H2' H5 := s4.trans s5
      have e25 := s25 _ _ e2
      refine r_append e25 (by rw [sizeLine_eq]; omega) fun H7 k7 e7 => ?_
      have t7 := TExt.lst k7 e25
      walk_at "a"
      refine ⟨⟨_, _, _, rfl⟩, (k2.trans (Keep.of_same s25)).trans k7, (t2.trans (TExt.of_same s25)).trans t7, us ++ [u], e7, ?_⟩
      rw [List.range_succ, List.map_append]
      exact dpAll_snoc (DpAll.text ((TExt.of_same s25).trans t7) _ _ (immAll_map _ (fun k => imm_four _) _) d2) (Dp.text t7 _ _ (imm_four _) d5)
    · rintro σ H2 ⟨⟨v1, v2, v3, rfl⟩, k2, t2, us, e2, d2⟩
      walk_at "a"
      rename_i x H3 n3 s3 e3
      refine q _ H3 ((same_at s1 n1 k2).trans s3) (.tup (SqT.of e3) ?_)
      unfold foursS
      rw [List.map_map]
      exact DpAll.same s3 _ _ d2
end
theorem use_vfours {K : PySem.W.Frag} {H : Hp} {Q : VK} {E : XK} {qd a : Addr} {c : Prs} {b w m : Int} (hh : HeldAt H qd c) (lc : c.length ≤ 90) (ha : SqT K H a [.int b, .int w, .int m]) (win : InWin b w m) (q : ∀ u H', Same H H' → Dp K H' u (foursDS c b w m.toNat) → Q u H') : sp_vfours K [.ref qd, .ref a] H Q E := ⟨qd, a, c, b, w, m, rfl, hh, lc, ha, win, q⟩

/-! what of fours is shown -/
theorem wd_pow {z : Int} (h : Wd z) : z.natAbs < 2 ^ 1919 := by
  have h1 : z.natAbs < 2 ^ 200 := by
    have : (2 : Nat) ^ 200 > 1000000000000000000000000000000000000000000000000000000000000 := by decide +kernel
    have := h.1
    have := h.2
    omega
  exact Nat.lt_of_lt_of_le h1 (Nat.pow_le_pow_right (by decide) (by decide))
theorem shw_pair {p : Int × Int} (h : Wd p.1 ∧ Wd p.2) : Shw (pairP p) 4000 := (Shw.tup (xs := [.int p.1, .int p.2]) fun x hx => by
  rcases List.mem_cons.mp hx with rfl | hx
  · exact Shw.int (wd_pow h.1)
  · have : x = .int p.2 := by simpa using hx
    rw [this]
    exact Shw.int (wd_pow h.2)).mono (by simp)
theorem shw_fourL {c : Prs} (h : ∀ p ∈ c, Wd p.1 ∧ Wd p.2) : Shw (fourD (fourL c)) 17000 := by
  cases e : fourL c with
  | none => exact Shw.none.mono (by decide)
  | some G =>
    have fin := four_in e
    refine (Shw.tup (xs := [pairP G.f, pairP G.l, pairP G.lo, pairP G.hi]) (b := 4000) fun x hx => ?_).mono (by simp)
    simp only [List.mem_cons, List.not_mem_nil, or_false] at hx
    rcases hx with rfl | rfl | rfl | rfl
    · exact shw_pair (h _ fin.f)
    · exact shw_pair (h _ fin.l)
    · exact shw_pair (h _ fin.lo)
    · exact shw_pair (h _ fin.hi)
theorem show_fours {c : Prs} {b w : Int} {n : Nat} (h : ∀ p ∈ c, Wd p.1 ∧ Wd p.2) (hn : n ≤ 900) : Show (foursDS c b w n) := by
  refine ((Shw.tup (xs := (foursS c b w n).map fourD) (b := 17000) fun x hx => ?_).mono (b' := 16000000) ?_).show (by decide) ?_
  · obtain ⟨F, hF, rfl⟩ := List.mem_map.mp hx
    obtain ⟨k, hk, rfl⟩ := List.mem_map.mp hF
    exact shw_fourL fun p hp => h p (mem_partL.mp hp).1
  · simp [foursS]
    omega
  · exact Nat.le_trans (shp_foursS c b w n).d (by decide)
def winD (b w m : Int) : PyData := .tuple [.int b, .int w, .int m]
theorem show_win {b w m : Int} (h1 : Wd b) (h2 : Wd w) (h3 : Wd m) : Show (winD b w m) := by
  refine ((Shw.tup (xs := [.int b, .int w, .int m]) (b := 1921) fun x hx => ?_).mono (b' := 16000000) (by simp)).show (by decide) ?_
  · simp only [List.mem_cons, List.not_mem_nil, or_false] at hx
    rcases hx with rfl | rfl | rfl
    · exact Shw.int (wd_pow h1)
    · exact Shw.int (wd_pow h2)
    · exact Shw.int (wd_pow h3)
  · simp [winD, PyData.depth, PyData.depthAll]
theorem dp_win {K : PySem.W.Frag} {H : Hp} {a : Addr} {b w m : Int} (h : SqT K H a [.int b, .int w, .int m]) : Dp K H (.ref a) (winD b w m) := .tup h (.cons (.int _) (.cons (.int _) (.cons (.int _) .nil)))

/-! ### deeds -/
def DnAt (K : PySem.W.Frag) (H : Hp) (dn : Addr) (hs : List (Int × Prs)) : Prop := ∃ vs, H dn = some (.lst vs) ∧ DpAll K H vs (hs.reverse.map deedD)
theorem DnAt.keep {K : PySem.W.Frag} {H H' : Hp} {dn : Addr} {hs : List (Int × Prs)} {F : Addr → Prop} (h : DnAt K H dn hs) (k : Keep F H H') (t : TExt H H') (n : ¬ F dn) : DnAt K H' dn hs := by
  obtain ⟨vs, e, d⟩ := h
  exact ⟨vs, k _ _ e n, DpAll.text t _ _ (immAll_map _ imm_deed _) d⟩
theorem DnAt.same {K : PySem.W.Frag} {H H' : Hp} {dn : Addr} {hs : List (Int × Prs)} (h : DnAt K H dn hs) (s : Same H H') : DnAt K H' dn hs := h.keep (F := No) (Keep.of_same s) (TExt.of_same s) (fun z => z)
theorem held_len {K : PySem.W.Frag} {C : Addr} {H : Hp} {a : SA} {c : Prs} {hs : List (Int × Prs)} {ts : List Int} {ws : List Watch} {z : Nat} (S : StoreAt K C H a c hs ts ws z) : c.length ≤ z := by
  obtain ⟨m, h1, h2, h3, h4⟩ := S.core.hh
  have := perm_len h2 (up_nodup S.crv.up) h3
  omega
theorem dn_last {K : PySem.W.Frag} {H : Hp} {vs : List V} {t : Int} {c0 : Prs} {r : List (Int × Prs)} (d : DpAll K H vs (((t, c0) :: r).reverse.map deedD)) : ∃ vi vl, vs = vi ++ [vl] ∧ DpAll K H vi (r.reverse.map deedD) ∧ Dp K H vl (deedD (t, c0)) := by
  rw [List.reverse_cons, List.map_append] at d
  have hl := dpAll_len d
  refine ⟨vs.take (r.reverse.map deedD).length, (vs.drop (r.reverse.map deedD).length).getD 0 .non, ?_, ?_, ?_⟩
  · have h5 : (vs.drop (r.reverse.map deedD).length).length = 1 := by rw [List.length_drop, hl]; simp
    obtain ⟨y, hy⟩ := List.length_eq_one_iff.mp h5
    rw [hy]
    show vs = _ ++ [y]
    rw [← hy, List.take_append_drop]
  · have := dpAll_take (r.reverse.map deedD).length d
    rwa [List.take_left'] at this
    rfl
  · have h6 := dpAll_drop (r.reverse.map deedD).length d
    rw [List.drop_left'] at h6
    · cases hdr : vs.drop (r.reverse.map deedD).length with
      | nil => rw [hdr] at h6; cases h6
      | cons y ys => rw [hdr] at h6; cases h6 with | cons h7 _ => exact h7
    · rfl
theorem dn_more {K : PySem.W.Frag} {H : Hp} {vs : List V} {t : Int} {c : Prs} {hs : List (Int × Prs)} {x : V} (d : DpAll K H vs (hs.reverse.map deedD)) (h : Dp K H x (deedD (t, c))) : DpAll K H (vs ++ [x]) (((t, c) :: hs).reverse.map deedD) := by
  rw [List.reverse_cons, List.map_append]
  exact dpAll_snoc d h
abbrev WdC (c : Prs) : Prop := ∀ x ∈ c, Wd x.2
def sp_ldeed (K : PySem.W.Frag) (C : Addr) : Sp := fun vs H Q _ => ∃ (p wa qd dn : Addr) (a : SA) (c : Prs) (hs : List (Int × Prs)) (ts : List Int) (z : Nat) (b w m : Int), vs = [.ref p, .ref a.p, .ref qd, .ref dn, .ref wa] ∧ Pot H p ∧ StoreAt K C H a c hs ts [] z ∧ z ≤ 9000 ∧ HeldAt H qd c ∧ DnAt K H dn hs ∧ SqT K H wa [.int b, .int w, .int m] ∧ InWin b w m ∧
  (qd ∉ a.all ∧ dn ∉ a.all ∧ p ∉ a.all ∧ p ≠ dn) ∧ WdC c ∧ (∀ d ∈ hs, WdC d.2) ∧
  ∀ (tv : Option Int) (c' : Prs) (hs' : List (Int × Prs)) (ts' : List Int) (z' : Nat) (H' : Hp), Keep (fun x => x ∈ a.all ∨ x = qd ∨ x = dn ∨ x = p) H H' → TExt H H' → Pot H' p → StoreAt K C H' a c' hs' ts' [] z' → z' ≤ z + 1 → HeldAt H' qd c' → DnAt K H' dn hs' → WdC c' → (∀ d ∈ hs', WdC d.2) →
    ((tv = none ∧ c' = c ∧ ts' = ts) ∨ ∃ t, tv = some t ∧ Beside t c c' ∧ ts' = ts ++ [t]) → Q (optV tv) H'
section
variable {P : Program} {w : World} {K : PySem.W.Frag} {mg : Str → Option Value} {base : Heap}
theorem ok_law_deed (B : Blt mg) {A_View : Addr} (T_View : ClT K mg "View" A_View) (N_View_shown : NoAttr K A_View "shown") (N_View_window : NoAttr K A_View "window") (N_View_known : NoAttr K A_View "known") (N_View_heard : NoAttr K A_View "heard") (N_View_asked : NoAttr K A_View "asked") {A_Store : Addr} (T_Store : ClT K mg "Store" A_Store) (N_Store_heights : NoAttr K A_Store "heights") (N_Store_by_stretches : NoAttr K A_Store "by_stretches") (N_Store_deeds : NoAttr K A_Store "deeds") (N_Store_deed_times : NoAttr K A_Store "deed_times") (N_Store_watches : NoAttr K A_Store "watches") (D : Def K mg "_law_deed" s_law_deed ["_law_pot_here", "_law_store", "_law_made", "_law_done", "_law_window_here"]) (G_law_draw : Fn P w K mg base 1 "_law_draw" ["_law_pot_here", "_law_many"] (sp_take K)) (G_law_time : Fn P w K mg base 2 "_law_time" ["_law_pot_here", "_law_window_here"] (sp_ltime K)) (G_law_height : Fn P w K mg base 2 "_law_height" ["_law_pot_here"] (sp_lheight K)) (G_Store_undo : MFn P w K mg base 4 A_Store "undo" ["self"] (sp_s_undo K A_Store)) (G_Store_take : MFn P w K mg base 4 A_Store "take" ["self", "t"] (sp_s_take K A_Store E_NoSample)) (G_Store_put : MFn P w K mg base 4 A_Store "put" ["self", "t", "h"] (sp_s_put K A_Store E_OutOfTimes)) :
    Fn P w K mg base 5 "_law_deed" ["_law_pot_here", "_law_store", "_law_made", "_law_done", "_law_window_here"] (sp_ldeed K A_Store) := by
  refine D.ok sc_law_deed (fun vs H Q E h => ?_) (fun f cdv A outer s H vs Q E hr h => ?_)
  · obtain ⟨p, wa, qd, dn, a, c, hs, ts, z, b, w', m, rfl, hp, S, hz, hh, hdn, hwa, win, ⟨nq, nd, np, pd⟩, wc, wh, q⟩ := h
    rfl
  · obtain ⟨p, wa, qd, dn, a, c, hs, ts, z, b, w', m, rfl, hp, S, hz, hh, hdn, hwa, win, ⟨nq, nd, np, pd⟩, wc, wh, q⟩ := h
    refine ⟨_, (pss_cons (ps_set (i := 5) sc_law_deed.nd rfl (Or.inl rfl) (pe_fn G_law_draw hr (pa_cons (pv 0) (pa_cons pe_int pa_nil))))
      (pss_cons (ps_set (i := 6) sc_law_deed.nd rfl (Or.inl rfl) (pe_fn G_law_time hr (pa_cons (pv 0) (pa_cons (pv 4) pa_nil))))
      (Evl.pss_cut (ps_if (PW.pt (pw_and (pt_cmpR op_gt (pv 5) pe_int (nomark _)) (pw_and1 (pt_cmpR op_gt (pe_callB c_lenD rfl B.len (by decide +kernel) (pa_cons (pv 2) pa_nil)) pe_int (nomark _)))))
      (pss_one (ps_set (i := 6) sc_law_deed.nd rfl (Or.inl rfl) (pe_ix (ixK K ix_seq) (pe_callB (c_sortedDW rfl) rfl B.sorted (by decide +kernel) (pa_cons (pv 2) pa_nil)) (pe_fn G_law_draw hr (pa_cons (pv 0) (pa_cons (pe_callB c_lenD rfl B.len (by decide +kernel) (pa_cons (pv 2) pa_nil)) pa_nil))) (fun _ _ => rfl))))
      pss_nil)
      (pss_cons (ps_set (i := 7) sc_law_deed.nd rfl (Or.inl rfl) (pe_fn G_law_height hr (pa_cons (pv 0) pa_nil)))
      (Evl.pss_cut (ps_if (pt_cmpR (opK K (o_eq hr.units)) (pv 5) pe_int (nomark _))
      (pss_one (ps_set (i := 7) sc_law_deed.nd rfl (Or.inl rfl) (pe_dget2 (hu_of hr) (pv 2) (pv 6) (pv 7) ⟨rfl, rfl, rfl, rfl⟩)))
      pss_nil)
      (Evl.pss_cut (ps_if (pt_cmpR (opK K (o_eq hr.units)) (pv 5) pe_int (nomark _))
      (pss_cons (ps_expr (pe_meth0N G_Store_undo hr T_Store.cl (pv 1)))
      (pss_cons (ps_if (pt_cmpR (opK K (o_eqNil hr.units)) (pv 3) (pe_lst pa_nil) (nomark _))
      (pss_one (ps_ret pe_non))
      pss_nil)
      (pss_one (ps_asg (peK_bm0 K PySem.F.plainAttrs_list PySem.F.slot_list_pop PySem.F.type_list_pop mt_pop (pv 3)) (pgK_tup K (n := 2) rfl (pgs_cons (pg_name (i := 6) sc_law_deed.nd rfl (Or.inl rfl)) (pgs_cons (pg_name (i := 7) sc_law_deed.nd rfl (Or.inl rfl)) pgs_nil)))))))
      (pss_one (ps_if (PW.pt (pw_and (pt_cmpR (opK K (o_eq hr.units)) (pv 5) pe_int (nomark _)) (pw_and1 (pt_cmp (pc_din (hu_of hr) (pv 6) (pv 2))))))
      (pss_cons (ps_expr (pe_methN G_Store_take hr T_Store.cl (pv 1) (pa_cons (pv 6) pa_nil)))
      (pss_cons (ps_expr (peK_bm K PySem.F.plainAttrs_list PySem.F.slot_list_append PySem.F.type_list_append mt_append (pv 3) (pa_cons (pe_tup (pa_cons (pv 6) (pa_cons (pe_dget (hu_of hr) (pv 2) (pv 6) (fun _ _ => rfl)) pa_nil))) pa_nil)))
      (pss_one (ps_set (i := 7) sc_law_deed.nd rfl (Or.inl rfl) pe_non))))
      (pss_cons (ps_expr (pe_methN G_Store_put hr T_Store.cl (pv 1) (pa_cons (pv 6) (pa_cons (pv 7) pa_nil))))
      (pss_one (ps_expr (peK_bm K PySem.F.plainAttrs_list PySem.F.slot_list_append PySem.F.type_list_append mt_append (pv 3) (pa_cons (pe_tup (pa_cons (pv 6) (pa_cons (pe_dget1 (hu_of hr) (pv 2) (pv 6) ⟨rfl, rfl, rfl, rfl⟩) pa_nil))) pa_nil))))))))
      (Evl.pss_cut (ps_expr (pe_dpop2 (pv 2) (pv 6) pe_non ⟨rfl, rfl, rfl, rfl⟩))
      (pss_cons (ps_if (pt_cmpR o_notN (pv 7) pe_non (nomark _))
      (pss_one (ps_dput (hu_of hr) (pv 2) (pv 6) (pv 7) rfl))
      pss_nil)
      (pss_one (ps_ret (pv 6))))))))))), ?_⟩
    refine r_start (σ' := [some (.ref p), some (.ref a.p), some (.ref qd), some (.ref dn), some (.ref wa), none, none, none]) rfl ?_
    have crv := S.crv
    have up := crv.up
    have lcz := held_len S
    walk_at "a"
    rename_i way H1 k1 hp1 y0 y1
    have t1 := hp.text k1
    refine use_ltime hp1 (SqT.text t1 hwa) win fun t H2 k2 hp2 ht => ?_
    have k02 := k1.trans k2
    have t02 := hp.text k02
    have S2 := S.other k02 t02 np
    have hh2 := hh.pot hp k02
    have dn2 := hdn.keep k02 t02 (Ne.symm pd)
    walk_at "a"
    refine r_cut (fun σ' H' => ∃ t : Int, σ' = [some (.ref p), some (.ref a.p), some (.ref qd), some (.ref dn), some (.ref wa), some (.int way), some (.int t), none] ∧ InT t ∧ Keep (At p) H2 H' ∧ Pot H' p) ?_ ?_
    · have fin : ∃ t' : Int, [some (V.ref p), some (.ref a.p), some (.ref qd), some (.ref dn), some (.ref wa), some (.int way), some (.int t), none] = [some (.ref p), some (.ref a.p), some (.ref qd), some (.ref dn), some (.ref wa), some (.int way), some (.int t'), none] ∧ InT t' ∧ Keep (At p) H2 H2 ∧ Pot H2 p := ⟨t, rfl, ht, Keep.refl _, hp2⟩
      obtain ⟨⟨md, m1, m2, m3⟩, _⟩ := id hh2
      have hml := perm_len m2 (up_nodup up) m3
      walk_at "a"
      refine i_cases (fun h => ?_) (fun h => ?_)
      · walk_at "a"
        refine r_lenD m1 ?_
        walk_at "a"
        refine i_cases (fun h2 => ?_) (fun h2 => ?_)
        · walk_at "a"
          refine r_sortedDW m1 (by omega) fun ys p3 H3 pm srt n3 s3 e3 => ?_
          walk_at "a"
          refine r_lenD (s3 _ _ m1) ?_
          walk_at "a"
          rename_i j H4 k4 p4 j0 j1
          obtain ⟨jn, rfl⟩ := Int.eq_ofNat_of_zero_le j0
          have hyl : ys.length = md.length := by rw [pm.length_eq, List.length_map]
          have hj : jn < ys.length := by omega
          have lp3 : p3 ≠ p := hp2.ne_new n3
          refine r_ixl (SqL.of (k4 _ _ e3 lp3)) (atI_nat (v := V.int ys[jn]) (by rw [List.getElem?_map, List.getElem?_eq_getElem hj]; rfl)) ?_
          walk_at "a"
          refine ⟨_, rfl, ?_, (Keep.of_same s3).trans k4, p4⟩
          obtain ⟨x, hx, e⟩ := List.mem_map.mp (pm.mem_iff.mp (List.getElem_mem hj))
          have := crv.rg x ((m3 x).mp hx)
          rw [← e]
          exact this
        · walk_at "a"
          exact fin
      · walk_at "a"
        exact fin
    rintro σ' H3 ⟨t, rfl, ht, k3, hp3⟩
    walk_at "a"
    rename_i h H4 k4 hp4 h0 h1
    have k04 := (k02.trans k3).trans k4
    have t04 := hp.text k04
    have S4 := S.other k04 t04 np
    have hh4 := hh.pot hp k04
    have dn4 := hdn.keep k04 t04 (Ne.symm pd)
    obtain ⟨⟨md, m1, m2, m3⟩, _⟩ := id hh4
    have hml := perm_len m2 (up_nodup up) m3
    have hv4 : ∀ t, valP md t = valP c t := val_ext m2 (up_nodup up) m3
    refine r_cut (fun σ' H' => H' = H4 ∧ ∃ h : Int, σ' = [some (.ref p), some (.ref a.p), some (.ref qd), some (.ref dn), some (.ref wa), some (.int way), some (.int t), some (.int h)] ∧ Wd h) ?_ ?_
    · walk_at "a"
      refine i_cases (fun hw => ?_) (fun hw => ?_)
      · walk_at "a"
        refine r_dget2k m1 ?_
        cases hv : valP md t with
        | none =>
          walk_at "a"
          exact ⟨rfl, h, rfl, h0, h1⟩
        | some v =>
          walk_at "a"
          exact ⟨rfl, v, rfl, wc (t, v) ((m3 _).mp ((valP_iff m2).mp hv))⟩
      · walk_at "a"
        exact ⟨rfl, h, rfl, h0, h1⟩
    rintro σ' H5 ⟨e5, h', rfl, hwd⟩
    subst e5
    obtain ⟨dxs, obs⟩ := S4.ob
    obtain ⟨vs, dl, dd⟩ := id dn4
    have hvl : vs.length = hs.length := by rw [dpAll_len dd, List.length_map, List.length_reverse]
    walk_at "a"
    refine r_cut (fun σ' H' => ∃ (t : Int) (o : Option Int) (hs' : List (Int × Prs)) (z' : Nat), σ' = [some (.ref p), some (.ref a.p), some (.ref qd), some (.ref dn), some (.ref wa), some (.int way), some (.int t), some (optV o)] ∧ InT t ∧ (∀ h, o = some h → Wd h) ∧ Keep (fun x => x ∈ a.all ∨ x = dn) H5 H' ∧ TExt H5 H' ∧
      StoreAt K A_Store H' a (setC c t o) hs' (ts ++ [t]) [] z' ∧ z' ≤ z + 1 ∧ DnAt K H' dn hs' ∧ (∀ d ∈ hs', WdC d.2)) ?_ ?_
    · walk_at "a"
      refine i_cases (fun hw => ?_) (fun hw => ?_)
      · walk_at "a"
        refine ⟨a, c, hs, ts, [], z, rfl, S4, by omega, fun hnil H6 s6 => ?_, fun t0 c0 r er H6 k6 S6 => ?_⟩
        · have dl6 := s6 _ _ dl
          walk_at "a"
          rename_i l7 H7 n7 s7 e7
          have h0 : vs = [] := by subst hnil; cases dd; rfl
          rw [decide_eq_true h0]
          walk_at "a"
          have s57 := s6.trans s7
          exact q none c hs ts z H7 (fun b o eb nb => s57 _ _ (k04 _ _ eb fun z => nb (.inr (.inr (.inr z))))) (t04.trans (TExt.of_same s57)) (hp4.same s57) (S4.same s57) (by omega) (hh4.same s57) (dn4.same s57) wc wh (.inl ⟨rfl, rfl, rfl⟩)
        · subst er
          obtain ⟨_, ht0, hdeed, ch'⟩ := S.ch
          have crv0 := ch'.crv
          have dl6 := k6 _ _ dl nd
          have t56 := S4.text k6
          have np6 := hp4.keep k6 np
          obtain ⟨vi, vl, rfl, d3, d4⟩ := dn_last dd
          obtain ⟨pl, rfl, hpl⟩ := dp_deed d4
          walk_at "a"
          rename_i l7 H7 n7 s7 e7
          rw [decide_eq_false (by simp)]
          have dl7 := s7 _ _ dl6
          walk_at "a"
          refine r_bm0l (SqL.of dl7) ?_
          refine r_pop dl7 fun H8 k8 e8 => ?_
          have t78 : TExt H7 H8 := TExt.lst k8 dl7
          have t58 := (t56.trans (TExt.of_same s7)).trans t78
          have hpl8 := SqT.text t58 hpl
          walk_at "a"
          have S8 := (S6.same s7).other k8 t78 nd
          refine ⟨t0, valP c0 t0, r, z + 1, rfl, ht0, fun h e => ?_, fun b o eb nb => k8 _ _ (s7 _ _ (k6 _ _ eb fun z => nb (.inl z))) fun z => nb (.inr z), t58, ?_, Nat.le_refl _, ⟨vi, e8, DpAll.text t58 _ _ (immAll_map _ imm_deed _) d3⟩, fun d hd => wh d (List.mem_cons_of_mem _ hd)⟩
          · exact wh (t0, c0) (List.mem_cons_self ..) (t0, h) ((valP_iff (up_nodup crv0.up)).mp e)
          · rw [setC_back crv0 crv hdeed]
            exact S8
      · walk_at "a"
        have szs := S4.sz
        refine i_cases (fun hw3 => ?_) (fun hw3 => ?_)
        · walk_at "a"
          rw [hv4]
          refine i_bool (fun hv => ?_) (fun hv => ?_)
          · obtain ⟨v, hv⟩ := Option.isSome_iff_exists.mp hv
            walk_at "a"
            refine use_s_take S4 (by omega) hv fun H6 k6 S6 => ?_
            have t56 := S4.text k6
            have dl6 := k6 _ _ dl nd
            have m16 := k6 _ _ m1 nq
            walk_at "a"
            refine r_bml (SqL.of dl6) ?_
            walk_at "a"
            try refine r_dget ?_
            walk_at "a"
            refine r_dgeti m16 (by rw [hv4]; exact hv) ?_
            walk_at "a"
            rename_i px H7 n7 s7 e7
            have dl7 := s7 _ _ dl6
            refine r_append dl7 (by rw [sizeLine_eq]; omega) fun H8 k8 e8 => ?_
            have t78 := TExt.lst k8 dl7
            have t58 := (t56.trans (TExt.of_same s7)).trans t78
            walk_at "a"
            have dx : Dp K H8 (.ref px) (deedD (t, c)) := .tup (SqT.text t78 (SqT.of e7)) (.cons (.int t) (.cons (by rw [show valP (t, c).2 (t, c).1 = some v from hv]; exact .int v) .nil))
            refine ⟨t, none, (t, c) :: hs, z + 1, rfl, ht, (fun h e => by cases e), fun b o eb nb => k8 _ _ (s7 _ _ (k6 _ _ eb fun z => nb (.inl z))) fun z => nb (.inr z), t58, (S6.same s7).other k8 t78 nd, Nat.le_refl _, ⟨_, e8, dn_more (DpAll.text t58 _ _ (immAll_map _ imm_deed _) dd) dx⟩, fun d hd => ?_⟩
            rcases List.mem_cons.mp hd with rfl | hd
            · exact wc
            · exact wh d hd
          · walk_at "a"
            refine use_s_put S4 (by omega) ht fun H6 k6 S6 => ?_
            have t56 := S4.text k6
            have dl6 := k6 _ _ dl nd
            have m16 := k6 _ _ m1 nq
            walk_at "a"
            refine r_bml (SqL.of dl6) ?_
            walk_at "a"
            refine r_dg2K m16 ?_
            rw [hv4, opt_val]
            walk_at "a"
            rename_i px H7 n7 s7 e7
            have dl7 := s7 _ _ dl6
            refine r_append dl7 (by rw [sizeLine_eq]; omega) fun H8 k8 e8 => ?_
            have t78 := TExt.lst k8 dl7
            have t58 := (t56.trans (TExt.of_same s7)).trans t78
            walk_at "a"
            refine ⟨t, some h', (t, c) :: hs, z + 1, rfl, ht, fun h e => by cases e; exact hwd, fun b o eb nb => k8 _ _ (s7 _ _ (k6 _ _ eb fun z => nb (.inl z))) fun z => nb (.inr z), t58, (S6.same s7).other k8 t78 nd, Nat.le_refl _, ⟨_, e8, dn_more (DpAll.text t58 _ _ (immAll_map _ imm_deed _) dd) (.tup (SqT.text t78 (SqT.of e7)) (.cons (.int t) (.cons (dp_optV K _ _) .nil)))⟩, fun d hd => ?_⟩
            rcases List.mem_cons.mp hd with rfl | hd
            · exact wc
            · exact wh d hd
        · walk_at "a"
          refine use_s_put S4 (by omega) ht fun H6 k6 S6 => ?_
          have t56 := S4.text k6
          have dl6 := k6 _ _ dl nd
          have m16 := k6 _ _ m1 nq
          walk_at "a"
          refine r_bml (SqL.of dl6) ?_
          walk_at "a"
          refine r_dg2K m16 ?_
          rw [hv4, opt_val]
          walk_at "a"
          rename_i px H7 n7 s7 e7
          have dl7 := s7 _ _ dl6
          refine r_append dl7 (by rw [sizeLine_eq]; omega) fun H8 k8 e8 => ?_
          have t78 := TExt.lst k8 dl7
          have t58 := (t56.trans (TExt.of_same s7)).trans t78
          walk_at "a"
          refine ⟨t, some h', (t, c) :: hs, z + 1, rfl, ht, fun h e => by cases e; exact hwd, fun b o eb nb => k8 _ _ (s7 _ _ (k6 _ _ eb fun z => nb (.inl z))) fun z => nb (.inr z), t58, (S6.same s7).other k8 t78 nd, Nat.le_refl _, ⟨_, e8, dn_more (DpAll.text t58 _ _ (immAll_map _ imm_deed _) dd) (.tup (SqT.text t78 (SqT.of e7)) (.cons (.int t) (.cons (dp_optV K _ _) .nil)))⟩, fun d hd => ?_⟩
          rcases List.mem_cons.mp hd with rfl | hd
          · exact wc
          · exact wh d hd
    rintro σ' H6 ⟨t', o, hs', z', rfl, ht', ho, k6, t56, S6, hz', dn6, wh6⟩
    have qdn : qd ≠ dn := ne_of m1 dl (by intro z; cases z)
    have m16 := k6 _ _ m1 (fun z => z.elim nq qdn)
    have hp6 := hp4.keep k6 (fun z => z.elim np pd)
    have npq : p ≠ qd := by obtain ⟨x, y, e', _⟩ := hp6.ex; exact Ne.symm (ne_of m16 e' (by intro z; cases z))
    walk_at "a"
    refine r_cut (fun σ' H' => σ' = [some (.ref p), some (.ref a.p), some (.ref qd), some (.ref dn), some (.ref wa), some (.int way), some (.int t'), some (optV o)] ∧ Keep (At qd) H6 H' ∧ H' qd = some (.dK ((dropP md t').map inj))) ?_ ?_
    · walk_at "a"
      refine r_dpop2k m16 (fun v H7 hv7 k7 e7 => ?_) (fun hv7 => ?_)
      · walk_at "a"
        exact ⟨rfl, k7, e7⟩
      · walk_at "a"
        refine ⟨rfl, Keep.refl _, ?_⟩
        have : dropP md t' = md := by
          unfold dropP
          refine List.filter_eq_self.mpr fun x hx => decide_eq_true fun z => ?_
          exact valP_none.mp hv7 (List.mem_map.mpr ⟨x, hx, z⟩)
        rw [this]
        exact m16
    rintro σ' H7 ⟨rfl, k7, e7⟩
    have t67 := TExt.dK k7 m16
    have cw' : WdC (setC c t' o) := fun x hx => by
      rcases setC_mem.mp hx with ⟨e1, _⟩ | ⟨h1, _⟩
      · exact ho _ e1
      · exact wc x h1
    have fin : ∀ H8, Keep (At qd) H6 H8 → HeldAt H8 qd (setC c t' o) → Q (.int t') H8 := fun H8 k8 hh8 => by
      have t68 := TExt.dK k8 m16
      exact q (some t') (setC c t' o) hs' (ts ++ [t']) z' H8 (fun b o eb nb => k8 _ _ (k6 _ _ (k04 _ _ eb fun z => nb (.inr (.inr (.inr z)))) fun z => nb (z.elim .inl fun z => .inr (.inr (.inl z)))) fun z => nb (.inr (.inl z))) ((t04.trans t56).trans t68) (hp6.keep k8 npq) (S6.other k8 t68 nq) hz' hh8 (dn6.keep k8 t68 (Ne.symm qdn)) cw' wh6 (.inr ⟨t', rfl, setC_beside up t' o, rfl⟩)
    cases o with
    | none =>
      walk_at "a"
      refine fin H7 k7 ⟨⟨_, e7, nd_drop t' m2, fun x => ?_⟩, setC_crv crv ht' none⟩
      show x ∈ dropP md t' ↔ x ∈ dropP c t'
      rw [mem_drop, mem_drop, m3]
    | some h2 =>
      simp only [show optV (some h2) = V.int h2 from rfl]
      walk_at "a"
      refine r_dputi e7 (by have := len_drop md t'; omega) fun H8 k8 e8 => ?_
      walk_at "a"
      refine fin H8 (k7.trans k8) ⟨⟨_, e8, nd_put t' h2 (nd_drop t' m2), fun x => ?_⟩, setC_crv crv ht' (some h2)⟩
      show x ∈ putP (dropP md t') t' h2 ↔ x ∈ insC c t' h2
      rw [mem_put, insC_mem, mem_drop, m3]
      constructor
      · rintro (z | ⟨⟨z1, z2⟩, _⟩)
        · exact .inl z
        · exact .inr ⟨z1, z2⟩
      · rintro (z | ⟨z1, z2⟩)
        · exact .inl z
        · exact .inr ⟨⟨z1, z2⟩, z2⟩
end
local macro_rules | `(tactic| walk_at "call") => `(tactic| (with_reducible refine' r_augS ?_))
theorem use_ldeed {K : PySem.W.Frag} {C : Addr} {H : Hp} {Q : VK} {E : XK} {p wa qd dn : Addr} {a : SA} {c : Prs} {hs : List (Int × Prs)} {ts : List Int} {z : Nat} {b w m : Int} (hp : Pot H p) (S : StoreAt K C H a c hs ts [] z) (hz : z ≤ 9000) (hh : HeldAt H qd c) (dn' : DnAt K H dn hs) (ha : SqT K H wa [.int b, .int w, .int m]) (win : InWin b w m)
    (sep : qd ∉ a.all ∧ dn ∉ a.all ∧ p ∉ a.all ∧ p ≠ dn) (wc : WdC c) (wh : ∀ d ∈ hs, WdC d.2)
    (q : ∀ (tv : Option Int) (c' : Prs) (hs' : List (Int × Prs)) (ts' : List Int) (z' : Nat) (H' : Hp), Keep (fun x => x ∈ a.all ∨ x = qd ∨ x = dn ∨ x = p) H H' → TExt H H' → Pot H' p → StoreAt K C H' a c' hs' ts' [] z' → z' ≤ z + 1 → HeldAt H' qd c' → DnAt K H' dn hs' → WdC c' → (∀ d ∈ hs', WdC d.2) →
      ((tv = none ∧ c' = c ∧ ts' = ts) ∨ ∃ t, tv = some t ∧ Beside t c c' ∧ ts' = ts ++ [t]) → Q (optV tv) H') : sp_ldeed K C [.ref p, .ref a.p, .ref qd, .ref dn, .ref wa] H Q E := ⟨p, wa, qd, dn, a, c, hs, ts, z, b, w, m, rfl, hp, S, hz, hh, dn', ha, win, sep, wc, wh, q⟩
def sp_lcolumn (K : PySem.W.Frag) : Sp := fun vs H Q _ => ∃ (a : Addr) (b w m t : Int), vs = [.ref a, .int t] ∧ SqT K H a [.int b, .int w, .int m] ∧ 0 < w ∧ w ≤ 1000000000000000 ∧ Q (optI (colOf b w m t)) H
section
variable {P : Program} {w : World} {K : PySem.W.Frag} {mg : Str → Option Value} {base : Heap}
theorem ok_law_column (B : Blt mg) (D : Def K mg "_law_column" s_law_column ["_law_window_here", "_law_t"]) :
    Fn P w K mg base 1 "_law_column" ["_law_window_here", "_law_t"] (sp_lcolumn K) := by
  refine D.ok sc_law_column (fun vs H Q E h => ?_) (fun f cdv A outer s H vs Q E hr h => ?_)
  · obtain ⟨a, b, w', m, t, rfl, ha, h0, h1, q⟩ := h
    rfl
  · obtain ⟨a, b, w', m, t, rfl, ha, h0, h1, q⟩ := h
    refine ⟨_, (pss_cons (ps_set (i := 2) sc_law_column.nd rfl (Or.inl rfl) (pe_op op_fdivW (pe_op op_sub (pv 1) (pe_ix (ixK K ix_seq) (pv 0) pe_int (fun _ _ => rfl))) (pe_ix (ixK K ix_seq) (pv 0) pe_int (fun _ _ => rfl))))
      (pss_one (ps_ret (pe_ifExp (pt_chain op_le op_lt pe_int (pv 2) (pe_ix (ixK K ix_seq) (pv 0) pe_int (fun _ _ => rfl))) (pv 2) pe_non)))), ?_⟩
    refine r_start (σ' := [some (.ref a), some (.int t), none]) rfl ?_
    have hw0 : w' ≠ 0 := by omega
    walk_at "a"
    unfold colOf at q
    refine i_cases (fun h2 => ?_) (fun h2 => ?_)
    · walk_at "a"
      refine i_cases (fun h3 => ?_) (fun h3 => ?_)
      · rw [if_neg (by omega)] at q
        walk_at "a"
        exact q
      · rw [if_pos (.inr (by omega))] at q
        walk_at "a"
        exact q
    · rw [if_pos (.inl (by omega))] at q
      walk_at "a"
      exact q
end
theorem use_lcolumn {K : PySem.W.Frag} {H : Hp} {Q : VK} {E : XK} {a : Addr} {b w m t : Int} (ha : SqT K H a [.int b, .int w, .int m]) (h0 : 0 < w) (h1 : w ≤ 1000000000000000) (q : Q (optI (colOf b w m t)) H) : sp_lcolumn K [.ref a, .int t] H Q E := ⟨a, b, w, m, t, rfl, ha, h0, h1, q⟩
/-! ### a view, and what the law holds of it -/
structure One where
  kd : Addr
  k : Addr
  wa : Addr
  b : Int
  w : Int
  m : Int
  n : Int
  L : List Int
  ks : List Int
def One.set (u : One) (v o : Addr) : List Addr := [v, o, u.kd, u.k]
abbrev One.Mem (u : One) : Prop := ∀ j, j ∈ u.ks ↔ j ∈ u.L
structure OneAt (K : PySem.W.Frag) (C : Addr) (H : Hp) (st : Addr) (c : Prs) (ts : List Int) (v o : Addr) (u : One) : Prop where
  Vw : ViewP K C H v u.kd st c u.b u.w u.m u.L ts u.n
  oo : H o = some (.lst [.ref u.wa, .ref u.k, .int u.n])
  wa : SqT K H u.wa [.int u.b, .int u.w, .int u.m]
  kk : H u.k = some (.lst (u.ks.map V.int))
  nd : u.ks.Nodup
  inr : ∀ j ∈ u.ks, 0 ≤ j ∧ j < u.m
  m40 : u.m ≤ 40
section
variable {K : PySem.W.Frag} {C : Addr} {H H' : Hp} {st v o : Addr} {c : Prs} {ts : List Int} {u : One} {F : Addr → Prop}
theorem set_mem {x : Addr} : x ∈ u.set v o ↔ x = v ∨ x = o ∨ x = u.kd ∨ x = u.k := by simp [One.set]
theorem OneAt.keep (A : OneAt K C H st c ts v o u) (k : Keep F H H') (t : TExt H H') (n : ∀ x ∈ u.set v o, ¬ F x) : OneAt K C H' st c ts v o u :=
  ⟨A.Vw.keep k t (n _ (set_mem.mpr (.inl rfl))) (n _ (set_mem.mpr (.inr (.inr (.inl rfl))))), k _ _ A.oo (n _ (set_mem.mpr (.inr (.inl rfl)))), SqT.text t A.wa, k _ _ A.kk (n _ (set_mem.mpr (.inr (.inr (.inr rfl))))), A.nd, A.inr, A.m40⟩
theorem OneAt.same (A : OneAt K C H st c ts v o u) (s : Same H H') : OneAt K C H' st c ts v o u := A.keep (F := No) (Keep.of_same s) (TExt.of_same s) (fun _ _ z => z)
theorem OneAt.live (A : OneAt K C H st c ts v o u) {x : Addr} (hx : x ∈ u.set v o) : H x ≠ none := by
  rcases set_mem.mp hx with rfl | rfl | rfl | rfl
  · exact A.Vw.live.1
  · rw [A.oo]; simp
  · exact A.Vw.live.2
  · rw [A.kk]; simp
theorem OneAt.text (A : OneAt K C H st c ts v o u) (k : Keep (· ∈ u.set v o) H H') : TExt H H' := by
  obtain ⟨_, _, _, ob, _, _, pk⟩ := A.Vw.ob
  obtain ⟨_, ek⟩ := pk.bd
  refine k.text fun b hb => ?_
  rcases set_mem.mp hb with rfl | rfl | rfl | rfl
  · rw [ob]; trivial
  · rw [A.oo]; trivial
  · rw [ek]; trivial
  · rw [A.kk]; trivial
theorem OneAt.ok (A : OneAt K C H st c ts v o u) : o ≠ u.k ∧ o ≠ v ∧ o ≠ u.kd ∧ u.k ≠ v ∧ u.k ≠ u.kd := by
  obtain ⟨_, _, _, ob, _, _, pk⟩ := A.Vw.ob
  obtain ⟨_, ek⟩ := pk.bd
  refine ⟨fun z => ?_, ne_of A.oo ob (by intro z; cases z), ne_of A.oo ek (by intro z; cases z), ne_of A.kk ob (by intro z; cases z), ne_of A.kk ek (by intro z; cases z)⟩
  have h1 := A.oo
  rw [z, A.kk] at h1
  have h2 : u.ks.map V.int = [.ref u.wa, .ref u.k, .int u.n] := by
    injection h1 with h1
    injection h1
  cases hk : u.ks with
  | nil => rw [hk] at h2; cases h2
  | cons j r => rw [hk] at h2; injection h2 with h3; cases h3
theorem OneAt.lk (A : OneAt K C H st c ts v o u) : u.ks.length ≤ u.m.toNat := by
  have := nodup_le (m := (List.range u.m.toNat).map fun k : Nat => (k : Int)) A.nd fun k hk => by
    have := A.inr k hk
    exact List.mem_map.mpr ⟨k.toNat, List.mem_range.mpr (by omega), by omega⟩
  simpa using this
theorem OneAt.len (A : OneAt K C H st c ts v o u) (mm : u.Mem) : u.ks.length = u.L.length := same_len A.Vw.nd A.nd mm
end
def sp_lasked (K : PySem.W.Frag) (C CS : Addr) : Sp := fun vs H Q _ => ∃ (v o qd : Addr) (a : SA) (c : Prs) (hs : List (Int × Prs)) (ts : List Int) (z : Nat) (u : One), vs = [.ref v, .ref o, .ref qd] ∧ StoreAt K CS H a c hs ts [] z ∧ HeldAt H qd c ∧ WdC c ∧ c.length ≤ 90 ∧ OneAt K C H a.p c ts v o u ∧ u.Mem ∧ (∀ x ∈ u.set v o, x ∉ a.all ∧ x ≠ qd) ∧
  ∀ (u' : One) (H' : Hp), Keep (· ∈ u.set v o) H H' → OneAt K C H' a.p c ts v o u' → u'.Mem → (∀ x ∈ u'.set v o, x ∈ u.set v o ∨ H x = none) → Q (.bl true) H'
section
variable {P : Program} {w : World} {K : PySem.W.Frag} {mg : Str → Option Value} {base : Heap}
theorem ok_law_asked (B : Blt mg) {A_View : Addr} (T_View : ClT K mg "View" A_View) (N_View_shown : NoAttr K A_View "shown") (N_View_window : NoAttr K A_View "window") (N_View_known : NoAttr K A_View "known") (N_View_heard : NoAttr K A_View "heard") (N_View_asked : NoAttr K A_View "asked") {A_Store : Addr} (T_Store : ClT K mg "Store" A_Store) (N_Store_heights : NoAttr K A_Store "heights") (N_Store_by_stretches : NoAttr K A_Store "by_stretches") (N_Store_deeds : NoAttr K A_Store "deeds") (N_Store_deed_times : NoAttr K A_Store "deed_times") (N_Store_watches : NoAttr K A_Store "watches") (D : Def K mg "_law_asked" s_law_asked ["_law_view", "_law_own", "_law_made"]) (G_View_fours : MFn P w K mg base 5 A_View "fours" ["self"] (sp_v_fours K A_View A_Store)) (G_law_fours : Fn P w K mg base 2 "_law_fours" ["_law_made", "_law_window_here"] (sp_vfours K)) :
    FnG P w K mg base 6 "_law_asked" ["_law_view", "_law_own", "_law_made"] (sp_lasked K A_View A_Store) := by
  refine D.okG sc_law_asked (fun vs H Q E h => ?_) (fun f cdv A outer s H vs Q E gs hr h => ?_)
  · obtain ⟨v, o, qd, a, c, hs, ts, z, u, rfl, S, hh, wc, lc, A, mm, sep, q⟩ := h
    rfl
  · obtain ⟨v, o, qd, a, c, hs, ts, z, u, rfl, S, hh, wc, lc, A, mm, sep, q⟩ := h
    refine ⟨_, (pss_cons (ps_augS (pv 1) pe_int (get_listK K) (pe_op op_sub (pe_ix (ixK K ix_seq) (pe_ix (ixK K ix_seq) (pv 1) pe_int (fun _ _ => rfl)) pe_int (fun _ _ => rfl)) (pe_callB (crK K c_len) rfl B.len (by decide +kernel) (pa_cons (pe_ix (ixK K ix_seq) (pv 1) pe_int (fun _ _ => rfl)) pa_nil))) ip_add set_list)
      (pss_cons (ps_asg (pe_callTy (c_listRng rfl) rfl B.list (by decide +kernel) (pa_cons (pe_callTy c_range1 rfl B.range (by decide +kernel) (pa_cons (pe_ix (ixK K ix_seq) (pe_ix (ixK K ix_seq) (pv 1) pe_int (fun _ _ => rfl)) pe_int (fun _ _ => rfl)) pa_nil)) pa_nil)) (pg_sub (pv 1) pe_int set_list))
      (pss_one (ps_ret (pe_and (pe_cmpR (opK K (o_eq hr.units)) (pe_callB (crK K (call_reprD gs hr.units)) rfl B.repr (by decide +kernel) (pa_cons (pe_meth0N G_View_fours hr T_View.cl (pv 0)) pa_nil)) (pe_callB (crK K (call_reprD gs hr.units)) rfl B.repr (by decide +kernel) (pa_cons (pe_fn G_law_fours hr (pa_cons (pv 2) (pa_cons (pe_ix (ixK K ix_seq) (pv 1) pe_int (fun _ _ => rfl)) pa_nil))) pa_nil)) (nomark _)) (pe_one (pe_cmpR (opK K (o_eq hr.units)) (peK_fld K (pv 0)) (pe_ix (ixK K ix_seq) (pv 1) pe_int (fun _ _ => rfl)) (nomark _)))))))), ?_⟩
    refine r_start (σ' := [some (.ref v), some (.ref o), some (.ref qd)]) rfl ?_
    have cw : ∀ p ∈ c, Wd p.1 ∧ Wd p.2 := fun p hp => ⟨by have := S.crv.rg p hp; exact ⟨by omega, by omega⟩, wc p hp⟩
    obtain ⟨o1, o2, o3, o4, o5⟩ := A.ok
    have lk : (u.ks.map V.int).length = u.ks.length := List.length_map ..
    have oo := A.oo
    have kk := A.kk
    have hwa := A.wa
    obtain ⟨u1, u2, u3, u4, u5, u6⟩ := id A.Vw.win
    have m40 := A.m40
    walk_at "a"
    refine r_getl (SqL.of oo) rfl ?_
    walk_at "a"
    refine r_setl oo rfl fun H1 k1 e1 => ?_
    have t1 : TExt H H1 := TExt.lst k1 oo
    have e1 : H1 o = some (.lst [.ref u.wa, .ref u.k, .int (u.n + (u.m - (u.ks.length : Int)))]) := e1
    have hwa1 := SqT.text t1 hwa
    walk_at "a"
    refine r_range1 fun pr H2 n2 s2 e2 => ?_
    walk_at "a"
    refine r_listRng e2 (by omega) (by omega) fun k' H3 n3 s3 e3 => ?_
    have e13 := s3 _ _ (s2 _ _ e1)
    walk_at "a"
    refine r_setl e13 rfl fun H4 k4 e4 => ?_
    have e4 : H4 o = some (.lst [.ref u.wa, .ref k', .int (u.n + (u.m - (u.ks.length : Int)))]) := e4
    have t34 : TExt H3 H4 := TExt.lst k4 e13
    have k04 : Keep (At o) H H4 := (k1.trans (Keep.of_same (s2.trans s3))).trans k4
    have t04 : TExt H H4 := (t1.trans (TExt.of_same (s2.trans s3))).trans t34
    have so : o ∈ u.set v o := set_mem.mpr (.inr (.inl rfl))
    have S4 := S.other k04 t04 (sep o so).1
    have V4 := A.Vw.keep k04 t04 (Ne.symm o2) (Ne.symm o3)
    have hh4 := hh.keep k04 (Ne.symm (sep o so).2)
    have ok' : o ≠ k' := ne_of_none e1 ((Keep.of_same (F := No) s2).back n3 (fun z => z))
    have e34 := k4 _ _ e3 (Ne.symm ok')
    have kn : H k' = none := (k1.trans (Keep.of_same s2)).back n3 (Ne.symm ok')
    obtain ⟨h4, dx4, wx4, ob4, hwx4, lh4, pk4⟩ := V4.ob
    walk_at "a"
    refine use_v_fours S4 ⟨(sep v (set_mem.mpr (.inl rfl))).1, (sep u.kd (set_mem.mpr (.inr (.inr (.inl rfl))))).1⟩ V4 fun w5 L' H5 k5 all5 V5 d5 => ?_
    have t45 := V4.text k5
    have o5' : H5 o = _ := k5 _ _ e4 (fun z => z.elim o2 o3)
    have hwa5 := SqT.text (t04.trans t45) hwa
    have hh5 := hh4.keep k5 (fun z => z.elim (Ne.symm (sep v (set_mem.mpr (.inl rfl))).2) (Ne.symm (sep u.kd (set_mem.mpr (.inr (.inr (.inl rfl))))).2))
    walk_at "a"
    refine r_repr d5 (.inr ⟨_, .inl rfl⟩) (show_fours cw (by omega)) ?_
    walk_at "a"
    refine use_vfours hh5 (by omega) hwa5 A.Vw.win fun x6 H6 s6 d6 => ?_
    walk_at "a"
    refine r_repr d6 (.inr ⟨_, .inl rfl⟩) (show_fours cw (by omega)) ?_
    refine r_eq_s ?_
    rw [decide_eq_true rfl]
    obtain ⟨dx6, wx6, ob6, hwx6⟩ := (V5.same s6).ob
    have o6 := s6 _ _ o5'
    walk_at "a"
    have lL := A.len mm
    rw [decide_eq_true (by omega)]
    obtain ⟨_, ek4⟩ := pk4.bd
    have kv : k' ≠ v := fun z => by rw [z, ob4] at e34; cases e34
    have kkd : k' ≠ u.kd := fun z => by rw [z, ek4] at e34; cases e34
    have e35 := k5 _ _ e34 (fun z => z.elim kv kkd)
    refine q ⟨u.kd, k', u.wa, u.b, u.w, u.m, u.n + (u.m - (u.ks.length : Int)), L', (List.range u.m.toNat).map fun k : Nat => (k : Int)⟩ H6 (fun b x eb nb => ?_) ⟨?_, o6, SqT.text (TExt.of_same s6) hwa5, ?_, ?_, fun j hj => ?_, m40⟩ (fun j => ?_) (fun x hx => ?_)
    · refine s6 _ _ (k5 _ _ (k04 _ _ eb fun z => nb (by rw [show b = o from z]; exact so)) fun z => nb ?_)
      rcases z with z | z
      · exact set_mem.mpr (.inl z)
      · exact set_mem.mpr (.inr (.inr (.inl z)))
    · have := ViewP.of (V5.same s6)
      rw [lL]
      exact this
    · have := s6 _ _ e35
      rw [this, List.map_map]; rfl
    · exact List.pairwise_map.mpr (List.nodup_range.imp fun {a b} ne e => ne (by omega))
    · obtain ⟨i, hi, rfl⟩ := List.mem_map.mp hj
      have := List.mem_range.mp hi
      show 0 ≤ (i : Int) ∧ (i : Int) < u.m
      omega
    · constructor
      · intro hj
        obtain ⟨i, hi, rfl⟩ := List.mem_map.mp hj
        have := List.mem_range.mp hi
        exact all5 _ (by omega) (by omega)
      · intro hj
        have := V5.inr j hj
        exact List.mem_map.mpr ⟨j.toNat, List.mem_range.mpr (by omega), by omega⟩
    · rcases set_mem.mp hx with rfl | rfl | rfl | rfl
      · exact .inl (set_mem.mpr (.inl rfl))
      · exact .inl so
      · exact .inl (set_mem.mpr (.inr (.inr (.inl rfl))))
      · exact .inr kn
end
theorem use_lasked {K : PySem.W.Frag} {C CS : Addr} {H : Hp} {Q : VK} {E : XK} {v o qd : Addr} {a : SA} {c : Prs} {hs : List (Int × Prs)} {ts : List Int} {z : Nat} {u : One} (S : StoreAt K CS H a c hs ts [] z) (hh : HeldAt H qd c) (wc : WdC c) (lc : c.length ≤ 90) (A : OneAt K C H a.p c ts v o u) (mm : u.Mem) (sep : ∀ x ∈ u.set v o, x ∉ a.all ∧ x ≠ qd)
    (q : ∀ (u' : One) (H' : Hp), Keep (· ∈ u.set v o) H H' → OneAt K C H' a.p c ts v o u' → u'.Mem → (∀ x ∈ u'.set v o, x ∈ u.set v o ∨ H x = none) → Q (.bl true) H') : sp_lasked K C CS [.ref v, .ref o, .ref qd] H Q E := ⟨v, o, qd, a, c, hs, ts, z, u, rfl, S, hh, wc, lc, A, mm, sep, q⟩
def sp_lmoved (K : PySem.W.Frag) (C CS : Addr) : Sp := fun vs H Q _ => ∃ (p v o : Addr) (a : SA) (c : Prs) (hs : List (Int × Prs)) (ts : List Int) (z : Nat) (u : One), vs = [.ref p, .ref v, .ref o] ∧ Pot H p ∧ StoreAt K CS H a c hs ts [] z ∧ OneAt K C H a.p c ts v o u ∧ u.Mem ∧ (∀ x ∈ u.set v o, x ∉ a.all ∧ x ≠ p) ∧ p ∉ a.all ∧
  ∀ (u' : One) (H' : Hp), Keep (fun x => x ∈ u.set v o ∨ x = p) H H' → TExt H H' → Pot H' p → OneAt K C H' a.p c ts v o u' → u'.Mem → (∀ x ∈ u'.set v o, x ∈ u.set v o ∨ H x = none) → Q (.bl true) H'
section
variable {P : Program} {w : World} {K : PySem.W.Frag} {mg : Str → Option Value} {base : Heap}
theorem ok_law_moved (B : Blt mg) (D : Def K mg "_law_moved" s_law_moved ["_law_pot_here", "_law_view", "_law_own"]) {E_OutOfTimes : Addr} (X_OutOfTimes : Exc K mg "OutOfTimes" E_OutOfTimes) (Y_OutOfTimes : ExcC K E_OutOfTimes) (W_OutOfTimes_OutOfTimes : PySem.W.kitOne K (.ref E_OutOfTimes) (.ref E_OutOfTimes) = some true) (Z_OutOfTimes_OutOfTimes : PySem.W.exmOne K (.ref E_OutOfTimes) (.ref E_OutOfTimes) = some true) (G_law_step : Fn P w K mg base 2 "_law_step" ["_law_pot_here", "_law_window_here"] (sp_lstep K)) (G_law_go : Fn P w K mg base 5 "_law_go" ["_law_view", "_law_step_here"] (sp_lgo K A_View A_Store E_OutOfTimes E_NotHalf)) (G_law_within : Fn P w K mg base 1 "_law_within" ["_law_window_here"] (sp_lwithin K)) (G_law_known : Fn P w K mg base 1 "_law_known" ["_law_step_here", "_law_window_here", "_law_known_here"] (sp_lknown K)) :
    Fn P w K mg base 6 "_law_moved" ["_law_pot_here", "_law_view", "_law_own"] (sp_lmoved K A_View A_Store) := by
  refine D.ok sc_law_moved (fun vs H Q E h => ?_) (fun f cdv A outer s H vs Q E hr h => ?_)
  · obtain ⟨p, v, o, a, c, hs, ts, z, u, rfl, hp, S, A, mm, sep, pa, q⟩ := h
    rfl
  · obtain ⟨p, v, o, a, c, hs, ts, z, u, rfl, hp, S, A, mm, sep, pa, q⟩ := h
    refine ⟨_, (pss_cons (ps_set (i := 3) sc_law_moved.nd rfl (Or.inl rfl) (pe_fn G_law_step hr (pa_cons (pv 0) (pa_cons (pe_ix (ixK K ix_seq) (pv 2) pe_int (fun _ _ => rfl)) pa_nil))))
      (pss_cons (ps_set (i := 4) sc_law_moved.nd rfl (Or.inl rfl) pe_bl)
      (pss_cons (ps_tryOnly (K := K) rfl rfl rfl ⟨rfl, by decide, .inl X_OutOfTimes.g⟩ (fun W pn xe tk => (pss_one (ps_expr (pe_fnS G_law_go hr (by decide) rfl (fun σ => passAt tk σ) (pa_cons (pv 1) (pa_cons (pv 3) pa_nil))))))
      (fun a oe cls d pn hz hf => (pss_one (ps_set (i := 4) sc_law_moved.nd rfl (Or.inl rfl) pe_bl))))
      (pss_cons (ps_if (PW.pt (pw_and (pt_val (pv 4)) (pw_and1 (pt_val (pe_fn G_law_within hr (pa_cons (pe_ix (ixK K ix_seq) (pv 3) pe_int (fun _ _ => rfl)) pa_nil))))))
      (pss_cons (ps_asg (pe_fn G_law_known hr (pa_cons (pv 3) (pa_cons (pe_ix (ixK K ix_seq) (pv 2) pe_int (fun _ _ => rfl)) (pa_cons (pe_ix (ixK K ix_seq) (pv 2) pe_int (fun _ _ => rfl)) pa_nil)))) (pg_sub (pv 2) pe_int set_list))
      (pss_one (ps_asg (pe_ix (ixK K ix_seq) (pv 3) pe_int (fun _ _ => rfl)) (pg_sub (pv 2) pe_int set_list))))
      pss_nil)
      (pss_one (ps_ret (pe_cmpR (opK K (o_eq hr.units)) (pv 4) (pe_fn G_law_within hr (pa_cons (pe_ix (ixK K ix_seq) (pv 3) pe_int (fun _ _ => rfl)) pa_nil)) (nomark _)))))))), ?_⟩
    refine r_start (σ' := [some (.ref p), some (.ref v), some (.ref o), none, none]) rfl ?_
    obtain ⟨o1, o2, o3, o4, o5⟩ := A.ok
    have sv := sep v (set_mem.mpr (.inl rfl))
    have so := sep o (set_mem.mpr (.inr (.inl rfl)))
    have skd := sep u.kd (set_mem.mpr (.inr (.inr (.inl rfl))))
    have sk := sep u.k (set_mem.mpr (.inr (.inr (.inr rfl))))
    have oo := A.oo
    walk_at "a"
    refine use_lstep hp A.wa A.Vw.win fun s' x' wb H1 ok n12 k1 hp1 st1 => ?_
    have t1 := hp.text k1
    have A1 := A.keep k1 t1 (fun x hx => (sep x hx).2)
    have S1 := S.other k1 t1 pa
    have bd := stp_bd A.Vw.win s' ok A.m40
    have hx1 := st1.t
    walk_at "a"
    refine use_lgo S1 ⟨sv.1, skd.1⟩ A1.Vw ok st1 (fun win kd' H2 nk2 k2 V2 => ?_) (fun out H2 s2 => r_wOnly Z_OutOfTimes_OutOfTimes fun e he => ?_)
    · have t12 := A1.Vw.text k2
      have st2 := st1.text t12
      have hx2 := st2.t
      have o2' := k2 _ _ A1.oo (fun z => z.elim o2 o3)
      have kk2 := k2 _ _ A1.kk (fun z => z.elim o4 o5)
      have hwa2 := SqT.text t12 A1.wa
      walk_at "a"
      refine use_lwithin st2.w bd fun r hr => ?_
      obtain rfl : r = true := hr.mpr (inW_of win)
      walk_at "a"
      have lL := A.len mm
      have vl := A.Vw.len
      have m40 := A.m40
      refine use_lknown st2 hwa2 A.Vw.win m40 ok kk2 A.nd (by omega) A.inr fun y3 ks3 H3 n3 s3 e3 nd3 mem3 => ?_
      have o3' := s3 _ _ o2'
      walk_at "a"
      refine r_setl o3' rfl fun H4 k4 e4 => ?_
      have e4 : H4 o = some (.lst [.ref u.wa, .ref y3, .int u.n]) := e4
      have t34 : TExt H3 H4 := TExt.lst k4 o3'
      have hx4 := SqT.text ((TExt.of_same s3).trans t34) hx2
      walk_at "a"
      refine r_setl e4 rfl fun H5 k5 e5 => ?_
      have e5 : H5 o = some (.lst [.ref wb, .ref y3, .int u.n]) := e5
      have t45 : TExt H4 H5 := TExt.lst k5 e4
      have t25 := ((TExt.of_same s3).trans t34).trans t45
      have st5 := st2.text t25
      have hx5 := st5.t
      have k35 : Keep (At o) H3 H5 := k4.trans k5
      walk_at "a"
      refine use_lwithin st5.w bd fun r hr => ?_
      obtain rfl : r = true := hr.mpr (inW_of win)
      walk_at "a"
      refine r_eq_d (.bl true) (.bl true) (Shp.ok (n := 0) (.bool true)) (Shp.ok (n := 0) (.bool true)) ?_
      rw [eqv_same (Shp.ok (n := 0) (.bool true))]
      have nkd : H kd' = none := k1.back nk2 (fun z => by rw [show kd' = p from z] at nk2; obtain ⟨_, _, e, _⟩ := hp1.ex; rw [nk2] at e; cases e)
      have hp2 := hp1.keep k2 (fun z => z.elim (Ne.symm sv.2) (Ne.symm skd.2))
      have oy : o ≠ y3 := ne_of_none o2' n3
      have ky : y3 ∈ u.set v o ∨ H y3 = none := by
        by_cases z : y3 = u.kd
        · exact .inl (set_mem.mpr (.inr (.inr (.inl z))))
        · refine .inr (k1.back (k2.back n3 fun z2 => ?_) fun z2 => ?_)
          · rcases z2 with z2 | z2
            · obtain ⟨_, _, ob, _⟩ := V2.ob
              rw [z2, ob] at n3; cases n3
            · exact z z2
          · exact hp2.ne_new n3 z2
      have e35 := k35 _ _ e3 (Ne.symm oy)
      have kdo : kd' ≠ o := fun z => by rw [z, A1.oo] at nk2; cases nk2
      have vo : v ≠ o := Ne.symm o2
      have V5 := (V2.same s3).keep k35 (t34.trans t45) vo kdo
      refine q ⟨kd', y3, wb, s'.b u.b u.w, s'.w u.w, s'.m u.m, u.n, s'.known u.L u.b u.w u.m, ks3⟩ H5 (fun b x eb nb => ?_) (t1.trans (t12.trans t25)) ((hp2.same s3).keep k35 (Ne.symm so.2)) ⟨ViewP.of V5, e5, st5.w, e35, nd3, fun j hj => ?_, ?_⟩ (fun j => ?_) (fun x hx => ?_)
      · exact k35 _ _ (s3 _ _ (k2 _ _ (k1 _ _ eb fun z => nb (.inr z)) fun z => nb (.inl (set_mem.mpr (z.elim .inl fun z => .inr (.inr (.inl z))))))) fun z => nb (.inl (set_mem.mpr (.inr (.inl z))))
      · have := (mem3 j).mp hj
        rw [known_congr mm] at this
        exact V5.inr j this
      · cases s' with
        | cols n => exact ok.2
        | wide => exact m40
        | narrow => exact m40
        | on n => exact m40
      · show j ∈ ks3 ↔ j ∈ s'.known u.L u.b u.w u.m
        rw [mem3, known_congr mm]
      · rcases set_mem.mp hx with rfl | rfl | rfl | rfl
        · exact .inl (set_mem.mpr (.inl rfl))
        · exact .inl (set_mem.mpr (.inr (.inl rfl)))
        · exact .inr nkd
        · exact ky
    · walk_at "a"
      have hx2 := SqT.text (TExt.of_same s2) hx1
      refine use_lwithin (st1.text (TExt.of_same s2)).w bd fun r hr => ?_
      obtain rfl : r = false := by
        cases r with
        | false => rfl
        | true => exact absurd (hr.mp rfl) out
      walk_at "a"
      refine r_eq_d (.bl false) (.bl false) (Shp.ok (n := 0) (.bool false)) (Shp.ok (n := 0) (.bool false)) ?_
      rw [eqv_same (Shp.ok (n := 0) (.bool false))]
      exact q u H2 (fun b x eb nb => s2 _ _ (k1 _ _ eb fun z => nb (.inr z))) (t1.trans (TExt.of_same s2)) (hp1.same s2) (A1.same s2) mm (fun x hx => .inl hx)
end
theorem use_lmoved {K : PySem.W.Frag} {C CS : Addr} {H : Hp} {Q : VK} {E : XK} {p v o : Addr} {a : SA} {c : Prs} {hs : List (Int × Prs)} {ts : List Int} {z : Nat} {u : One} (hp : Pot H p) (S : StoreAt K CS H a c hs ts [] z) (A : OneAt K C H a.p c ts v o u) (mm : u.Mem) (sep : ∀ x ∈ u.set v o, x ∉ a.all ∧ x ≠ p) (pa : p ∉ a.all)
    (q : ∀ (u' : One) (H' : Hp), Keep (fun x => x ∈ u.set v o ∨ x = p) H H' → TExt H H' → Pot H' p → OneAt K C H' a.p c ts v o u' → u'.Mem → (∀ x ∈ u'.set v o, x ∈ u.set v o ∨ H x = none) → Q (.bl true) H') : sp_lmoved K C CS [.ref p, .ref v, .ref o] H Q E := ⟨p, v, o, a, c, hs, ts, z, u, rfl, hp, S, A, mm, sep, pa, q⟩
/-! ### all that the law holds -/
structure All (K : PySem.W.Frag) (CV CS : Addr) (H : Hp) (a : SA) (c : Prs) (hs : List (Int × Prs)) (ts : List Int) (z : Nat) (qd dn vl ow l : Addr) (V1 W1 xs : List V) (v o : Addr) (u : One) (v' o' : Addr) (u' : One) : Prop where
  S : StoreAt K CS H a c hs ts [] z
  hh : HeldAt H qd c
  dnA : DnAt K H dn hs
  wc : WdC c
  wh : ∀ d ∈ hs, WdC d.2
  vlA : H vl = some (.lst V1)
  owA : H ow = some (.lst W1)
  el : H l = some (.lst xs)
  A : OneAt K CV H a.p c ts v o u
  B : OneAt K CV H a.p c ts v' o' u'
  sA : ∀ x ∈ u.set v o, x ∉ a.all ∧ x ∉ [qd, dn, vl, ow, l] ∧ x ∉ u'.set v' o'
  sB : ∀ x ∈ u'.set v' o', x ∉ a.all ∧ x ∉ [qd, dn, vl, ow, l]
  sR : ∀ x ∈ [qd, dn, vl, ow, l], x ∉ a.all
  sQ : qd ≠ dn ∧ vl ≠ dn ∧ ow ≠ dn ∧ l ≠ dn
section
variable {K : PySem.W.Frag} {CV CS : Addr} {H H' : Hp} {a : SA} {c : Prs} {hs : List (Int × Prs)} {ts : List Int} {z : Nat} {qd dn vl ow l p : Addr} {V1 W1 xs : List V} {v o v' o' : Addr} {u u' : One} {F : Addr → Prop}
theorem All.swap (T : All K CV CS H a c hs ts z qd dn vl ow l V1 W1 xs v o u v' o' u') : All K CV CS H a c hs ts z qd dn vl ow l V1 W1 xs v' o' u' v o u :=
  ⟨T.S, T.hh, T.dnA, T.wc, T.wh, T.vlA, T.owA, T.el, T.B, T.A, fun x hx => ⟨(T.sB x hx).1, (T.sB x hx).2, fun z => (T.sA x z).2.2 hx⟩, fun x hx => ⟨(T.sA x hx).1, (T.sA x hx).2.1⟩, T.sR, T.sQ⟩
theorem All.live (T : All K CV CS H a c hs ts z qd dn vl ow l V1 W1 xs v o u v' o' u') {x : Addr} (h : x ∈ a.all ∨ x ∈ [qd, dn, vl, ow, l] ∨ x ∈ u.set v o ∨ x ∈ u'.set v' o') : H x ≠ none := by
  rcases h with h | h | h | h
  · exact T.S.live h
  · obtain ⟨vs, e, _⟩ := T.dnA
    simp only [List.mem_cons, List.not_mem_nil, or_false] at h
    rcases h with rfl | rfl | rfl | rfl | rfl
    · exact T.hh.live
    · rw [e]; simp
    · rw [T.vlA]; simp
    · rw [T.owA]; simp
    · rw [T.el]; simp
  · exact T.A.live h
  · exact T.B.live h
theorem All.keep (T : All K CV CS H a c hs ts z qd dn vl ow l V1 W1 xs v o u v' o' u') (k : Keep F H H') (t : TExt H H') (n : ∀ x, (x ∈ a.all ∨ x ∈ [qd, dn, vl, ow, l] ∨ x ∈ u.set v o ∨ x ∈ u'.set v' o') → ¬ F x) : All K CV CS H' a c hs ts z qd dn vl ow l V1 W1 xs v o u v' o' u' :=
  have m : ∀ x ∈ [qd, dn, vl, ow, l], ¬ F x := fun x hx => n x (.inr (.inl hx))
  ⟨T.S.keep k t (fun x hx => n x (.inl hx)), T.hh.keep k (m _ (by simp)), T.dnA.keep k t (m _ (by simp)), T.wc, T.wh, k _ _ T.vlA (m _ (by simp)), k _ _ T.owA (m _ (by simp)), k _ _ T.el (m _ (by simp)),
    T.A.keep k t (fun x hx => n x (.inr (.inr (.inl hx)))), T.B.keep k t (fun x hx => n x (.inr (.inr (.inr hx)))), T.sA, T.sB, T.sR, T.sQ⟩
abbrev Off (a : SA) (qd dn vl ow l v o : Addr) (u : One) (v' o' : Addr) (u' : One) (p : Addr) : Prop := ∀ x, (x ∈ a.all ∨ x ∈ [qd, dn, vl, ow, l] ∨ x ∈ u.set v o ∨ x ∈ u'.set v' o') → x ≠ p
theorem All.off (T : All K CV CS H a c hs ts z qd dn vl ow l V1 W1 xs v o u v' o' u') (hn : H p = none) : Off a qd dn vl ow l v o u v' o' u' p := fun x hx e => T.live hx (by rw [e]; exact hn)
theorem All.same (T : All K CV CS H a c hs ts z qd dn vl ow l V1 W1 xs v o u v' o' u') (s : Same H H') : All K CV CS H' a c hs ts z qd dn vl ow l V1 W1 xs v o u v' o' u' := T.keep (F := No) (Keep.of_same s) (TExt.of_same s) (fun _ _ z => z)
theorem All.pot (T : All K CV CS H a c hs ts z qd dn vl ow l V1 W1 xs v o u v' o' u') (f : Off a qd dn vl ow l v o u v' o' u' p) (hp : Pot H p) (k : Keep (At p) H H') : All K CV CS H' a c hs ts z qd dn vl ow l V1 W1 xs v o u v' o' u' := T.keep k (hp.text k) (fun x hx => f x hx)
/-- the one view is another -/
theorem All.one {u2 : One} (T : All K CV CS H a c hs ts z qd dn vl ow l V1 W1 xs v o u v' o' u') (f : Off a qd dn vl ow l v o u v' o' u' p) (k : Keep (fun x => x ∈ u.set v o ∨ x = p) H H') (t : TExt H H') (A2 : OneAt K CV H' a.p c ts v o u2) (fr : ∀ x ∈ u2.set v o, x ∈ u.set v o ∨ H x = none) : All K CV CS H' a c hs ts z qd dn vl ow l V1 W1 xs v o u2 v' o' u' := by
  have m : ∀ x ∈ [qd, dn, vl, ow, l], ¬ (x ∈ u.set v o ∨ x = p) := fun x hx z => z.elim (fun z => (T.sA x z).2.1 hx) (fun z => f x (.inr (.inl hx)) z)
  refine ⟨T.S.keep k t (fun x hx z => z.elim (fun z => (T.sA x z).1 hx) (fun z => f x (.inl hx) z)), T.hh.keep k (m _ (by simp)), T.dnA.keep k t (m _ (by simp)), T.wc, T.wh, k _ _ T.vlA (m _ (by simp)), k _ _ T.owA (m _ (by simp)), k _ _ T.el (m _ (by simp)),
    A2, T.B.keep k t (fun x hx z => z.elim (fun z => (T.sA x z).2.2 hx) (fun z => f x (.inr (.inr (.inr hx))) z)), fun x hx => ?_, T.sB, T.sR, T.sQ⟩
  rcases fr x hx with h | h
  · exact T.sA x h
  · exact ⟨fun z => T.live (.inl z) h, fun z => T.live (.inr (.inl z)) h, fun z => T.live (.inr (.inr (.inr z))) h⟩
theorem All.len (T : All K CV CS H a c hs ts z qd dn vl ow l V1 W1 xs v o u v' o' u') : c.length ≤ z := held_len T.S
theorem Off.one {u2 : One} (f : Off a qd dn vl ow l v o u v' o' u' p) (hp : H p ≠ none) (fr : ∀ x ∈ u2.set v o, x ∈ u.set v o ∨ H x = none) : Off a qd dn vl ow l v o u2 v' o' u' p := fun x hx => by
  rcases hx with h | h | h | h
  · exact f x (.inl h)
  · exact f x (.inr (.inl h))
  · rcases fr x h with h | h
    · exact f x (.inr (.inr (.inl h)))
    · exact fun z => hp (by rw [← z]; exact h)
  · exact f x (.inr (.inr (.inr h)))
theorem Off.swap (f : Off a qd dn vl ow l v o u v' o' u' p) : Off a qd dn vl ow l v' o' u' v o u p := fun x hx => f x (by
  rcases hx with h | h | h | h
  · exact .inl h
  · exact .inr (.inl h)
  · exact .inr (.inr (.inr h))
  · exact .inr (.inr (.inl h)))
end
def filt (tv : Option Int) (b w : Int) (l : List Int) : List Int := match tv with
  | none => l
  | some t => leftL l b w t
def keepK (tv : Option Int) (b w k : Int) : Bool := match tv with
  | none => true
  | some t => decide (k ≠ (t - b) / w)
theorem filt_keep (tv : Option Int) (b w : Int) (l : List Int) : l.filter (keepK tv b w) = filt tv b w l := by
  cases tv with
  | none => exact Fp.filter_all l
  | some t => rfl
def One.left (u : One) (tv : Option Int) : One := { u with L := filt tv u.b u.w u.L }
abbrev One.Pend (u : One) (tv : Option Int) : Prop := ∀ j, j ∈ filt tv u.b u.w u.ks ↔ j ∈ u.L
theorem filt_mem {tv : Option Int} {b w : Int} {l r : List Int} (h : ∀ j, j ∈ l ↔ j ∈ r) : ∀ j, j ∈ filt tv b w l ↔ j ∈ filt tv b w r := fun j => by
  cases tv with
  | none => exact h j
  | some t =>
    show j ∈ List.filter _ l ↔ j ∈ List.filter _ r
    rw [List.mem_filter, List.mem_filter, h j]
theorem One.pend {u : One} (tv : Option Int) (h : u.Mem) : (u.left tv).Pend tv := filt_mem h
theorem OneAt.deed {K : PySem.W.Frag} {C : Addr} {H : Hp} {st v o : Addr} {c c' : Prs} {ts ts' : List Int} {u : One} {tv : Option Int} (A : OneAt K C H st c ts v o u) (h : (tv = none ∧ c' = c ∧ ts' = ts) ∨ ∃ t, tv = some t ∧ Beside t c c' ∧ ts' = ts ++ [t]) : OneAt K C H st c' ts' v o (u.left tv) := by
  rcases h with ⟨rfl, rfl, rfl⟩ | ⟨t, rfl, bs, rfl⟩
  · exact ⟨A.Vw, A.oo, A.wa, A.kk, A.nd, A.inr, A.m40⟩
  · exact ⟨A.Vw.deed bs, A.oo, A.wa, A.kk, A.nd, A.inr, A.m40⟩
section
variable {K : PySem.W.Frag} {CV CS : Addr} {H H' : Hp} {a : SA} {c c' : Prs} {hs hs' : List (Int × Prs)} {ts ts' : List Int} {z z' : Nat} {qd dn vl ow l p : Addr} {V1 W1 xs : List V} {v o v' o' : Addr} {u u' : One} {tv : Option Int}
theorem All.deed (T : All K CV CS H a c hs ts z qd dn vl ow l V1 W1 xs v o u v' o' u') (f : Off a qd dn vl ow l v o u v' o' u' p) (k : Keep (fun x => x ∈ a.all ∨ x = qd ∨ x = dn ∨ x = p) H H') (t : TExt H H') (S' : StoreAt K CS H' a c' hs' ts' [] z') (hh' : HeldAt H' qd c') (dn' : DnAt K H' dn hs') (wc' : WdC c') (wh' : ∀ d ∈ hs', WdC d.2)
    (h : (tv = none ∧ c' = c ∧ ts' = ts) ∨ ∃ t, tv = some t ∧ Beside t c c' ∧ ts' = ts ++ [t]) : All K CV CS H' a c' hs' ts' z' qd dn vl ow l V1 W1 xs v o (u.left tv) v' o' (u'.left tv) := by
  obtain ⟨q1, q2, q3, q4⟩ := T.sQ
  obtain ⟨vs, ed, _⟩ := T.dnA
  obtain ⟨m, eq, _⟩ := T.hh.ex
  have m : ∀ x ∈ [vl, ow, l], ¬ (x ∈ a.all ∨ x = qd ∨ x = dn ∨ x = p) := fun x hx z => by
    have hm : x ∈ [qd, dn, vl, ow, l] := List.mem_cons_of_mem _ (List.mem_cons_of_mem _ hx)
    rcases z with z | z | z | z
    · exact T.sR x hm z
    · simp only [List.mem_cons, List.not_mem_nil, or_false] at hx
      subst z
      rcases hx with rfl | rfl | rfl
      · rw [T.vlA] at eq; cases eq
      · rw [T.owA] at eq; cases eq
      · rw [T.el] at eq; cases eq
    · simp only [List.mem_cons, List.not_mem_nil, or_false] at hx
      subst z
      rcases hx with rfl | rfl | rfl
      · exact q2 rfl
      · exact q3 rfl
      · exact q4 rfl
    · exact f x (.inr (.inl hm)) z
  refine ⟨S', hh', dn', wc', wh', k _ _ T.vlA (m _ (by simp)), k _ _ T.owA (m _ (by simp)), k _ _ T.el (m _ (by simp)), (T.A.keep k t fun x hx z => ?_).deed h, (T.B.keep k t fun x hx z => ?_).deed h, T.sA, T.sB, T.sR, T.sQ⟩
  · obtain ⟨g1, g2, _⟩ := T.sA x hx
    rcases z with z | z | z | z
    · exact g1 z
    · exact g2 (by rw [z]; simp)
    · exact g2 (by rw [z]; simp)
    · exact f x (.inr (.inr (.inl hx))) z
  · obtain ⟨g1, g2⟩ := T.sB x hx
    rcases z with z | z | z | z
    · exact g1 z
    · exact g2 (by rw [z]; simp)
    · exact g2 (by rw [z]; simp)
    · exact f x (.inr (.inr (.inr hx))) z
end
section
variable {P : Program} {w : World} {K : PySem.W.Frag} {mg : Str → Option Value} {base : Heap}
theorem ok_law {f : Addr} {fd : FuncData} (B : Blt mg) (F : Fun K "law" "law" s_law f fd) {A_View : Addr} (T_View : ClT K mg "View" A_View) (N_View_shown : NoAttr K A_View "shown") (N_View_window : NoAttr K A_View "window") (N_View_known : NoAttr K A_View "known") (N_View_heard : NoAttr K A_View "heard") (N_View_asked : NoAttr K A_View "asked") {A_Store : Addr} (T_Store : ClT K mg "Store" A_Store) (N_Store_heights : NoAttr K A_Store "heights") (N_Store_by_stretches : NoAttr K A_Store "by_stretches") (N_Store_deeds : NoAttr K A_Store "deeds") (N_Store_deed_times : NoAttr K A_Store "deed_times") (N_Store_watches : NoAttr K A_Store "watches") (G_law_pot : Fn P w K mg base 1 "_law_pot" ["_law_cell_here"] (sp_pot K)) (G_law_window : Fn P w K mg base 2 "_law_window" ["_law_pot_here"] (sp_lwindow K)) (G_law_curve : Fn P w K mg base 3 "_law_curve" ["_law_pot_here", "_law_window_here"] (sp_lcurve K)) (G_Store___init : IFn P w K mg base 4 A_Store ["self", "curve"] (sp_s_init K A_Store E_OutOfTimes)) (G_law_cell : Fn P w K mg base 1 "_law_cell" ["_law_script", "_law_k"] (sp_nth K)) (G_law_step : Fn P w K mg base 2 "_law_step" ["_law_pot_here", "_law_window_here"] (sp_lstep K)) (G_law_within : Fn P w K mg base 1 "_law_within" ["_law_window_here"] (sp_lwithin K)) (G_View___init : PFn P w K mg base 3 A_View ["self", "store", "window"] (sp_v_init K A_View A_Store E_OutOfTimes)) (G_law_draw : Fn P w K mg base 1 "_law_draw" ["_law_pot_here", "_law_many"] (sp_take K)) (G_law_asked : FnG P w K mg base 6 "_law_asked" ["_law_view", "_law_own", "_law_made"] (sp_lasked K A_View A_Store)) (G_law_deed : Fn P w K mg base 5 "_law_deed" ["_law_pot_here", "_law_store", "_law_made", "_law_done", "_law_window_here"] (sp_ldeed K A_Store)) (G_law_moved : Fn P w K mg base 6 "_law_moved" ["_law_pot_here", "_law_view", "_law_own"] (sp_lmoved K A_View A_Store)) (G_law_column : Fn P w K mg base 1 "_law_column" ["_law_window_here", "_law_t"] (sp_lcolumn K)) :
    OkG P w K mg base (L2.CX P w) 7 f fd ["_law_script"] (sp_law K) := by
  refine Fun.okG F sc_law (fun vs H Q E h => ?_) (fun cdv A outer s H vs Q E gs hr h => ?_)
  · obtain ⟨sa, ns, rfl, hS, hl, q⟩ := h
    rfl
  · obtain ⟨sa, ns, rfl, hS, hl, q⟩ := h
    refine ⟨_, (pss_cons (ps_set (i := 1) sc_law.nd rfl (Or.inl rfl) (pe_fn G_law_pot hr (pa_cons (pe_fn G_law_cell hr (pa_cons (pv 0) (pa_cons pe_int pa_nil))) pa_nil)))
      (pss_cons (ps_set (i := 2) sc_law.nd rfl (Or.inl rfl) (pe_fn G_law_window hr (pa_cons (pv 1) pa_nil)))
      (pss_cons (ps_set (i := 3) sc_law.nd rfl (Or.inr rfl) (pe_fn G_law_curve hr (pa_cons (pv 1) (pa_cons (pv 2) pa_nil))))
      (pss_cons (ps_set (i := 4) sc_law.nd rfl (Or.inl rfl) (pe_ix (ixK K ix_seq) (pe_fn G_law_step hr (pa_cons (pv 1) (pa_cons (pv 2) pa_nil))) pe_int (fun _ _ => rfl)))
      (Evl.pss_cut (ps_if (pt_not (pt_val (pe_fn G_law_within hr (pa_cons (pv 4) pa_nil))))
      (pss_one (ps_set (i := 4) sc_law.nd rfl (Or.inl rfl) (pv 2)))
      pss_nil)
      (pss_cons (ps_set (i := 5) sc_law.nd rfl (Or.inl rfl) (pe_makeNo G_Store___init T_Store hr (pa_cons (pe_callTy (crK K c_tuple) rfl B.tuple (by decide +kernel) (pa_cons (pe_lc (own := [("_law_t", 11)]) (g := gName 11) (tt := tYes) rfl sc_law.nd (piK_list K (pe_callB (c_sortedDW rfl) rfl B.sorted (by decide +kernel) (pa_cons (pv 3) pa_nil))) (blkOk_by (N := ["_law_script", "_law_pot_here", "_law_window_here", "_law_made", "_law_other", "_law_store", "_law_views", "_law_own", "_law_done", "_law_number", "_law_at", "_law_t", "_law_one", "_law_way", "_law_k"]) (sc := defScope s_law) (by decide +kernel)) (fun _ _ _ _ _ => (pg_name (i := 11) sc_law.nd rfl (Or.inl rfl))) (fun _ _ _ _ _ => pts_nil) (fun _ _ _ _ _ => (pe_tup (pa_cons (pv 11) (pa_cons (pe_dget (hu_of hr) (pv 3) (pv 11) (fun _ _ => rfl)) pa_nil))))) pa_nil)) pa_nil)))
      (pss_cons (ps_set (i := 6) sc_law.nd rfl (Or.inl rfl) (pe_lst (pa_cons (pe_makePNo G_View___init T_View hr (pa_cons (pv 5) (pa_cons (pv 2) pa_nil))) (pa_cons (pe_makePNo G_View___init T_View hr (pa_cons (pv 5) (pa_cons (pv 4) pa_nil))) pa_nil))))
      (pss_cons (ps_set (i := 7) sc_law.nd rfl (Or.inl rfl) (pe_lst (pa_cons (pe_lst (pa_cons (pv 2) (pa_cons (pe_lst pa_nil) (pa_cons pe_int pa_nil)))) (pa_cons (pe_lst (pa_cons (pv 4) (pa_cons (pe_lst pa_nil) (pa_cons pe_int pa_nil)))) pa_nil))))
      (pss_cons (ps_set (i := 8) sc_law.nd rfl (Or.inl rfl) (pe_lst pa_nil))
      (pss_cons (ps_for PassesOwn.never rfl (piK_list K (pe_op op_cat (pe_lst (pa_cons (pe_fn G_law_cell hr (pa_cons (pv 0) (pa_cons pe_int pa_nil))) pa_nil)) (pe_slice (slK K sl_list) (pv 0) (po_some pe_int) (po_some pe_int)))) (pg_name (i := 9) sc_law.nd rfl (Or.inl rfl))
      (pss_cons (ps_set (i := 1) sc_law.nd rfl (Or.inl rfl) (pe_fn G_law_pot hr (pa_cons (pv 9) pa_nil)))
      (pss_cons (ps_set (i := 10) sc_law.nd rfl (Or.inl rfl) (pe_fn G_law_draw hr (pa_cons (pv 1) (pa_cons pe_int pa_nil))))
      (Evl.pss_cut (ps_if (pt_cmpR (opK K (o_eq hr.units)) (pe_fn G_law_draw hr (pa_cons (pv 1) (pa_cons pe_int pa_nil))) pe_int (nomark _))
      (pss_one (ps_if (pt_not (pt_val (pe_fn G_law_moved hr (pa_cons (pv 1) (pa_cons (pe_ix (ixK K ix_seq) (pv 6) (pv 10) (fun _ _ => rfl)) (pa_cons (pe_ix (ixK K ix_seq) (pv 7) (pv 10) (fun _ _ => rfl)) pa_nil))))))
      (pss_one (ps_ret pe_bl))
      pss_nil))
      (pss_cons (ps_set (i := 11) sc_law.nd rfl (Or.inr rfl) (pe_fn G_law_deed hr (pa_cons (pv 1) (pa_cons (pv 5) (pa_cons (pv 3) (pa_cons (pv 8) (pa_cons (pe_ix (ixK K ix_seq) (pe_ix (ixK K ix_seq) (pv 7) (pv 10) (fun _ _ => rfl)) pe_int (fun _ _ => rfl)) pa_nil)))))))
      (pss_one (ps_for PassesOwn.never rfl (piK_list K (pv 7)) (pg_name (i := 12) sc_law.nd rfl (Or.inr rfl))
      (pss_one (ps_asg (pe_lc (own := [("_law_k", 14)]) (g := gName 14) (tt := _) rfl sc_law.nd (piK_list K (pe_ix (ixK K ix_seq) (pv 12) pe_int (fun _ _ => rfl))) (blkOk_by (N := ["_law_script", "_law_pot_here", "_law_window_here", "_law_made", "_law_other", "_law_store", "_law_views", "_law_own", "_law_done", "_law_number", "_law_at", "_law_t", "_law_one", "_law_way", "_law_k"]) (sc := defScope s_law) (by decide +kernel)) (fun _ _ _ _ _ => (pg_name (i := 14) sc_law.nd rfl (Or.inl rfl))) (fun _ _ _ _ _ => pts_one (PW.pt (pw_or (pt_cmpR o_isN (pv 11) pe_non (nomark _)) (pw_or1 (pt_cmpR (opK K (o_ne hr.units)) (pv 14) (pe_fn G_law_column hr (pa_cons (pe_ix (ixK K ix_seq) (pv 12) pe_int (fun _ _ => rfl)) (pa_cons (pv 11) pa_nil))) (nomark _)))))) (fun _ _ _ _ _ => (pv 14))) (pg_sub (pv 12) pe_int set_list)))))))
      (pss_cons (ps_set (i := 13) sc_law.nd rfl (Or.inl rfl) (pe_fn G_law_draw hr (pa_cons (pv 1) (pa_cons pe_int pa_nil))))
      (Evl.pss_cut (ps_if (PW.pt (pw_and (pt_cmpR op_gt (pv 13) pe_int (nomark _)) (pw_and1 (pt_not (pt_val (pe_fnG G_law_asked gs hr (pa_cons (pe_ix (ixK K ix_seq) (pv 6) (pv 10) (fun _ _ => rfl)) (pa_cons (pe_ix (ixK K ix_seq) (pv 7) (pv 10) (fun _ _ => rfl)) (pa_cons (pv 3) pa_nil)))))))))
      (pss_one (ps_ret pe_bl))
      pss_nil)
      (pss_one (ps_if (PW.pt (pw_and (pt_cmpR (opK K (o_eq hr.units)) (pv 13) pe_int (nomark _)) (pw_and1 (pt_not (pt_val (pe_fnG G_law_asked gs hr (pa_cons (pe_ix (ixK K ix_seq) (pv 6) (pe_op op_sub pe_int (pv 10)) (fun _ _ => rfl)) (pa_cons (pe_ix (ixK K ix_seq) (pv 7) (pe_op op_sub pe_int (pv 10)) (fun _ _ => rfl)) (pa_cons (pv 3) pa_nil)))))))))
      (pss_one (ps_ret pe_bl))
      pss_nil))))))))
      (pss_one (ps_ret (pe_and (pe_fnG G_law_asked gs hr (pa_cons (pe_ix (ixK K ix_seq) (pv 6) pe_int (fun _ _ => rfl)) (pa_cons (pe_ix (ixK K ix_seq) (pv 7) pe_int (fun _ _ => rfl)) (pa_cons (pv 3) pa_nil)))) (pe_one (pe_fnG G_law_asked gs hr (pa_cons (pe_ix (ixK K ix_seq) (pv 6) pe_int (fun _ _ => rfl)) (pa_cons (pe_ix (ixK K ix_seq) (pv 7) pe_int (fun _ _ => rfl)) (pa_cons (pv 3) pa_nil)))))))))))))))))), ?_⟩
    refine r_start (σ' := [some (.ref sa), none, none, none, none, none, none, none, none, none, none, none, none, none, none]) rfl ?_
    have hS0 := hS.1
    walk_at "a"
    rename_i p H1 n1 s1 hp1
    refine use_lwindow hp1 fun wa b w' m H2 k2 hp2 hw2 win w34 m9 => ?_
    walk_at "a"
    refine use_lcurve hp2 hw2 win fun qd c H3 n3 k3 hp3 hh3 lc hc => ?_
    have t13 : TExt H H3 := ((TExt.of_same s1).trans (hp1.text k2)).trans (hp2.text k3)
    have hw3 := SqT.text (hp2.text k3) hw2
    have crv := hh3.crv
    have up := crv.up
    walk_at "a"
    refine use_lstep hp3 hw3 win fun s0 x0 wb0 H4 ok0 n12 k4 hp4 st4 => ?_
    have t34 := hp3.text k4
    have hh4 := hh3.pot hp3 k4
    have hw4 := SqT.text t34 hw3
    have hx4 := st4.t
    walk_at "a"
    refine r_cut (fun σ' H' => ∃ (wb : Addr) (b2 w2 m2 : Int), σ' = [some (.ref sa), some (.ref p), some (.ref wa), some (.ref qd), some (.ref wb), none, none, none, none, none, none, none, none, none, none] ∧ H' = H4 ∧ SqT K H4 wb [.int b2, .int w2, .int m2] ∧ InWin b2 w2 m2 ∧ m2 ≤ 40) ?_ ?_
    · have bd := stp_bd win s0 ok0 (by omega)
      walk_at "a"
      refine use_lwithin st4.w bd fun r hr' => ?_
      cases r with
      | false =>
        walk_at "a"
        exact ⟨wa, b, w', m, rfl, rfl, hw4, win, by omega⟩
      | true =>
        walk_at "a"
        refine ⟨wb0, _, _, _, rfl, rfl, st4.w, inWin_of (hr'.mp rfl) bd, ?_⟩
        cases s0 with
        | cols n => exact ok0.2
        | wide => show m ≤ 40; omega
        | narrow => show m ≤ 40; omega
        | on n => show m ≤ 40; omega
    rintro σ' H5 ⟨wb, b2, w2, m2', rfl, rfl, hwb, win2, m40⟩
    obtain ⟨⟨md, m1, m2, m3⟩, _⟩ := id hh4
    have hml := perm_len m2 (up_nodup up) m3
    walk_at "a"
    refine r_sortedDW m1 (by omega) fun ys p4 H6 pm srt n6 s6 e6 => ?_
    walk_at "a"
    refine lc_lstD (K := K) (as := ys) (fa := PyData.int) (SqL.of e6) (dpAll_ints K _ ys) (by rw [pm.length_eq, List.length_map]; omega) (fun _ => true) (fun t => pairP (t, (valP md t).getD 0)) (fun c => imm_pair _) (fun t x H5 S N ht s5 hx k1 k2 => ?_) (fun D H7 ys2 hD s7 e7 p7 => ?_)
    · cases dp_int hx
      refine r_gname ⟨wipe_one, ?_⟩
      walk_at "a"
      obtain ⟨h, hh⟩ : ∃ h, valP md t = some h := by
        obtain ⟨q, hq, rfl⟩ := List.mem_map.mp (pm.mem_iff.mp ht)
        exact ⟨q.2, (valP_iff m2).mpr hq⟩
      refine r_dgeti (s5 _ _ (s6 _ _ m1)) hh ?_
      walk_at "a"
      rw [hh] at k1
      exact k1 rfl _ _ (by assumption) (dp_of_pair (SqT.of (by assumption)))
    walk_at "a"
    rename_i cv H8 n8 s8 e8
    have ec : outOf md ys = c := up_ext (out_up m2 pm srt) up fun p => by rw [out_mem m2 pm, m3]
    have d8 : Dp K H8 (.ref cv) (prsD c) := .tup (SqT.of e8) (by
      have e : ((ys.filter fun _ => true).map fun t => pairP (t, (valP md t).getD 0)) = c.map pairP := by
        rw [Fp.filter_all, ← ec]
        unfold outOf
        rw [List.map_map]
        rfl
      rw [e] at p7
      exact DpAll.same s8 _ _ p7)
    have s58 := (s6.trans s7).trans s8
    refine r_makei fun st dx9 H9 n9 nx9 _ s9 ob9 => ?_
    refine use_s_init ob9 (.inr (Dp.same s9 _ _ d8)) up (by omega) crv.rg fun a H10 ea ew fr k10 S10 => ⟨rfl, ?_⟩
    subst ea
    have s59 := s58.trans s9
    have t910 : TExt H9 H10 := k10.text fun b hb => by rw [show b = a.p from hb, ob9]; trivial
    have t510 : TExt H5 H10 := (TExt.of_same s59).trans t910
    have hw10 := SqT.text t510 hw4
    have hwb10 := SqT.text t510 hwb
    have hh9 := hh4.same s59
    have qa0 : qd ≠ a.p := fun z => (hh4.same s58).live (by rw [z]; exact n9)
    have qa : qd ∉ a.all := fun hb => hh9.live (fr _ hb qa0)
    have hh10 := hh9.keep k10 qa0
    walk_at "a"
    refine r_makei fun v0 dx11 H11 n11 nx11 _ s11 ob11 => ?_
    have S11 := S10.same s11
    have nv0 : v0 ∉ a.all := S10.new_not n11
    have hh11 := hh10.same s11
    have v0q : v0 ≠ qd := fun z => hh10.live (by rw [← z]; exact n11)
    refine use_v_init ob11 S11 nv0 (SqT.text (TExt.of_same s11) hw10) win fun kd0 H12 nk0 k12 V12 => ⟨rfl, ?_⟩
    have t1112 : TExt H11 H12 := k12.text fun b hb => by rw [show b = v0 from hb, ob11]; trivial
    have S12 := S11.other k12 t1112 nv0
    have hh12 := hh11.keep k12 (Ne.symm v0q)
    have nkd0 : kd0 ∉ a.all := S11.new_not nk0
    have kd0q : kd0 ≠ qd := fun z => hh11.live (by rw [← z]; exact nk0)
    have hw12 := SqT.text ((TExt.of_same s11).trans t1112) hw10
    have hwb12 := SqT.text ((TExt.of_same s11).trans t1112) hwb10
    walk_at "a"
    refine r_makei fun v1 dx13 H13 n13 nx13 _ s13 ob13 => ?_
    have S13 := S12.same s13
    have V13 := V12.same s13
    have nv1 : v1 ∉ a.all := S12.new_not n13
    have hh13 := hh12.same s13
    have v1q : v1 ≠ qd := fun z => hh12.live (by rw [← z]; exact n13)
    have v1v0 : v1 ≠ v0 := fun z => V12.live.1 (by rw [← z]; exact n13)
    have v1kd0 : v1 ≠ kd0 := fun z => V12.live.2 (by rw [← z]; exact n13)
    refine use_v_init ob13 S13 nv1 (SqT.text (TExt.of_same s13) hwb12) win2 fun kd1 H14 nk1 k14 V14 => ⟨rfl, ?_⟩
    have t1314 : TExt H13 H14 := k14.text fun b hb => by rw [show b = v1 from hb, ob13]; trivial
    have S14 := S13.other k14 t1314 nv1
    have hh14 := hh13.keep k14 (Ne.symm v1q)
    have W14 := V13.keep k14 t1314 (Ne.symm v1v0) (Ne.symm v1kd0)
    have nkd1 : kd1 ∉ a.all := S13.new_not nk1
    have kd1q : kd1 ≠ qd := fun z => hh13.live (by rw [← z]; exact nk1)
    have kd1v0 : kd1 ≠ v0 := fun z => V13.live.1 (by rw [← z]; exact nk1)
    have kd1kd0 : kd1 ≠ kd0 := fun z => V13.live.2 (by rw [← z]; exact nk1)
    have hw14 := SqT.text ((TExt.of_same s13).trans t1314) hw12
    have hwb14 := SqT.text ((TExt.of_same s13).trans t1314) hwb12
    have tt14 : TExt H H14 := (((t13.trans t34).trans t510).trans ((TExt.of_same s11).trans t1112)).trans ((TExt.of_same s13).trans t1314)
    have hS14 := (hS.text tt14).1
    walk_at "a"
    rename_i vl H15 n15 s15 e15 k0 H16 n16 s16 e16 o0 H17 n17 s17 e17 k1 H18 n18 s18 e18 o1 H19 n19 s19 e19 ow H20 n20 s20 e20 dn H21 n21 s21 e21 la H22 n22 s22 e22 lb H23 n23 s23 e23
    generalize hys : cutV (ns.map V.int) (some 2) (some 30) = cs at e23
    have allC : ∀ v ∈ cs, ∃ i : Int, v = .int i := fun v hv => by
      rw [← hys] at hv
      obtain ⟨i, _, e⟩ := List.mem_map.mp (cutV_sub.subset hv)
      exact ⟨i, e.symm⟩
    have lcs : cs.length ≤ 63 := by
      rw [← hys]
      exact Nat.le_trans (cutV_sub.length_le) (by simpa using hl)
    refine r_cat (s23 _ _ e22) e23 (by rw [sizeLine_eq]; simp; omega) fun l H24 n24 s24 e24 => ?_
    generalize hxs : [V.int (ns.getD (Int.toNat 1) 0)] ++ cs = xs at e24
    have allInt : ∀ v ∈ xs, ∃ i : Int, v = .int i := fun v hv => by
      rw [← hxs] at hv
      rcases List.mem_append.mp hv with h | h
      · exact ⟨_, by simpa using h⟩
      · exact allC v h
    have lxs : xs.length ≤ 64 := by
      rw [← hxs]
      simp
      omega
    have ne_vl_k0 : vl ≠ k0 := ne_of_none (e15) n16
    have ne_vl_o0 : vl ≠ o0 := ne_of_none (s16 _ _ e15) n17
    have ne_vl_k1 : vl ≠ k1 := ne_of_none (s17 _ _ (s16 _ _ e15)) n18
    have ne_vl_o1 : vl ≠ o1 := ne_of_none (s18 _ _ (s17 _ _ (s16 _ _ e15))) n19
    have ne_vl_ow : vl ≠ ow := ne_of_none (s19 _ _ (s18 _ _ (s17 _ _ (s16 _ _ e15)))) n20
    have ne_vl_dn : vl ≠ dn := ne_of_none (s20 _ _ (s19 _ _ (s18 _ _ (s17 _ _ (s16 _ _ e15))))) n21
    have ne_vl_l : vl ≠ l := ne_of_none (s23 _ _ (s22 _ _ (s21 _ _ (s20 _ _ (s19 _ _ (s18 _ _ (s17 _ _ (s16 _ _ e15)))))))) n24
    have ne_k0_o0 : k0 ≠ o0 := ne_of_none (e16) n17
    have ne_k0_k1 : k0 ≠ k1 := ne_of_none (s17 _ _ e16) n18
    have ne_k0_o1 : k0 ≠ o1 := ne_of_none (s18 _ _ (s17 _ _ e16)) n19
    have ne_k0_ow : k0 ≠ ow := ne_of_none (s19 _ _ (s18 _ _ (s17 _ _ e16))) n20
    have ne_k0_dn : k0 ≠ dn := ne_of_none (s20 _ _ (s19 _ _ (s18 _ _ (s17 _ _ e16)))) n21
    have ne_k0_l : k0 ≠ l := ne_of_none (s23 _ _ (s22 _ _ (s21 _ _ (s20 _ _ (s19 _ _ (s18 _ _ (s17 _ _ e16))))))) n24
    have ne_o0_k1 : o0 ≠ k1 := ne_of_none (e17) n18
    have ne_o0_o1 : o0 ≠ o1 := ne_of_none (s18 _ _ e17) n19
    have ne_o0_ow : o0 ≠ ow := ne_of_none (s19 _ _ (s18 _ _ e17)) n20
    have ne_o0_dn : o0 ≠ dn := ne_of_none (s20 _ _ (s19 _ _ (s18 _ _ e17))) n21
    have ne_o0_l : o0 ≠ l := ne_of_none (s23 _ _ (s22 _ _ (s21 _ _ (s20 _ _ (s19 _ _ (s18 _ _ e17)))))) n24
    have ne_k1_o1 : k1 ≠ o1 := ne_of_none (e18) n19
    have ne_k1_ow : k1 ≠ ow := ne_of_none (s19 _ _ e18) n20
    have ne_k1_dn : k1 ≠ dn := ne_of_none (s20 _ _ (s19 _ _ e18)) n21
    have ne_k1_l : k1 ≠ l := ne_of_none (s23 _ _ (s22 _ _ (s21 _ _ (s20 _ _ (s19 _ _ e18))))) n24
    have ne_o1_ow : o1 ≠ ow := ne_of_none (e19) n20
    have ne_o1_dn : o1 ≠ dn := ne_of_none (s20 _ _ e19) n21
    have ne_o1_l : o1 ≠ l := ne_of_none (s23 _ _ (s22 _ _ (s21 _ _ (s20 _ _ e19)))) n24
    have ne_ow_dn : ow ≠ dn := ne_of_none (e20) n21
    have ne_ow_l : ow ≠ l := ne_of_none (s23 _ _ (s22 _ _ (s21 _ _ e20))) n24
    have ne_dn_l : dn ≠ l := ne_of_none (s23 _ _ (s22 _ _ e21)) n24
    have s1415 := s15
    have s1416 := s1415.trans s16
    have s1417 := s1416.trans s17
    have s1418 := s1417.trans s18
    have s1419 := s1418.trans s19
    have s1420 := s1419.trans s20
    have s1421 := s1420.trans s21
    have s1422 := s1421.trans s22
    have s1423 := s1422.trans s23
    have s1424 := s1423.trans s24
    have new : ∀ f, f ∈ [vl, k0, o0, k1, o1, ow, dn, l] → H14 f = none := fun f hf => by
      simp only [List.mem_cons, List.not_mem_nil, or_false] at hf
      rcases hf with rfl | rfl | rfl | rfl | rfl | rfl | rfl | rfl
      · exact n15
      · exact (Keep.of_same (F := No) s1415).back n16 (fun z => z)
      · exact (Keep.of_same (F := No) s1416).back n17 (fun z => z)
      · exact (Keep.of_same (F := No) s1417).back n18 (fun z => z)
      · exact (Keep.of_same (F := No) s1418).back n19 (fun z => z)
      · exact (Keep.of_same (F := No) s1419).back n20 (fun z => z)
      · exact (Keep.of_same (F := No) s1420).back n21 (fun z => z)
      · exact (Keep.of_same (F := No) s1423).back n24 (fun z => z)
    have e15' := s24 _ _ (s23 _ _ (s22 _ _ (s21 _ _ (s20 _ _ (s19 _ _ (s18 _ _ (s17 _ _ (s16 _ _ e15))))))))
    have e16' := s24 _ _ (s23 _ _ (s22 _ _ (s21 _ _ (s20 _ _ (s19 _ _ (s18 _ _ (s17 _ _ e16)))))))
    have e17' := s24 _ _ (s23 _ _ (s22 _ _ (s21 _ _ (s20 _ _ (s19 _ _ (s18 _ _ e17))))))
    have e18' := s24 _ _ (s23 _ _ (s22 _ _ (s21 _ _ (s20 _ _ (s19 _ _ e18)))))
    have e19' := s24 _ _ (s23 _ _ (s22 _ _ (s21 _ _ (s20 _ _ e19))))
    have e20' := s24 _ _ (s23 _ _ (s22 _ _ (s21 _ _ e20)))
    have e21' := s24 _ _ (s23 _ _ (s22 _ _ e21))
    have live14 : ∀ x, (x ∈ a.all ∨ x = qd ∨ x = v0 ∨ x = kd0 ∨ x = v1 ∨ x = kd1) → ∀ f ∈ [vl, k0, o0, k1, o1, ow, dn, l], x ≠ f := fun x hx f hf e => by
      have hn := new f hf
      rw [← e] at hn
      rcases hx with h | rfl | rfl | rfl | rfl | rfl
      · exact S14.live h hn
      · exact hh14.live hn
      · exact W14.live.1 hn
      · exact W14.live.2 hn
      · exact V14.live.1 hn
      · exact V14.live.2 hn
    have T0 : All K A_View A_Store H24 a c [] [] c.length qd dn vl ow l [.ref v0, .ref v1] [.ref o0, .ref o1] xs v0 o0 ⟨kd0, k0, wa, b, w', m, 0, [], []⟩ v1 o1 ⟨kd1, k1, wb, b2, w2, m2', 0, [], []⟩ := by
      refine ⟨S14.same s1424, hh14.same s1424, ⟨[], e21', .nil⟩, hc, by simp, e15', e20', e24, ⟨ViewP.of (W14.same s1424), e17', SqT.text (TExt.of_same s1424) hw14, e16', by simp, by simp, by show m ≤ 40; omega⟩, ⟨ViewP.of (V14.same s1424), e19', SqT.text (TExt.of_same s1424) hwb14, e18', by simp, by simp, m40⟩, fun x hx => ?_, fun x hx => ?_, fun x hx => ?_, ?_⟩
      · rcases set_mem.mp hx with h | h | h | h
        · rw [show x = v0 from h]
          refine ⟨nv0, ?_, ?_⟩
          · simp only [List.mem_cons, List.not_mem_nil, or_false, not_or]
            exact ⟨v0q, live14 _ (.inr (.inr (.inl rfl))) dn (by simp), live14 _ (.inr (.inr (.inl rfl))) vl (by simp), live14 _ (.inr (.inr (.inl rfl))) ow (by simp), live14 _ (.inr (.inr (.inl rfl))) l (by simp)⟩
          · rw [set_mem, not_or, not_or, not_or]
            exact ⟨Ne.symm v1v0, live14 _ (.inr (.inr (.inl rfl))) o1 (by simp), Ne.symm kd1v0, live14 _ (.inr (.inr (.inl rfl))) k1 (by simp)⟩
        · rw [show x = o0 from h]
          refine ⟨(fun z => live14 _ (.inl z) o0 (by simp) rfl), ?_, ?_⟩
          · simp only [List.mem_cons, List.not_mem_nil, or_false, not_or]
            exact ⟨Ne.symm (live14 _ (.inr (.inl rfl)) o0 (by simp)), ne_o0_dn, Ne.symm ne_vl_o0, ne_o0_ow, ne_o0_l⟩
          · rw [set_mem, not_or, not_or, not_or]
            exact ⟨Ne.symm (live14 _ (.inr (.inr (.inr (.inr (.inl rfl))))) o0 (by simp)), ne_o0_o1, Ne.symm (live14 _ (.inr (.inr (.inr (.inr (.inr rfl))))) o0 (by simp)), ne_o0_k1⟩
        · rw [show x = kd0 from h]
          refine ⟨nkd0, ?_, ?_⟩
          · simp only [List.mem_cons, List.not_mem_nil, or_false, not_or]
            exact ⟨kd0q, live14 _ (.inr (.inr (.inr (.inl rfl)))) dn (by simp), live14 _ (.inr (.inr (.inr (.inl rfl)))) vl (by simp), live14 _ (.inr (.inr (.inr (.inl rfl)))) ow (by simp), live14 _ (.inr (.inr (.inr (.inl rfl)))) l (by simp)⟩
          · rw [set_mem, not_or, not_or, not_or]
            exact ⟨Ne.symm v1kd0, live14 _ (.inr (.inr (.inr (.inl rfl)))) o1 (by simp), Ne.symm kd1kd0, live14 _ (.inr (.inr (.inr (.inl rfl)))) k1 (by simp)⟩
        · rw [show x = k0 from h]
          refine ⟨(fun z => live14 _ (.inl z) k0 (by simp) rfl), ?_, ?_⟩
          · simp only [List.mem_cons, List.not_mem_nil, or_false, not_or]
            exact ⟨Ne.symm (live14 _ (.inr (.inl rfl)) k0 (by simp)), ne_k0_dn, Ne.symm ne_vl_k0, ne_k0_ow, ne_k0_l⟩
          · rw [set_mem, not_or, not_or, not_or]
            exact ⟨Ne.symm (live14 _ (.inr (.inr (.inr (.inr (.inl rfl))))) k0 (by simp)), ne_k0_o1, Ne.symm (live14 _ (.inr (.inr (.inr (.inr (.inr rfl))))) k0 (by simp)), ne_k0_k1⟩
      · rcases set_mem.mp hx with h | h | h | h
        · rw [show x = v1 from h]
          refine ⟨nv1, ?_⟩
          · simp only [List.mem_cons, List.not_mem_nil, or_false, not_or]
            exact ⟨v1q, live14 _ (.inr (.inr (.inr (.inr (.inl rfl))))) dn (by simp), live14 _ (.inr (.inr (.inr (.inr (.inl rfl))))) vl (by simp), live14 _ (.inr (.inr (.inr (.inr (.inl rfl))))) ow (by simp), live14 _ (.inr (.inr (.inr (.inr (.inl rfl))))) l (by simp)⟩
        · rw [show x = o1 from h]
          refine ⟨(fun z => live14 _ (.inl z) o1 (by simp) rfl), ?_⟩
          · simp only [List.mem_cons, List.not_mem_nil, or_false, not_or]
            exact ⟨Ne.symm (live14 _ (.inr (.inl rfl)) o1 (by simp)), ne_o1_dn, Ne.symm ne_vl_o1, ne_o1_ow, ne_o1_l⟩
        · rw [show x = kd1 from h]
          refine ⟨nkd1, ?_⟩
          · simp only [List.mem_cons, List.not_mem_nil, or_false, not_or]
            exact ⟨kd1q, live14 _ (.inr (.inr (.inr (.inr (.inr rfl))))) dn (by simp), live14 _ (.inr (.inr (.inr (.inr (.inr rfl))))) vl (by simp), live14 _ (.inr (.inr (.inr (.inr (.inr rfl))))) ow (by simp), live14 _ (.inr (.inr (.inr (.inr (.inr rfl))))) l (by simp)⟩
        · rw [show x = k1 from h]
          refine ⟨(fun z => live14 _ (.inl z) k1 (by simp) rfl), ?_⟩
          · simp only [List.mem_cons, List.not_mem_nil, or_false, not_or]
            exact ⟨Ne.symm (live14 _ (.inr (.inl rfl)) k1 (by simp)), ne_k1_dn, Ne.symm ne_vl_k1, ne_k1_ow, ne_k1_l⟩
      · simp only [List.mem_cons, List.not_mem_nil, or_false] at hx
        rcases hx with h | h | h | h | h
        · rw [h]; exact qa
        · rw [h]; exact (fun z => live14 _ (.inl z) dn (by simp) rfl)
        · rw [h]; exact (fun z => live14 _ (.inl z) vl (by simp) rfl)
        · rw [h]; exact (fun z => live14 _ (.inl z) ow (by simp) rfl)
        · rw [h]; exact (fun z => live14 _ (.inl z) l (by simp) rfl)
      · exact ⟨live14 _ (.inr (.inl rfl)) dn (by simp), ne_vl_dn, ne_ow_dn, Ne.symm ne_dn_l⟩
    walk_at "a"
    refine for_wk wk_list (fun i σ H' => ∃ (g1 g9 g10 g11 g12 g13 g14 : Option V) (c : Prs) (hs : List (Int × Prs)) (ts : List Int) (z : Nat) (u0 u1 : One), σ = [some (.ref sa), g1, some (.ref wa), some (.ref qd), some (.ref wb), some (.ref a.p), some (.ref vl), some (.ref ow), some (.ref dn), g9, g10, g11, g12, g13, g14] ∧
        All K A_View A_Store H' a c hs ts z qd dn vl ow l [.ref v0, .ref v1] [.ref o0, .ref o1] xs v0 o0 u0 v1 o1 u1 ∧ u0.Mem ∧ u1.Mem ∧ z ≤ 24 + i)
      ⟨_, _, _, _, _, _, _, c, [], [], _, _, _, rfl, T0, fun _ => Iff.rfl, fun _ => Iff.rfl, by omega⟩ (fun i σ H' _ z => by obtain ⟨_, _, _, _, _, _, _, _, _, _, _, _, _, _, z, _⟩ := z; exact SqL.of z.el) ?_ ?_
    · rintro i x σ H30 H30' hi ⟨g1, g9, g10, g11, g12, g13, g14, c, hs, ts, z, u0, u1, rfl, T, mm0, mm1, hz⟩ ⟨rfl, hx⟩
      obtain ⟨nh, rfl⟩ := allInt x (List.mem_of_getElem? hx)
      walk_at "a"
      rename_i p H31 n31 s31 hp31 at_ H32 k32 hp32 a0 a1
      have off := T.off n31
      have T32 := (T.same s31).pot off hp31 k32
      obtain ⟨v, o, v', o', sel⟩ : ∃ (v o v' o' : Addr), (at_ = 0 ∧ v = v0 ∧ o = o0 ∧ v' = v1 ∧ o' = o1) ∨ (at_ = 1 ∧ v = v1 ∧ o = o1 ∧ v' = v0 ∧ o' = o0) := by
        obtain rfl | rfl : at_ = 0 ∨ at_ = 1 := by omega
        · exact ⟨_, _, _, _, .inl ⟨rfl, rfl, rfl, rfl, rfl⟩⟩
        · exact ⟨_, _, _, _, .inr ⟨rfl, rfl, rfl, rfl, rfl⟩⟩
      have orient : ∀ {c : Prs} {hs : List (Int × Prs)} {ts : List Int} {z : Nat} {ua ub : One} {H : Hp}, All K A_View A_Store H a c hs ts z qd dn vl ow l [.ref v0, .ref v1] [.ref o0, .ref o1] xs v0 o0 ua v1 o1 ub → Off a qd dn vl ow l v0 o0 ua v1 o1 ub p → ua.Mem → ub.Mem →
          ∃ (u u' : One), All K A_View A_Store H a c hs ts z qd dn vl ow l [.ref v0, .ref v1] [.ref o0, .ref o1] xs v o u v' o' u' ∧ Off a qd dn vl ow l v o u v' o' u' p ∧ u.Mem ∧ u'.Mem := by
        intro c hs ts z ua ub H T f m1 m2
        rcases sel with ⟨_, rfl, rfl, rfl, rfl⟩ | ⟨_, rfl, rfl, rfl, rfl⟩
        · exact ⟨ua, ub, T, f, m1, m2⟩
        · exact ⟨ub, ua, T.swap, f.swap, m2, m1⟩
      have back : ∀ {c : Prs} {hs : List (Int × Prs)} {ts : List Int} {z : Nat} {u u' : One} {H : Hp}, All K A_View A_Store H a c hs ts z qd dn vl ow l [.ref v0, .ref v1] [.ref o0, .ref o1] xs v o u v' o' u' → u.Mem → u'.Mem →
          ∃ (ua ub : One), All K A_View A_Store H a c hs ts z qd dn vl ow l [.ref v0, .ref v1] [.ref o0, .ref o1] xs v0 o0 ua v1 o1 ub ∧ ua.Mem ∧ ub.Mem := by
        intro c hs ts z u u' H T m1 m2
        rcases sel with ⟨_, rfl, rfl, rfl, rfl⟩ | ⟨_, rfl, rfl, rfl, rfl⟩
        · exact ⟨u, u', T, m1, m2⟩
        · exact ⟨u', u, T.swap, m2, m1⟩
      have iv : atI [V.ref v0, V.ref v1] at_ = some (.ref v) ∧ atI [V.ref o0, V.ref o1] at_ = some (.ref o) ∧ atI [V.ref v0, V.ref v1] (1 - at_) = some (.ref v') ∧ atI [V.ref o0, V.ref o1] (1 - at_) = some (.ref o') := by
        rcases sel with ⟨rfl, rfl, rfl, rfl, rfl⟩ | ⟨rfl, rfl, rfl, rfl, rfl⟩
        · exact ⟨rfl, rfl, rfl, rfl⟩
        · exact ⟨rfl, rfl, rfl, rfl⟩
      obtain ⟨iv1, iv2, iv3, iv4⟩ := iv
      refine r_cut (fun σ' H' => ∃ (g11 g12 g14 : Option V) (c : Prs) (hs : List (Int × Prs)) (ts : List Int) (z : Nat) (u u' : One), σ' = [some (.ref sa), some (.ref p), some (.ref wa), some (.ref qd), some (.ref wb), some (.ref a.p), some (.ref vl), some (.ref ow), some (.ref dn), some (.int nh), some (.int at_), g11, g12, g13, g14] ∧
          All K A_View A_Store H' a c hs ts z qd dn vl ow l [.ref v0, .ref v1] [.ref o0, .ref o1] xs v o u v' o' u' ∧ Off a qd dn vl ow l v o u v' o' u' p ∧ u.Mem ∧ u'.Mem ∧ z ≤ 24 + i + 1 ∧ Pot H' p) ?_ ?_
      · obtain ⟨u, u', To, offo, mm, mm'⟩ := orient T32 off mm0 mm1
        walk_at "a"
        rename_i d H33 k33 hp33 d0 d1
        have T33 := To.pot offo hp32 k33
        refine i_cases (fun h => ?_) (fun h => ?_)
        · walk_at "a"
          refine r_ixl (SqL.of T33.vlA) iv1 ?_
          walk_at "a"
          refine r_ixl (SqL.of T33.owA) iv2 ?_
          walk_at "a"
          refine use_lmoved hp33 T33.S T33.A mm (fun x hx => ⟨(T33.sA x hx).1, offo x (.inr (.inr (.inl hx)))⟩) (fun z => offo p (.inl z) rfl) fun u2 H34 k34 t34 hp34 A2 mm2 fr => ?_
          walk_at "a"
          have l33 : H33 p ≠ none := by obtain ⟨_, _, e, _⟩ := hp33.ex; rw [e]; simp
          exact ⟨_, _, _, c, hs, ts, z, u2, u', rfl, T33.one offo k34 t34 A2 fr, offo.one l33 fr, mm2, mm', by omega, hp34⟩
        · clear To offo mm mm' T33
          have T33 := T32.pot off hp32 k33
          obtain ⟨wd, bd, wwd, md', hwd, wind, iod⟩ : ∃ (wd : Addr) (bd wwd md' : Int) , SqT K H33 wd [.int bd, .int wwd, .int md'] ∧ InWin bd wwd md' ∧ ∃ r, H33 o = some (.lst (.ref wd :: r)) := by
            rcases sel with ⟨_, rfl, rfl, rfl, rfl⟩ | ⟨_, rfl, rfl, rfl, rfl⟩
            · exact ⟨_, _, _, _, T33.A.wa, T33.A.Vw.win, _, T33.A.oo⟩
            · exact ⟨_, _, _, _, T33.B.wa, T33.B.Vw.win, _, T33.B.oo⟩
          obtain ⟨ro, iod⟩ := iod
          walk_at "a"
          refine r_ixl (SqL.of T33.owA) iv2 ?_
          walk_at "a"
          refine r_ixl (SqL.of iod) (atI_nat (j := 0) rfl) ?_
          walk_at "a"
          have lxz : z ≤ 9000 := by omega
          refine use_ldeed hp33 T33.S lxz T33.hh T33.dnA hwd wind ⟨T33.sR _ (by simp), T33.sR _ (by simp), fun z => off p (.inl z) rfl, fun z => off dn (.inr (.inl (by simp))) z.symm⟩ T33.wc T33.wh fun tv c' hs' ts' z' H34 k34 t34 hp34 S34 hz34 hh34 dn34 wc34 wh34 hcase => ?_
          have T34 := T33.deed off k34 t34 S34 hh34 dn34 wc34 wh34 hcase
          have off34 : Off a qd dn vl ow l v0 o0 (u0.left tv) v1 o1 (u1.left tv) p := off
          have pe0 : (u0.left tv).Pend tv := One.pend tv mm0
          have pe1 : (u1.left tv).Pend tv := One.pend tv mm1
          generalize u0.left tv = ua at *
          generalize u1.left tv = ub at *
          have ow34 := T34.owA
          walk_at "a"
          refine for_wk (wk_list (xs := [.ref o0, .ref o1])) (fun j σ H' => ∃ (g12 g14 : Option V) (ua ub : One), σ = [some (.ref sa), some (.ref p), some (.ref wa), some (.ref qd), some (.ref wb), some (.ref a.p), some (.ref vl), some (.ref ow), some (.ref dn), some (.int nh), some (.int at_), some (optV tv), g12, g13, g14] ∧
              All K A_View A_Store H' a c' hs' ts' z' qd dn vl ow l [.ref v0, .ref v1] [.ref o0, .ref o1] xs v0 o0 ua v1 o1 ub ∧ Off a qd dn vl ow l v0 o0 ua v1 o1 ub p ∧ (if 1 ≤ j then ua.Mem else ua.Pend tv) ∧ (if 2 ≤ j then ub.Mem else ub.Pend tv) ∧ Pot H' p)
            ⟨_, _, ua, ub, rfl, T34, off34, by rw [if_neg (by decide)]; exact pe0, by rw [if_neg (by decide)]; exact pe1, hp34⟩ (fun j σ H' _ z => by obtain ⟨_, _, _, _, _, z, _⟩ := z; exact SqL.of z.owA) ?_ ?_
          · rintro j y σ H35 H35' hj ⟨g12, g14, ua, ub, rfl, T35, off35, m0, m1, hp35⟩ ⟨rfl, hy⟩
            have hj : j < 2 := hj
            obtain ⟨vv, oo, uc, vw, ox, ud, T, pend, offT, eo, fin⟩ : ∃ (vv oo : Addr) (uc : One) (vw ox : Addr) (ud : One), All K A_View A_Store H35' a c' hs' ts' z' qd dn vl ow l [.ref v0, .ref v1] [.ref o0, .ref o1] xs vv oo uc vw ox ud ∧ uc.Pend tv ∧ Off a qd dn vl ow l vv oo uc vw ox ud p ∧ y = .ref oo ∧
                ∀ (ue : One) (H' : Hp), All K A_View A_Store H' a c' hs' ts' z' qd dn vl ow l [.ref v0, .ref v1] [.ref o0, .ref o1] xs vv oo ue vw ox ud → Off a qd dn vl ow l vv oo ue vw ox ud p → ue.Mem → ∃ (ua ub : One), All K A_View A_Store H' a c' hs' ts' z' qd dn vl ow l [.ref v0, .ref v1] [.ref o0, .ref o1] xs v0 o0 ua v1 o1 ub ∧ Off a qd dn vl ow l v0 o0 ua v1 o1 ub p ∧ (if 1 ≤ j + 1 then ua.Mem else ua.Pend tv) ∧ (if 2 ≤ j + 1 then ub.Mem else ub.Pend tv) := by
              obtain rfl | rfl : j = 0 ∨ j = 1 := by omega
              · cases hy
                rw [if_neg (by decide)] at m0 m1
                exact ⟨v0, o0, ua, v1, o1, ub, T35, m0, off35, rfl, fun ue H' T f mm => ⟨ue, ub, T, f, by rw [if_pos (by decide)]; exact mm, by rw [if_neg (by decide)]; exact m1⟩⟩
              · cases hy
                rw [if_pos (by decide)] at m0
                rw [if_neg (by decide)] at m1
                exact ⟨v1, o1, ub, v0, o0, ua, T35.swap, m1, off35.swap, rfl, fun ue H' T f mm => ⟨ua, ue, T.swap, f.swap, by rw [if_pos (by decide)]; exact m0, by rw [if_pos (by decide)]; exact mm⟩⟩
            subst eo
            have oo35 := T.A.oo
            have kk35 := T.A.kk
            have wa35 := T.A.wa
            obtain ⟨u1', u2', u3', u4', u5', u6'⟩ := id T.A.Vw.win
            have lks := T.A.len
            walk_at "a"
            refine lc_lstD (K := K) (as := uc.ks) (fa := PyData.int) (SqL.of kk35) (dpAll_ints K _ uc.ks) (by have := T.A.lk; omega) (keepK tv uc.b uc.w) PyData.int (fun _ => rfl) (fun k x2 H36 S' N hk s36 hx2 g1' g2' => ?_) (fun D H36 ys hD s36 e36 p36 => ?_)
            · cases dp_int hx2
              have hkr := T.A.inr k hk
              have oo36 := s36 _ _ oo35
              have wa36 := SqT.text (TExt.of_same s36) wa35
              refine r_gname ⟨wipe_one, ?_⟩
              have g3 : ∀ b : Bool, keepK tv uc.b uc.w k = b → if b = true then ∀ (y : V) (H3 : Hp), Same H36 H3 → Dp K H3 y (PyData.int k) → S' y H3 else ∀ (H3 : Hp), Same H36 H3 → N H3 := fun b e => by
                cases b with
                | true => exact g1' e
                | false => exact g2' e
              clear g1' g2' hcase pe0 pe1 m0 m1 pend fin
              cases tv with
              | none =>
                have g4 := g3 true rfl
                walk_at "a"
                exact g4 _ _ (Same.refl _) (.int k)
              | some t =>
                simp only [show optV (some t) = V.int t from rfl]
                walk_at "a"
                refine use_lcolumn wa36 (by omega) u4' ?_
                by_cases hc : (t - uc.b) / uc.w < 0 ∨ (t - uc.b) / uc.w ≥ uc.m
                · rw [show colOf uc.b uc.w uc.m t = none from if_pos hc]
                  have g4 := g3 true (decide_eq_true (by omega))
                  refine r_ne_d (.int k) .non (Shp.ok (n := 0) (.int k)) (Shp.ok (n := 0) .none) ?_
                  rw [show PyData.eqv (.int k) .none = false from rfl]
                  walk_at "a"
                  exact g4 _ _ (Same.refl _) (.int k)
                · rw [show colOf uc.b uc.w uc.m t = some ((t - uc.b) / uc.w) from if_neg hc]
                  simp only [optI]
                  walk_at "a"
                  refine i_ncases (fun h2 => ?_) (fun h2 => ?_)
                  · have g4 := g3 true (decide_eq_true h2)
                    walk_at "a"
                    exact g4 _ _ (Same.refl _) (.int k)
                  · exact g3 false (decide_eq_false (fun z => z h2)) _ (Same.refl _)
            · rw [filt_keep] at p36
              have ye := dpAll_all_ints p36
              subst ye
              have T36 := T.same s36
              have oo36 := T36.A.oo
              walk_at "a"
              refine r_setl oo36 rfl fun H37 k37 e37 => ?_
              have e37 : H37 oo = some (.lst [.ref uc.wa, .ref D, .int uc.n]) := e37
              have t37 : TExt H36 H37 := TExt.lst k37 oo36
              walk_at "a"
              have oD : oo ≠ D := ne_of_none oo35 hD
              have k57 : Keep (fun x => x ∈ uc.set vv oo ∨ x = p) H35' H37 := fun b x eb nb => k37 _ _ (s36 _ _ eb) fun z => nb (.inl (set_mem.mpr (.inr (.inl z))))
              have A37 : OneAt K A_View H37 a.p c' ts' vv oo { uc with k := D, ks := filt tv uc.b uc.w uc.ks } := by
                have A36 := T36.A
                obtain ⟨q1, q2, q3, q4, q5⟩ := A36.ok
                refine ⟨A36.Vw.keep k37 t37 (Ne.symm q2) (Ne.symm q3), e37, SqT.text t37 A36.wa, k37 _ _ e36 (Ne.symm oD), ?_, fun j hj => ?_, A36.m40⟩
                · rw [← filt_keep]
                  exact A36.nd.sublist List.filter_sublist
                · rw [← filt_keep] at hj
                  exact A36.inr j (List.mem_filter.mp hj).1
              have l35 : H35' p ≠ none := by obtain ⟨_, _, e, _⟩ := hp35.ex; rw [e]; simp
              have fr : ∀ x ∈ One.set { uc with k := D, ks := filt tv uc.b uc.w uc.ks } vv oo, x ∈ uc.set vv oo ∨ H35' x = none := fun x hx => by
                rcases set_mem.mp hx with h | h | h | h
                · exact .inl (set_mem.mpr (.inl h))
                · exact .inl (set_mem.mpr (.inr (.inl h)))
                · exact .inl (set_mem.mpr (.inr (.inr (.inl h))))
                · exact .inr (by rw [show x = D from h]; exact hD)
              obtain ⟨ua2, ub2, T38, off38, m38, m39⟩ := fin _ H37 (T.one offT k57 ((TExt.of_same s36).trans t37) A37 fr) (offT.one l35 fr) pend
              exact ⟨_, _, ua2, ub2, rfl, T38, off38, m38, m39, (hp35.same s36).keep k37 (Ne.symm (offT oo (.inr (.inr (.inl (set_mem.mpr (.inr (.inl rfl)))))))) ⟩
          · rintro σ H35 ⟨g12, g14, ua, ub, rfl, T35, off35, m0, m1, hp35⟩
            have m0 : ua.Mem := by rw [if_pos (show 1 ≤ [V.ref o0, V.ref o1].length from by simp)] at m0; exact m0
            have m1 : ub.Mem := by rw [if_pos (show 2 ≤ [V.ref o0, V.ref o1].length from by simp)] at m1; exact m1
            obtain ⟨u, u', To, offo, mm, mm'⟩ := orient T35 off35 m0 m1
            exact ⟨_, _, _, c', hs', ts', z', u, u', rfl, To, offo, mm, mm', by omega, hp35⟩
      rintro σ' H40 ⟨g11, g12, g14, c, hs, ts, z, u, u', rfl, T40, off40, mm, mm', hz40, hp40⟩
      have l40 : H40 p ≠ none := by obtain ⟨_, _, e, _⟩ := hp40.ex; rw [e]; simp
      walk_at "a"
      rename_i way H41 k41 hp41 y0 y1
      have T41 := T40.pot off40 hp40 k41
      have lcz41 := T41.len
      refine r_cut (fun σ' H' => ∃ (u : One), σ' = [some (.ref sa), some (.ref p), some (.ref wa), some (.ref qd), some (.ref wb), some (.ref a.p), some (.ref vl), some (.ref ow), some (.ref dn), some (.int nh), some (.int at_), g11, g12, some (.int way), g14] ∧
          All K A_View A_Store H' a c hs ts z qd dn vl ow l [.ref v0, .ref v1] [.ref o0, .ref o1] xs v o u v' o' u' ∧ Off a qd dn vl ow l v o u v' o' u' p ∧ u.Mem ∧ H' p ≠ none) ?_ ?_
      · have l41 : H41 p ≠ none := by obtain ⟨_, _, e, _⟩ := hp41.ex; rw [e]; simp
        walk_at "a"
        refine i_cases (fun h => ?_) (fun h => ?_)
        · walk_at "a"
          refine r_ixl (SqL.of T41.vlA) iv1 ?_
          walk_at "a"
          refine r_ixl (SqL.of T41.owA) iv2 ?_
          walk_at "a"
          refine use_lasked T41.S T41.hh T41.wc (by omega) T41.A mm (fun x hx => ⟨(T41.sA x hx).1, fun z => (T41.sA x hx).2.1 (by rw [z]; simp)⟩) fun u2 H42 k42 A2 mm2 fr => ?_
          walk_at "a"
          have k42' : Keep (fun x => x ∈ u.set v o ∨ x = p) H41 H42 := k42.mono fun b h => .inl h
          exact ⟨u2, rfl, T41.one off40 k42' (T41.A.text k42) A2 fr, off40.one l41 fr, mm2, fun e => l41 (by
            cases hq : H41 p with
            | none => rfl
            | some o' => rw [k42 _ _ hq fun z => off40 p (.inr (.inr (.inl z))) rfl] at e; cases e)⟩
        · walk_at "a"
          exact ⟨u, rfl, T41, off40, mm, l41⟩
      rintro σ' H43 ⟨u2, rfl, T43, off43, mm2, l43⟩
      walk_at "a"
      have lcz43 := T43.len
      refine i_cases (fun h => ?_) (fun h => ?_)
      · walk_at "a"
        refine r_ixl (SqL.of T43.vlA) iv3 ?_
        walk_at "a"
        refine r_ixl (SqL.of T43.owA) iv4 ?_
        walk_at "a"
        refine use_lasked T43.S T43.hh T43.wc (by omega) T43.B mm' (fun x hx => ⟨(T43.sB x hx).1, fun z => (T43.sB x hx).2 (by rw [z]; simp)⟩) fun u3 H44 k44 A3 mm3 fr => ?_
        walk_at "a"
        have k44' : Keep (fun x => x ∈ u'.set v' o' ∨ x = p) H43 H44 := k44.mono fun b h => .inl h
        obtain ⟨ua, ub, T46, ma, mb⟩ := back (T43.swap.one off43.swap k44' (T43.B.text k44) A3 fr).swap mm2 mm3
        exact ⟨_, _, _, _, _, _, _, c, hs, ts, z, ua, ub, rfl, T46, ma, mb, by omega⟩
      · walk_at "a"
        obtain ⟨ua, ub, T46, ma, mb⟩ := back T43 mm2 mm'
        exact ⟨_, _, _, _, _, _, _, c, hs, ts, z, ua, ub, rfl, T46, ma, mb, by omega⟩
    · rintro σ H30 ⟨g1, g9, g10, g11, g12, g13, g14, c, hs, ts, z, u0, u1, rfl, T, mm0, mm1, hz⟩
      have lcz := T.len
      walk_at "a"
      refine r_ixl (SqL.of T.vlA) rfl ?_
      walk_at "a"
      refine r_ixl (SqL.of T.owA) rfl ?_
      walk_at "a"
      refine use_lasked T.S T.hh T.wc (by omega) T.A mm0 (fun x hx => ⟨(T.sA x hx).1, fun z => (T.sA x hx).2.1 (by rw [z]; simp)⟩) fun u2 H31 k31 A2 mm2 fr => ?_
      have T31 : All K A_View A_Store H31 a c hs ts z qd dn vl ow l [.ref v0, .ref v1] [.ref o0, .ref o1] xs v0 o0 u2 v1 o1 u1 := by
        have t31 := T.A.text k31
        have m : ∀ x ∈ [qd, dn, vl, ow, l], x ∉ u0.set v0 o0 := fun x hx z => (T.sA x z).2.1 hx
        refine ⟨T.S.keep k31 t31 (fun x hx z => (T.sA x z).1 hx), T.hh.keep k31 (m _ (by simp)), T.dnA.keep k31 t31 (m _ (by simp)), T.wc, T.wh, k31 _ _ T.vlA (m _ (by simp)), k31 _ _ T.owA (m _ (by simp)), k31 _ _ T.el (m _ (by simp)), A2, T.B.keep k31 t31 (fun x hx z => (T.sA x z).2.2 hx), fun x hx => ?_, T.sB, T.sR, T.sQ⟩
        rcases fr x hx with h | h
        · exact T.sA x h
        · exact ⟨fun z => T.live (.inl z) h, fun z => T.live (.inr (.inl z)) h, fun z => T.live (.inr (.inr (.inr z))) h⟩
      walk_at "a"
      refine r_ixl (SqL.of T31.vlA) (atI_nat (j := 1) rfl) ?_
      walk_at "a"
      refine r_ixl (SqL.of T31.owA) (atI_nat (j := 1) rfl) ?_
      walk_at "a"
      refine use_lasked T31.S T31.hh T31.wc (by omega) T31.B mm1 (fun x hx => ⟨(T31.sB x hx).1, fun z => (T31.sB x hx).2 (by rw [z]; simp)⟩) fun u3 H32 k32 A3 mm3 fr => ?_
      exact q _
end
theorem all_mk {l : PySem.W.OpenLaw} {w : World} {K : PySem.W.Frag} {h : Heap} {mg : Str → Option Value} {fa : Addr} (X : K.In h) (G : h.Ns mainGlobals mg) (hfa : mg "law" = some (.ref fa))
    {od_wall an_wall : Option Addr} {sl_wall : Array (Option Value)} {f_wall : Addr} {oc_wall kV_wall dc_wall pm_wall cd_wall ct_wall : Value}
    (a_wall : PySem.W.nsIn K mainGlobals "_wall" = some (some (.ref f_wall)))
    (l_wall : K.lookup f_wall = some ⟨oc_wall, od_wall, .func (PySem.W.fnOf "_wall" "_wall" (defArgs s_wall) (defBody s_wall) (defScope s_wall) .none kV_wall dc_wall pm_wall an_wall cd_wall ct_wall), sl_wall⟩)
    (c_wall : PySem.W.codeIn K cd_wall "_wall" = true) (k_wall : PySem.W.keepIn K (.ref f_wall) = true)
    {od_is_number an_is_number : Option Addr} {sl_is_number : Array (Option Value)} {f_is_number : Addr} {oc_is_number kV_is_number dc_is_number pm_is_number cd_is_number ct_is_number : Value}
    (a_is_number : PySem.W.nsIn K mainGlobals "is_number" = some (some (.ref f_is_number)))
    (l_is_number : K.lookup f_is_number = some ⟨oc_is_number, od_is_number, .func (PySem.W.fnOf "is_number" "is_number" (defArgs s_is_number) (defBody s_is_number) (defScope s_is_number) .none kV_is_number dc_is_number pm_is_number an_is_number cd_is_number ct_is_number), sl_is_number⟩)
    (c_is_number : PySem.W.codeIn K cd_is_number "is_number" = true) (k_is_number : PySem.W.keepIn K (.ref f_is_number) = true)
    {od_column_of an_column_of : Option Addr} {sl_column_of : Array (Option Value)} {f_column_of : Addr} {oc_column_of kV_column_of dc_column_of pm_column_of cd_column_of ct_column_of : Value}
    (a_column_of : PySem.W.nsIn K mainGlobals "column_of" = some (some (.ref f_column_of)))
    (l_column_of : K.lookup f_column_of = some ⟨oc_column_of, od_column_of, .func (PySem.W.fnOf "column_of" "column_of" (defArgs s_column_of) (defBody s_column_of) (defScope s_column_of) .none kV_column_of dc_column_of pm_column_of an_column_of cd_column_of ct_column_of), sl_column_of⟩)
    (c_column_of : PySem.W.codeIn K cd_column_of "column_of" = true) (k_column_of : PySem.W.keepIn K (.ref f_column_of) = true)
    {od_times_of an_times_of : Option Addr} {sl_times_of : Array (Option Value)} {f_times_of : Addr} {oc_times_of kV_times_of dc_times_of pm_times_of cd_times_of ct_times_of : Value}
    (a_times_of : PySem.W.nsIn K mainGlobals "times_of" = some (some (.ref f_times_of)))
    (l_times_of : K.lookup f_times_of = some ⟨oc_times_of, od_times_of, .func (PySem.W.fnOf "times_of" "times_of" (defArgs s_times_of) (defBody s_times_of) (defScope s_times_of) .none kV_times_of dc_times_of pm_times_of an_times_of cd_times_of ct_times_of), sl_times_of⟩)
    (c_times_of : PySem.W.codeIn K cd_times_of "times_of" = true) (k_times_of : PySem.W.keepIn K (.ref f_times_of) = true)
    {od_moved an_moved : Option Addr} {sl_moved : Array (Option Value)} {f_moved : Addr} {oc_moved kV_moved dc_moved pm_moved cd_moved ct_moved : Value}
    (a_moved : PySem.W.nsIn K mainGlobals "moved" = some (some (.ref f_moved)))
    (l_moved : K.lookup f_moved = some ⟨oc_moved, od_moved, .func (PySem.W.fnOf "moved" "moved" (defArgs s_moved) (defBody s_moved) (defScope s_moved) .none kV_moved dc_moved pm_moved an_moved cd_moved ct_moved), sl_moved⟩)
    (c_moved : PySem.W.codeIn K cd_moved "moved" = true) (k_moved : PySem.W.keepIn K (.ref f_moved) = true)
    {od_widened an_widened : Option Addr} {sl_widened : Array (Option Value)} {f_widened : Addr} {oc_widened kV_widened dc_widened pm_widened cd_widened ct_widened : Value}
    (a_widened : PySem.W.nsIn K mainGlobals "widened" = some (some (.ref f_widened)))
    (l_widened : K.lookup f_widened = some ⟨oc_widened, od_widened, .func (PySem.W.fnOf "widened" "widened" (defArgs s_widened) (defBody s_widened) (defScope s_widened) .none kV_widened dc_widened pm_widened an_widened cd_widened ct_widened), sl_widened⟩)
    (c_widened : PySem.W.codeIn K cd_widened "widened" = true) (k_widened : PySem.W.keepIn K (.ref f_widened) = true)
    {od_narrowed an_narrowed : Option Addr} {sl_narrowed : Array (Option Value)} {f_narrowed : Addr} {oc_narrowed kV_narrowed dc_narrowed pm_narrowed cd_narrowed ct_narrowed : Value}
    (a_narrowed : PySem.W.nsIn K mainGlobals "narrowed" = some (some (.ref f_narrowed)))
    (l_narrowed : K.lookup f_narrowed = some ⟨oc_narrowed, od_narrowed, .func (PySem.W.fnOf "narrowed" "narrowed" (defArgs s_narrowed) (defBody s_narrowed) (defScope s_narrowed) .none kV_narrowed dc_narrowed pm_narrowed an_narrowed cd_narrowed ct_narrowed), sl_narrowed⟩)
    (c_narrowed : PySem.W.codeIn K cd_narrowed "narrowed" = true) (k_narrowed : PySem.W.keepIn K (.ref f_narrowed) = true)
    {od_with_columns an_with_columns : Option Addr} {sl_with_columns : Array (Option Value)} {f_with_columns : Addr} {oc_with_columns kV_with_columns dc_with_columns pm_with_columns cd_with_columns ct_with_columns : Value}
    (a_with_columns : PySem.W.nsIn K mainGlobals "with_columns" = some (some (.ref f_with_columns)))
    (l_with_columns : K.lookup f_with_columns = some ⟨oc_with_columns, od_with_columns, .func (PySem.W.fnOf "with_columns" "with_columns" (defArgs s_with_columns) (defBody s_with_columns) (defScope s_with_columns) .none kV_with_columns dc_with_columns pm_with_columns an_with_columns cd_with_columns ct_with_columns), sl_with_columns⟩)
    (c_with_columns : PySem.W.codeIn K cd_with_columns "with_columns" = true) (k_with_columns : PySem.W.keepIn K (.ref f_with_columns) = true)
    {od_shared an_shared : Option Addr} {sl_shared : Array (Option Value)} {f_shared : Addr} {oc_shared kV_shared dc_shared pm_shared cd_shared ct_shared : Value}
    (a_shared : PySem.W.nsIn K mainGlobals "shared" = some (some (.ref f_shared)))
    (l_shared : K.lookup f_shared = some ⟨oc_shared, od_shared, .func (PySem.W.fnOf "shared" "shared" (defArgs s_shared) (defBody s_shared) (defScope s_shared) .none kV_shared dc_shared pm_shared an_shared cd_shared ct_shared), sl_shared⟩)
    (c_shared : PySem.W.codeIn K cd_shared "shared" = true) (k_shared : PySem.W.keepIn K (.ref f_shared) = true)
    {od_lower_of an_lower_of : Option Addr} {sl_lower_of : Array (Option Value)} {f_lower_of : Addr} {oc_lower_of kV_lower_of dc_lower_of pm_lower_of cd_lower_of ct_lower_of : Value}
    (a_lower_of : PySem.W.nsIn K mainGlobals "lower_of" = some (some (.ref f_lower_of)))
    (l_lower_of : K.lookup f_lower_of = some ⟨oc_lower_of, od_lower_of, .func (PySem.W.fnOf "lower_of" "lower_of" (defArgs s_lower_of) (defBody s_lower_of) (defScope s_lower_of) .none kV_lower_of dc_lower_of pm_lower_of an_lower_of cd_lower_of ct_lower_of), sl_lower_of⟩)
    (c_lower_of : PySem.W.codeIn K cd_lower_of "lower_of" = true) (k_lower_of : PySem.W.keepIn K (.ref f_lower_of) = true)
    {od_higher_of an_higher_of : Option Addr} {sl_higher_of : Array (Option Value)} {f_higher_of : Addr} {oc_higher_of kV_higher_of dc_higher_of pm_higher_of cd_higher_of ct_higher_of : Value}
    (a_higher_of : PySem.W.nsIn K mainGlobals "higher_of" = some (some (.ref f_higher_of)))
    (l_higher_of : K.lookup f_higher_of = some ⟨oc_higher_of, od_higher_of, .func (PySem.W.fnOf "higher_of" "higher_of" (defArgs s_higher_of) (defBody s_higher_of) (defScope s_higher_of) .none kV_higher_of dc_higher_of pm_higher_of an_higher_of cd_higher_of ct_higher_of), sl_higher_of⟩)
    (c_higher_of : PySem.W.codeIn K cd_higher_of "higher_of" = true) (k_higher_of : PySem.W.keepIn K (.ref f_higher_of) = true)
    {od_joined an_joined : Option Addr} {sl_joined : Array (Option Value)} {f_joined : Addr} {oc_joined kV_joined dc_joined pm_joined cd_joined ct_joined : Value}
    (a_joined : PySem.W.nsIn K mainGlobals "joined" = some (some (.ref f_joined)))
    (l_joined : K.lookup f_joined = some ⟨oc_joined, od_joined, .func (PySem.W.fnOf "joined" "joined" (defArgs s_joined) (defBody s_joined) (defScope s_joined) .none kV_joined dc_joined pm_joined an_joined cd_joined ct_joined), sl_joined⟩)
    (c_joined : PySem.W.codeIn K cd_joined "joined" = true) (k_joined : PySem.W.keepIn K (.ref f_joined) = true)
    {od_is_end an_is_end : Option Addr} {sl_is_end : Array (Option Value)} {f_is_end : Addr} {oc_is_end kV_is_end dc_is_end pm_is_end cd_is_end ct_is_end : Value}
    (a_is_end : PySem.W.nsIn K mainGlobals "is_end" = some (some (.ref f_is_end)))
    (l_is_end : K.lookup f_is_end = some ⟨oc_is_end, od_is_end, .func (PySem.W.fnOf "is_end" "is_end" (defArgs s_is_end) (defBody s_is_end) (defScope s_is_end) .none kV_is_end dc_is_end pm_is_end an_is_end cd_is_end ct_is_end), sl_is_end⟩)
    (c_is_end : PySem.W.codeIn K cd_is_end "is_end" = true) (k_is_end : PySem.W.keepIn K (.ref f_is_end) = true)
    {od_want_time an_want_time : Option Addr} {sl_want_time : Array (Option Value)} {f_want_time : Addr} {oc_want_time kV_want_time dc_want_time pm_want_time cd_want_time ct_want_time : Value}
    (a_want_time : PySem.W.nsIn K mainGlobals "want_time" = some (some (.ref f_want_time)))
    (l_want_time : K.lookup f_want_time = some ⟨oc_want_time, od_want_time, .func (PySem.W.fnOf "want_time" "want_time" (defArgs s_want_time) (defBody s_want_time) (defScope s_want_time) .none kV_want_time dc_want_time pm_want_time an_want_time cd_want_time ct_want_time), sl_want_time⟩)
    (c_want_time : PySem.W.codeIn K cd_want_time "want_time" = true) (k_want_time : PySem.W.keepIn K (.ref f_want_time) = true)
    {od_level_from an_level_from : Option Addr} {sl_level_from : Array (Option Value)} {f_level_from : Addr} {oc_level_from kV_level_from dc_level_from pm_level_from cd_level_from ct_level_from : Value}
    (a_level_from : PySem.W.nsIn K mainGlobals "level_from" = some (some (.ref f_level_from)))
    (l_level_from : K.lookup f_level_from = some ⟨oc_level_from, od_level_from, .func (PySem.W.fnOf "level_from" "level_from" (defArgs s_level_from) (defBody s_level_from) (defScope s_level_from) .none kV_level_from dc_level_from pm_level_from an_level_from cd_level_from ct_level_from), sl_level_from⟩)
    (c_level_from : PySem.W.codeIn K cd_level_from "level_from" = true) (k_level_from : PySem.W.keepIn K (.ref f_level_from) = true)
    {od_stretches an_stretches : Option Addr} {sl_stretches : Array (Option Value)} {f_stretches : Addr} {oc_stretches kV_stretches dc_stretches pm_stretches cd_stretches ct_stretches : Value}
    (a_stretches : PySem.W.nsIn K mainGlobals "stretches" = some (some (.ref f_stretches)))
    (l_stretches : K.lookup f_stretches = some ⟨oc_stretches, od_stretches, .func (PySem.W.fnOf "stretches" "stretches" (defArgs s_stretches) (defBody s_stretches) (defScope s_stretches) .none kV_stretches dc_stretches pm_stretches an_stretches cd_stretches ct_stretches), sl_stretches⟩)
    (c_stretches : PySem.W.codeIn K cd_stretches "stretches" = true) (k_stretches : PySem.W.keepIn K (.ref f_stretches) = true)
    {od_want_within an_want_within : Option Addr} {sl_want_within : Array (Option Value)} {f_want_within : Addr} {oc_want_within kV_want_within dc_want_within pm_want_within cd_want_within ct_want_within : Value}
    (a_want_within : PySem.W.nsIn K mainGlobals "want_within" = some (some (.ref f_want_within)))
    (l_want_within : K.lookup f_want_within = some ⟨oc_want_within, od_want_within, .func (PySem.W.fnOf "want_within" "want_within" (defArgs s_want_within) (defBody s_want_within) (defScope s_want_within) .none kV_want_within dc_want_within pm_want_within an_want_within cd_want_within ct_want_within), sl_want_within⟩)
    (c_want_within : PySem.W.codeIn K cd_want_within "want_within" = true) (k_want_within : PySem.W.keepIn K (.ref f_want_within) = true)
    {od_law_cell an_law_cell : Option Addr} {sl_law_cell : Array (Option Value)} {f_law_cell : Addr} {oc_law_cell kV_law_cell dc_law_cell pm_law_cell cd_law_cell ct_law_cell : Value}
    (a_law_cell : PySem.W.nsIn K mainGlobals "_law_cell" = some (some (.ref f_law_cell)))
    (l_law_cell : K.lookup f_law_cell = some ⟨oc_law_cell, od_law_cell, .func (PySem.W.fnOf "_law_cell" "_law_cell" (defArgs s_law_cell) (defBody s_law_cell) (defScope s_law_cell) .none kV_law_cell dc_law_cell pm_law_cell an_law_cell cd_law_cell ct_law_cell), sl_law_cell⟩)
    (c_law_cell : PySem.W.codeIn K cd_law_cell "_law_cell" = true) (k_law_cell : PySem.W.keepIn K (.ref f_law_cell) = true)
    {od_law_pot an_law_pot : Option Addr} {sl_law_pot : Array (Option Value)} {f_law_pot : Addr} {oc_law_pot kV_law_pot dc_law_pot pm_law_pot cd_law_pot ct_law_pot : Value}
    (a_law_pot : PySem.W.nsIn K mainGlobals "_law_pot" = some (some (.ref f_law_pot)))
    (l_law_pot : K.lookup f_law_pot = some ⟨oc_law_pot, od_law_pot, .func (PySem.W.fnOf "_law_pot" "_law_pot" (defArgs s_law_pot) (defBody s_law_pot) (defScope s_law_pot) .none kV_law_pot dc_law_pot pm_law_pot an_law_pot cd_law_pot ct_law_pot), sl_law_pot⟩)
    (c_law_pot : PySem.W.codeIn K cd_law_pot "_law_pot" = true) (k_law_pot : PySem.W.keepIn K (.ref f_law_pot) = true)
    {od_law_draw an_law_draw : Option Addr} {sl_law_draw : Array (Option Value)} {f_law_draw : Addr} {oc_law_draw kV_law_draw dc_law_draw pm_law_draw cd_law_draw ct_law_draw : Value}
    (a_law_draw : PySem.W.nsIn K mainGlobals "_law_draw" = some (some (.ref f_law_draw)))
    (l_law_draw : K.lookup f_law_draw = some ⟨oc_law_draw, od_law_draw, .func (PySem.W.fnOf "_law_draw" "_law_draw" (defArgs s_law_draw) (defBody s_law_draw) (defScope s_law_draw) .none kV_law_draw dc_law_draw pm_law_draw an_law_draw cd_law_draw ct_law_draw), sl_law_draw⟩)
    (c_law_draw : PySem.W.codeIn K cd_law_draw "_law_draw" = true) (k_law_draw : PySem.W.keepIn K (.ref f_law_draw) = true)
    {od_law_in an_law_in : Option Addr} {sl_law_in : Array (Option Value)} {f_law_in : Addr} {oc_law_in kV_law_in dc_law_in pm_law_in cd_law_in ct_law_in : Value}
    (a_law_in : PySem.W.nsIn K mainGlobals "_law_in" = some (some (.ref f_law_in)))
    (l_law_in : K.lookup f_law_in = some ⟨oc_law_in, od_law_in, .func (PySem.W.fnOf "_law_in" "_law_in" (defArgs s_law_in) (defBody s_law_in) (defScope s_law_in) .none kV_law_in dc_law_in pm_law_in an_law_in cd_law_in ct_law_in), sl_law_in⟩)
    (c_law_in : PySem.W.codeIn K cd_law_in "_law_in" = true) (k_law_in : PySem.W.keepIn K (.ref f_law_in) = true)
    {od_law_within an_law_within : Option Addr} {sl_law_within : Array (Option Value)} {f_law_within : Addr} {oc_law_within kV_law_within dc_law_within pm_law_within cd_law_within ct_law_within : Value}
    (a_law_within : PySem.W.nsIn K mainGlobals "_law_within" = some (some (.ref f_law_within)))
    (l_law_within : K.lookup f_law_within = some ⟨oc_law_within, od_law_within, .func (PySem.W.fnOf "_law_within" "_law_within" (defArgs s_law_within) (defBody s_law_within) (defScope s_law_within) .none kV_law_within dc_law_within pm_law_within an_law_within cd_law_within ct_law_within), sl_law_within⟩)
    (c_law_within : PySem.W.codeIn K cd_law_within "_law_within" = true) (k_law_within : PySem.W.keepIn K (.ref f_law_within) = true)
    {od_law_height an_law_height : Option Addr} {sl_law_height : Array (Option Value)} {f_law_height : Addr} {oc_law_height kV_law_height dc_law_height pm_law_height cd_law_height ct_law_height : Value}
    (a_law_height : PySem.W.nsIn K mainGlobals "_law_height" = some (some (.ref f_law_height)))
    (l_law_height : K.lookup f_law_height = some ⟨oc_law_height, od_law_height, .func (PySem.W.fnOf "_law_height" "_law_height" (defArgs s_law_height) (defBody s_law_height) (defScope s_law_height) .none kV_law_height dc_law_height pm_law_height an_law_height cd_law_height ct_law_height), sl_law_height⟩)
    (c_law_height : PySem.W.codeIn K cd_law_height "_law_height" = true) (k_law_height : PySem.W.keepIn K (.ref f_law_height) = true)
    {od_law_window an_law_window : Option Addr} {sl_law_window : Array (Option Value)} {f_law_window : Addr} {oc_law_window kV_law_window dc_law_window pm_law_window cd_law_window ct_law_window : Value}
    (a_law_window : PySem.W.nsIn K mainGlobals "_law_window" = some (some (.ref f_law_window)))
    (l_law_window : K.lookup f_law_window = some ⟨oc_law_window, od_law_window, .func (PySem.W.fnOf "_law_window" "_law_window" (defArgs s_law_window) (defBody s_law_window) (defScope s_law_window) .none kV_law_window dc_law_window pm_law_window an_law_window cd_law_window ct_law_window), sl_law_window⟩)
    (c_law_window : PySem.W.codeIn K cd_law_window "_law_window" = true) (k_law_window : PySem.W.keepIn K (.ref f_law_window) = true)
    {od_law_time an_law_time : Option Addr} {sl_law_time : Array (Option Value)} {f_law_time : Addr} {oc_law_time kV_law_time dc_law_time pm_law_time cd_law_time ct_law_time : Value}
    (a_law_time : PySem.W.nsIn K mainGlobals "_law_time" = some (some (.ref f_law_time)))
    (l_law_time : K.lookup f_law_time = some ⟨oc_law_time, od_law_time, .func (PySem.W.fnOf "_law_time" "_law_time" (defArgs s_law_time) (defBody s_law_time) (defScope s_law_time) .none kV_law_time dc_law_time pm_law_time an_law_time cd_law_time ct_law_time), sl_law_time⟩)
    (c_law_time : PySem.W.codeIn K cd_law_time "_law_time" = true) (k_law_time : PySem.W.keepIn K (.ref f_law_time) = true)
    {od_law_curve an_law_curve : Option Addr} {sl_law_curve : Array (Option Value)} {f_law_curve : Addr} {oc_law_curve kV_law_curve dc_law_curve pm_law_curve cd_law_curve ct_law_curve : Value}
    (a_law_curve : PySem.W.nsIn K mainGlobals "_law_curve" = some (some (.ref f_law_curve)))
    (l_law_curve : K.lookup f_law_curve = some ⟨oc_law_curve, od_law_curve, .func (PySem.W.fnOf "_law_curve" "_law_curve" (defArgs s_law_curve) (defBody s_law_curve) (defScope s_law_curve) .none kV_law_curve dc_law_curve pm_law_curve an_law_curve cd_law_curve ct_law_curve), sl_law_curve⟩)
    (c_law_curve : PySem.W.codeIn K cd_law_curve "_law_curve" = true) (k_law_curve : PySem.W.keepIn K (.ref f_law_curve) = true)
    {od_law_four an_law_four : Option Addr} {sl_law_four : Array (Option Value)} {f_law_four : Addr} {oc_law_four kV_law_four dc_law_four pm_law_four cd_law_four ct_law_four : Value}
    (a_law_four : PySem.W.nsIn K mainGlobals "_law_four" = some (some (.ref f_law_four)))
    (l_law_four : K.lookup f_law_four = some ⟨oc_law_four, od_law_four, .func (PySem.W.fnOf "_law_four" "_law_four" (defArgs s_law_four) (defBody s_law_four) (defScope s_law_four) .none kV_law_four dc_law_four pm_law_four an_law_four cd_law_four ct_law_four), sl_law_four⟩)
    (c_law_four : PySem.W.codeIn K cd_law_four "_law_four" = true) (k_law_four : PySem.W.keepIn K (.ref f_law_four) = true)
    {od_law_fours an_law_fours : Option Addr} {sl_law_fours : Array (Option Value)} {f_law_fours : Addr} {oc_law_fours kV_law_fours dc_law_fours pm_law_fours cd_law_fours ct_law_fours : Value}
    (a_law_fours : PySem.W.nsIn K mainGlobals "_law_fours" = some (some (.ref f_law_fours)))
    (l_law_fours : K.lookup f_law_fours = some ⟨oc_law_fours, od_law_fours, .func (PySem.W.fnOf "_law_fours" "_law_fours" (defArgs s_law_fours) (defBody s_law_fours) (defScope s_law_fours) .none kV_law_fours dc_law_fours pm_law_fours an_law_fours cd_law_fours ct_law_fours), sl_law_fours⟩)
    (c_law_fours : PySem.W.codeIn K cd_law_fours "_law_fours" = true) (k_law_fours : PySem.W.keepIn K (.ref f_law_fours) = true)
    {od_law_step an_law_step : Option Addr} {sl_law_step : Array (Option Value)} {f_law_step : Addr} {oc_law_step kV_law_step dc_law_step pm_law_step cd_law_step ct_law_step : Value}
    (a_law_step : PySem.W.nsIn K mainGlobals "_law_step" = some (some (.ref f_law_step)))
    (l_law_step : K.lookup f_law_step = some ⟨oc_law_step, od_law_step, .func (PySem.W.fnOf "_law_step" "_law_step" (defArgs s_law_step) (defBody s_law_step) (defScope s_law_step) .none kV_law_step dc_law_step pm_law_step an_law_step cd_law_step ct_law_step), sl_law_step⟩)
    (c_law_step : PySem.W.codeIn K cd_law_step "_law_step" = true) (k_law_step : PySem.W.keepIn K (.ref f_law_step) = true)
    {od_law_go an_law_go : Option Addr} {sl_law_go : Array (Option Value)} {f_law_go : Addr} {oc_law_go kV_law_go dc_law_go pm_law_go cd_law_go ct_law_go : Value}
    (a_law_go : PySem.W.nsIn K mainGlobals "_law_go" = some (some (.ref f_law_go)))
    (l_law_go : K.lookup f_law_go = some ⟨oc_law_go, od_law_go, .func (PySem.W.fnOf "_law_go" "_law_go" (defArgs s_law_go) (defBody s_law_go) (defScope s_law_go) .none kV_law_go dc_law_go pm_law_go an_law_go cd_law_go ct_law_go), sl_law_go⟩)
    (c_law_go : PySem.W.codeIn K cd_law_go "_law_go" = true) (k_law_go : PySem.W.keepIn K (.ref f_law_go) = true)
    {od_law_known an_law_known : Option Addr} {sl_law_known : Array (Option Value)} {f_law_known : Addr} {oc_law_known kV_law_known dc_law_known pm_law_known cd_law_known ct_law_known : Value}
    (a_law_known : PySem.W.nsIn K mainGlobals "_law_known" = some (some (.ref f_law_known)))
    (l_law_known : K.lookup f_law_known = some ⟨oc_law_known, od_law_known, .func (PySem.W.fnOf "_law_known" "_law_known" (defArgs s_law_known) (defBody s_law_known) (defScope s_law_known) .none kV_law_known dc_law_known pm_law_known an_law_known cd_law_known ct_law_known), sl_law_known⟩)
    (c_law_known : PySem.W.codeIn K cd_law_known "_law_known" = true) (k_law_known : PySem.W.keepIn K (.ref f_law_known) = true)
    {od_law_column an_law_column : Option Addr} {sl_law_column : Array (Option Value)} {f_law_column : Addr} {oc_law_column kV_law_column dc_law_column pm_law_column cd_law_column ct_law_column : Value}
    (a_law_column : PySem.W.nsIn K mainGlobals "_law_column" = some (some (.ref f_law_column)))
    (l_law_column : K.lookup f_law_column = some ⟨oc_law_column, od_law_column, .func (PySem.W.fnOf "_law_column" "_law_column" (defArgs s_law_column) (defBody s_law_column) (defScope s_law_column) .none kV_law_column dc_law_column pm_law_column an_law_column cd_law_column ct_law_column), sl_law_column⟩)
    (c_law_column : PySem.W.codeIn K cd_law_column "_law_column" = true) (k_law_column : PySem.W.keepIn K (.ref f_law_column) = true)
    {od_law_deed an_law_deed : Option Addr} {sl_law_deed : Array (Option Value)} {f_law_deed : Addr} {oc_law_deed kV_law_deed dc_law_deed pm_law_deed cd_law_deed ct_law_deed : Value}
    (a_law_deed : PySem.W.nsIn K mainGlobals "_law_deed" = some (some (.ref f_law_deed)))
    (l_law_deed : K.lookup f_law_deed = some ⟨oc_law_deed, od_law_deed, .func (PySem.W.fnOf "_law_deed" "_law_deed" (defArgs s_law_deed) (defBody s_law_deed) (defScope s_law_deed) .none kV_law_deed dc_law_deed pm_law_deed an_law_deed cd_law_deed ct_law_deed), sl_law_deed⟩)
    (c_law_deed : PySem.W.codeIn K cd_law_deed "_law_deed" = true) (k_law_deed : PySem.W.keepIn K (.ref f_law_deed) = true)
    {od_law_asked an_law_asked : Option Addr} {sl_law_asked : Array (Option Value)} {f_law_asked : Addr} {oc_law_asked kV_law_asked dc_law_asked pm_law_asked cd_law_asked ct_law_asked : Value}
    (a_law_asked : PySem.W.nsIn K mainGlobals "_law_asked" = some (some (.ref f_law_asked)))
    (l_law_asked : K.lookup f_law_asked = some ⟨oc_law_asked, od_law_asked, .func (PySem.W.fnOf "_law_asked" "_law_asked" (defArgs s_law_asked) (defBody s_law_asked) (defScope s_law_asked) .none kV_law_asked dc_law_asked pm_law_asked an_law_asked cd_law_asked ct_law_asked), sl_law_asked⟩)
    (c_law_asked : PySem.W.codeIn K cd_law_asked "_law_asked" = true) (k_law_asked : PySem.W.keepIn K (.ref f_law_asked) = true)
    {od_law_moved an_law_moved : Option Addr} {sl_law_moved : Array (Option Value)} {f_law_moved : Addr} {oc_law_moved kV_law_moved dc_law_moved pm_law_moved cd_law_moved ct_law_moved : Value}
    (a_law_moved : PySem.W.nsIn K mainGlobals "_law_moved" = some (some (.ref f_law_moved)))
    (l_law_moved : K.lookup f_law_moved = some ⟨oc_law_moved, od_law_moved, .func (PySem.W.fnOf "_law_moved" "_law_moved" (defArgs s_law_moved) (defBody s_law_moved) (defScope s_law_moved) .none kV_law_moved dc_law_moved pm_law_moved an_law_moved cd_law_moved ct_law_moved), sl_law_moved⟩)
    (c_law_moved : PySem.W.codeIn K cd_law_moved "_law_moved" = true) (k_law_moved : PySem.W.keepIn K (.ref f_law_moved) = true)
    {od_law an_law : Option Addr} {sl_law : Array (Option Value)} {f_law : Addr} {oc_law kV_law dc_law pm_law cd_law ct_law : Value}
    (a_law : PySem.W.nsIn K mainGlobals "law" = some (some (.ref f_law)))
    (l_law : K.lookup f_law = some ⟨oc_law, od_law, .func (PySem.W.fnOf "law" "law" (defArgs s_law) (defBody s_law) (defScope s_law) .none kV_law dc_law pm_law an_law cd_law ct_law), sl_law⟩)
    (c_law : PySem.W.codeIn K cd_law "law" = true) (k_law : PySem.W.keepIn K (.ref f_law) = true)
    {A_View : Addr} (cg_View : PySem.W.nsIn K mainGlobals "View" = some (some (.ref A_View)))
    (cp_View : PySem.W.plainGet K A_View Str.empty = true) (ch_View : PySem.W.hasDictIn K A_View = true) (co_View : PySem.W.plainOver K A_View = true) (cs_View : PySem.W.findIn K (.ref A_View) "__setattr__" = some (some (.builtin "object.__setattr__"))) (cm_View : PySem.W.makesIn K A_View = true) (ck_View : PySem.W.keepIn K (.ref A_View) = true)
    (N_View_shown : PySem.W.findIn K (.ref A_View) "shown" = some none)
    (N_View_window : PySem.W.findIn K (.ref A_View) "window" = some none)
    (N_View_known : PySem.W.findIn K (.ref A_View) "known" = some none)
    (N_View_heard : PySem.W.findIn K (.ref A_View) "heard" = some none)
    (N_View_asked : PySem.W.findIn K (.ref A_View) "asked" = some none)
    {A_Store : Addr} (cg_Store : PySem.W.nsIn K mainGlobals "Store" = some (some (.ref A_Store)))
    (cp_Store : PySem.W.plainGet K A_Store Str.empty = true) (ch_Store : PySem.W.hasDictIn K A_Store = true) (co_Store : PySem.W.plainOver K A_Store = true) (cs_Store : PySem.W.findIn K (.ref A_Store) "__setattr__" = some (some (.builtin "object.__setattr__"))) (cm_Store : PySem.W.makesIn K A_Store = true) (ck_Store : PySem.W.keepIn K (.ref A_Store) = true)
    (N_Store_heights : PySem.W.findIn K (.ref A_Store) "heights" = some none)
    (N_Store_by_stretches : PySem.W.findIn K (.ref A_Store) "by_stretches" = some none)
    (N_Store_deeds : PySem.W.findIn K (.ref A_Store) "deeds" = some none)
    (N_Store_deed_times : PySem.W.findIn K (.ref A_Store) "deed_times" = some none)
    (N_Store_watches : PySem.W.findIn K (.ref A_Store) "watches" = some none)
    {od_View___init an_View___init : Option Addr} {sl_View___init : Array (Option Value)} {f_View___init : Addr} {oc_View___init kV_View___init dc_View___init pm_View___init cd_View___init ct_View___init : Value}
    (a_View___init : PySem.W.findIn K (.ref A_View) "__init__" = some (some (.ref f_View___init))) (i_View___init : PySem.W.isFn K (.ref f_View___init) = true)
    (l_View___init : K.lookup f_View___init = some ⟨oc_View___init, od_View___init, .func (PySem.W.fnOf "__init__" "View.__init__" (defArgs s_View___init) (defBody s_View___init) (defScope s_View___init) .none kV_View___init dc_View___init pm_View___init an_View___init cd_View___init ct_View___init), sl_View___init⟩)
    (c_View___init : PySem.W.codeIn K cd_View___init "View.__init__" = true) (k_View___init : PySem.W.keepIn K (.ref f_View___init) = true)
    {od_View_hear an_View_hear : Option Addr} {sl_View_hear : Array (Option Value)} {f_View_hear : Addr} {oc_View_hear kV_View_hear dc_View_hear pm_View_hear cd_View_hear ct_View_hear : Value}
    (a_View_hear : PySem.W.findIn K (.ref A_View) "hear" = some (some (.ref f_View_hear))) (i_View_hear : PySem.W.isFn K (.ref f_View_hear) = true)
    (l_View_hear : K.lookup f_View_hear = some ⟨oc_View_hear, od_View_hear, .func (PySem.W.fnOf "hear" "View.hear" (defArgs s_View_hear) (defBody s_View_hear) (defScope s_View_hear) .none kV_View_hear dc_View_hear pm_View_hear an_View_hear cd_View_hear ct_View_hear), sl_View_hear⟩)
    (c_View_hear : PySem.W.codeIn K cd_View_hear "View.hear" = true) (k_View_hear : PySem.W.keepIn K (.ref f_View_hear) = true)
    {od_View_learn an_View_learn : Option Addr} {sl_View_learn : Array (Option Value)} {f_View_learn : Addr} {oc_View_learn kV_View_learn dc_View_learn pm_View_learn cd_View_learn ct_View_learn : Value}
    (a_View_learn : PySem.W.findIn K (.ref A_View) "learn" = some (some (.ref f_View_learn))) (i_View_learn : PySem.W.isFn K (.ref f_View_learn) = true)
    (l_View_learn : K.lookup f_View_learn = some ⟨oc_View_learn, od_View_learn, .func (PySem.W.fnOf "learn" "View.learn" (defArgs s_View_learn) (defBody s_View_learn) (defScope s_View_learn) .none kV_View_learn dc_View_learn pm_View_learn an_View_learn cd_View_learn ct_View_learn), sl_View_learn⟩)
    (c_View_learn : PySem.W.codeIn K cd_View_learn "View.learn" = true) (k_View_learn : PySem.W.keepIn K (.ref f_View_learn) = true)
    {od_View_fours an_View_fours : Option Addr} {sl_View_fours : Array (Option Value)} {f_View_fours : Addr} {oc_View_fours kV_View_fours dc_View_fours pm_View_fours cd_View_fours ct_View_fours : Value}
    (a_View_fours : PySem.W.findIn K (.ref A_View) "fours" = some (some (.ref f_View_fours))) (i_View_fours : PySem.W.isFn K (.ref f_View_fours) = true)
    (l_View_fours : K.lookup f_View_fours = some ⟨oc_View_fours, od_View_fours, .func (PySem.W.fnOf "fours" "View.fours" (defArgs s_View_fours) (defBody s_View_fours) (defScope s_View_fours) .none kV_View_fours dc_View_fours pm_View_fours an_View_fours cd_View_fours ct_View_fours), sl_View_fours⟩)
    (c_View_fours : PySem.W.codeIn K cd_View_fours "View.fours" = true) (k_View_fours : PySem.W.keepIn K (.ref f_View_fours) = true)
    {od_View_go an_View_go : Option Addr} {sl_View_go : Array (Option Value)} {f_View_go : Addr} {oc_View_go kV_View_go dc_View_go pm_View_go cd_View_go ct_View_go : Value}
    (a_View_go : PySem.W.findIn K (.ref A_View) "go" = some (some (.ref f_View_go))) (i_View_go : PySem.W.isFn K (.ref f_View_go) = true)
    (l_View_go : K.lookup f_View_go = some ⟨oc_View_go, od_View_go, .func (PySem.W.fnOf "go" "View.go" (defArgs s_View_go) (defBody s_View_go) (defScope s_View_go) .none kV_View_go dc_View_go pm_View_go an_View_go cd_View_go ct_View_go), sl_View_go⟩)
    (c_View_go : PySem.W.codeIn K cd_View_go "View.go" = true) (k_View_go : PySem.W.keepIn K (.ref f_View_go) = true)
    {od_View_on an_View_on : Option Addr} {sl_View_on : Array (Option Value)} {f_View_on : Addr} {oc_View_on kV_View_on dc_View_on pm_View_on cd_View_on ct_View_on : Value}
    (a_View_on : PySem.W.findIn K (.ref A_View) "on" = some (some (.ref f_View_on))) (i_View_on : PySem.W.isFn K (.ref f_View_on) = true)
    (l_View_on : K.lookup f_View_on = some ⟨oc_View_on, od_View_on, .func (PySem.W.fnOf "on" "View.on" (defArgs s_View_on) (defBody s_View_on) (defScope s_View_on) .none kV_View_on dc_View_on pm_View_on an_View_on cd_View_on ct_View_on), sl_View_on⟩)
    (c_View_on : PySem.W.codeIn K cd_View_on "View.on" = true) (k_View_on : PySem.W.keepIn K (.ref f_View_on) = true)
    {od_View_wide an_View_wide : Option Addr} {sl_View_wide : Array (Option Value)} {f_View_wide : Addr} {oc_View_wide kV_View_wide dc_View_wide pm_View_wide cd_View_wide ct_View_wide : Value}
    (a_View_wide : PySem.W.findIn K (.ref A_View) "wide" = some (some (.ref f_View_wide))) (i_View_wide : PySem.W.isFn K (.ref f_View_wide) = true)
    (l_View_wide : K.lookup f_View_wide = some ⟨oc_View_wide, od_View_wide, .func (PySem.W.fnOf "wide" "View.wide" (defArgs s_View_wide) (defBody s_View_wide) (defScope s_View_wide) .none kV_View_wide dc_View_wide pm_View_wide an_View_wide cd_View_wide ct_View_wide), sl_View_wide⟩)
    (c_View_wide : PySem.W.codeIn K cd_View_wide "View.wide" = true) (k_View_wide : PySem.W.keepIn K (.ref f_View_wide) = true)
    {od_View_narrow an_View_narrow : Option Addr} {sl_View_narrow : Array (Option Value)} {f_View_narrow : Addr} {oc_View_narrow kV_View_narrow dc_View_narrow pm_View_narrow cd_View_narrow ct_View_narrow : Value}
    (a_View_narrow : PySem.W.findIn K (.ref A_View) "narrow" = some (some (.ref f_View_narrow))) (i_View_narrow : PySem.W.isFn K (.ref f_View_narrow) = true)
    (l_View_narrow : K.lookup f_View_narrow = some ⟨oc_View_narrow, od_View_narrow, .func (PySem.W.fnOf "narrow" "View.narrow" (defArgs s_View_narrow) (defBody s_View_narrow) (defScope s_View_narrow) .none kV_View_narrow dc_View_narrow pm_View_narrow an_View_narrow cd_View_narrow ct_View_narrow), sl_View_narrow⟩)
    (c_View_narrow : PySem.W.codeIn K cd_View_narrow "View.narrow" = true) (k_View_narrow : PySem.W.keepIn K (.ref f_View_narrow) = true)
    {od_View_columns an_View_columns : Option Addr} {sl_View_columns : Array (Option Value)} {f_View_columns : Addr} {oc_View_columns kV_View_columns dc_View_columns pm_View_columns cd_View_columns ct_View_columns : Value}
    (a_View_columns : PySem.W.findIn K (.ref A_View) "columns" = some (some (.ref f_View_columns))) (i_View_columns : PySem.W.isFn K (.ref f_View_columns) = true)
    (l_View_columns : K.lookup f_View_columns = some ⟨oc_View_columns, od_View_columns, .func (PySem.W.fnOf "columns" "View.columns" (defArgs s_View_columns) (defBody s_View_columns) (defScope s_View_columns) .none kV_View_columns dc_View_columns pm_View_columns an_View_columns cd_View_columns ct_View_columns), sl_View_columns⟩)
    (c_View_columns : PySem.W.codeIn K cd_View_columns "View.columns" = true) (k_View_columns : PySem.W.keepIn K (.ref f_View_columns) = true)
    {od_Store___init an_Store___init : Option Addr} {sl_Store___init : Array (Option Value)} {f_Store___init : Addr} {oc_Store___init kV_Store___init dc_Store___init pm_Store___init cd_Store___init ct_Store___init : Value}
    (a_Store___init : PySem.W.findIn K (.ref A_Store) "__init__" = some (some (.ref f_Store___init))) (i_Store___init : PySem.W.isFn K (.ref f_Store___init) = true)
    {dT_Store___init : Addr} {dq_Store___init : Value} {dd_Store___init : Option Addr} {dn_Store___init : Nat} {ds_Store___init : Array (Option Value)}
    (l_Store___init : K.lookup f_Store___init = some ⟨oc_Store___init, od_Store___init, .func (PySem.W.fnOf "__init__" "Store.__init__" (defArgs s_Store___init) (defBody s_Store___init) (defScope s_Store___init) (.ref dT_Store___init) kV_Store___init dc_Store___init pm_Store___init an_Store___init cd_Store___init ct_Store___init), sl_Store___init⟩)
    (c_Store___init : PySem.W.codeIn K cd_Store___init "Store.__init__" = true) (k_Store___init : PySem.W.keepIn K (.ref f_Store___init) = true)
    (dl_Store___init : K.lookup dT_Store___init = some ⟨dq_Store___init, dd_Store___init, .seq #[.none] dn_Store___init, ds_Store___init⟩)
    {od_Store_set_height an_Store_set_height : Option Addr} {sl_Store_set_height : Array (Option Value)} {f_Store_set_height : Addr} {oc_Store_set_height kV_Store_set_height dc_Store_set_height pm_Store_set_height cd_Store_set_height ct_Store_set_height : Value}
    (a_Store_set_height : PySem.W.findIn K (.ref A_Store) "set_height" = some (some (.ref f_Store_set_height))) (i_Store_set_height : PySem.W.isFn K (.ref f_Store_set_height) = true)
    (l_Store_set_height : K.lookup f_Store_set_height = some ⟨oc_Store_set_height, od_Store_set_height, .func (PySem.W.fnOf "set_height" "Store.set_height" (defArgs s_Store_set_height) (defBody s_Store_set_height) (defScope s_Store_set_height) .none kV_Store_set_height dc_Store_set_height pm_Store_set_height an_Store_set_height cd_Store_set_height ct_Store_set_height), sl_Store_set_height⟩)
    (c_Store_set_height : PySem.W.codeIn K cd_Store_set_height "Store.set_height" = true) (k_Store_set_height : PySem.W.keepIn K (.ref f_Store_set_height) = true)
    {od_Store_set_four an_Store_set_four : Option Addr} {sl_Store_set_four : Array (Option Value)} {f_Store_set_four : Addr} {oc_Store_set_four kV_Store_set_four dc_Store_set_four pm_Store_set_four cd_Store_set_four ct_Store_set_four : Value}
    (a_Store_set_four : PySem.W.findIn K (.ref A_Store) "set_four" = some (some (.ref f_Store_set_four))) (i_Store_set_four : PySem.W.isFn K (.ref f_Store_set_four) = true)
    (l_Store_set_four : K.lookup f_Store_set_four = some ⟨oc_Store_set_four, od_Store_set_four, .func (PySem.W.fnOf "set_four" "Store.set_four" (defArgs s_Store_set_four) (defBody s_Store_set_four) (defScope s_Store_set_four) .none kV_Store_set_four dc_Store_set_four pm_Store_set_four an_Store_set_four cd_Store_set_four ct_Store_set_four), sl_Store_set_four⟩)
    (c_Store_set_four : PySem.W.codeIn K cd_Store_set_four "Store.set_four" = true) (k_Store_set_four : PySem.W.keepIn K (.ref f_Store_set_four) = true)
    {od_Store_put an_Store_put : Option Addr} {sl_Store_put : Array (Option Value)} {f_Store_put : Addr} {oc_Store_put kV_Store_put dc_Store_put pm_Store_put cd_Store_put ct_Store_put : Value}
    (a_Store_put : PySem.W.findIn K (.ref A_Store) "put" = some (some (.ref f_Store_put))) (i_Store_put : PySem.W.isFn K (.ref f_Store_put) = true)
    (l_Store_put : K.lookup f_Store_put = some ⟨oc_Store_put, od_Store_put, .func (PySem.W.fnOf "put" "Store.put" (defArgs s_Store_put) (defBody s_Store_put) (defScope s_Store_put) .none kV_Store_put dc_Store_put pm_Store_put an_Store_put cd_Store_put ct_Store_put), sl_Store_put⟩)
    (c_Store_put : PySem.W.codeIn K cd_Store_put "Store.put" = true) (k_Store_put : PySem.W.keepIn K (.ref f_Store_put) = true)
    {od_Store_take an_Store_take : Option Addr} {sl_Store_take : Array (Option Value)} {f_Store_take : Addr} {oc_Store_take kV_Store_take dc_Store_take pm_Store_take cd_Store_take ct_Store_take : Value}
    (a_Store_take : PySem.W.findIn K (.ref A_Store) "take" = some (some (.ref f_Store_take))) (i_Store_take : PySem.W.isFn K (.ref f_Store_take) = true)
    (l_Store_take : K.lookup f_Store_take = some ⟨oc_Store_take, od_Store_take, .func (PySem.W.fnOf "take" "Store.take" (defArgs s_Store_take) (defBody s_Store_take) (defScope s_Store_take) .none kV_Store_take dc_Store_take pm_Store_take an_Store_take cd_Store_take ct_Store_take), sl_Store_take⟩)
    (c_Store_take : PySem.W.codeIn K cd_Store_take "Store.take" = true) (k_Store_take : PySem.W.keepIn K (.ref f_Store_take) = true)
    {od_Store_height an_Store_height : Option Addr} {sl_Store_height : Array (Option Value)} {f_Store_height : Addr} {oc_Store_height kV_Store_height dc_Store_height pm_Store_height cd_Store_height ct_Store_height : Value}
    (a_Store_height : PySem.W.findIn K (.ref A_Store) "height" = some (some (.ref f_Store_height))) (i_Store_height : PySem.W.isFn K (.ref f_Store_height) = true)
    (l_Store_height : K.lookup f_Store_height = some ⟨oc_Store_height, od_Store_height, .func (PySem.W.fnOf "height" "Store.height" (defArgs s_Store_height) (defBody s_Store_height) (defScope s_Store_height) .none kV_Store_height dc_Store_height pm_Store_height an_Store_height cd_Store_height ct_Store_height), sl_Store_height⟩)
    (c_Store_height : PySem.W.codeIn K cd_Store_height "Store.height" = true) (k_Store_height : PySem.W.keepIn K (.ref f_Store_height) = true)
    {od_Store_four an_Store_four : Option Addr} {sl_Store_four : Array (Option Value)} {f_Store_four : Addr} {oc_Store_four kV_Store_four dc_Store_four pm_Store_four cd_Store_four ct_Store_four : Value}
    (a_Store_four : PySem.W.findIn K (.ref A_Store) "four" = some (some (.ref f_Store_four))) (i_Store_four : PySem.W.isFn K (.ref f_Store_four) = true)
    (l_Store_four : K.lookup f_Store_four = some ⟨oc_Store_four, od_Store_four, .func (PySem.W.fnOf "four" "Store.four" (defArgs s_Store_four) (defBody s_Store_four) (defScope s_Store_four) .none kV_Store_four dc_Store_four pm_Store_four an_Store_four cd_Store_four ct_Store_four), sl_Store_four⟩)
    (c_Store_four : PySem.W.codeIn K cd_Store_four "Store.four" = true) (k_Store_four : PySem.W.keepIn K (.ref f_Store_four) = true)
    {od_Store_fours an_Store_fours : Option Addr} {sl_Store_fours : Array (Option Value)} {f_Store_fours : Addr} {oc_Store_fours kV_Store_fours dc_Store_fours pm_Store_fours cd_Store_fours ct_Store_fours : Value}
    (a_Store_fours : PySem.W.findIn K (.ref A_Store) "fours" = some (some (.ref f_Store_fours))) (i_Store_fours : PySem.W.isFn K (.ref f_Store_fours) = true)
    (l_Store_fours : K.lookup f_Store_fours = some ⟨oc_Store_fours, od_Store_fours, .func (PySem.W.fnOf "fours" "Store.fours" (defArgs s_Store_fours) (defBody s_Store_fours) (defScope s_Store_fours) .none kV_Store_fours dc_Store_fours pm_Store_fours an_Store_fours cd_Store_fours ct_Store_fours), sl_Store_fours⟩)
    (c_Store_fours : PySem.W.codeIn K cd_Store_fours "Store.fours" = true) (k_Store_fours : PySem.W.keepIn K (.ref f_Store_fours) = true)
    {od_Store_told an_Store_told : Option Addr} {sl_Store_told : Array (Option Value)} {f_Store_told : Addr} {oc_Store_told kV_Store_told dc_Store_told pm_Store_told cd_Store_told ct_Store_told : Value}
    (a_Store_told : PySem.W.findIn K (.ref A_Store) "told" = some (some (.ref f_Store_told))) (i_Store_told : PySem.W.isFn K (.ref f_Store_told) = true)
    (l_Store_told : K.lookup f_Store_told = some ⟨oc_Store_told, od_Store_told, .func (PySem.W.fnOf "told" "Store.told" (defArgs s_Store_told) (defBody s_Store_told) (defScope s_Store_told) .none kV_Store_told dc_Store_told pm_Store_told an_Store_told cd_Store_told ct_Store_told), sl_Store_told⟩)
    (c_Store_told : PySem.W.codeIn K cd_Store_told "Store.told" = true) (k_Store_told : PySem.W.keepIn K (.ref f_Store_told) = true)
    {od_Store_watch an_Store_watch : Option Addr} {sl_Store_watch : Array (Option Value)} {f_Store_watch : Addr} {oc_Store_watch kV_Store_watch dc_Store_watch pm_Store_watch cd_Store_watch ct_Store_watch : Value}
    (a_Store_watch : PySem.W.findIn K (.ref A_Store) "watch" = some (some (.ref f_Store_watch))) (i_Store_watch : PySem.W.isFn K (.ref f_Store_watch) = true)
    (l_Store_watch : K.lookup f_Store_watch = some ⟨oc_Store_watch, od_Store_watch, .func (PySem.W.fnOf "watch" "Store.watch" (defArgs s_Store_watch) (defBody s_Store_watch) (defScope s_Store_watch) .none kV_Store_watch dc_Store_watch pm_Store_watch an_Store_watch cd_Store_watch ct_Store_watch), sl_Store_watch⟩)
    (c_Store_watch : PySem.W.codeIn K cd_Store_watch "Store.watch" = true) (k_Store_watch : PySem.W.keepIn K (.ref f_Store_watch) = true)
    {od_Store_news an_Store_news : Option Addr} {sl_Store_news : Array (Option Value)} {f_Store_news : Addr} {oc_Store_news kV_Store_news dc_Store_news pm_Store_news cd_Store_news ct_Store_news : Value}
    (a_Store_news : PySem.W.findIn K (.ref A_Store) "news" = some (some (.ref f_Store_news))) (i_Store_news : PySem.W.isFn K (.ref f_Store_news) = true)
    (l_Store_news : K.lookup f_Store_news = some ⟨oc_Store_news, od_Store_news, .func (PySem.W.fnOf "news" "Store.news" (defArgs s_Store_news) (defBody s_Store_news) (defScope s_Store_news) .none kV_Store_news dc_Store_news pm_Store_news an_Store_news cd_Store_news ct_Store_news), sl_Store_news⟩)
    (c_Store_news : PySem.W.codeIn K cd_Store_news "Store.news" = true) (k_Store_news : PySem.W.keepIn K (.ref f_Store_news) = true)
    {od_Store_undo an_Store_undo : Option Addr} {sl_Store_undo : Array (Option Value)} {f_Store_undo : Addr} {oc_Store_undo kV_Store_undo dc_Store_undo pm_Store_undo cd_Store_undo ct_Store_undo : Value}
    (a_Store_undo : PySem.W.findIn K (.ref A_Store) "undo" = some (some (.ref f_Store_undo))) (i_Store_undo : PySem.W.isFn K (.ref f_Store_undo) = true)
    (l_Store_undo : K.lookup f_Store_undo = some ⟨oc_Store_undo, od_Store_undo, .func (PySem.W.fnOf "undo" "Store.undo" (defArgs s_Store_undo) (defBody s_Store_undo) (defScope s_Store_undo) .none kV_Store_undo dc_Store_undo pm_Store_undo an_Store_undo cd_Store_undo ct_Store_undo), sl_Store_undo⟩)
    (c_Store_undo : PySem.W.codeIn K cd_Store_undo "Store.undo" = true) (k_Store_undo : PySem.W.keepIn K (.ref f_Store_undo) = true)
    {od_Store_times an_Store_times : Option Addr} {sl_Store_times : Array (Option Value)} {f_Store_times : Addr} {oc_Store_times kV_Store_times dc_Store_times pm_Store_times cd_Store_times ct_Store_times : Value}
    (a_Store_times : PySem.W.findIn K (.ref A_Store) "times" = some (some (.ref f_Store_times))) (i_Store_times : PySem.W.isFn K (.ref f_Store_times) = true)
    (l_Store_times : K.lookup f_Store_times = some ⟨oc_Store_times, od_Store_times, .func (PySem.W.fnOf "times" "Store.times" (defArgs s_Store_times) (defBody s_Store_times) (defScope s_Store_times) .none kV_Store_times dc_Store_times pm_Store_times an_Store_times cd_Store_times ct_Store_times), sl_Store_times⟩)
    (c_Store_times : PySem.W.codeIn K cd_Store_times "Store.times" = true) (k_Store_times : PySem.W.keepIn K (.ref f_Store_times) = true)
    (z_isinstance : PySem.W.nsIn K mainGlobals "isinstance" = some none)
    (z_len : PySem.W.nsIn K mainGlobals "len" = some none)
    (z_range : PySem.W.nsIn K mainGlobals "range" = some none)
    (z_int : PySem.W.nsIn K mainGlobals "int" = some none)
    (z_bool : PySem.W.nsIn K mainGlobals "bool" = some none)
    (z_str : PySem.W.nsIn K mainGlobals "str" = some none)
    (z_tuple : PySem.W.nsIn K mainGlobals "tuple" = some none)
    (z_list : PySem.W.nsIn K mainGlobals "list" = some none)
    (z_set : PySem.W.nsIn K mainGlobals "set" = some none)
    (z_dict : PySem.W.nsIn K mainGlobals "dict" = some none)
    (z_abs : PySem.W.nsIn K mainGlobals "abs" = some none)
    (z_all : PySem.W.nsIn K mainGlobals "all" = some none)
    (z_any : PySem.W.nsIn K mainGlobals "any" = some none)
    (z_max : PySem.W.nsIn K mainGlobals "max" = some none)
    (z_min : PySem.W.nsIn K mainGlobals "min" = some none)
    (z_sum : PySem.W.nsIn K mainGlobals "sum" = some none)
    (z_sorted : PySem.W.nsIn K mainGlobals "sorted" = some none)
    (z_zip : PySem.W.nsIn K mainGlobals "zip" = some none)
    (z_divmod : PySem.W.nsIn K mainGlobals "divmod" = some none)
    (z_repr : PySem.W.nsIn K mainGlobals "repr" = some none)
    (z_reversed : PySem.W.nsIn K mainGlobals "reversed" = some none)
    (z_ValueError : PySem.W.nsIn K mainGlobals "ValueError" = some none)
    {tk_MOST_LEVEL : Tok} (v_MOST_LEVEL : PySem.W.nsIn K mainGlobals "MOST_LEVEL" = some (some (.int (40) tk_MOST_LEVEL)))
    {tk_FIRST : Tok} (v_FIRST : PySem.W.nsIn K mainGlobals "FIRST" = some (some (.int (-1099511627776) tk_FIRST)))
    {tk_BEHIND : Tok} (v_BEHIND : PySem.W.nsIn K mainGlobals "BEHIND" = some (some (.int (1099511627776) tk_BEHIND)))
    {E_FourPointsError : Addr} (xg_FourPointsError : PySem.W.nsIn K mainGlobals "FourPointsError" = some (some (.ref E_FourPointsError))) (xe_FourPointsError : PySem.W.excIn K E_FourPointsError bmV "ValueError.__new__" = true) (xk_FourPointsError : PySem.W.keepIn K (.ref E_FourPointsError) = true) (xb_FourPointsError : PySem.W.subIn K (.ref E_FourPointsError) (.type "BaseException") = some true) (xt_FourPointsError : PySem.W.typeIn K (.ref E_FourPointsError) = some (.type "type"))
    {E_NoColumn : Addr} (xg_NoColumn : PySem.W.nsIn K mainGlobals "NoColumn" = some (some (.ref E_NoColumn))) (xe_NoColumn : PySem.W.excIn K E_NoColumn bmV "ValueError.__new__" = true) (xk_NoColumn : PySem.W.keepIn K (.ref E_NoColumn) = true) (xb_NoColumn : PySem.W.subIn K (.ref E_NoColumn) (.type "BaseException") = some true) (xt_NoColumn : PySem.W.typeIn K (.ref E_NoColumn) = some (.type "type"))
    {E_NotHalf : Addr} (xg_NotHalf : PySem.W.nsIn K mainGlobals "NotHalf" = some (some (.ref E_NotHalf))) (xe_NotHalf : PySem.W.excIn K E_NotHalf bmV "ValueError.__new__" = true) (xk_NotHalf : PySem.W.keepIn K (.ref E_NotHalf) = true) (xb_NotHalf : PySem.W.subIn K (.ref E_NotHalf) (.type "BaseException") = some true) (xt_NotHalf : PySem.W.typeIn K (.ref E_NotHalf) = some (.type "type"))
    {E_OutOfTimes : Addr} (xg_OutOfTimes : PySem.W.nsIn K mainGlobals "OutOfTimes" = some (some (.ref E_OutOfTimes))) (xe_OutOfTimes : PySem.W.excIn K E_OutOfTimes bmV "ValueError.__new__" = true) (xk_OutOfTimes : PySem.W.keepIn K (.ref E_OutOfTimes) = true) (xb_OutOfTimes : PySem.W.subIn K (.ref E_OutOfTimes) (.type "BaseException") = some true) (xt_OutOfTimes : PySem.W.typeIn K (.ref E_OutOfTimes) = some (.type "type"))
    {E_NoSample : Addr} (xg_NoSample : PySem.W.nsIn K mainGlobals "NoSample" = some (some (.ref E_NoSample))) (xe_NoSample : PySem.W.excIn K E_NoSample bmV "ValueError.__new__" = true) (xk_NoSample : PySem.W.keepIn K (.ref E_NoSample) = true) (xb_NoSample : PySem.W.subIn K (.ref E_NoSample) (.type "BaseException") = some true) (xt_NoSample : PySem.W.typeIn K (.ref E_NoSample) = some (.type "type"))
    (xhn : PySem.W.specialIn K (.builtin "object.__class__") "__get__" = some (some (.builtin "getset_descriptor.__get__"))) (xht : PySem.W.takesIn K (.builtin "object.__class__") = some true)
    (xd_OutOfTimes : PySem.W.hasDictIn K E_OutOfTimes = true)
    (xp_OutOfTimes : PySem.W.findIn K (.ref E_OutOfTimes) "__getattribute__" = some (some (.builtin "BaseException.__getattribute__"))) (xq_OutOfTimes : PySem.W.findIn K (.ref E_OutOfTimes) "__getattr__" = some none) (xc_OutOfTimes : PySem.W.findIn K (.ref E_OutOfTimes) "__class__" = some (some (.builtin "object.__class__"))) (xm_OutOfTimes : PySem.W.mroIn K E_OutOfTimes (.type "object") = some true)
    (xs_OutOfTimes_OutOfTimes : PySem.W.subIn K (.ref E_OutOfTimes) (.ref E_OutOfTimes) = some true)
    : ∃ fd : FuncData, (∀ (s : Shared) (v : Value), BindsTo s fd ⟨[v], []⟩ [("_law_script", v)]) ∧ ∀ base : Heap, K.In base → base.Ns mainGlobals mg → OkG l.prog w K mg base (L2.CX l.prog w) 7 fa fd ["_law_script"] (sp_law K) := by
  have e := hfa.symm.trans (PySem.W.mg_of X G a_law)
  cases e
  have B : Blt mg := ⟨PySem.W.mg_none_of X G z_isinstance, PySem.W.mg_none_of X G z_len, PySem.W.mg_none_of X G z_range, PySem.W.mg_none_of X G z_int, PySem.W.mg_none_of X G z_bool, PySem.W.mg_none_of X G z_str, PySem.W.mg_none_of X G z_tuple, PySem.W.mg_none_of X G z_list, PySem.W.mg_none_of X G z_set, PySem.W.mg_none_of X G z_dict, PySem.W.mg_none_of X G z_abs, PySem.W.mg_none_of X G z_all, PySem.W.mg_none_of X G z_any, PySem.W.mg_none_of X G z_max, PySem.W.mg_none_of X G z_min, PySem.W.mg_none_of X G z_sum, PySem.W.mg_none_of X G z_sorted, PySem.W.mg_none_of X G z_zip, PySem.W.mg_none_of X G z_divmod, PySem.W.mg_none_of X G z_repr, PySem.W.mg_none_of X G z_reversed, PySem.W.mg_none_of X G z_ValueError⟩
  have F_wall := fun_mk (st := s_wall) l_wall c_wall k_wall
  have D_wall : Def K mg "_wall" s_wall ["k"] := def_mk F_wall (PySem.W.mg_of X G a_wall) (F_wall.binds (ps := ["k"]) fun _ _ _ _ _ _ us hl => match us, hl with | [_], _ => rfl)
  have F_is_number := fun_mk (st := s_is_number) l_is_number c_is_number k_is_number
  have D_is_number : Def K mg "is_number" s_is_number ["thing"] := def_mk F_is_number (PySem.W.mg_of X G a_is_number) (F_is_number.binds (ps := ["thing"]) fun _ _ _ _ _ _ us hl => match us, hl with | [_], _ => rfl)
  have F_column_of := fun_mk (st := s_column_of) l_column_of c_column_of k_column_of
  have D_column_of : Def K mg "column_of" s_column_of ["window", "t"] := def_mk F_column_of (PySem.W.mg_of X G a_column_of) (F_column_of.binds (ps := ["window", "t"]) fun _ _ _ _ _ _ us hl => match us, hl with | [_, _], _ => rfl)
  have F_times_of := fun_mk (st := s_times_of) l_times_of c_times_of k_times_of
  have D_times_of : Def K mg "times_of" s_times_of ["window", "k"] := def_mk F_times_of (PySem.W.mg_of X G a_times_of) (F_times_of.binds (ps := ["window", "k"]) fun _ _ _ _ _ _ us hl => match us, hl with | [_, _], _ => rfl)
  have F_moved := fun_mk (st := s_moved) l_moved c_moved k_moved
  have D_moved : Def K mg "moved" s_moved ["window", "c"] := def_mk F_moved (PySem.W.mg_of X G a_moved) (F_moved.binds (ps := ["window", "c"]) fun _ _ _ _ _ _ us hl => match us, hl with | [_, _], _ => rfl)
  have F_widened := fun_mk (st := s_widened) l_widened c_widened k_widened
  have D_widened : Def K mg "widened" s_widened ["window"] := def_mk F_widened (PySem.W.mg_of X G a_widened) (F_widened.binds (ps := ["window"]) fun _ _ _ _ _ _ us hl => match us, hl with | [_], _ => rfl)
  have F_narrowed := fun_mk (st := s_narrowed) l_narrowed c_narrowed k_narrowed
  have D_narrowed : Def K mg "narrowed" s_narrowed ["window"] := def_mk F_narrowed (PySem.W.mg_of X G a_narrowed) (F_narrowed.binds (ps := ["window"]) fun _ _ _ _ _ _ us hl => match us, hl with | [_], _ => rfl)
  have F_with_columns := fun_mk (st := s_with_columns) l_with_columns c_with_columns k_with_columns
  have D_with_columns : Def K mg "with_columns" s_with_columns ["window", "n"] := def_mk F_with_columns (PySem.W.mg_of X G a_with_columns) (F_with_columns.binds (ps := ["window", "n"]) fun _ _ _ _ _ _ us hl => match us, hl with | [_, _], _ => rfl)
  have F_shared := fun_mk (st := s_shared) l_shared c_shared k_shared
  have D_shared : Def K mg "shared" s_shared ["one", "other"] := def_mk F_shared (PySem.W.mg_of X G a_shared) (F_shared.binds (ps := ["one", "other"]) fun _ _ _ _ _ _ us hl => match us, hl with | [_, _], _ => rfl)
  have F_lower_of := fun_mk (st := s_lower_of) l_lower_of c_lower_of k_lower_of
  have D_lower_of : Def K mg "lower_of" s_lower_of ["one", "other"] := def_mk F_lower_of (PySem.W.mg_of X G a_lower_of) (F_lower_of.binds (ps := ["one", "other"]) fun _ _ _ _ _ _ us hl => match us, hl with | [_, _], _ => rfl)
  have F_higher_of := fun_mk (st := s_higher_of) l_higher_of c_higher_of k_higher_of
  have D_higher_of : Def K mg "higher_of" s_higher_of ["one", "other"] := def_mk F_higher_of (PySem.W.mg_of X G a_higher_of) (F_higher_of.binds (ps := ["one", "other"]) fun _ _ _ _ _ _ us hl => match us, hl with | [_, _], _ => rfl)
  have F_joined := fun_mk (st := s_joined) l_joined c_joined k_joined
  have D_joined : Def K mg "joined" s_joined ["one", "other"] := def_mk F_joined (PySem.W.mg_of X G a_joined) (F_joined.binds (ps := ["one", "other"]) fun _ _ _ _ _ _ us hl => match us, hl with | [_, _], _ => rfl)
  have F_is_end := fun_mk (st := s_is_end) l_is_end c_is_end k_is_end
  have D_is_end : Def K mg "is_end" s_is_end ["thing"] := def_mk F_is_end (PySem.W.mg_of X G a_is_end) (F_is_end.binds (ps := ["thing"]) fun _ _ _ _ _ _ us hl => match us, hl with | [_], _ => rfl)
  have F_want_time := fun_mk (st := s_want_time) l_want_time c_want_time k_want_time
  have D_want_time : Def K mg "want_time" s_want_time ["t"] := def_mk F_want_time (PySem.W.mg_of X G a_want_time) (F_want_time.binds (ps := ["t"]) fun _ _ _ _ _ _ us hl => match us, hl with | [_], _ => rfl)
  have F_level_from := fun_mk (st := s_level_from) l_level_from c_level_from k_level_from
  have D_level_from : Def K mg "level_from" s_level_from ["begin", "end"] := def_mk F_level_from (PySem.W.mg_of X G a_level_from) (F_level_from.binds (ps := ["begin", "end"]) fun _ _ _ _ _ _ us hl => match us, hl with | [_, _], _ => rfl)
  have F_stretches := fun_mk (st := s_stretches) l_stretches c_stretches k_stretches
  have D_stretches : Def K mg "stretches" s_stretches ["begin", "end"] := def_mk F_stretches (PySem.W.mg_of X G a_stretches) (F_stretches.binds (ps := ["begin", "end"]) fun _ _ _ _ _ _ us hl => match us, hl with | [_, _], _ => rfl)
  have F_want_within := fun_mk (st := s_want_within) l_want_within c_want_within k_want_within
  have D_want_within : Def K mg "want_within" s_want_within ["window"] := def_mk F_want_within (PySem.W.mg_of X G a_want_within) (F_want_within.binds (ps := ["window"]) fun _ _ _ _ _ _ us hl => match us, hl with | [_], _ => rfl)
  have F_law_cell := fun_mk (st := s_law_cell) l_law_cell c_law_cell k_law_cell
  have D_law_cell : Def K mg "_law_cell" s_law_cell ["_law_script", "_law_k"] := def_mk F_law_cell (PySem.W.mg_of X G a_law_cell) (F_law_cell.binds (ps := ["_law_script", "_law_k"]) fun _ _ _ _ _ _ us hl => match us, hl with | [_, _], _ => rfl)
  have F_law_pot := fun_mk (st := s_law_pot) l_law_pot c_law_pot k_law_pot
  have D_law_pot : Def K mg "_law_pot" s_law_pot ["_law_cell_here"] := def_mk F_law_pot (PySem.W.mg_of X G a_law_pot) (F_law_pot.binds (ps := ["_law_cell_here"]) fun _ _ _ _ _ _ us hl => match us, hl with | [_], _ => rfl)
  have F_law_draw := fun_mk (st := s_law_draw) l_law_draw c_law_draw k_law_draw
  have D_law_draw : Def K mg "_law_draw" s_law_draw ["_law_pot_here", "_law_many"] := def_mk F_law_draw (PySem.W.mg_of X G a_law_draw) (F_law_draw.binds (ps := ["_law_pot_here", "_law_many"]) fun _ _ _ _ _ _ us hl => match us, hl with | [_, _], _ => rfl)
  have F_law_in := fun_mk (st := s_law_in) l_law_in c_law_in k_law_in
  have D_law_in : Def K mg "_law_in" s_law_in ["_law_t"] := def_mk F_law_in (PySem.W.mg_of X G a_law_in) (F_law_in.binds (ps := ["_law_t"]) fun _ _ _ _ _ _ us hl => match us, hl with | [_], _ => rfl)
  have F_law_within := fun_mk (st := s_law_within) l_law_within c_law_within k_law_within
  have D_law_within : Def K mg "_law_within" s_law_within ["_law_window_here"] := def_mk F_law_within (PySem.W.mg_of X G a_law_within) (F_law_within.binds (ps := ["_law_window_here"]) fun _ _ _ _ _ _ us hl => match us, hl with | [_], _ => rfl)
  have F_law_height := fun_mk (st := s_law_height) l_law_height c_law_height k_law_height
  have D_law_height : Def K mg "_law_height" s_law_height ["_law_pot_here"] := def_mk F_law_height (PySem.W.mg_of X G a_law_height) (F_law_height.binds (ps := ["_law_pot_here"]) fun _ _ _ _ _ _ us hl => match us, hl with | [_], _ => rfl)
  have F_law_window := fun_mk (st := s_law_window) l_law_window c_law_window k_law_window
  have D_law_window : Def K mg "_law_window" s_law_window ["_law_pot_here"] := def_mk F_law_window (PySem.W.mg_of X G a_law_window) (F_law_window.binds (ps := ["_law_pot_here"]) fun _ _ _ _ _ _ us hl => match us, hl with | [_], _ => rfl)
  have F_law_time := fun_mk (st := s_law_time) l_law_time c_law_time k_law_time
  have D_law_time : Def K mg "_law_time" s_law_time ["_law_pot_here", "_law_window_here"] := def_mk F_law_time (PySem.W.mg_of X G a_law_time) (F_law_time.binds (ps := ["_law_pot_here", "_law_window_here"]) fun _ _ _ _ _ _ us hl => match us, hl with | [_, _], _ => rfl)
  have F_law_curve := fun_mk (st := s_law_curve) l_law_curve c_law_curve k_law_curve
  have D_law_curve : Def K mg "_law_curve" s_law_curve ["_law_pot_here", "_law_window_here"] := def_mk F_law_curve (PySem.W.mg_of X G a_law_curve) (F_law_curve.binds (ps := ["_law_pot_here", "_law_window_here"]) fun _ _ _ _ _ _ us hl => match us, hl with | [_, _], _ => rfl)
  have F_law_four := fun_mk (st := s_law_four) l_law_four c_law_four k_law_four
  have D_law_four : Def K mg "_law_four" s_law_four ["_law_some"] := def_mk F_law_four (PySem.W.mg_of X G a_law_four) (F_law_four.binds (ps := ["_law_some"]) fun _ _ _ _ _ _ us hl => match us, hl with | [_], _ => rfl)
  have F_law_fours := fun_mk (st := s_law_fours) l_law_fours c_law_fours k_law_fours
  have D_law_fours : Def K mg "_law_fours" s_law_fours ["_law_made", "_law_window_here"] := def_mk F_law_fours (PySem.W.mg_of X G a_law_fours) (F_law_fours.binds (ps := ["_law_made", "_law_window_here"]) fun _ _ _ _ _ _ us hl => match us, hl with | [_, _], _ => rfl)
  have F_law_step := fun_mk (st := s_law_step) l_law_step c_law_step k_law_step
  have D_law_step : Def K mg "_law_step" s_law_step ["_law_pot_here", "_law_window_here"] := def_mk F_law_step (PySem.W.mg_of X G a_law_step) (F_law_step.binds (ps := ["_law_pot_here", "_law_window_here"]) fun _ _ _ _ _ _ us hl => match us, hl with | [_, _], _ => rfl)
  have F_law_go := fun_mk (st := s_law_go) l_law_go c_law_go k_law_go
  have D_law_go : Def K mg "_law_go" s_law_go ["_law_view", "_law_step_here"] := def_mk F_law_go (PySem.W.mg_of X G a_law_go) (F_law_go.binds (ps := ["_law_view", "_law_step_here"]) fun _ _ _ _ _ _ us hl => match us, hl with | [_, _], _ => rfl)
  have F_law_known := fun_mk (st := s_law_known) l_law_known c_law_known k_law_known
  have D_law_known : Def K mg "_law_known" s_law_known ["_law_step_here", "_law_window_here", "_law_known_here"] := def_mk F_law_known (PySem.W.mg_of X G a_law_known) (F_law_known.binds (ps := ["_law_step_here", "_law_window_here", "_law_known_here"]) fun _ _ _ _ _ _ us hl => match us, hl with | [_, _, _], _ => rfl)
  have F_law_column := fun_mk (st := s_law_column) l_law_column c_law_column k_law_column
  have D_law_column : Def K mg "_law_column" s_law_column ["_law_window_here", "_law_t"] := def_mk F_law_column (PySem.W.mg_of X G a_law_column) (F_law_column.binds (ps := ["_law_window_here", "_law_t"]) fun _ _ _ _ _ _ us hl => match us, hl with | [_, _], _ => rfl)
  have F_law_deed := fun_mk (st := s_law_deed) l_law_deed c_law_deed k_law_deed
  have D_law_deed : Def K mg "_law_deed" s_law_deed ["_law_pot_here", "_law_store", "_law_made", "_law_done", "_law_window_here"] := def_mk F_law_deed (PySem.W.mg_of X G a_law_deed) (F_law_deed.binds (ps := ["_law_pot_here", "_law_store", "_law_made", "_law_done", "_law_window_here"]) fun _ _ _ _ _ _ us hl => match us, hl with | [_, _, _, _, _], _ => rfl)
  have F_law_asked := fun_mk (st := s_law_asked) l_law_asked c_law_asked k_law_asked
  have D_law_asked : Def K mg "_law_asked" s_law_asked ["_law_view", "_law_own", "_law_made"] := def_mk F_law_asked (PySem.W.mg_of X G a_law_asked) (F_law_asked.binds (ps := ["_law_view", "_law_own", "_law_made"]) fun _ _ _ _ _ _ us hl => match us, hl with | [_, _, _], _ => rfl)
  have F_law_moved := fun_mk (st := s_law_moved) l_law_moved c_law_moved k_law_moved
  have D_law_moved : Def K mg "_law_moved" s_law_moved ["_law_pot_here", "_law_view", "_law_own"] := def_mk F_law_moved (PySem.W.mg_of X G a_law_moved) (F_law_moved.binds (ps := ["_law_pot_here", "_law_view", "_law_own"]) fun _ _ _ _ _ _ us hl => match us, hl with | [_, _, _], _ => rfl)
  have F_law := fun_mk (st := s_law) l_law c_law k_law
  have D_law : Def K mg "law" s_law ["_law_script"] := def_mk F_law (PySem.W.mg_of X G a_law) (F_law.binds (ps := ["_law_script"]) fun _ _ _ _ _ _ us hl => match us, hl with | [_], _ => rfl)
  have T_View : ClT K mg "View" A_View := ⟨PySem.W.mg_of X G cg_View, ⟨cp_View, ch_View, co_View, cs_View⟩, cm_View, ck_View⟩
  have T_Store : ClT K mg "Store" A_Store := ⟨PySem.W.mg_of X G cg_Store, ⟨cp_Store, ch_Store, co_Store, cs_Store⟩, cm_Store, ck_Store⟩
  have F_View___init := fun_mk (st := s_View___init) l_View___init c_View___init k_View___init
  have D_View___init : PDef K A_View "View.__init__" s_View___init ["self", "store", "window"] := pdef_mk F_View___init ⟨cm_View, a_View___init, i_View___init, ck_View⟩ (F_View___init.binds (ps := ["self", "store", "window"]) fun _ _ _ _ _ _ us hl => match us, hl with | [_, _, _], _ => rfl)
  have F_View_hear := fun_mk (st := s_View_hear) l_View_hear c_View_hear k_View_hear
  have D_View_hear : MDef K A_View "hear" "View.hear" s_View_hear ["self"] := mdef_mk F_View_hear a_View_hear i_View_hear k_View_hear (F_View_hear.binds (ps := ["self"]) fun _ _ _ _ _ _ us hl => match us, hl with | [_], _ => rfl)
  have F_View_learn := fun_mk (st := s_View_learn) l_View_learn c_View_learn k_View_learn
  have D_View_learn : MDef K A_View "learn" "View.learn" s_View_learn ["self", "k"] := mdef_mk F_View_learn a_View_learn i_View_learn k_View_learn (F_View_learn.binds (ps := ["self", "k"]) fun _ _ _ _ _ _ us hl => match us, hl with | [_, _], _ => rfl)
  have F_View_fours := fun_mk (st := s_View_fours) l_View_fours c_View_fours k_View_fours
  have D_View_fours : MDef K A_View "fours" "View.fours" s_View_fours ["self"] := mdef_mk F_View_fours a_View_fours i_View_fours k_View_fours (F_View_fours.binds (ps := ["self"]) fun _ _ _ _ _ _ us hl => match us, hl with | [_], _ => rfl)
  have F_View_go := fun_mk (st := s_View_go) l_View_go c_View_go k_View_go
  have D_View_go : MDef K A_View "go" "View.go" s_View_go ["self", "window"] := mdef_mk F_View_go a_View_go i_View_go k_View_go (F_View_go.binds (ps := ["self", "window"]) fun _ _ _ _ _ _ us hl => match us, hl with | [_, _], _ => rfl)
  have F_View_on := fun_mk (st := s_View_on) l_View_on c_View_on k_View_on
  have D_View_on : MDef K A_View "on" "View.on" s_View_on ["self", "c"] := mdef_mk F_View_on a_View_on i_View_on k_View_on (F_View_on.binds (ps := ["self", "c"]) fun _ _ _ _ _ _ us hl => match us, hl with | [_, _], _ => rfl)
  have F_View_wide := fun_mk (st := s_View_wide) l_View_wide c_View_wide k_View_wide
  have D_View_wide : MDef K A_View "wide" "View.wide" s_View_wide ["self"] := mdef_mk F_View_wide a_View_wide i_View_wide k_View_wide (F_View_wide.binds (ps := ["self"]) fun _ _ _ _ _ _ us hl => match us, hl with | [_], _ => rfl)
  have F_View_narrow := fun_mk (st := s_View_narrow) l_View_narrow c_View_narrow k_View_narrow
  have D_View_narrow : MDef K A_View "narrow" "View.narrow" s_View_narrow ["self"] := mdef_mk F_View_narrow a_View_narrow i_View_narrow k_View_narrow (F_View_narrow.binds (ps := ["self"]) fun _ _ _ _ _ _ us hl => match us, hl with | [_], _ => rfl)
  have F_View_columns := fun_mk (st := s_View_columns) l_View_columns c_View_columns k_View_columns
  have D_View_columns : MDef K A_View "columns" "View.columns" s_View_columns ["self", "n"] := mdef_mk F_View_columns a_View_columns i_View_columns k_View_columns (F_View_columns.binds (ps := ["self", "n"]) fun _ _ _ _ _ _ us hl => match us, hl with | [_, _], _ => rfl)
  have D_Store___init : IDef K A_Store "Store.__init__" s_Store___init ["self", "curve"] := idef_mk (n := 1) ⟨⟨_, _, _, _, _, _, _, _, _, _, rfl, l_Store___init, c_Store___init, .inr ⟨by simp, _, _, [.none], _, rfl, dl_Store___init, rfl, .cons rfl .nil⟩, .inl rfl⟩, k_Store___init⟩ ⟨cm_Store, a_Store___init, i_Store___init, ck_Store⟩ rfl
    (fun _ _ _ _ _ _ _ us its hu hi => match us, its, hu, hi with | [_], [_], _, _ => ⟨_, rfl, rfl⟩)
    (fun _ _ _ _ _ _ _ us its hu hi => match us, its, hu, hi with | [_, _], [_], _, _ => ⟨_, rfl, rfl⟩)
    (fun _ _ _ _ _ _ _ us its ws hu hi hw => match us, its, ws, hu, hi, hw with | [_], [_], [_], _, _, _ => ⟨_, rfl, rfl⟩)
  have F_Store_set_height := fun_mk (st := s_Store_set_height) l_Store_set_height c_Store_set_height k_Store_set_height
  have D_Store_set_height : MDef K A_Store "set_height" "Store.set_height" s_Store_set_height ["self", "t", "h"] := mdef_mk F_Store_set_height a_Store_set_height i_Store_set_height k_Store_set_height (F_Store_set_height.binds (ps := ["self", "t", "h"]) fun _ _ _ _ _ _ us hl => match us, hl with | [_, _, _], _ => rfl)
  have F_Store_set_four := fun_mk (st := s_Store_set_four) l_Store_set_four c_Store_set_four k_Store_set_four
  have D_Store_set_four : MDef K A_Store "set_four" "Store.set_four" s_Store_set_four ["self", "stretch", "found"] := mdef_mk F_Store_set_four a_Store_set_four i_Store_set_four k_Store_set_four (F_Store_set_four.binds (ps := ["self", "stretch", "found"]) fun _ _ _ _ _ _ us hl => match us, hl with | [_, _, _], _ => rfl)
  have F_Store_put := fun_mk (st := s_Store_put) l_Store_put c_Store_put k_Store_put
  have D_Store_put : MDef K A_Store "put" "Store.put" s_Store_put ["self", "t", "h"] := mdef_mk F_Store_put a_Store_put i_Store_put k_Store_put (F_Store_put.binds (ps := ["self", "t", "h"]) fun _ _ _ _ _ _ us hl => match us, hl with | [_, _, _], _ => rfl)
  have F_Store_take := fun_mk (st := s_Store_take) l_Store_take c_Store_take k_Store_take
  have D_Store_take : MDef K A_Store "take" "Store.take" s_Store_take ["self", "t"] := mdef_mk F_Store_take a_Store_take i_Store_take k_Store_take (F_Store_take.binds (ps := ["self", "t"]) fun _ _ _ _ _ _ us hl => match us, hl with | [_, _], _ => rfl)
  have F_Store_height := fun_mk (st := s_Store_height) l_Store_height c_Store_height k_Store_height
  have D_Store_height : MDef K A_Store "height" "Store.height" s_Store_height ["self", "t"] := mdef_mk F_Store_height a_Store_height i_Store_height k_Store_height (F_Store_height.binds (ps := ["self", "t"]) fun _ _ _ _ _ _ us hl => match us, hl with | [_, _], _ => rfl)
  have F_Store_four := fun_mk (st := s_Store_four) l_Store_four c_Store_four k_Store_four
  have D_Store_four : MDef K A_Store "four" "Store.four" s_Store_four ["self", "begin", "end"] := mdef_mk F_Store_four a_Store_four i_Store_four k_Store_four (F_Store_four.binds (ps := ["self", "begin", "end"]) fun _ _ _ _ _ _ us hl => match us, hl with | [_, _, _], _ => rfl)
  have F_Store_fours := fun_mk (st := s_Store_fours) l_Store_fours c_Store_fours k_Store_fours
  have D_Store_fours : MDef K A_Store "fours" "Store.fours" s_Store_fours ["self", "window"] := mdef_mk F_Store_fours a_Store_fours i_Store_fours k_Store_fours (F_Store_fours.binds (ps := ["self", "window"]) fun _ _ _ _ _ _ us hl => match us, hl with | [_, _], _ => rfl)
  have F_Store_told := fun_mk (st := s_Store_told) l_Store_told c_Store_told k_Store_told
  have D_Store_told : MDef K A_Store "told" "Store.told" s_Store_told ["self"] := mdef_mk F_Store_told a_Store_told i_Store_told k_Store_told (F_Store_told.binds (ps := ["self"]) fun _ _ _ _ _ _ us hl => match us, hl with | [_], _ => rfl)
  have F_Store_watch := fun_mk (st := s_Store_watch) l_Store_watch c_Store_watch k_Store_watch
  have D_Store_watch : MDef K A_Store "watch" "Store.watch" s_Store_watch ["self", "window"] := mdef_mk F_Store_watch a_Store_watch i_Store_watch k_Store_watch (F_Store_watch.binds (ps := ["self", "window"]) fun _ _ _ _ _ _ us hl => match us, hl with | [_, _], _ => rfl)
  have F_Store_news := fun_mk (st := s_Store_news) l_Store_news c_Store_news k_Store_news
  have D_Store_news : MDef K A_Store "news" "Store.news" s_Store_news ["self", "number"] := mdef_mk F_Store_news a_Store_news i_Store_news k_Store_news (F_Store_news.binds (ps := ["self", "number"]) fun _ _ _ _ _ _ us hl => match us, hl with | [_, _], _ => rfl)
  have F_Store_undo := fun_mk (st := s_Store_undo) l_Store_undo c_Store_undo k_Store_undo
  have D_Store_undo : MDef K A_Store "undo" "Store.undo" s_Store_undo ["self"] := mdef_mk F_Store_undo a_Store_undo i_Store_undo k_Store_undo (F_Store_undo.binds (ps := ["self"]) fun _ _ _ _ _ _ us hl => match us, hl with | [_], _ => rfl)
  have F_Store_times := fun_mk (st := s_Store_times) l_Store_times c_Store_times k_Store_times
  have D_Store_times : MDef K A_Store "times" "Store.times" s_Store_times ["self"] := mdef_mk F_Store_times a_Store_times i_Store_times k_Store_times (F_Store_times.binds (ps := ["self"]) fun _ _ _ _ _ _ us hl => match us, hl with | [_], _ => rfl)
  have C_MOST_LEVEL := PySem.W.mg_of X G v_MOST_LEVEL
  have C_FIRST := PySem.W.mg_of X G v_FIRST
  have C_BEHIND := PySem.W.mg_of X G v_BEHIND
  have X_FourPointsError : Exc K mg "FourPointsError" E_FourPointsError := ⟨PySem.W.mg_of X G xg_FourPointsError, xe_FourPointsError, xk_FourPointsError, xb_FourPointsError, xt_FourPointsError⟩
  have X_NoColumn : Exc K mg "NoColumn" E_NoColumn := ⟨PySem.W.mg_of X G xg_NoColumn, xe_NoColumn, xk_NoColumn, xb_NoColumn, xt_NoColumn⟩
  have X_NotHalf : Exc K mg "NotHalf" E_NotHalf := ⟨PySem.W.mg_of X G xg_NotHalf, xe_NotHalf, xk_NotHalf, xb_NotHalf, xt_NotHalf⟩
  have X_OutOfTimes : Exc K mg "OutOfTimes" E_OutOfTimes := ⟨PySem.W.mg_of X G xg_OutOfTimes, xe_OutOfTimes, xk_OutOfTimes, xb_OutOfTimes, xt_OutOfTimes⟩
  have X_NoSample : Exc K mg "NoSample" E_NoSample := ⟨PySem.W.mg_of X G xg_NoSample, xe_NoSample, xk_NoSample, xb_NoSample, xt_NoSample⟩
  have Y_OutOfTimes : ExcC K E_OutOfTimes := ⟨xp_OutOfTimes, xq_OutOfTimes, xb_OutOfTimes, xd_OutOfTimes, xc_OutOfTimes, xhn, xht, xm_OutOfTimes⟩
  have W_OutOfTimes_OutOfTimes : PySem.W.kitOne K (.ref E_OutOfTimes) (.ref E_OutOfTimes) = some true := kit_true xd_OutOfTimes xt_OutOfTimes xs_OutOfTimes_OutOfTimes
  have Z_OutOfTimes_OutOfTimes : PySem.W.exmOne K (.ref E_OutOfTimes) (.ref E_OutOfTimes) = some true := PySem.W.exm_ref xb_OutOfTimes xd_OutOfTimes xt_OutOfTimes xs_OutOfTimes_OutOfTimes
  refine ⟨PySem.W.fnOf "law" "law" (defArgs s_law) (defBody s_law) (defScope s_law) .none kV_law dc_law pm_law an_law cd_law ct_law, fun s v => .of_eq rfl, fun base _ _ => ?_⟩
  have G_law_cell := fun base => ok_law_cell (P := l.prog) (w := w) (base := base) B D_law_cell
  have G_law_pot := fun base => ok_law_pot (P := l.prog) (w := w) (base := base) B D_law_pot
  have G_law_draw := fun base => ok_law_draw (P := l.prog) (w := w) (base := base) B D_law_draw
  have G_is_number := fun base => ok_is_number (P := l.prog) (w := w) (base := base) B D_is_number
  have G_column_of := fun base => ok_column_of (P := l.prog) (w := w) (base := base) B D_column_of
  have G_times_of := fun base => ok_times_of (P := l.prog) (w := w) (base := base) B D_times_of X_NoColumn (G_is_number base)
  have G_moved := fun base => ok_moved (P := l.prog) (w := w) (base := base) B D_moved
  have G_widened := fun base => ok_widened (P := l.prog) (w := w) (base := base) B D_widened
  have G_narrowed := fun base => ok_narrowed (P := l.prog) (w := w) (base := base) B D_narrowed X_NotHalf
  have G_with_columns := fun base => ok_with_columns (P := l.prog) (w := w) (base := base) B D_with_columns
  have G_shared := fun base => ok_shared (P := l.prog) (w := w) (base := base) B D_shared
  have G_is_end := fun base => ok_is_end (P := l.prog) (w := w) (base := base) B D_is_end C_FIRST C_BEHIND
  have G_level_from := fun base => ok_level_from (P := l.prog) (w := w) (base := base) B D_level_from C_MOST_LEVEL
  have G_stretches := fun base => ok_stretches (P := l.prog) (w := w) (base := base) B T_View N_View_shown N_View_window N_View_known N_View_heard N_View_asked T_Store N_Store_heights N_Store_by_stretches N_Store_deeds N_Store_deed_times N_Store_watches D_stretches X_OutOfTimes (G_level_from base) (G_is_end base)
  have G_lower_of := fun base => ok_lower_of (P := l.prog) (w := w) (base := base) B D_lower_of
  have G_higher_of := fun base => ok_higher_of (P := l.prog) (w := w) (base := base) B D_higher_of
  have G_joined := fun base => ok_joined (P := l.prog) (w := w) (base := base) B D_joined (G_lower_of base) (G_higher_of base)
  have G_want_time := fun base => ok_want_time (P := l.prog) (w := w) (base := base) B D_want_time C_BEHIND X_OutOfTimes (G_is_end base)
  have G_Store_set_four := fun base => ok_Store_set_four (P := l.prog) (w := w) (base := base) B T_View N_View_shown N_View_window N_View_known N_View_heard N_View_asked T_Store N_Store_heights N_Store_by_stretches N_Store_deeds N_Store_deed_times N_Store_watches D_Store_set_four
  have G_Store_set_height := fun base => ok_Store_set_height (P := l.prog) (w := w) (base := base) B T_View N_View_shown N_View_window N_View_known N_View_heard N_View_asked T_Store N_Store_heights N_Store_by_stretches N_Store_deeds N_Store_deed_times N_Store_watches D_Store_set_height C_MOST_LEVEL (G_Store_set_four base) (G_joined base)
  have G_Store___init := fun base => ok_Store___init (P := l.prog) (w := w) (base := base) B T_View N_View_shown N_View_window N_View_known N_View_heard N_View_asked T_Store N_Store_heights N_Store_by_stretches N_Store_deeds N_Store_deed_times N_Store_watches D_Store___init (G_want_time base) (G_Store_set_height base)
  have G_Store_put := fun base => ok_Store_put (P := l.prog) (w := w) (base := base) B T_View N_View_shown N_View_window N_View_known N_View_heard N_View_asked T_Store N_Store_heights N_Store_by_stretches N_Store_deeds N_Store_deed_times N_Store_watches D_Store_put (G_want_time base) (G_Store_set_height base)
  have G_Store_height := fun base => ok_Store_height (P := l.prog) (w := w) (base := base) B T_View N_View_shown N_View_window N_View_known N_View_heard N_View_asked T_Store N_Store_heights N_Store_by_stretches N_Store_deeds N_Store_deed_times N_Store_watches D_Store_height X_NoSample (G_is_end base)
  have G_Store_take := fun base => ok_Store_take (P := l.prog) (w := w) (base := base) B T_View N_View_shown N_View_window N_View_known N_View_heard N_View_asked T_Store N_Store_heights N_Store_by_stretches N_Store_deeds N_Store_deed_times N_Store_watches D_Store_take (G_Store_height base) (G_Store_set_height base)
  have G_Store_undo := fun base => ok_Store_undo (P := l.prog) (w := w) (base := base) B T_View N_View_shown N_View_window N_View_known N_View_heard N_View_asked T_Store N_Store_heights N_Store_by_stretches N_Store_deeds N_Store_deed_times N_Store_watches D_Store_undo (G_Store_set_height base)
  have G_Store_four := fun base => ok_Store_four (P := l.prog) (w := w) (base := base) B T_View N_View_shown N_View_window N_View_known N_View_heard N_View_asked T_Store N_Store_heights N_Store_by_stretches N_Store_deeds N_Store_deed_times N_Store_watches D_Store_four (G_stretches base) (G_joined base)
  have G_Store_fours := fun base => ok_Store_fours (P := l.prog) (w := w) (base := base) B T_View N_View_shown N_View_window N_View_known N_View_heard N_View_asked T_Store N_Store_heights N_Store_by_stretches N_Store_deeds N_Store_deed_times N_Store_watches D_Store_fours X_OutOfTimes (G_times_of base) (G_is_end base) (G_Store_four base)
  have G_Store_told := fun base => ok_Store_told (P := l.prog) (w := w) (base := base) B T_View N_View_shown N_View_window N_View_known N_View_heard N_View_asked T_Store N_Store_heights N_Store_by_stretches N_Store_deeds N_Store_deed_times N_Store_watches D_Store_told
  have G_Store_times := fun base => ok_Store_times (P := l.prog) (w := w) (base := base) B T_View N_View_shown N_View_window N_View_known N_View_heard N_View_asked T_Store N_Store_heights N_Store_by_stretches N_Store_deeds N_Store_deed_times N_Store_watches D_Store_times
  have G_want_within := fun base => ok_want_within (P := l.prog) (w := w) (base := base) B D_want_within X_OutOfTimes (G_is_end base)
  have G_View___init := fun base => ok_View___init (P := l.prog) (w := w) (base := base) B T_View N_View_shown N_View_window N_View_known N_View_heard N_View_asked T_Store N_Store_heights N_Store_by_stretches N_Store_deeds N_Store_deed_times N_Store_watches D_View___init (G_want_within base) (G_Store_times base)
  have G_View_hear := fun base => ok_View_hear (P := l.prog) (w := w) (base := base) B T_View N_View_shown N_View_window N_View_known N_View_heard N_View_asked T_Store N_Store_heights N_Store_by_stretches N_Store_deeds N_Store_deed_times N_Store_watches D_View_hear (G_Store_times base) (G_column_of base)
  have G_View_learn := fun base => ok_View_learn (P := l.prog) (w := w) (base := base) B T_View N_View_shown N_View_window N_View_known N_View_heard N_View_asked T_Store N_Store_heights N_Store_by_stretches N_Store_deeds N_Store_deed_times N_Store_watches D_View_learn (G_times_of base) (G_Store_four base)
  have G_View_fours := fun base => ok_View_fours (P := l.prog) (w := w) (base := base) B T_View N_View_shown N_View_window N_View_known N_View_heard N_View_asked T_Store N_Store_heights N_Store_by_stretches N_Store_deeds N_Store_deed_times N_Store_watches D_View_fours (G_View_hear base) (G_View_learn base)
  have G_View_go := fun base => ok_View_go (P := l.prog) (w := w) (base := base) B T_View N_View_shown N_View_window N_View_known N_View_heard N_View_asked T_Store N_Store_heights N_Store_by_stretches N_Store_deeds N_Store_deed_times N_Store_watches D_View_go (G_want_within base) (G_View_hear base) (G_shared base)
  have G_View_on := fun base => ok_View_on (P := l.prog) (w := w) (base := base) B T_View N_View_shown N_View_window N_View_known N_View_heard N_View_asked T_Store N_Store_heights N_Store_by_stretches N_Store_deeds N_Store_deed_times N_Store_watches D_View_on (G_View_go base) (G_moved base)
  have G_View_columns := fun base => ok_View_columns (P := l.prog) (w := w) (base := base) B T_View N_View_shown N_View_window N_View_known N_View_heard N_View_asked T_Store N_Store_heights N_Store_by_stretches N_Store_deeds N_Store_deed_times N_Store_watches D_View_columns (G_View_go base) (G_with_columns base)
  have G_View_narrow := fun base => ok_View_narrow (P := l.prog) (w := w) (base := base) B T_View N_View_shown N_View_window N_View_known N_View_heard N_View_asked T_Store N_Store_heights N_Store_by_stretches N_Store_deeds N_Store_deed_times N_Store_watches D_View_narrow (G_View_go base) (G_narrowed base)
  have G_View_wide := fun base => ok_View_wide (P := l.prog) (w := w) (base := base) B T_View N_View_shown N_View_window N_View_known N_View_heard N_View_asked T_Store N_Store_heights N_Store_by_stretches N_Store_deeds N_Store_deed_times N_Store_watches D_View_wide (G_widened base) (G_want_within base) (G_View_hear base) (G_joined base)
  have G_law_in := fun base => ok_law_in (P := l.prog) (w := w) (base := base) B D_law_in
  have G_law_within := fun base => ok_law_within (P := l.prog) (w := w) (base := base) B D_law_within
  have G_law_height := fun base => ok_law_height (P := l.prog) (w := w) (base := base) B D_law_height (G_law_draw base)
  have G_law_window := fun base => ok_law_window (P := l.prog) (w := w) (base := base) B D_law_window (G_law_draw base)
  have G_law_time := fun base => ok_law_time (P := l.prog) (w := w) (base := base) B D_law_time (G_law_in base) (G_law_draw base)
  have G_law_curve := fun base => ok_law_curve (P := l.prog) (w := w) (base := base) B D_law_curve (G_law_draw base) (G_law_time base) (G_law_height base)
  have G_law_step := fun base => ok_law_step (P := l.prog) (w := w) (base := base) B D_law_step (G_law_draw base)
  have G_law_go := fun base => ok_law_go (P := l.prog) (w := w) (base := base) B T_View N_View_shown N_View_window N_View_known N_View_heard N_View_asked T_Store N_Store_heights N_Store_by_stretches N_Store_deeds N_Store_deed_times N_Store_watches D_law_go (G_View_wide base) (G_View_narrow base) (G_View_columns base) (G_View_on base)
  have G_law_known := fun base => ok_law_known (P := l.prog) (w := w) (base := base) B T_View N_View_shown N_View_window N_View_known N_View_heard N_View_asked T_Store N_Store_heights N_Store_by_stretches N_Store_deeds N_Store_deed_times N_Store_watches D_law_known
  have G_law_four := fun base => ok_law_four (P := l.prog) (w := w) (base := base) B D_law_four
  have G_law_fours := fun base => ok_law_fours (P := l.prog) (w := w) (base := base) B T_View N_View_shown N_View_window N_View_known N_View_heard N_View_asked T_Store N_Store_heights N_Store_by_stretches N_Store_deeds N_Store_deed_times N_Store_watches D_law_fours (G_law_four base)
  have G_law_deed := fun base => ok_law_deed (P := l.prog) (w := w) (base := base) B T_View N_View_shown N_View_window N_View_known N_View_heard N_View_asked T_Store N_Store_heights N_Store_by_stretches N_Store_deeds N_Store_deed_times N_Store_watches D_law_deed (G_law_draw base) (G_law_time base) (G_law_height base) (G_Store_undo base) (G_Store_take base) (G_Store_put base)
  have G_law_column := fun base => ok_law_column (P := l.prog) (w := w) (base := base) B D_law_column
  have G_law_asked := fun base => ok_law_asked (P := l.prog) (w := w) (base := base) B T_View N_View_shown N_View_window N_View_known N_View_heard N_View_asked T_Store N_Store_heights N_Store_by_stretches N_Store_deeds N_Store_deed_times N_Store_watches D_law_asked (G_View_fours base) (G_law_fours base)
  have G_law_moved := fun base => ok_law_moved (P := l.prog) (w := w) (base := base) B D_law_moved X_OutOfTimes Y_OutOfTimes W_OutOfTimes_OutOfTimes Z_OutOfTimes_OutOfTimes (G_law_step base) (G_law_go base) (G_law_within base) (G_law_known base)
  exact ok_law B F_law T_View N_View_shown N_View_window N_View_known N_View_heard N_View_asked T_Store N_Store_heights N_Store_by_stretches N_Store_deeds N_Store_deed_times N_Store_watches (G_law_pot base) (G_law_window base) (G_law_curve base) (G_Store___init base) (G_law_cell base) (G_law_step base) (G_law_within base) (G_View___init base) (G_law_draw base) (G_law_asked base) (G_law_deed base) (G_law_moved base) (G_law_column base)

open PySem.W in
theorem walk {l : PySem.W.OpenLaw} {q : Program} {loose : List Str} {XP : (Str → Option Value) → Heap → Prop} {YP : World → Heap → Prop} {d : DefRec} {K : Params → PySem.W.Frag} (hn : l.most = some 63) (hdf : d.params.defaults = [])
    (hY : ∀ (w : World) (h : Heap), YP w h → (K w.params).In h)
    (F : ∀ (w : World) (mg : Str → Option Value) (fa : Addr) (h : Heap), (K w.params).In h → h.Ns mainGlobals mg → mg d.name = some (.ref fa) →
      ∃ fd : FuncData, (∀ (s : Shared) (u : Value), BindsTo s fd ⟨[u], []⟩ [("_law_script", u)]) ∧ ∀ base : Heap, (K w.params).In base → base.Ns mainGlobals mg → OkG l.prog w (K w.params) mg base (L2.CX l.prog w) 7 fa fd ["_law_script"] (sp_law (K w.params))) :
    PySem.W.WalkO q loose XP YP l.row.toRowW d [] (fun f vs => PySem.call f vs) :=
  walk_ofG (n := 63) (k := 7) (x := "_law_script") (sp := fun w => sp_law (K w.params)) hn (by decide) hdf ⟨rfl, by decide, by decide⟩ hY F (fun _ H a ns hl hb hO hS => sp_law_top hl hb hO hS)
end Lk73
open PySem PySem.W PyProof.Rows
set_option maxRecDepth 100000 in
set_option maxHeartbeats 0 in
theorem PySem.Challenge.cw_fourpoints_k73_whole_views_of_changing_s_holds : PySem.Challenge.rw_fourpoints_k73_whole_views_of_changing_s.Holds := by
  w_on; o_law; k_head; (case hw => w_witness2)
  k_fill
  refine Lk73.walk (l := PySem.Challenge.rw_fourpoints_k73_whole_views_of_changing_s) rfl rfl (fun w h Y => PySem.W.kIn_of Y) ?F
  case F =>
    intro w mg fa h KX G hmg
    refine' Lk73.all_mk KX G hmg ?a_wall ?l_wall ?c_wall ?k_wall ?a_is_number ?l_is_number ?c_is_number ?k_is_number ?a_column_of ?l_column_of ?c_column_of ?k_column_of ?a_times_of ?l_times_of ?c_times_of ?k_times_of ?a_moved ?l_moved ?c_moved ?k_moved ?a_widened ?l_widened ?c_widened ?k_widened ?a_narrowed ?l_narrowed ?c_narrowed ?k_narrowed ?a_with_columns ?l_with_columns ?c_with_columns ?k_with_columns ?a_shared ?l_shared ?c_shared ?k_shared ?a_lower_of ?l_lower_of ?c_lower_of ?k_lower_of ?a_higher_of ?l_higher_of ?c_higher_of ?k_higher_of ?a_joined ?l_joined ?c_joined ?k_joined ?a_is_end ?l_is_end ?c_is_end ?k_is_end ?a_want_time ?l_want_time ?c_want_time ?k_want_time ?a_level_from ?l_level_from ?c_level_from ?k_level_from ?a_stretches ?l_stretches ?c_stretches ?k_stretches ?a_want_within ?l_want_within ?c_want_within ?k_want_within ?a_law_cell ?l_law_cell ?c_law_cell ?k_law_cell ?a_law_pot ?l_law_pot ?c_law_pot ?k_law_pot ?a_law_draw ?l_law_draw ?c_law_draw ?k_law_draw ?a_law_in ?l_law_in ?c_law_in ?k_law_in ?a_law_within ?l_law_within ?c_law_within ?k_law_within ?a_law_height ?l_law_height ?c_law_height ?k_law_height ?a_law_window ?l_law_window ?c_law_window ?k_law_window ?a_law_time ?l_law_time ?c_law_time ?k_law_time ?a_law_curve ?l_law_curve ?c_law_curve ?k_law_curve ?a_law_four ?l_law_four ?c_law_four ?k_law_four ?a_law_fours ?l_law_fours ?c_law_fours ?k_law_fours ?a_law_step ?l_law_step ?c_law_step ?k_law_step ?a_law_go ?l_law_go ?c_law_go ?k_law_go ?a_law_known ?l_law_known ?c_law_known ?k_law_known ?a_law_column ?l_law_column ?c_law_column ?k_law_column ?a_law_deed ?l_law_deed ?c_law_deed ?k_law_deed ?a_law_asked ?l_law_asked ?c_law_asked ?k_law_asked ?a_law_moved ?l_law_moved ?c_law_moved ?k_law_moved ?a_law ?l_law ?c_law ?k_law ?cg_View ?cp_View ?ch_View ?co_View ?cs_View ?cm_View ?ck_View ?N_View_shown ?N_View_window ?N_View_known ?N_View_heard ?N_View_asked ?cg_Store ?cp_Store ?ch_Store ?co_Store ?cs_Store ?cm_Store ?ck_Store ?N_Store_heights ?N_Store_by_stretches ?N_Store_deeds ?N_Store_deed_times ?N_Store_watches ?a_View___init ?i_View___init ?l_View___init ?c_View___init ?k_View___init ?a_View_hear ?i_View_hear ?l_View_hear ?c_View_hear ?k_View_hear ?a_View_learn ?i_View_learn ?l_View_learn ?c_View_learn ?k_View_learn ?a_View_fours ?i_View_fours ?l_View_fours ?c_View_fours ?k_View_fours ?a_View_go ?i_View_go ?l_View_go ?c_View_go ?k_View_go ?a_View_on ?i_View_on ?l_View_on ?c_View_on ?k_View_on ?a_View_wide ?i_View_wide ?l_View_wide ?c_View_wide ?k_View_wide ?a_View_narrow ?i_View_narrow ?l_View_narrow ?c_View_narrow ?k_View_narrow ?a_View_columns ?i_View_columns ?l_View_columns ?c_View_columns ?k_View_columns ?a_Store___init ?i_Store___init ?l_Store___init ?c_Store___init ?k_Store___init ?dl_Store___init ?a_Store_set_height ?i_Store_set_height ?l_Store_set_height ?c_Store_set_height ?k_Store_set_height ?a_Store_set_four ?i_Store_set_four ?l_Store_set_four ?c_Store_set_four ?k_Store_set_four ?a_Store_put ?i_Store_put ?l_Store_put ?c_Store_put ?k_Store_put ?a_Store_take ?i_Store_take ?l_Store_take ?c_Store_take ?k_Store_take ?a_Store_height ?i_Store_height ?l_Store_height ?c_Store_height ?k_Store_height ?a_Store_four ?i_Store_four ?l_Store_four ?c_Store_four ?k_Store_four ?a_Store_fours ?i_Store_fours ?l_Store_fours ?c_Store_fours ?k_Store_fours ?a_Store_told ?i_Store_told ?l_Store_told ?c_Store_told ?k_Store_told ?a_Store_watch ?i_Store_watch ?l_Store_watch ?c_Store_watch ?k_Store_watch ?a_Store_news ?i_Store_news ?l_Store_news ?c_Store_news ?k_Store_news ?a_Store_undo ?i_Store_undo ?l_Store_undo ?c_Store_undo ?k_Store_undo ?a_Store_times ?i_Store_times ?l_Store_times ?c_Store_times ?k_Store_times ?z_isinstance ?z_len ?z_range ?z_int ?z_bool ?z_str ?z_tuple ?z_list ?z_set ?z_dict ?z_abs ?z_all ?z_any ?z_max ?z_min ?z_sum ?z_sorted ?z_zip ?z_divmod ?z_repr ?z_reversed ?z_ValueError ?v_MOST_LEVEL ?v_FIRST ?v_BEHIND ?xg_FourPointsError ?xe_FourPointsError ?xk_FourPointsError ?xb_FourPointsError ?xt_FourPointsError ?xg_NoColumn ?xe_NoColumn ?xk_NoColumn ?xb_NoColumn ?xt_NoColumn ?xg_NotHalf ?xe_NotHalf ?xk_NotHalf ?xb_NotHalf ?xt_NotHalf ?xg_OutOfTimes ?xe_OutOfTimes ?xk_OutOfTimes ?xb_OutOfTimes ?xt_OutOfTimes ?xg_NoSample ?xe_NoSample ?xk_NoSample ?xb_NoSample ?xt_NoSample ?xhn ?xht ?xd_OutOfTimes ?xp_OutOfTimes ?xq_OutOfTimes ?xc_OutOfTimes ?xm_OutOfTimes ?xs_OutOfTimes_OutOfTimes
    (case a_wall => k_is)
    (case l_wall => k_is)
    (case c_wall => k_is)
    (case k_wall => k_is)
    (case a_is_number => k_is)
    (case l_is_number => k_is)
    (case c_is_number => k_is)
    (case k_is_number => k_is)
    (case a_column_of => k_is)
    (case l_column_of => k_is)
    (case c_column_of => k_is)
    (case k_column_of => k_is)
    (case a_times_of => k_is)
    (case l_times_of => k_is)
    (case c_times_of => k_is)
    (case k_times_of => k_is)
    (case a_moved => k_is)
    (case l_moved => k_is)
    (case c_moved => k_is)
    (case k_moved => k_is)
    (case a_widened => k_is)
    (case l_widened => k_is)
    (case c_widened => k_is)
    (case k_widened => k_is)
    (case a_narrowed => k_is)
    (case l_narrowed => k_is)
    (case c_narrowed => k_is)
    (case k_narrowed => k_is)
    (case a_with_columns => k_is)
    (case l_with_columns => k_is)
    (case c_with_columns => k_is)
    (case k_with_columns => k_is)
    (case a_shared => k_is)
    (case l_shared => k_is)
    (case c_shared => k_is)
    (case k_shared => k_is)
    (case a_lower_of => k_is)
    (case l_lower_of => k_is)
    (case c_lower_of => k_is)
    (case k_lower_of => k_is)
    (case a_higher_of => k_is)
    (case l_higher_of => k_is)
    (case c_higher_of => k_is)
    (case k_higher_of => k_is)
    (case a_joined => k_is)
    (case l_joined => k_is)
    (case c_joined => k_is)
    (case k_joined => k_is)
    (case a_is_end => k_is)
    (case l_is_end => k_is)
    (case c_is_end => k_is)
    (case k_is_end => k_is)
    (case a_want_time => k_is)
    (case l_want_time => k_is)
    (case c_want_time => k_is)
    (case k_want_time => k_is)
    (case a_level_from => k_is)
    (case l_level_from => k_is)
    (case c_level_from => k_is)
    (case k_level_from => k_is)
    (case a_stretches => k_is)
    (case l_stretches => k_is)
    (case c_stretches => k_is)
    (case k_stretches => k_is)
    (case a_want_within => k_is)
    (case l_want_within => k_is)
    (case c_want_within => k_is)
    (case k_want_within => k_is)
    (case a_law_cell => k_is)
    (case l_law_cell => k_is)
    (case c_law_cell => k_is)
    (case k_law_cell => k_is)
    (case a_law_pot => k_is)
    (case l_law_pot => k_is)
    (case c_law_pot => k_is)
    (case k_law_pot => k_is)
    (case a_law_draw => k_is)
    (case l_law_draw => k_is)
    (case c_law_draw => k_is)
    (case k_law_draw => k_is)
    (case a_law_in => k_is)
    (case l_law_in => k_is)
    (case c_law_in => k_is)
    (case k_law_in => k_is)
    (case a_law_within => k_is)
    (case l_law_within => k_is)
    (case c_law_within => k_is)
    (case k_law_within => k_is)
    (case a_law_height => k_is)
    (case l_law_height => k_is)
    (case c_law_height => k_is)
    (case k_law_height => k_is)
    (case a_law_window => k_is)
    (case l_law_window => k_is)
    (case c_law_window => k_is)
    (case k_law_window => k_is)
    (case a_law_time => k_is)
    (case l_law_time => k_is)
    (case c_law_time => k_is)
    (case k_law_time => k_is)
    (case a_law_curve => k_is)
    (case l_law_curve => k_is)
    (case c_law_curve => k_is)
    (case k_law_curve => k_is)
    (case a_law_four => k_is)
    (case l_law_four => k_is)
    (case c_law_four => k_is)
    (case k_law_four => k_is)
    (case a_law_fours => k_is)
    (case l_law_fours => k_is)
    (case c_law_fours => k_is)
    (case k_law_fours => k_is)
    (case a_law_step => k_is)
    (case l_law_step => k_is)
    (case c_law_step => k_is)
    (case k_law_step => k_is)
    (case a_law_go => k_is)
    (case l_law_go => k_is)
    (case c_law_go => k_is)
    (case k_law_go => k_is)
    (case a_law_known => k_is)
    (case l_law_known => k_is)
    (case c_law_known => k_is)
    (case k_law_known => k_is)
    (case a_law_column => k_is)
    (case l_law_column => k_is)
    (case c_law_column => k_is)
    (case k_law_column => k_is)
    (case a_law_deed => k_is)
    (case l_law_deed => k_is)
    (case c_law_deed => k_is)
    (case k_law_deed => k_is)
    (case a_law_asked => k_is)
    (case l_law_asked => k_is)
    (case c_law_asked => k_is)
    (case k_law_asked => k_is)
    (case a_law_moved => k_is)
    (case l_law_moved => k_is)
    (case c_law_moved => k_is)
    (case k_law_moved => k_is)
    (case a_law => k_is)
    (case l_law => k_is)
    (case c_law => k_is)
    (case k_law => k_is)
    (case cg_View => k_is)
    (case cp_View => k_is)
    (case ch_View => k_is)
    (case co_View => k_is)
    (case cs_View => k_is)
    (case cm_View => k_is)
    (case ck_View => k_is)
    (case N_View_shown => k_is)
    (case N_View_window => k_is)
    (case N_View_known => k_is)
    (case N_View_heard => k_is)
    (case N_View_asked => k_is)
    (case cg_Store => k_is)
    (case cp_Store => k_is)
    (case ch_Store => k_is)
    (case co_Store => k_is)
    (case cs_Store => k_is)
    (case cm_Store => k_is)
    (case ck_Store => k_is)
    (case N_Store_heights => k_is)
    (case N_Store_by_stretches => k_is)
    (case N_Store_deeds => k_is)
    (case N_Store_deed_times => k_is)
    (case N_Store_watches => k_is)
    (case a_View___init => k_is)
    (case i_View___init => k_is)
    (case l_View___init => k_is)
    (case c_View___init => k_is)
    (case k_View___init => k_is)
    (case a_View_hear => k_is)
    (case i_View_hear => k_is)
    (case l_View_hear => k_is)
    (case c_View_hear => k_is)
    (case k_View_hear => k_is)
    (case a_View_learn => k_is)
    (case i_View_learn => k_is)
    (case l_View_learn => k_is)
    (case c_View_learn => k_is)
    (case k_View_learn => k_is)
    (case a_View_fours => k_is)
    (case i_View_fours => k_is)
    (case l_View_fours => k_is)
    (case c_View_fours => k_is)
    (case k_View_fours => k_is)
    (case a_View_go => k_is)
    (case i_View_go => k_is)
    (case l_View_go => k_is)
    (case c_View_go => k_is)
    (case k_View_go => k_is)
    (case a_View_on => k_is)
    (case i_View_on => k_is)
    (case l_View_on => k_is)
    (case c_View_on => k_is)
    (case k_View_on => k_is)
    (case a_View_wide => k_is)
    (case i_View_wide => k_is)
    (case l_View_wide => k_is)
    (case c_View_wide => k_is)
    (case k_View_wide => k_is)
    (case a_View_narrow => k_is)
    (case i_View_narrow => k_is)
    (case l_View_narrow => k_is)
    (case c_View_narrow => k_is)
    (case k_View_narrow => k_is)
    (case a_View_columns => k_is)
    (case i_View_columns => k_is)
    (case l_View_columns => k_is)
    (case c_View_columns => k_is)
    (case k_View_columns => k_is)
    (case a_Store___init => k_is)
    (case i_Store___init => k_is)
    (case l_Store___init => k_is)
    (case c_Store___init => k_is)
    (case k_Store___init => k_is)
    (case dl_Store___init => k_is)
    (case a_Store_set_height => k_is)
    (case i_Store_set_height => k_is)
    (case l_Store_set_height => k_is)
    (case c_Store_set_height => k_is)
    (case k_Store_set_height => k_is)
    (case a_Store_set_four => k_is)
    (case i_Store_set_four => k_is)
    (case l_Store_set_four => k_is)
    (case c_Store_set_four => k_is)
    (case k_Store_set_four => k_is)
    (case a_Store_put => k_is)
    (case i_Store_put => k_is)
    (case l_Store_put => k_is)
    (case c_Store_put => k_is)
    (case k_Store_put => k_is)
    (case a_Store_take => k_is)
    (case i_Store_take => k_is)
    (case l_Store_take => k_is)
    (case c_Store_take => k_is)
    (case k_Store_take => k_is)
    (case a_Store_height => k_is)
    (case i_Store_height => k_is)
    (case l_Store_height => k_is)
    (case c_Store_height => k_is)
    (case k_Store_height => k_is)
    (case a_Store_four => k_is)
    (case i_Store_four => k_is)
    (case l_Store_four => k_is)
    (case c_Store_four => k_is)
    (case k_Store_four => k_is)
    (case a_Store_fours => k_is)
    (case i_Store_fours => k_is)
    (case l_Store_fours => k_is)
    (case c_Store_fours => k_is)
    (case k_Store_fours => k_is)
    (case a_Store_told => k_is)
    (case i_Store_told => k_is)
    (case l_Store_told => k_is)
    (case c_Store_told => k_is)
    (case k_Store_told => k_is)
    (case a_Store_watch => k_is)
    (case i_Store_watch => k_is)
    (case l_Store_watch => k_is)
    (case c_Store_watch => k_is)
    (case k_Store_watch => k_is)
    (case a_Store_news => k_is)
    (case i_Store_news => k_is)
    (case l_Store_news => k_is)
    (case c_Store_news => k_is)
    (case k_Store_news => k_is)
    (case a_Store_undo => k_is)
    (case i_Store_undo => k_is)
    (case l_Store_undo => k_is)
    (case c_Store_undo => k_is)
    (case k_Store_undo => k_is)
    (case a_Store_times => k_is)
    (case i_Store_times => k_is)
    (case l_Store_times => k_is)
    (case c_Store_times => k_is)
    (case k_Store_times => k_is)
    (case z_isinstance => k_is)
    (case z_len => k_is)
    (case z_range => k_is)
    (case z_int => k_is)
    (case z_bool => k_is)
    (case z_str => k_is)
    (case z_tuple => k_is)
    (case z_list => k_is)
    (case z_set => k_is)
    (case z_dict => k_is)
    (case z_abs => k_is)
    (case z_all => k_is)
    (case z_any => k_is)
    (case z_max => k_is)
    (case z_min => k_is)
    (case z_sum => k_is)
    (case z_sorted => k_is)
    (case z_zip => k_is)
    (case z_divmod => k_is)
    (case z_repr => k_is)
    (case z_reversed => k_is)
    (case z_ValueError => k_is)
    (case v_MOST_LEVEL => k_is)
    (case v_FIRST => k_is)
    (case v_BEHIND => k_is)
    (case xg_FourPointsError => k_is)
    (case xe_FourPointsError => k_exc)
    (case xk_FourPointsError => k_is)
    (case xb_FourPointsError => k_is)
    (case xt_FourPointsError => k_is)
    (case xg_NoColumn => k_is)
    (case xe_NoColumn => k_exc)
    (case xk_NoColumn => k_is)
    (case xb_NoColumn => k_is)
    (case xt_NoColumn => k_is)
    (case xg_NotHalf => k_is)
    (case xe_NotHalf => k_exc)
    (case xk_NotHalf => k_is)
    (case xb_NotHalf => k_is)
    (case xt_NotHalf => k_is)
    (case xg_OutOfTimes => k_is)
    (case xe_OutOfTimes => k_exc)
    (case xk_OutOfTimes => k_is)
    (case xb_OutOfTimes => k_is)
    (case xt_OutOfTimes => k_is)
    (case xg_NoSample => k_is)
    (case xe_NoSample => k_exc)
    (case xk_NoSample => k_is)
    (case xb_NoSample => k_is)
    (case xt_NoSample => k_is)
    (case xhn => k_is)
    (case xht => k_is)
    (case xd_OutOfTimes => k_is)
    (case xp_OutOfTimes => k_is)
    (case xq_OutOfTimes => k_is)
    (case xc_OutOfTimes => k_is)
    (case xm_OutOfTimes => k_is)
    (case xs_OutOfTimes_OutOfTimes => k_is)
