import PyProof.Rows.All
import Wide.All
import OpenK.AllK
import Wide.FinOn
import HandS.ForMost
import HandS.ForExc
import HandS.Wide
import HandS.EndBits
import HandS.IsInst
import HandS.TupLe
import HandS.TupAny
import HandS.Zip
import HandS.Flow
import HandS.Evl
import HandS.RevRange
import HandS.WideBits
import HandS.TryOnly
import HandS.Style
import HandS.SortInts
import HandS.More
import PyProof.StrOps2
import KE.IntTextLaws
import PySem.Challenge.RW_fourpoints_k14_whole_texts_of_curves
set_option Elab.async false
set_option linter.all false
set_option maxRecDepth 100000
set_option maxHeartbeats 4000000
/-! my own base over HandS: defs of the text, heaps that keep, readings taken step by step -/
namespace Fp
open PySem PySem.Spec PyProof.Rows L2
abbrev St := L2.St

/-! ### defs -/
/-- a def of the top that stands at the module's name x -/
structure Def (K : PySem.W.Frag) (mg : Str → Option Value) (x : Str) (st : Stmt) (ps : List Str) : Prop where
  ex : ∃ f fd, Fun K x x st f fd ∧ mg x = some (.ref f) ∧ Binds K fd ps []
/-- .. and its promise -/
structure Fn (P : Program) (w : World) (K : PySem.W.Frag) (mg : Str → Option Value) (base : Heap) (k : Nat) (x : Str) (ps : List Str) (sp : Sp) : Prop where
  ex : ∃ f fd, mg x = some (.ref f) ∧ PySem.W.keepIn K (.ref f) = true ∧ Binds K fd ps [] ∧ FnOk P w K mg base (L2.CX P w) k f fd ps sp

section
variable {P : Program} {w : World} {K : PySem.W.Frag} {mg : Str → Option Value} {base : Heap}
theorem fn_up {k : Nat} {f : Addr} {fd : FuncData} {ps : List Str} {sp : Sp} (F : FnOk P w K mg base CX0 k f fd ps sp) : FnOk P w K mg base (L2.CX P w) k f fd ps sp :=
  ⟨F.len, fun A outer s H args us vs Q E hr he hb hv hs => codeAny_mono (F.run A outer s H args us vs Q E hr he hb hv hs) fun r s' hq => by
    cases r with
    | error e => exact False.elim hq
    | ok fl => cases fl <;> exact hq⟩
/-- a def that lets nothing out -/
theorem Def.ok {x : Str} {st : Stmt} {N ps : List Str} {k : Nat} {sp : Sp} (D : Def K mg x st ps) (S : FnScope N ps (defScope st)) (len : ∀ vs H Q E, sp vs H Q E → vs.length = ps.length)
    (hbody : ∀ (f : Addr) (cdv : Value) (A : Around) (outer : List Env) (s : Shared) (H : Hp) (vs : List V) (Q : VK) (E : XK), Room k (A.deeper (envOfC x (defScope st) s.heap.objs.size f cdv)) → sp vs H Q E →
      ∃ t, PSs (cxOf CX0 P w K mg base N x (defScope st) f cdv A outer s H E).nox (defBody st) t ∧ t { nx := fun _ H' => Q .non H', rt := Q } (start N vs) H) : Fn P w K mg base (k + 1) x ps sp := by
  obtain ⟨f, fd, F, hm, hb⟩ := D.ex
  exact ⟨f, fd, hm, F.kp, hb, fn_up (F.ok S len (hbody f))⟩
/-- a def that may raise -/
theorem Def.okX {x : Str} {st : Stmt} {N ps : List Str} {k : Nat} {sp : Sp} (D : Def K mg x st ps) (S : FnScope N ps (defScope st)) (len : ∀ vs H Q E, sp vs H Q E → vs.length = ps.length)
    (hbody : ∀ (f : Addr) (cdv : Value) (A : Around) (outer : List Env) (s : Shared) (H : Hp) (vs : List V) (Q : VK) (E : XK), Room k (A.deeper (envOfC x (defScope st) s.heap.objs.size f cdv)) → sp vs H Q E →
      ∃ t, PSs (cxOf (L2.CX P w) P w K mg base N x (defScope st) f cdv A outer s H E) (defBody st) t ∧ t { nx := fun _ H' => Q .non H', rt := Q } (start N vs) H) : Fn P w K mg base (k + 1) x ps sp := by
  obtain ⟨f, fd, F, hm, hb⟩ := D.ex
  exact ⟨f, fd, hm, F.kp, hb, F.okX S len (hbody f)⟩
theorem def_mk {x : Str} {st : Stmt} {f : Addr} {fd : FuncData} {ps : List Str} (F : Fun K x x st f fd) (hm : mg x = some (.ref f)) (hb : Binds K fd ps []) : Def K mg x st ps := ⟨f, fd, F, hm, hb⟩
theorem Fn.up {k j : Nat} {x : Str} {ps : List Str} {sp : Sp} (F : Fn P w K mg base k x ps sp) (h : k ≤ j) : Fn P w K mg base j x ps sp := by
  obtain ⟨f, fd, a, b, c, d⟩ := F.ex
  exact ⟨f, fd, a, b, c, d.mono h⟩
theorem Fn.imp {k : Nat} {x : Str} {ps : List Str} {sp sp' : Sp} (F : Fn P w K mg base k x ps sp) (h : ∀ vs H Q E, sp' vs H Q E → sp vs H Q E) : Fn P w K mg base k x ps sp' := by
  obtain ⟨f, fd, a, b, c, d⟩ := F.ex
  exact ⟨f, fd, a, b, c, d.imp h⟩
end

/-! ### a call of such a def, where nothing is let out -/
def tFn (sp : Sp) (E : XK) (t : TA) : TE := fun σ H Q => t σ H fun vs H1 => sp vs H1 Q E
section
variable {X : Cx} {k j : Nat} {ps : List Str} {sp : Sp} {E : XK} {x : Str} {p pos : Pos} {e : Expr} {es : List Expr} {t : TA}
theorem pe_fnE (F : Fn X.prog X.w X.K X.mg X.base k x ps sp) (hr : Room j X.A) (hk : k ≤ j) (hg : Gl X x) (hx : Passes (L2.CX X.prog X.w) X E) (ha : PA X (e :: es) t)
    (hdb : (x == ("__debug__" : Str)) = false := by decide) (he : starEach (e :: es) X.env = (false, eval e X.env) :: starEach es X.env := by rfl) (hpl : (backTo pos (starEach es X.env)).any (·.1) = false := by rfl) :
    PE X (.Call (.Name x p) (e :: es) [] pos) (tFn sp E t) := by
  obtain ⟨f, fd, hm, hkp, hb, G⟩ := F.ex
  have h := pe_call (dvs := []) (p := p) (pos := pos) (G.mono hk) hr hg hm hkp hb .nil hx ha hdb he hpl
  have e1 : tCall sp [] E t = tFn sp E t := by
    funext σ H Q
    show t σ H (fun vs H1 => sp (vs ++ []) H1 Q E) = t σ H (fun vs H1 => sp vs H1 Q E)
    simp only [List.append_nil]
  rw [e1] at h
  exact h
theorem pe_fn0E (F : Fn X.prog X.w X.K X.mg X.base k x ps sp) (hr : Room j X.A) (hk : k ≤ j) (hg : Gl X x) (hx : Passes (L2.CX X.prog X.w) X E)
    (hdb : (x == ("__debug__" : Str)) = false := by decide) :
    PE X (.Call (.Name x p) [] [] pos) (tFn sp E tNil) := by
  obtain ⟨f, fd, hm, hkp, hb, G⟩ := F.ex
  exact pe_call0 (dvs := []) (p := p) (pos := pos) (G.mono hk) hr hg hm hkp hb .nil hx hdb
theorem pe_fn (F : Fn X.prog X.w X.K X.mg X.base k x ps sp) (hr : Room j X.A) (ha : PA X (e :: es) t) (hk : k ≤ j := by decide) (hg : Gl X x := by rfl)
    (hdb : (x == ("__debug__" : Str)) = false := by decide) (he : starEach (e :: es) X.env = (false, eval e X.env) :: starEach es X.env := by rfl) (hpl : (backTo pos (starEach es X.env)).any (·.1) = false := by rfl) :
    PE X (.Call (.Name x p) (e :: es) [] pos) (tFn sp E0 t) := pe_fnE F hr hk hg passL ha hdb he hpl
theorem pe_fn0 (F : Fn X.prog X.w X.K X.mg X.base k x ps sp) (hr : Room j X.A) (hk : k ≤ j := by decide) (hg : Gl X x := by rfl)
    (hdb : (x == ("__debug__" : Str)) = false := by decide) : PE X (.Call (.Name x p) [] [] pos) (tFn sp E0 tNil) := pe_fn0E F hr hk hg passL hdb
/-- f(..) whose exceptions are wished for at the slots (within a try, or out of this def) -/
def tFnS (sp : Sp) (E : St → XK) (t : TA) : TE := fun σ H Q => t σ H fun vs H1 => sp vs H1 Q (E σ)
theorem pe_fnS {E : St → XK} (F : Fn X.prog X.w X.K X.mg X.base k x ps sp) (hr : Room j X.A) (hk : k ≤ j) (hg : Gl X x) (hx : ∀ σ, PassesAt (L2.CX X.prog X.w) X σ (E σ)) (ha : PA X (e :: es) t)
    (hdb : (x == ("__debug__" : Str)) = false := by decide) (he : starEach (e :: es) X.env = (false, eval e X.env) :: starEach es X.env := by rfl) (hpl : (backTo pos (starEach es X.env)).any (·.1) = false := by rfl) :
    PE X (.Call (.Name x p) (e :: es) [] pos) (tFnS sp E t) := by
  obtain ⟨f, fd, hm, hkp, hb, G⟩ := F.ex
  exact pe_callS (p := p) (pos := pos) (G.mono hk) hr hg hm hkp hb hx ha hdb he hpl
end

/-! ### what of the built-ins no name of the module hides -/
structure Blt (mg : Str → Option Value) : Prop where
  isinstance : mg "isinstance" = none
  len : mg "len" = none
  range : mg "range" = none
  int : mg "int" = none
  bool : mg "bool" = none
  str : mg "str" = none
  tuple : mg "tuple" = none
  list : mg "list" = none
  set : mg "set" = none
  dict : mg "dict" = none
  abs : mg "abs" = none
  all : mg "all" = none
  any : mg "any" = none
  max : mg "max" = none
  min : mg "min" = none
  sum : mg "sum" = none
  sorted : mg "sorted" = none
  zip : mg "zip" = none
  divmod : mg "divmod" = none
  repr : mg "repr" = none
  reversed : mg "reversed" = none
  ValueError : mg "ValueError" = none

/-! ### heaps: all stays but what F names -/
def Keep (F : Addr → Prop) (H H' : Hp) : Prop := ∀ b o, H b = some o → ¬ F b → H' b = some o
abbrev No : Addr → Prop := fun _ => False
abbrev At (p : Addr) : Addr → Prop := fun b => b = p
theorem Keep.refl {F : Addr → Prop} (H : Hp) : Keep F H H := fun _ _ h _ => h
theorem Keep.trans {F : Addr → Prop} {H H1 H2 : Hp} (a : Keep F H H1) (b : Keep F H1 H2) : Keep F H H2 := fun c o h n => b c o (a c o h n) n
theorem Keep.mono {F G : Addr → Prop} {H H' : Hp} (a : Keep F H H') (h : ∀ b, F b → G b) : Keep G H H' := fun c o e n => a c o e fun z => n (h c z)
theorem Keep.of_same {F : Addr → Prop} {H H' : Hp} (a : Same H H') : Keep F H H' := fun c o e _ => a c o e
theorem Keep.same {H H' : Hp} (a : Keep No H H') : Same H H' := fun c o e => a c o e fun z => z
theorem Keep.new {F : Addr → Prop} {H : Hp} {p : Addr} {o : HO} (h : H p = none) : Keep F H (upd H p o) := fun b u e _ => by rw [upd_ne (ne_of_none e h)]; exact e
theorem Keep.at_ {H : Hp} {p : Addr} {o : HO} : Keep (At p) H (upd H p o) := fun b u e n => by rw [upd_ne n]; exact e
/-- what was free at the start may change -/
theorem Keep.free {F : Addr → Prop} {H H' : Hp} {p : Addr} {o : HO} (a : Keep F H H') (h : H p = none) : Keep F H (upd H' p o) := fun b u e n => by
  rw [upd_ne (ne_of_none e h)]; exact a b u e n
theorem Keep.put {F : Addr → Prop} {H H' : Hp} {p : Addr} {o : HO} (a : Keep F H H') (h : F p) : Keep F H (upd H' p o) := fun b u e n => by
  rw [upd_ne fun z => n (by rw [z]; exact h)]; exact a b u e n
theorem Keep.back {F : Addr → Prop} {H H' : Hp} (a : Keep F H H') {p : Addr} (h : H' p = none) (n : ¬ F p) : H p = none := by
  cases q : H p with
  | none => rfl
  | some o => rw [a p o q n] at h; cases h
theorem Keep.app {F : Addr → Prop} {H H' : Hp} {a : Addr} {o : HO} (k : Keep F H H') (e : H a = some o) (n : ¬ F a) : H' a = some o := k a o e n
theorem same_app {H H' : Hp} {a : Addr} {o : HO} (k : Same H H') (e : H a = some o) : H' a = some o := k a o e
/-- the tuples, and what is locked, stay, whatever else is done -/
structure TExt (H H' : Hp) : Prop where
  t : ∀ a xs, Rd H a (.tup xs) → Rd H' a (.tup xs)
  f : ∀ a o u, H a = some (.frz o u) → H' a = some (.frz o u)
theorem Keep.text {F : Addr → Prop} {H H' : Hp} (a : Keep F H H') (h : ∀ b, F b → Mut (H b)) : TExt H H' := by
  have nt : ∀ b xs, H b = some (.tup xs) → ¬ F b := fun b xs e z => by have m := h b z; rw [e] at m; exact m
  have nf : ∀ b o u, H b = some (.frz o u) → ¬ F b := fun b o u e z => by have m := h b z; rw [e] at m; exact m
  refine ⟨fun b xs r => ?_, fun b o u e => a b _ e (nf b o u e)⟩
  rcases r with r | ⟨o, r⟩
  · exact .inl (a b _ r (nt b xs r))
  · exact .inr ⟨o, a b _ r (nf b o _ r)⟩
theorem TExt.refl (H : Hp) : TExt H H := ⟨fun _ _ h => h, fun _ _ _ h => h⟩
theorem TExt.trans {H H1 H2 : Hp} (a : TExt H H1) (b : TExt H1 H2) : TExt H H2 := ⟨fun c xs h => b.t c xs (a.t c xs h), fun c o u h => b.f c o u (a.f c o u h)⟩
theorem TExt.of_same {H H' : Hp} (a : Same H H') : TExt H H' := ⟨fun b xs r => by
  rcases r with r | ⟨o, r⟩
  · exact .inl (a b _ r)
  · exact .inr ⟨o, a b _ r⟩, fun b o u e => a b _ e⟩
theorem TExt.lst {H H' : Hp} {p : Addr} {ys : List V} (k : Keep (At p) H H') (h : H p = some (.lst ys)) : TExt H H' := k.text fun b e => by rw [show b = p from e, h]; trivial
theorem SqT.text {K : PySem.W.Frag} {H H' : Hp} {a : Addr} {xs : List V} (e : TExt H H') (h : SqT K H a xs) : SqT K H' a xs := by
  rcases h with h | h
  · exact .inl (e.t a xs h)
  · exact .inr h
/-- the script: locked, or written -/
def Scr (K : PySem.W.Frag) (H : Hp) (a : Addr) (ns : List Int) : Prop := SqL K H a (ns.map V.int) ∧ ∀ H', TExt H H' → SqL K H' a (ns.map V.int)
theorem Scr.text {K : PySem.W.Frag} {H H' : Hp} {a : Addr} {ns : List Int} (h : Scr K H a ns) (e : TExt H H') : Scr K H' a ns := ⟨h.2 H' e, fun H2 e2 => h.2 H2 (e.trans e2)⟩
theorem scr_sql {K : PySem.W.Frag} {H H' : Hp} {a : Addr} {ns : List Int} (h : Scr K H a ns) (e : TExt H H') : SqL K H' a (ns.map V.int) := h.2 H' e
theorem Scr.of {K : PySem.W.Frag} {H : Hp} {a : Addr} {ns : List Int} (hO : Only H) (h : SqL K H a (ns.map V.int)) : Scr K H a ns := by
  refine ⟨h, fun H' e => ?_⟩
  rcases h with (h | ⟨o, h⟩) | h
  · rcases hO a with z | ⟨o, xs, z⟩
    · rw [z] at h; cases h
    · rw [z] at h; cases h
  · exact .inl (.inr ⟨o, e.f a o _ h⟩)
  · exact .inr h

/-! ### data: as L2.Dp tells; data without lists stays where tuples stay -/
mutual
def imm : PyData → Bool
  | .list _ => false
  | .dict _ => false
  | .tuple xs => immAll xs
  | _ => true
def immAll : List PyData → Bool
  | [] => true
  | x :: xs => imm x && immAll xs
end
section
variable {K : PySem.W.Frag} {H H' : Hp}
mutual
theorem Dp.text (e : TExt H H') : ∀ (d : PyData) (v : V), imm d = true → Dp K H v d → Dp K H' v d
  | .none, _, _, h => by cases h; exact .non
  | .bool b, _, _, h => by cases h; exact .bl b
  | .int i, _, _, h => by cases h; exact .int i
  | .str x, _, _, h => by cases h; exact .str x
  | .list _, _, hi, _ => by simp [imm] at hi
  | .dict _, _, hi, _ => by simp [imm] at hi
  | .tuple ds, _, hi, h => by
    cases h with
    | tup hs ha => exact .tup (SqT.text e hs) (DpAll.text e ds _ (by simpa [imm] using hi) ha)
theorem DpAll.text (e : TExt H H') : ∀ (ds : List PyData) (vs : List V), immAll ds = true → DpAll K H vs ds → DpAll K H' vs ds
  | [], _, _, h => by cases h; exact .nil
  | d :: ds, _, hi, h => by
    have hi2 : imm d = true ∧ immAll ds = true := by simpa [immAll] using hi
    cases h with
    | cons h1 h2 => exact .cons (Dp.text e d _ hi2.1 h1) (DpAll.text e ds _ hi2.2 h2)
end
mutual
theorem Dp.same (e : Same H H') : ∀ (d : PyData) (v : V), Dp K H v d → Dp K H' v d
  | .none, _, h => by cases h; exact .non
  | .bool b, _, h => by cases h; exact .bl b
  | .int i, _, h => by cases h; exact .int i
  | .str x, _, h => by cases h; exact .str x
  | .list ds, _, h => by
    cases h with
    | lst hs ha => exact .lst (e.seq hs) (DpAll.same e ds _ ha)
  | .dict _, _, h => by cases h
  | .tuple ds, _, h => by
    cases h with
    | tup hs ha => exact .tup (SqT.text (TExt.of_same e) hs) (DpAll.same e ds _ ha)
theorem DpAll.same (e : Same H H') : ∀ (ds : List PyData) (vs : List V), DpAll K H vs ds → DpAll K H' vs ds
  | [], _, h => by cases h; exact .nil
  | d :: ds, _, h => by
    cases h with
    | cons h1 h2 => exact .cons (Dp.same e d _ h1) (DpAll.same e ds _ h2)
end
end
theorem immAll_map {α : Type} (f : α → PyData) (h : ∀ x, imm (f x) = true) : ∀ xs : List α, immAll (xs.map f) = true
  | [] => rfl
  | x :: xs => by simp [immAll, h x, immAll_map f h xs]

/-! ### readings, one step each: what is left is what follows -/
section
variable {K : PySem.W.Frag} {σ : St} {H : Hp} {Q : VK} {v x y : V} {ta tb tc te : TE} {r : R2} {t : TA} {tt uu : TT} {tu tw : TS} {nx bk ct : St → Hp → Prop} {rt : VK} {A B : Prop}
theorem r_var {i : Nat} (h : σ[i]? = some (some v)) (q : Q v H) : tVar i σ H Q := ⟨v, h, q⟩
theorem r_c (q : Q v H) : tC v σ H Q := q
theorem r_op (q : ta σ H fun x H1 => tb σ H1 fun y H2 => r x y H2 Q) : tOp r ta tb σ H Q := q
theorem r_un {u : V → Hp → VK → Prop} (q : ta σ H fun x H1 => u x H1 Q) : tUn u ta σ H Q := q
theorem r_I0 {g : Int → Int → V} {i j : Int} (q : Q (g i j) H) : rI0 g (.int i) (.int j) H Q := ⟨i, j, rfl, rfl, q⟩
theorem r_I {C : Int → Int → Prop} {g : Int → Int → V} {i j : Int} (hc : C i j) (q : Q (g i j) H) : rI C g (.int i) (.int j) H Q := ⟨i, j, rfl, rfl, hc, q⟩
theorem r_U {g : Int → V} {i : Int} (q : Q (g i) H) : rU g (.int i) H Q := ⟨i, rfl, q⟩
theorem r_eqi {i j : Int} (q : Q (.bl (decide (i = j))) H) : rEq (.int i) (.int j) H Q := ⟨rfl, by
  have e : decide (V.int i = V.int j) = decide (i = j) := by rw [Bool.eq_iff_iff]; simp
  rw [e]; exact q⟩
theorem r_nei {i j : Int} (q : Q (.bl (!decide (i = j))) H) : rNe (.int i) (.int j) H Q := ⟨rfl, by
  have e : decide (V.int i = V.int j) = decide (i = j) := by rw [Bool.eq_iff_iff]; simp
  rw [e]; exact q⟩
theorem r_cons {tr : TA} {Q : List V → Hp → Prop} (q : te σ H fun x H1 => tr σ H1 fun xs H2 => Q (x :: xs) H2) : tCons te tr σ H Q := q
theorem r_nil {Q : List V → Hp → Prop} (q : Q [] H) : tNil σ H Q := q
theorem r_fn {sp : Sp} {E : XK} (q : t σ H fun vs H1 => sp vs H1 Q E) : tFn sp E t σ H Q := q
theorem r_fnS {sp : Sp} {E : St → XK} (q : t σ H fun vs H1 => sp vs H1 Q (E σ)) : tFnS sp E t σ H Q := q
theorem r_CB {u : List V → Hp → VK → Prop} (q : t σ H fun vs H1 => u vs H1 Q) : tCB u t σ H Q := q
/-- a new object -/
def uNew (o : HO) (n : Nat) (H : Hp) (Q : VK) : Prop := n ≤ sizeLine ∧ ∀ p, H p = none → Q (.ref p) (upd H p o)
theorem r_tup (q : t σ H fun xs H1 => uNew (.tup xs) xs.length H1 Q) : tTup t σ H Q := q
theorem r_lst (q : t σ H fun xs H1 => uNew (.lst xs) xs.length H1 Q) : tLst t σ H Q := q
theorem r_new {o : HO} {n : Nat} (hn : n ≤ sizeLine) (q : ∀ p H', H p = none → Same H H' → H' p = some o → Q (.ref p) H') : uNew o n H Q :=
  ⟨hn, fun p hp => q p _ hp (Keep.same (Keep.new hp)) upd_same⟩
theorem sz_lit {n : Nat} (h : Nat.ble n 100000 = true) : n ≤ sizeLine := by
  rw [sizeLine_eq]
  exact Nat.le_trans (Nat.le_of_ble_eq_true h) (by decide)
theorem sz_le {n : Nat} (h : n ≤ 16777216) : n ≤ sizeLine := by rw [sizeLine_eq]; exact h
/-! rules with K by name -/
section
variable {X : Cx}
theorem opK (K : PySem.W.Frag) {f : Value → Value → Sem Value} {r : PySem.W.Frag → R2} (h : OpR X f (r X.K)) (hK : X.K = K := by rfl) : OpR X f (r K) := hK ▸ h
theorem ixK (K : PySem.W.Frag) {r : PySem.W.Frag → R2} (h : IxR X (r X.K)) (hK : X.K = K := by rfl) : IxR X (r K) := hK ▸ h
theorem slK (K : PySem.W.Frag) {r : PySem.W.Frag → V → Option Int → Option Int → Hp → VK → Prop} (h : SlR X (r X.K)) (hK : X.K = K := by rfl) : SlR X (r K) := hK ▸ h
theorem crK (K : PySem.W.Frag) {f : Value} {r : PySem.W.Frag → List V → Hp → VK → Prop} (h : CallR X f (r X.K)) (hK : X.K = K := by rfl) : CallR X f (r K) := hK ▸ h
variable {o e l tg value : Expr} {es : List Expr} {to te tl tv : TE} {t : TA} {ts : TGs} {name f : Str} {apos cpos pos pos' tpos : Pos} {T id : String} {r : V → List V → Hp → VK → Prop} {n k : Nat}
theorem piK_list (K : PySem.W.Frag) (hl : PE X l tl) (hK : X.K = K := by rfl) : PI X tg l (iList K tl) := hK ▸ pi_list hl
theorem piK_tup (K : PySem.W.Frag) (hl : PE X l tl) (hK : X.K = K := by rfl) : PI X tg l (iTup K tl) := hK ▸ pi_tup hl
/-- what is walked is a list or a tuple -/
def iSeq (K : PySem.W.Frag) (tl : TE) : TI := fun σ H R => iList K tl σ H R ∨ iTup K tl σ H R
theorem piK_seq (K : PySem.W.Frag) (hl : PE X l tl) (hK : X.K = K := by rfl) : PI X tg l (iSeq K tl) := by
  subst hK
  exact ⟨fun pins s σ H R I h => h.elim ((pi_list hl).run pins s σ H R I) ((pi_tup hl).run pins s σ H R I)⟩
theorem peK_revL (K : PySem.W.Frag) {kk : Nat} {p1 p2 p3 : Pos} (he : PE X e te) (hK : X.K = K := by rfl) : PE X (.Subscript e (.Slice none none (some (.UnaryOp .USub (.Constant (.int 1) kk p1) p2)) p3) pos) (tRevL K te) := hK ▸ pe_revL he
theorem piK_zip (K : PySem.W.Frag) {e2 : Expr} {kk : Nat} {elts : List Expr} {p : Pos} (hm : X.mg "zip" = none) (ha : PA X [e, e2] t) (hg : Gl X "zip" := by rfl)
    (hs : starEach [e, e2] X.env = (false, eval e X.env) :: starEach [e2] X.env := by rfl) (hpl : (backTo pos (starEach [e2] X.env)).any (·.1) = false := by rfl) (hK : X.K = K := by rfl) :
    PI X (.Tuple elts kk tpos) (.Call (.Name "zip" p) [e, e2] [] pos) (RZ.iZipA K t) := hK ▸ RZ.pi_zipA hg hm ha hs hpl
theorem pgK_tup (K : PySem.W.Frag) (hc : X.calm = true) (h : PGs X es ts) (hn : (assignEach es X.env).length = n := by rfl) (hst : (assignEach es X.env).findIdx? (·.1) = none := by rfl) (hK : X.K = K := by rfl) : PG X (.Tuple es k pos) (gTup K n ts) := hK ▸ pg_tup hc h hn hst
theorem pgK_lst (K : PySem.W.Frag) (hc : X.calm = true) (h : PGs X es ts) (hn : (assignEach es X.env).length = n := by rfl) (hst : (assignEach es X.env).findIdx? (·.1) = none := by rfl) (hK : X.K = K := by rfl) : PG X (.Tuple es k pos) (gLst K n ts) := hK ▸ pg_lst hc h hn hst
theorem peK_fld (K : PySem.W.Frag) (he : PE X e te) (hb : attributeBase e f X.env (eval e X.env) = eval e X.env := by rfl) (hK : X.K = K := by rfl) : PE X (.Attribute e f pos) (tFld K te f) := hK ▸ pe_fld he hb
theorem peK_bm0 (K : PySem.W.Frag) (pa : PlainAttrs T) (slot : Slot T name id) (hty : typeOf (.builtin id) = pure (.type "method_descriptor")) (hm : MtR X id r) (ho : PE X o to)
    (hbase : attributeBase o name X.env (eval o X.env) = eval o X.env := by rfl) (hline : (apos.endLine == cpos.line) = true := by rfl) (hK : X.K = K := by rfl) : PE X (.Call (.Attribute o name apos) [] [] cpos) (tBM0 K T r to) := hK ▸ pe_bm0 pa slot hty hm ho hbase hline
theorem peK_bm (K : PySem.W.Frag) (pa : PlainAttrs T) (slot : Slot T name id) (hty : typeOf (.builtin id) = pure (.type "method_descriptor")) (hm : MtR X id r) (ho : PE X o to) (ha : PA X (e :: es) t)
    (hbase : attributeBase o name X.env (eval o X.env) = eval o X.env := by rfl)
    (hfew : ((backTo cpos (starEach (e :: es) X.env)).all (fun x => !x.1) && (backToKw cpos (keywordEach [] X.env)).all (fun x => x.1.isSome)
      && decide ((e :: es).length + ([] : List Keyword).length + (if ([] : List Keyword).isEmpty then 0 else 1) < 30)) = true := by rfl)
    (hline : (apos.endLine == cpos.line) = true := by rfl) (hs : starEach (e :: es) X.env = (false, eval e X.env) :: starEach es X.env := by rfl) (hplain : (backTo cpos (starEach es X.env)).any (·.1) = false := by rfl) (hK : X.K = K := by rfl) :
    PE X (.Call (.Attribute o name apos) (e :: es) [] cpos) (tBM K T r to t) := hK ▸ pe_bm pa slot hty hm ho ha hbase hfew hline hs hplain
theorem psK_fld (K : PySem.W.Frag) (ha : PE X o to) (hv : PE X value tv) (hs : swapsWith value (some (.Attribute o f pos')) pos.line X.env = pure false := by rfl) (hK : X.K = K := by rfl) : PS X (.Assign [.Attribute o f pos'] value pos) (sFld K to tv f) := hK ▸ ps_fld ha hv hs
theorem psK_fldaug (K : PySem.W.Frag) {op : Operator} {rd : V → V → Hp → VK → Prop} (ha : PE X o to) (hv : PE X value tv) (hop : InOp X op rd) (hK : X.K = K := by rfl) : PS X (.AugAssign (.Attribute o f tpos) op value pos) (sFldAug K to tv rd f) := hK ▸ ps_fldaug ha hv hop
end
/-! tests -/
theorem r_test {Q : Bool → Hp → Prop} (q : te σ H fun x H' => ∃ k, x = .bl k ∧ Q k H') : tTest te σ H Q := q
theorem r_B {Q : Bool → Hp → Prop} (q : te σ H fun x H' => ∃ k, x = .bl k ∧ Q k H') : tB te σ H Q := q
theorem r_bl {b : Bool} {Q : Bool → Prop} (q : Q b) : ∃ k, V.bl b = .bl k ∧ Q k := ⟨b, rfl, q⟩
theorem r_and {Q : Bool → Hp → Prop} (q : tt σ H fun c H1 => if c = true then uu σ H1 Q else Q false H1) : tAnd tt uu σ H Q := q
theorem r_or {Q : Bool → Hp → Prop} (q : tt σ H fun c H1 => if c = true then Q true H1 else uu σ H1 Q) : tOr tt uu σ H Q := q
theorem r_yes {Q : Bool → Hp → Prop} (q : Q true H) : tYes σ H Q := q
theorem r_not {Q : Bool → Hp → Prop} (q : tt σ H fun c H1 => Q (!c) H1) : tNot tt σ H Q := q
theorem r_andV (q : ta σ H fun x H1 => ∃ c, x = .bl c ∧ if c = true then tb σ H1 Q else Q (.bl false) H1) : tAndV ta tb σ H Q := q
theorem r_orV (q : ta σ H fun x H1 => ∃ c, x = .bl c ∧ if c = true then Q (.bl true) H1 else tb σ H1 Q) : tOrV ta tb σ H Q := q
theorem r_notV (q : ta σ H fun x H1 => ∃ c, x = .bl c ∧ Q (.bl (!c)) H1) : tNotV ta σ H Q := q
theorem r_if (q : tt σ H fun c H1 => if c = true then ta σ H1 Q else tb σ H1 Q) : tIf tt ta tb σ H Q := q
theorem r_chain {r' : R2} (q : ta σ H fun x H1 => tb σ H1 fun y H2 => r x y H2 fun z H3 => ∃ k, z = .bl k ∧ (if k = true then tc σ H3 fun w' H4 => r' y w' H4 Q else Q (.bl false) H3)) : tChain r r' ta tb tc σ H Q := q
theorem i_T (q : A) : if true = true then A else B := by rw [if_pos rfl]; exact q
theorem i_F (q : B) : if false = true then A else B := by rw [if_neg Bool.false_ne_true]; exact q
theorem i_NT (q : B) : if (!true) = true then A else B := by rw [if_neg (by decide)]; exact q
theorem i_NF (q : A) : if (!false) = true then A else B := by rw [if_pos (by decide)]; exact q
theorem i_pos {c : Prop} [Decidable c] (h : c) (q : A) : if decide c = true then A else B := by rw [if_pos (decide_eq_true h)]; exact q
theorem i_neg {c : Prop} [Decidable c] (h : ¬ c) (q : B) : if decide c = true then A else B := by rw [if_neg (by simpa using h)]; exact q
theorem i_npos {c : Prop} [Decidable c] (h : ¬ c) (q : A) : if (!decide c) = true then A else B := by rw [if_pos (by simpa using h)]; exact q
theorem i_nneg {c : Prop} [Decidable c] (h : c) (q : B) : if (!decide c) = true then A else B := by rw [if_neg (by simpa using h)]; exact q
theorem i_cases {c : Prop} [Decidable c] (p : c → A) (n : ¬ c → B) : if decide c = true then A else B := by
  by_cases h : c
  · exact i_pos h (p h)
  · exact i_neg h (n h)
theorem i_ncases {c : Prop} [Decidable c] (p : ¬ c → A) (n : c → B) : if (!decide c) = true then A else B := by
  by_cases h : c
  · exact i_nneg h (n h)
  · exact i_npos h (p h)
theorem i_bool {b : Bool} (p : b = true → A) (n : b = false → B) : if b = true then A else B := by
  cases b with
  | true => exact i_T (p rfl)
  | false => exact i_F (n rfl)
/-- two at once -/
def uPar (i j : Nat) (vs : List V) (σ : St) (H : Hp) (nx : St → Hp → Prop) : Prop := ∃ v w, vs = [v, w] ∧ nx ((σ.set i (some v)).set j (some w)) H
/-! statements -/
theorem r_next (q : nx σ H) : tNext ⟨nx, rt, bk, ct⟩ σ H := q
theorem r_brk (q : bk σ H) : tBreak ⟨nx, rt, bk, ct⟩ σ H := q
theorem r_cont (q : ct σ H) : tCont ⟨nx, rt, bk, ct⟩ σ H := q
theorem r_seq (q : tu ⟨tw ⟨nx, rt, bk, ct⟩, rt, bk, ct⟩ σ H) : tSeq tu tw ⟨nx, rt, bk, ct⟩ σ H := q
theorem r_asg {i : Nat} (q : te σ H fun v H1 => nx (σ.set i (some v)) H1) : tAsg te (gName i) ⟨nx, rt, bk, ct⟩ σ H := q
theorem r_asgG {g : TG} (q : te σ H fun v H1 => g v σ H1 nx) : tAsg te g ⟨nx, rt, bk, ct⟩ σ H := q
theorem r_aug {i : Nat} {x : V} {ti : TIp} (h : σ[i]? = some (some x)) (q : te σ H fun y H1 => ti x y H1 fun z H2 => nx (σ.set i (some z)) H2) : tAug i te ti ⟨nx, rt, bk, ct⟩ σ H := ⟨x, h, q⟩
theorem r_ipI {g : Int → Int → Int} {i j : Int} (q : Q (.int (g i j)) H) : ipI g (.int i) (.int j) H Q := ⟨i, j, rfl, rfl, q⟩
theorem r_par {i j : Nat} (q : t σ H fun vs H1 => uPar i j vs σ H1 nx) : tPar i j t ⟨nx, rt, bk, ct⟩ σ H := q
theorem r_par2 {i j : Nat} {R : St → Hp → Prop} (q : R ((σ.set i (some x)).set j (some y)) H) : uPar i j [x, y] σ H R := ⟨x, y, rfl, q⟩
theorem r_drop (q : te σ H fun _ H1 => nx σ H1) : tDrop te ⟨nx, rt, bk, ct⟩ σ H := q
theorem r_ret (q : te σ H rt) : tRet te ⟨nx, rt, bk, ct⟩ σ H := q
theorem r_retN (q : rt .non H) : tRetN ⟨nx, rt, bk, ct⟩ σ H := q
theorem r_ifS (q : tt σ H fun b H1 => if b = true then tu ⟨nx, rt, bk, ct⟩ σ H1 else tw ⟨nx, rt, bk, ct⟩ σ H1) : tIfS tt tu tw ⟨nx, rt, bk, ct⟩ σ H := q
theorem r_start {tu : TS} {D : Ends} {N : List Str} {vs : List V} {σ' : St} (e : start N vs = σ') (q : tu D σ' H) : tu D (start N vs) H := by rw [e]; exact q
theorem r_set {i : Nat} {σ' : St} {P : St → Prop} (e : σ.set i (some v) = σ') (q : P σ') : P (σ.set i (some v)) := by rw [e]; exact q
end

/-! ### numbers of any size -/
theorem intBits_small {i : Int} {n : Nat} (h : i.natAbs < 2 ^ n) : Builtin.Int.intBits i ≤ n := by
  unfold Builtin.Int.intBits
  split
  · omega
  · rename_i h0
    have h1 : i.natAbs ≠ 0 := by simpa using h0
    have := (Nat.log2_lt h1).mpr h
    omega
theorem mul_l {i j : Int} (h1 : -(2 ^ 64) < i) (h2 : i < 2 ^ 64) : IntMulOk i j := .of_left (intBits_le_64 h1 h2)
theorem mul_r {i j : Int} (h1 : -(2 ^ 64) < j) (h2 : j < 2 ^ 64) : IntMulOk i j := .of_right (intBits_le_64 h1 h2)
theorem mul_b {i j : Int} {n m : Nat} (h1 : i.natAbs < 2 ^ n) (h2 : j.natAbs < 2 ^ m) (hn : n ≤ 1048576 := by decide) (hm : m ≤ 1048576 := by decide) : IntMulOk i j :=
  .of_bits (Nat.le_trans (intBits_small h1) (Nat.le_trans hn (by decide))) (Nat.le_trans (intBits_small h2) (Nat.le_trans hm (by decide)))
theorem div_b {i j : Int} {n : Nat} (h0 : 0 < j) (h : j.natAbs < 2 ^ n) (hn : n ≤ 9000 := by decide) (h1 : 0 < n := by decide) : CDivW i j := wide_div h0 h h1 hn
section
variable {X : Cx}
theorem op_mulY : OpR X (binaryOp .Mult) (rI IntMulOk fun i j => .int (i * j)) := opI fun _ _ _ _ _ _ _ hc q => mul_int q hc
theorem pe_powC {i j z : Int} {a b : Nat} {p1 p2 pos : Pos} (h : 0 ≤ j ∧ j ≤ 1000000 ∧ i.natAbs < 2 ^ 64) (e : i ^ j.toNat = z) :
    PE X (.BinOp (.Constant (.int i) a p1) .Pow (.Constant (.int j) b p2) pos) (tC (.int z)) := by
  have h1 : PE X (.BinOp (.Constant (.int i) a p1) .Pow (.Constant (.int j) b p2) pos) (tOp (rI CPow fun i j => .int (i ^ j.toNat)) (tC (.int i)) (tC (.int j))) := pe_op op_pow pe_int pe_int
  exact ⟨fun pins s σ H Q I q => h1.run pins s σ H Q I ⟨i, j, rfl, rfl, h, by
    show Q (.int (i ^ j.toNat)) H
    rw [e]; exact q⟩⟩
/-! ### built-ins by names of mine, that steps may see them -/
def uInt1 : List V → Hp → VK → Prop := fun xs H Q => (∃ i, xs = [.int i] ∧ Q (.int i) H) ∨ ∃ k, xs = [.bl k] ∧ Q (.int (if k then 1 else 0)) H
theorem c_int1 : CallR X (.type "int") uInt1 := call_int1
def uLen (K : PySem.W.Frag) : List V → Hp → VK → Prop := fun xs H Q => ∃ x n, xs = [x] ∧ LenV K x H n ∧ Q (.int n) H
theorem c_len : CallR X (.builtin "len") (uLen X.K) := call_len
def uAbs : List V → Hp → VK → Prop := fun xs H Q => ∃ i, xs = [.int i] ∧ Q (.int (if i < 0 then -i else i)) H
theorem c_abs : CallR X (.builtin "abs") uAbs := call_abs
def uMax2 : List V → Hp → VK → Prop := fun xs H Q => ∃ i j, xs = [.int i, .int j] ∧ Q (.int (if j > i then j else i)) H
theorem c_max2 (hc : X.calm = true) : CallR X (.builtin "max") uMax2 := call_max2 hc
def uMin2 : List V → Hp → VK → Prop := fun xs H Q => ∃ i j, xs = [.int i, .int j] ∧ Q (.int (if j < i then j else i)) H
theorem c_min2 (hc : X.calm = true) : CallR X (.builtin "min") uMin2 := call_min2 hc
def uStr : List V → Hp → VK → Prop := fun xs H Q => ∃ i, xs = [.int i] ∧ i.natAbs.log2 < 1920 ∧ Q (.str (toString i)) H
theorem c_str : CallR X (.type "str") uStr := call_str_int
def uTuple (K : PySem.W.Frag) : List V → Hp → VK → Prop := fun xs H Q => ∃ p ys, xs = [.ref p] ∧ ((SqL K H p ys ∧ ∀ l, H l = none → Q (.ref l) (upd H l (.tup ys))) ∨ (SqT K H p ys ∧ Q (.ref p) H))
theorem c_tuple : CallR X (.type "tuple") (uTuple X.K) := call_tuple_of
def uList (K : PySem.W.Frag) : List V → Hp → VK → Prop := fun xs H Q => ∃ p ys, xs = [.ref p] ∧ (SqL K H p ys ∨ SqT K H p ys) ∧ ∀ l, H l = none → Q (.ref l) (upd H l (.lst ys))
theorem c_list : CallR X (.type "list") (uList X.K) := call_list_of
def uIsB : R2 := fun x y H Q => ∃ a b, x = .bl a ∧ y = .bl b ∧ Q (.bl (decide (a = b))) H
theorem o_isB : OpR X (compareOp .Is) uIsB := op_is_bl
def uNotB : R2 := fun x y H Q => ∃ a b, x = .bl a ∧ y = .bl b ∧ Q (.bl (!decide (a = b))) H
theorem o_notB : OpR X (compareOp .IsNot) uNotB := op_isnot_bl
def uIsN : R2 := fun x y H Q => y = .non ∧ Q (.bl (decide (x = .non))) H
theorem o_isN : OpR X (compareOp .Is) uIsN := op_isN
def uNotN : R2 := fun x y H Q => y = .non ∧ Q (.bl (!decide (x = .non))) H
theorem o_notN : OpR X (compareOp .IsNot) uNotN := op_notN
/-- == of anything: scalars, data -/
def uEq (K : PySem.W.Frag) : R2 := fun x y H Q => rEq x y H Q ∨ rEqD K x y H Q
theorem o_eq (hu : X.A.units + 64 < cLine) : OpR X (compareOp .Eq) (uEq X.K) := op_eq.or (op_eqD hu)
def uNe (K : PySem.W.Frag) : R2 := fun x y H Q => rNe x y H Q ∨ rNeD K x y H Q
theorem o_ne (hu : X.A.units + 64 < cLine) : OpR X (compareOp .NotEq) (uNe X.K) := op_ne.or (op_neD hu)
end
section
variable {K : PySem.W.Frag} {σ : St} {H : Hp} {Q : VK} {v x y : V} {i j : Int} {a p : Addr} {xs : List V}
theorem r_int_i (q : Q (.int i) H) : uInt1 [.int i] H Q := .inl ⟨i, rfl, q⟩
theorem r_int_b {k : Bool} (q : Q (.int (if k = true then 1 else 0)) H) : uInt1 [.bl k] H Q := .inr ⟨k, rfl, q⟩
theorem r_len_l {n : Nat} (h : SqL K H a xs) (e : xs.length = n) (q : Q (.int n) H) : uLen K [.ref a] H Q := ⟨_, _, rfl, .inl ⟨xs, h, e.symm⟩, q⟩
theorem r_len_t {n : Nat} (h : SqT K H a xs) (e : xs.length = n) (q : Q (.int n) H) : uLen K [.ref a] H Q := ⟨_, _, rfl, .inr ⟨xs, h, e.symm⟩, q⟩
theorem r_len_s {z : Str} (h : z.length ≤ sizeLine) (q : Q (.int z.length) H) : uLen K [.str z] H Q := ⟨_, _, rfl, ⟨h, rfl⟩, q⟩
theorem r_abs (q : Q (.int (if i < 0 then -i else i)) H) : uAbs [.int i] H Q := ⟨i, rfl, q⟩
theorem r_max2 (q : Q (.int (if j > i then j else i)) H) : uMax2 [.int i, .int j] H Q := ⟨i, j, rfl, q⟩
theorem r_min2 (q : Q (.int (if j < i then j else i)) H) : uMin2 [.int i, .int j] H Q := ⟨i, j, rfl, q⟩
theorem r_tuple_l (h : SqL K H p xs) (q : ∀ l H', H l = none → Same H H' → H' l = some (.tup xs) → Q (.ref l) H') : uTuple K [.ref p] H Q := ⟨p, xs, rfl, .inl ⟨h, fun l hl => q l _ hl (Keep.same (Keep.new hl)) upd_same⟩⟩
theorem r_tuple_t (h : SqT K H p xs) (q : Q (.ref p) H) : uTuple K [.ref p] H Q := ⟨p, xs, rfl, .inr ⟨h, q⟩⟩
theorem r_list_l (h : SqL K H p xs) (q : ∀ l H', H l = none → Same H H' → H' l = some (.lst xs) → Q (.ref l) H') : uList K [.ref p] H Q := ⟨p, xs, rfl, .inl h, fun l hl => q l _ hl (Keep.same (Keep.new hl)) upd_same⟩
theorem r_list_t (h : SqT K H p xs) (q : ∀ l H', H l = none → Same H H' → H' l = some (.lst xs) → Q (.ref l) H') : uList K [.ref p] H Q := ⟨p, xs, rfl, .inr h, fun l hl => q l _ hl (Keep.same (Keep.new hl)) upd_same⟩
theorem r_isB {b c : Bool} (q : Q (.bl (decide (b = c))) H) : uIsB (.bl b) (.bl c) H Q := ⟨b, c, rfl, rfl, q⟩
theorem r_notB {b c : Bool} (q : Q (.bl (!decide (b = c))) H) : uNotB (.bl b) (.bl c) H Q := ⟨b, c, rfl, rfl, q⟩
theorem r_isN_n (q : Q (.bl true) H) : uIsN .non .non H Q := ⟨rfl, q⟩
theorem r_isN_i (q : Q (.bl false) H) : uIsN (.int i) .non H Q := ⟨rfl, q⟩
theorem r_isN_r (q : Q (.bl false) H) : uIsN (.ref a) .non H Q := ⟨rfl, q⟩
theorem r_isN_s {z : Str} (q : Q (.bl false) H) : uIsN (.str z) .non H Q := ⟨rfl, q⟩
theorem r_notN_n (q : Q (.bl false) H) : uNotN .non .non H Q := ⟨rfl, q⟩
theorem r_notN_i (q : Q (.bl true) H) : uNotN (.int i) .non H Q := ⟨rfl, q⟩
theorem r_notN_r (q : Q (.bl true) H) : uNotN (.ref a) .non H Q := ⟨rfl, q⟩
theorem r_notN_s {z : Str} (q : Q (.bl true) H) : uNotN (.str z) .non H Q := ⟨rfl, q⟩
theorem r_isN {k : Bool} (e : decide (x = V.non) = k) (q : Q (.bl k) H) : uIsN x .non H Q := ⟨rfl, by rw [e]; exact q⟩
theorem r_notN {k : Bool} (e : (!decide (x = V.non)) = k) (q : Q (.bl k) H) : uNotN x .non H Q := ⟨rfl, by rw [e]; exact q⟩
theorem r_eq_i (q : Q (.bl (decide (i = j))) H) : uEq K (.int i) (.int j) H Q := .inl (r_eqi q)
theorem r_ne_i (q : Q (.bl (!decide (i = j))) H) : uNe K (.int i) (.int j) H Q := .inl (r_nei q)
theorem r_eq_s {s t : Str} (q : Q (.bl (decide (s = t))) H) : uEq K (.str s) (.str t) H Q := .inl ⟨rfl, by
  have e : decide (V.str s = V.str t) = decide (s = t) := by rw [Bool.eq_iff_iff]; simp
  rw [e]; exact q⟩
theorem r_ne_s {s t : Str} (q : Q (.bl (!decide (s = t))) H) : uNe K (.str s) (.str t) H Q := .inl ⟨rfl, by
  have e : decide (V.str s = V.str t) = decide (s = t) := by rw [Bool.eq_iff_iff]; simp
  rw [e]; exact q⟩
theorem r_eq_d {d e : PyData} (hd : Dp K H x d) (he : Dp K H y e) (s1 : SeqAt.shaped d = true) (s2 : SeqAt.shaped e = true) (q : Q (.bl (PyData.eqv d e)) H) : uEq K x y H Q := .inr ⟨d, e, hd, he, s1, s2, q⟩
theorem r_ne_d {d e : PyData} (hd : Dp K H x d) (he : Dp K H y e) (s1 : SeqAt.shaped d = true) (s2 : SeqAt.shaped e = true) (q : Q (.bl (!PyData.eqv d e)) H) : uNe K x y H Q := .inr ⟨d, e, hd, he, s1, s2, q⟩
theorem r_ixl (h : SqL K H p xs) (e : atI xs i = some v) (q : Q v H) : rIx K (.ref p) (.int i) H Q := .inl ⟨p, xs, i, v, rfl, rfl, h, e, q⟩
theorem r_ixt (h : SqT K H p xs) (e : atI xs i = some v) (q : Q v H) : rIx K (.ref p) (.int i) H Q := .inr (.inl ⟨p, xs, i, v, rfl, rfl, h, e, q⟩)
theorem r_ixs {z : Str} {c : Nat} (h : z.length ≤ sizeLine) (e : atI z.cps.toList i = some c) (q : Q (.str ⟨#[c]⟩) H) : rIx K (.str z) (.int i) H Q := .inr (.inr ⟨z, i, c, rfl, rfl, h, e, q⟩)
theorem r_gsub {to ti : TE} {t : TSet} {R : St → Hp → Prop} (q : to σ H fun o H1 => ti σ H1 fun i H2 => t o i v H2 fun H3 => R σ H3) : gSub to ti t v σ H R := q
theorem r_gname {i : Nat} {R : St → Hp → Prop} (q : R (σ.set i (some v)) H) : gName i v σ H R := q
theorem r_setl {R : Hp → Prop} {j : Nat} (h : H p = some (.lst xs)) (e : ixN xs.length i = some j) (q : ∀ H', Keep (At p) H H' → H' p = some (.lst (xs.set j v)) → R H') : rSetL (.ref p) (.int i) v H R := ⟨p, xs, i, j, rfl, rfl, h, e, q _ Keep.at_ upd_same⟩
theorem r_gtup {n : Nat} {t : TGs} {R : St → Hp → Prop} (h : SqT K H a xs) (e : xs.length = n) (q : t xs σ H R) : gTup K n t (.ref a) σ H R := ⟨a, xs, rfl, h, e, q⟩
theorem r_glst {n : Nat} {t : TGs} {R : St → Hp → Prop} (h : SqL K H a xs) (e : xs.length = n) (q : t xs σ H R) : gLst K n t (.ref a) σ H R := ⟨a, xs, rfl, h, e, q⟩
theorem r_gcons {t : TG} {u : TGs} {vs : List V} {R : St → Hp → Prop} (q : t v σ H fun σ' H' => u vs σ' H' R) : gCons t u (v :: vs) σ H R := ⟨v, vs, rfl, q⟩
theorem r_gnil {R : St → Hp → Prop} (q : R σ H) : gNil [] σ H R := ⟨rfl, q⟩
theorem r_all {bs : List Bool} (h : SqL K H a (bs.map V.bl)) (q : Q (.bl (bs.all id)) H) : rAll K [.ref a] H Q := ⟨a, bs, rfl, h, q⟩
theorem r_allT (h : SqL K H a xs) (hx : ∀ v ∈ xs, v = V.bl true) (q : Q (.bl true) H) : rAll K [.ref a] H Q := by
  have e : xs = (xs.map fun _ => true).map V.bl := by
    rw [List.map_map]
    have : xs = xs.map id := by simp
    rw [this]
    simp only [List.map_map]
    exact List.map_congr_left fun v hv => hx v hv
  have e2 : (xs.map fun _ => true).all id = true := by simp
  refine r_all (bs := xs.map fun _ => true) (by rw [← e]; exact h) ?_
  rw [e2]
  exact q
theorem r_any {bs : List Bool} (h : SqL K H a (bs.map V.bl)) (q : Q (.bl (bs.any id)) H) : rAny K [.ref a] H Q := ⟨a, bs, rfl, h, q⟩
/-! isinstance -/
def tyN : PyData → String
  | .none => "NoneType"
  | .bool _ => "bool"
  | .int _ => "int"
  | .str _ => "str"
  | .list _ => "list"
  | .tuple _ => "tuple"
  | .dict _ => "dict"
def isK (n t : String) : Bool := n == t || (t == "bool" && n == "int")
def isT (n : String) (d : PyData) : Bool := isK n (tyN d)
def tyD (d : PyData) : Value := .type (tyN d)
theorem kit_tab {t n : String} (ht : t = "NoneType" ∨ t = "bool" ∨ t = "int" ∨ t = "str" ∨ t = "list" ∨ t = "tuple" ∨ t = "dict") (hn : n = "int" ∨ n = "bool" ∨ n = "tuple" ∨ n = "str" ∨ n = "list") : kitB t n = some (isK n t) := by
  rcases ht with rfl | rfl | rfl | rfl | rfl | rfl | rfl <;> rcases hn with rfl | rfl | rfl | rfl | rfl <;> decide +kernel
theorem dp_ty {d : PyData} (h : Dp K H v d) : TyX K H v (tyD d) := by
  cases h with
  | non => exact .base .non
  | bl b => exact .base (.bl b)
  | int i => exact .base (.int i)
  | str s => exact .base (.str s)
  | lst hs _ =>
    rcases hs with (hs | ⟨o, hs⟩) | ⟨o, its, n, hk, hc, _⟩
    · exact .base (.lst hs)
    · exact .base (.frz hs)
    · exact .kList hk hc
  | tup hs _ =>
    rcases hs with (hs | ⟨o, hs⟩) | ⟨o, its, n, hk, hc, _⟩
    · exact .base (.tup hs)
    · exact .fTuple hs
    · exact .kTuple hk hc
theorem r_isi {d : PyData} {n : String} (h : Dp K H v d) (hn : n = "int" ∨ n = "bool" ∨ n = "tuple" ∨ n = "str" ∨ n = "list") (q : Q (.bl (isT n d)) H) : rIsi K [v, .ty n] H Q := by
  refine ⟨v, .ty n, tyD d, .type n, isT n d, rfl, .ty n, dp_ty h, ?_, q⟩
  refine kit_ty (kit_tab ?_ hn)
  cases d <;> simp [tyN]
end

section
variable {K : PySem.W.Frag} {H : Hp} {Q : VK} {a : Addr} {xs : List V} {i : Int} {b : Bool} {z : Str}
theorem r_isi_ii (q : Q (.bl true) H) : rIsi K [.int i, .ty "int"] H Q := r_isi (n := "int") (.int i) (by decide) q
theorem r_isi_ib (q : Q (.bl false) H) : rIsi K [.int i, .ty "bool"] H Q := r_isi (n := "bool") (.int i) (by decide) q
theorem r_isi_it (q : Q (.bl false) H) : rIsi K [.int i, .ty "tuple"] H Q := r_isi (n := "tuple") (.int i) (by decide) q
theorem r_isi_is (q : Q (.bl false) H) : rIsi K [.int i, .ty "str"] H Q := r_isi (n := "str") (.int i) (by decide) q
theorem r_isi_ni (q : Q (.bl false) H) : rIsi K [.non, .ty "int"] H Q := r_isi (n := "int") .non (by decide) q
theorem r_isi_nt (q : Q (.bl false) H) : rIsi K [.non, .ty "tuple"] H Q := r_isi (n := "tuple") .non (by decide) q
theorem r_isi_bb (q : Q (.bl true) H) : rIsi K [.bl b, .ty "bool"] H Q := r_isi (n := "bool") (.bl b) (by decide) q
theorem r_isi_bi (q : Q (.bl true) H) : rIsi K [.bl b, .ty "int"] H Q := r_isi (n := "int") (.bl b) (by decide) q
theorem r_isi_ss (q : Q (.bl true) H) : rIsi K [.str z, .ty "str"] H Q := r_isi (n := "str") (.str z) (by decide) q
theorem r_isi_si (q : Q (.bl false) H) : rIsi K [.str z, .ty "int"] H Q := r_isi (n := "int") (.str z) (by decide) q
theorem r_isi_st (q : Q (.bl false) H) : rIsi K [.str z, .ty "tuple"] H Q := r_isi (n := "tuple") (.str z) (by decide) q
theorem tyX_tup (h : SqT K H a xs) : TyX K H (.ref a) (.type "tuple") := by
  rcases h with (hs | ⟨o, hs⟩) | ⟨o, its, n, hk, hc, _⟩
  · exact .base (.tup hs)
  · exact .fTuple hs
  · exact .kTuple hk hc
theorem tyX_lst (h : SqL K H a xs) : TyX K H (.ref a) (.type "list") := by
  rcases h with (hs | ⟨o, hs⟩) | ⟨o, its, n, hk, hc, _⟩
  · exact .base (.lst hs)
  · exact .base (.frz hs)
  · exact .kList hk hc
theorem r_isi_tt (h : SqT K H a xs) (q : Q (.bl true) H) : rIsi K [.ref a, .ty "tuple"] H Q := ⟨_, _, _, _, true, rfl, .ty "tuple", tyX_tup h, kit_ty (kit_tab (by decide) (by decide)), q⟩
theorem r_isi_ti (h : SqT K H a xs) (q : Q (.bl false) H) : rIsi K [.ref a, .ty "int"] H Q := ⟨_, _, _, _, false, rfl, .ty "int", tyX_tup h, kit_ty (kit_tab (by decide) (by decide)), q⟩
end
/-! ### walks: how many turns, what each turn yields -/
structure Wk (J : It) (n : Nat) (src : Hp → Prop) (item : Nat → Hp → V → Hp → Prop) : Prop where
  go : ∀ i H, src H → i < n → J.go i H
  stop : ∀ i H, src H → n ≤ i → J.stop i H
  yld : ∀ i H x H', src H → J.yld i H x H' → item i H x H'
section
variable {K : PySem.W.Frag} {a b : Addr} {xs ys : List V}
theorem wk_list : Wk (Itl K a) xs.length (fun H => SqL K H a xs) (fun i H x H' => H' = H ∧ xs[i]? = some x) where
  go := fun i H h hi => ⟨xs, xs[i], h, by simp [hi]⟩
  stop := fun i H h hi => ⟨xs, h, hi⟩
  yld := fun i H x H' h y => by obtain ⟨e, y⟩ := y; exact ⟨e, y xs h⟩
theorem wk_tup : Wk (Itt K a) xs.length (fun H => SqT K H a xs) (fun i H x H' => H' = H ∧ xs[i]? = some x) where
  go := fun i H h hi => ⟨xs, xs[i], h, by simp [hi]⟩
  stop := fun i H h hi => ⟨xs, h, hi⟩
  yld := fun i H x H' h y => by obtain ⟨e, y⟩ := y; exact ⟨e, y xs h⟩
theorem wk_rng {lo : Int} {n : Nat} : Wk (Itr lo n) n (fun _ => True) (fun i H x H' => H' = H ∧ x = .int (lo + i)) where
  go := fun i H _ hi => hi
  stop := fun i H _ hi => hi
  yld := fun i H x H' _ y => y
theorem wk_rngC {lo c : Int} {n : Nat} : Wk (Itc lo c n) n (fun _ => True) (fun i H x H' => H' = H ∧ x = .int (lo + (i : Nat) * c)) where
  go := fun i H _ hi => hi
  stop := fun i H _ hi => hi
  yld := fun i H x H' _ y => y
theorem wk_zipL : Wk (Itz K a b) (min xs.length ys.length) (fun H => SqL K H a xs ∧ SqL K H b ys) (fun i H v H' => ∃ T x y, v = .ref T ∧ H T = none ∧ H' = upd H T (.tup [x, y]) ∧ xs[i]? = some x ∧ ys[i]? = some y) where
  go := fun i H h hi => ⟨xs, ys, xs[i]'(by omega), ys[i]'(by omega), h.1, h.2, by simp, by simp⟩
  stop := fun i H h hi => ⟨xs, ys, h.1, h.2, by omega⟩
  yld := fun i H v H' h y => by
    obtain ⟨T, x, z, e1, e2, e3, e4, e5⟩ := y
    exact ⟨T, x, z, e1, e2, e3, e4 xs h.1, e5 ys h.2⟩
theorem wk_zipT : Wk (RZ.ItzT K a b) (min xs.length ys.length) (fun H => SqT K H a xs ∧ SqT K H b ys) (fun i H v H' => ∃ T x y, v = .ref T ∧ H T = none ∧ H' = upd H T (.tup [x, y]) ∧ xs[i]? = some x ∧ ys[i]? = some y) where
  go := fun i H h hi => ⟨xs, ys, xs[i]'(by omega), ys[i]'(by omega), h.1, h.2, by simp, by simp⟩
  stop := fun i H h hi => ⟨xs, ys, h.1, h.2, by omega⟩
  yld := fun i H v H' h y => by
    obtain ⟨T, x, z, e1, e2, e3, e4, e5⟩ := y
    exact ⟨T, x, z, e1, e2, e3, e4 xs h.1, e5 ys h.2⟩
end
/-- what a for asks once it is known what it walks -/
def ForW (J : It) (g : TG) (tb : TS) : TS := fun D σ H => ∃ W : Nat → Nat → St → Hp → Prop, (∃ m, W 0 m σ H) ∧ ∀ i m σ H, W i m σ H →
  (J.stop i H ∧ D.nx σ H) ∨ (J.go i H ∧ ∃ N : St → Hp → Prop, (∀ σ' H', N σ' H' → ∃ m', m' < m ∧ W (i + 1) m' σ' H') ∧ ∀ x H', J.yld i H x H' → g x σ H' fun σ2 H2 => tb { D with nx := N, ct := N, bk := D.nx } σ2 H2)
def LcW (J : It) (g : TG) (tt : TT) (te : TE) (vs : List Nat) : TE := fun σ H1 Q => ∀ D, H1 D = none → ∃ W : Nat → Nat → Hp → Prop, (∃ m, W 0 m (upd H1 D (.lst []))) ∧ ∀ i m H, W i m H →
  (J.stop i H ∧ Q (.ref D) H) ∨ (J.go i H ∧ ∃ Nx : Hp → Prop, (∀ H', Nx H' → ∃ m', m' < m ∧ W (i + 1) m' H') ∧ ∀ x H', J.yld i H x H' → g x (wipe σ vs) H' fun σ2 H2 => wipe σ2 vs = wipe σ vs ∧ tt σ2 H2 fun b H3 =>
    if b = true then te σ2 H3 fun y H4 => ∃ acc, H4 D = some (.lst acc) ∧ acc.length < sizeLine ∧ Nx (upd H4 D (.lst (acc ++ [y]))) else Nx H3)
section
variable {K : PySem.W.Frag} {σ : St} {H : Hp} {Q : VK} {ta tl te : TE} {tt : TT} {tb : TS} {g : TG} {wi : TI} {nx bk ct : St → Hp → Prop} {rt : VK} {vs : List Nat} {J : It} {n : Nat} {src : Hp → Prop} {item : Nat → Hp → V → Hp → Prop} {a b : Addr} {xs ys : List V}
theorem r_for (q : wi σ H fun J H1 => ForW J g tb ⟨nx, rt, bk, ct⟩ σ H1) : tFor wi g tb ⟨nx, rt, bk, ct⟩ σ H := q
theorem r_lc (q : wi σ H fun J H1 => LcW J g tt te vs σ H1 Q) : tLc wi g tt te vs σ H Q := q
/-- a list or a tuple that is walked -/
def uWalk (K : PySem.W.Frag) (x : V) (H : Hp) (R : It → Hp → Prop) (l : Bool) : Prop := ∃ a, x = .ref a ∧ (if l = true then (∃ xs, SqL K H a xs) ∧ R (Itl K a) H else (∃ xs, SqT K H a xs) ∧ R (Itt K a) H)
theorem r_ilist {R : It → Hp → Prop} (q : tl σ H fun x H1 => uWalk K x H1 R true) : iList K tl σ H R := by
  have e : (fun (x : V) (H1 : Hp) => uWalk K x H1 R true) = fun x H1 => ∃ a, x = .ref a ∧ (∃ xs, SqL K H1 a xs) ∧ R (Itl K a) H1 := by
    funext x H1
    simp [uWalk]
  rw [e] at q
  exact q
theorem r_itup {R : It → Hp → Prop} (q : tl σ H fun x H1 => uWalk K x H1 R false) : iTup K tl σ H R := by
  have e : (fun (x : V) (H1 : Hp) => uWalk K x H1 R false) = fun x H1 => ∃ a, x = .ref a ∧ (∃ xs, SqT K H1 a xs) ∧ R (Itt K a) H1 := by
    funext x H1
    simp [uWalk]
  rw [e] at q
  exact q
theorem r_wl {R : It → Hp → Prop} (h : SqL K H a xs) (q : R (Itl K a) H) : uWalk K (.ref a) H R true := ⟨a, rfl, by rw [if_pos rfl]; exact ⟨⟨xs, h⟩, q⟩⟩
theorem r_wt {R : It → Hp → Prop} (h : SqT K H a xs) (q : R (Itt K a) H) : uWalk K (.ref a) H R false := ⟨a, rfl, by rw [if_neg (by decide)]; exact ⟨⟨xs, h⟩, q⟩⟩
def uRng1 (vs : List V) (H : Hp) (R : It → Hp → Prop) : Prop := ∃ j : Int, vs = [.int j] ∧ -(2 ^ 62) ≤ j ∧ j < 2 ^ 62 ∧ R (Itr 0 j.toNat) H
def uRng2 (vs : List V) (H : Hp) (R : It → Hp → Prop) : Prop := ∃ i j : Int, vs = [.int i, .int j] ∧ (-(2 ^ 62) ≤ i ∧ i < 2 ^ 62 ∧ -(2 ^ 62) ≤ j ∧ j < 2 ^ 62) ∧ R (Itr i (j - i).toNat) H
theorem r_irng1 {t : TA} {R : It → Hp → Prop} (q : t σ H fun vs H1 => uRng1 vs H1 R) : iRng1 t σ H R := q
theorem r_irng2 {t : TA} {R : It → Hp → Prop} (q : t σ H fun vs H1 => uRng2 vs H1 R) : iRng2 t σ H R := q
theorem r_rng1 {j : Int} {R : It → Hp → Prop} (h1 : -(2 ^ 62) ≤ j) (h2 : j < 2 ^ 62) (q : R (Itr 0 j.toNat) H) : uRng1 [.int j] H R := ⟨j, rfl, h1, h2, q⟩
theorem r_rng2 {i j : Int} {R : It → Hp → Prop} (h1 : -(2 ^ 62) ≤ i) (h2 : i < 2 ^ 62) (h3 : -(2 ^ 62) ≤ j) (h4 : j < 2 ^ 62) (q : R (Itr i (j - i).toNat) H) : uRng2 [.int i, .int j] H R := ⟨i, j, rfl, ⟨h1, h2, h3, h4⟩, q⟩
def uZip (K : PySem.W.Frag) (vs : List V) (H : Hp) (R : It → Hp → Prop) : Prop := ∃ a b xs ys, vs = [.ref a, .ref b] ∧ ((SqL K H a xs ∧ SqL K H b ys ∧ R (Itz K a b) H) ∨ (SqT K H a xs ∧ SqT K H b ys ∧ R (RZ.ItzT K a b) H))
theorem r_izip {t : TA} {R : It → Hp → Prop} (q : t σ H fun vs H1 => uZip K vs H1 R) : RZ.iZipA K t σ H R := q
theorem r_zipL {R : It → Hp → Prop} (h1 : SqL K H a xs) (h2 : SqL K H b ys) (q : R (Itz K a b) H) : uZip K [.ref a, .ref b] H R := ⟨a, b, xs, ys, rfl, .inl ⟨h1, h2, q⟩⟩
theorem r_zipT {R : It → Hp → Prop} (h1 : SqT K H a xs) (h2 : SqT K H b ys) (q : R (RZ.ItzT K a b) H) : uZip K [.ref a, .ref b] H R := ⟨a, b, xs, ys, rfl, .inr ⟨h1, h2, q⟩⟩

/-- a for by its invariant -/
theorem for_wk (w : Wk J n src item) (Pv : Nat → St → Hp → Prop) (h0 : Pv 0 σ H) (hsrc : ∀ i σ H, i ≤ n → Pv i σ H → src H)
    (hs : ∀ i x σ H H', i < n → Pv i σ H → item i H x H' → g x σ H' fun σ2 H2 => tb ⟨Pv (i + 1), rt, nx, Pv (i + 1)⟩ σ2 H2) (hd : ∀ σ H, Pv n σ H → nx σ H) :
    ForW J g tb ⟨nx, rt, bk, ct⟩ σ H := by
  refine ⟨fun i m σ H => m = n - i ∧ i ≤ n ∧ Pv i σ H, ⟨n, by simp, Nat.zero_le _, h0⟩, ?_⟩
  rintro i m σ H ⟨rfl, hi, p⟩
  have q := hsrc i σ H hi p
  by_cases hlt : i < n
  · refine .inr ⟨w.go i H q hlt, Pv (i + 1), fun σ' H' p' => ⟨n - (i + 1), by omega, rfl, hlt, p'⟩, fun x H' y => ?_⟩
    exact hs i x σ H H' hlt p (w.yld i H x H' q y)
  · have e : i = n := by omega
    subst e
    exact .inl ⟨w.stop i H q (Nat.le_refl _), hd σ H p⟩
theorem lc_wk (w : Wk J n src item) (Pv : Addr → Nat → Hp → Prop) (h0 : ∀ D, H D = none → Pv D 0 (upd H D (.lst []))) (hsrc : ∀ D i H, i ≤ n → Pv D i H → src H)
    (hs : ∀ D i x H2 H', H D = none → i < n → Pv D i H2 → item i H2 x H' → g x (wipe σ vs) H' fun σ2 H2 => wipe σ2 vs = wipe σ vs ∧ tt σ2 H2 fun b H3 =>
      if b = true then te σ2 H3 fun y H4 => ∃ acc, H4 D = some (.lst acc) ∧ acc.length < sizeLine ∧ Pv D (i + 1) (upd H4 D (.lst (acc ++ [y]))) else Pv D (i + 1) H3)
    (hd : ∀ D H', H D = none → Pv D n H' → Q (.ref D) H') : LcW J g tt te vs σ H Q := by
  intro D hD
  refine ⟨fun i m H => m = n - i ∧ i ≤ n ∧ Pv D i H, ⟨n, by simp, Nat.zero_le _, h0 D hD⟩, ?_⟩
  rintro i m H2 ⟨rfl, hi, p⟩
  have q := hsrc D i H2 hi p
  by_cases hlt : i < n
  · refine .inr ⟨w.go i H2 q hlt, Pv D (i + 1), fun H' p' => ⟨n - (i + 1), by omega, rfl, hlt, p'⟩, fun x H' y => ?_⟩
    exact hs D i x H2 H' hD hlt p (w.yld i H2 x H' q y)
  · have e : i = n := by omega
    subst e
    exact .inl ⟨w.stop i H2 q (Nat.le_refl _), hd D H2 hD p⟩
theorem wipe_one {j : Nat} {x : V} : wipe ((wipe σ [j]).set j (some x)) [j] = wipe σ [j] := by
  simp [wipe, List.set_set]
theorem take_snoc {α : Type} : ∀ {l : List α} {i : Nat} {x : α}, l[i]? = some x → l.take (i + 1) = l.take i ++ [x]
  | [], i, x, h => by simp at h
  | a :: l, 0, x, h => by
    have e : a = x := Option.some.inj h
    subst e; rfl
  | a :: l, i + 1, x, h => by
    have ih := take_snoc (l := l) (i := i) (x := x) h
    show a :: l.take (i + 1) = a :: l.take i ++ [x]
    rw [ih]; rfl
/-- a comprehension over one name whose element and test are pure: known values -/
theorem lc_pure {j : Nat} (w : Wk J xs.length src (fun i H x H' => H' = H ∧ xs[i]? = some x)) (hsrc : ∀ H', Same H H' → src H') (hn : xs.length ≤ 16777216) (f : V → Bool) (v : V → V)
    (ht : ∀ x H2 (R : Bool → Hp → Prop), x ∈ xs → Same H H2 → (∀ H3, Same H2 H3 → R (f x) H3) → tt ((wipe σ [j]).set j (some x)) H2 R)
    (he : ∀ x H2 (R : VK), x ∈ xs → f x = true → Same H H2 → (∀ H3, Same H2 H3 → R (v x) H3) → te ((wipe σ [j]).set j (some x)) H2 R)
    (q : ∀ D H', H D = none → Same H H' → H' D = some (.lst ((xs.filter f).map v)) → Q (.ref D) H') : LcW J (gName j) tt te [j] σ H Q := by
  refine lc_wk w (fun D i H' => H D = none ∧ Same H H' ∧ H' D = some (.lst (((xs.take i).filter f).map v))) (fun D hD => ⟨hD, fun b o e => by rw [upd_ne (ne_of_none e hD)]; exact e, by simp [upd_same]⟩)
    (fun D i H' _ p => hsrc H' p.2.1) ?_ (fun D H' hD p => q D H' hD p.2.1 (by have := p.2.2; rw [List.take_length] at this; exact this))
  rintro D i x H2 H' hD hi ⟨p1, p2, p3⟩ ⟨rfl, hx⟩
  have hm : x ∈ xs := List.mem_of_getElem? hx
  show wipe ((wipe σ [j]).set j (some x)) [j] = wipe σ [j] ∧ tt ((wipe σ [j]).set j (some x)) H' _
  refine ⟨wipe_one, ht x H' _ hm p2 fun H3 e3 => ?_⟩
  have t3 := take_snoc hx
  have hl : ((xs.take i).filter f).length ≤ i := Nat.le_trans (List.length_filter_le _ _) (by simp; omega)
  cases hf : f x with
  | true =>
    refine i_T (he x H3 _ hm hf (p2.trans e3) fun H4 e4 => ⟨_, e4 _ _ (e3 _ _ p3), by rw [List.length_map, sizeLine_eq]; omega, hD, fun b o e => ?_, ?_⟩)
    · rw [upd_ne (ne_of_none e hD)]; exact e4 _ _ (e3 _ _ (p2 _ _ e))
    · rw [upd_same, t3, List.filter_append, List.map_append]
      simp [hf]
  | false =>
    refine i_F ⟨hD, p2.trans e3, ?_⟩
    rw [t3, List.filter_append, List.map_append]
    simp [hf]
    exact e3 _ _ p3
/-- .. whose elements are told by a relation that stays where tuples stay -/
theorem lc_rel {j : Nat} (w : Wk J xs.length src (fun i H x H' => H' = H ∧ xs[i]? = some x)) (hsrc : ∀ H', Same H H' → src H') (hn : xs.length ≤ 16777216) (f : V → Bool) (R : Hp → V → V → Prop) (hR : ∀ H H' x y, TExt H H' → R H x y → R H' x y)
    (ht : ∀ x H2 (S : Bool → Hp → Prop), x ∈ xs → Same H H2 → (∀ H3, Same H2 H3 → S (f x) H3) → tt ((wipe σ [j]).set j (some x)) H2 S)
    (he : ∀ x H2 (S : VK), x ∈ xs → f x = true → Same H H2 → (∀ y H3, Same H2 H3 → R H3 x y → S y H3) → te ((wipe σ [j]).set j (some x)) H2 S)
    (q : ∀ D H' ys, H D = none → Same H H' → H' D = some (.lst ys) → Paired (R H') (xs.filter f) ys → Q (.ref D) H') : LcW J (gName j) tt te [j] σ H Q := by
  refine lc_wk w (fun D i H' => H D = none ∧ Same H H' ∧ ∃ ys, H' D = some (.lst ys) ∧ Paired (R H') ((xs.take i).filter f) ys) (fun D hD => ⟨hD, fun b o e => by rw [upd_ne (ne_of_none e hD)]; exact e, [], by simp [upd_same], by simpa using Paired.nil⟩)
    (fun D i H' _ p => hsrc H' p.2.1) ?_ (fun D H' hD p => by obtain ⟨p1, p2, ys, p3, p4⟩ := p; rw [List.take_length] at p4; exact q D H' ys hD p2 p3 p4)
  rintro D i x H2 H' hD hi ⟨p1, p2, ys, p3, p4⟩ ⟨rfl, hx⟩
  have hm : x ∈ xs := List.mem_of_getElem? hx
  show wipe ((wipe σ [j]).set j (some x)) [j] = wipe σ [j] ∧ tt ((wipe σ [j]).set j (some x)) H' _
  refine ⟨wipe_one, ht x H' _ hm p2 fun H3 e3 => ?_⟩
  have t3 := take_snoc hx
  have hl : ((xs.take i).filter f).length ≤ i := Nat.le_trans (List.length_filter_le _ _) (by simp; omega)
  have hl2 := p4.length
  cases hf : f x with
  | true =>
    refine i_T (he x H3 _ hm hf (p2.trans e3) fun y H4 e4 hy => ⟨ys, e4 _ _ (e3 _ _ p3), by rw [sizeLine_eq]; omega, hD, fun b o e => ?_, ys ++ [y], upd_same, ?_⟩)
    · rw [upd_ne (ne_of_none e hD)]; exact e4 _ _ (e3 _ _ (p2 _ _ e))
    · have te2 : TExt H4 (upd H4 D (.lst (ys ++ [y]))) := TExt.lst Keep.at_ (e4 _ _ (e3 _ _ p3))
      rw [t3, List.filter_append]
      simp only [List.filter_cons, hf, List.filter_nil, if_true]
      exact (Paired.mapP p4 fun u z r => hR _ _ _ _ ((TExt.of_same (e3.trans e4)).trans te2) r).snoc (hR _ _ _ _ te2 hy)
  | false =>
    refine i_F ⟨hD, p2.trans e3, ys, e3 _ _ p3, ?_⟩
    rw [t3, List.filter_append]
    simp [hf]
    exact Paired.mapP p4 fun u z r => hR _ _ _ _ (TExt.of_same e3) r
theorem filter_all {α : Type} (l : List α) : l.filter (fun _ => true) = l := List.filter_eq_self.mpr (by simp)
theorem lc_map {j : Nat} (w : Wk J xs.length src (fun i H x H' => H' = H ∧ xs[i]? = some x)) (hsrc : ∀ H', Same H H' → src H') (hn : xs.length ≤ 16777216) (v : V → V)
    (he : ∀ x H2 (R : VK), x ∈ xs → Same H H2 → (∀ H3, Same H2 H3 → R (v x) H3) → te ((wipe σ [j]).set j (some x)) H2 R)
    (q : ∀ D H', H D = none → Same H H' → H' D = some (.lst (xs.map v)) → Q (.ref D) H') : LcW J (gName j) tYes te [j] σ H Q :=
  lc_pure w hsrc hn (fun _ => true) v (fun x H2 R _ _ k => k H2 (Same.refl H2)) (fun x H2 R hx _ e k => he x H2 R hx e k) (fun D H' hD e hl => q D H' hD e (by rw [filter_all] at hl; exact hl))
theorem lc_mapR {j : Nat} (w : Wk J xs.length src (fun i H x H' => H' = H ∧ xs[i]? = some x)) (hsrc : ∀ H', Same H H' → src H') (hn : xs.length ≤ 16777216) (R : Hp → V → V → Prop) (hR : ∀ H H' x y, TExt H H' → R H x y → R H' x y)
    (he : ∀ x H2 (S : VK), x ∈ xs → Same H H2 → (∀ y H3, Same H2 H3 → R H3 x y → S y H3) → te ((wipe σ [j]).set j (some x)) H2 S)
    (q : ∀ D H' ys, H D = none → Same H H' → H' D = some (.lst ys) → Paired (R H') xs ys → Q (.ref D) H') : LcW J (gName j) tYes te [j] σ H Q :=
  lc_rel w hsrc hn (fun _ => true) R hR (fun x H2 S _ _ k => k H2 (Same.refl H2)) (fun x H2 S hx _ e k => he x H2 S hx e k) (fun D H' ys hD e hl hp => q D H' ys hD e hl (by rw [filter_all] at hp; exact hp))
end
/-! ### more steps -/
section
variable {K : PySem.W.Frag} {H H' : Hp} {Q : VK} {p q a b : Addr} {F : Addr → Prop} {xs ys : List V} {σ : St} {te : TE} {tl th : TO} {lo hi : Option Int} {v : V}
theorem r_sl {r : V → Option Int → Option Int → Hp → VK → Prop} (q : te σ H fun x H1 => tl σ H1 fun l H2 => th σ H2 fun u H3 => r x l u H3 Q) : tSl r te tl th σ H Q := q
theorem r_nopart {R : Option Int → Hp → Prop} (q : R none H) : tNoPart σ H R := q
def uPart (x : V) (H : Hp) (R : Option Int → Hp → Prop) : Prop := ∃ i, x = .int i ∧ R (some i) H
theorem r_part {R : Option Int → Hp → Prop} (q : te σ H fun x H1 => uPart x H1 R) : tPart te σ H R := q
theorem r_parti {i : Int} {R : Option Int → Hp → Prop} (q : R (some i) H) : uPart (.int i) H R := ⟨i, rfl, q⟩
theorem r_sll (h : SqL K H a xs) (q : ∀ p H', H p = none → Same H H' → H' p = some (.lst (cutV xs lo hi)) → Q (.ref p) H') : rSlL K (.ref a) lo hi H Q :=
  ⟨a, xs, rfl, h, fun p hp => q p _ hp (Keep.same (Keep.new hp)) upd_same⟩
theorem cutV_from {xs : List V} {k : Nat} : cutV xs (some (k : Int)) none = xs.drop k := by
  unfold cutV
  rw [HT.sIx_nat, HT.sIx_none]
  by_cases h : k ≤ xs.length
  · rw [Nat.min_eq_left h, List.take_of_length_le (by simp)]
  · rw [Nat.min_eq_right (by omega), List.drop_of_length_le (Nat.le_refl _), List.drop_of_length_le (by omega)]
    simp
theorem cutV_to {xs : List V} {k : Nat} : cutV xs none (some (k : Int)) = xs.take k := by
  unfold cutV
  rw [HT.sIx_nat, HT.sIx_none]
  simp only [List.drop_zero, Nat.sub_zero]
  by_cases h : k ≤ xs.length
  · rw [Nat.min_eq_left h]
  · rw [Nat.min_eq_right (by omega), List.take_of_length_le (Nat.le_refl _), List.take_of_length_le (by omega)]
theorem cutV_init {xs : List V} {x : V} : cutV (xs ++ [x]) none (some (-1)) = xs := by
  unfold cutV
  simp [HT.sIx]
  rw [show (-1 + ((xs.length : Int) + 1)).toNat = xs.length by omega, List.take_left']
  rfl
theorem r_sla (h : SqT K H a xs) (q : ∀ p H', Same H H' → SqT K H' p (cutV xs lo hi) → Q (.ref p) H') : rSlA K (.ref a) lo hi H Q := by
  refine ⟨a, xs, rfl, h, fun e => q a H (Same.refl H) ?_, fun _ p hp => q p _ (Keep.same (Keep.new hp)) (SqT.of upd_same)⟩
  unfold cutV
  rw [e.1, e.2]
  simpa using h
theorem r_cat (h1 : H a = some (.lst xs)) (h2 : H b = some (.lst ys)) (hz : xs.length + ys.length ≤ sizeLine) (q : ∀ p H', H p = none → Same H H' → H' p = some (.lst (xs ++ ys)) → Q (.ref p) H') : rCat (.ref a) (.ref b) H Q :=
  ⟨a, b, xs, ys, rfl, rfl, h1, h2, hz, fun p hp => q p _ hp (Keep.same (Keep.new hp)) upd_same⟩
theorem r_catA (h1 : SqT K H a xs) (h2 : SqT K H b ys) (hz : xs.length + ys.length ≤ sizeLine) (q : ∀ p H', Same H H' → SqT K H' p (xs ++ ys) → Q (.ref p) H') : rCatA K (.ref a) (.ref b) H Q := by
  refine ⟨a, b, xs, ys, rfl, rfl, h1, h2, hz, fun e => ?_, fun _ e => ?_, fun _ _ p hp => q p _ (Keep.same (Keep.new hp)) (SqT.of upd_same)⟩
  · subst e
    exact q b H (Same.refl H) (by simpa using h2)
  · subst e
    exact q a H (Same.refl H) (by simpa using h1)
def uBM (K : PySem.W.Frag) (T : String) (r : V → List V → Hp → VK → Prop) (t : TA) (σ : St) (x : V) (H : Hp) (Q : VK) : Prop := tyV K T x H ∧ t σ H fun xs H2 => r x xs H2 Q
theorem r_bm {T : String} {r : V → List V → Hp → VK → Prop} {t : TA} (q : te σ H fun x H1 => uBM K T r t σ x H1 Q) : tBM K T r te t σ H Q := q
def uBM0 (K : PySem.W.Frag) (T : String) (r : V → List V → Hp → VK → Prop) (x : V) (H : Hp) (Q : VK) : Prop := tyV K T x H ∧ r x [] H Q
theorem r_bm0 {T : String} {r : V → List V → Hp → VK → Prop} (q : te σ H fun x H1 => uBM0 K T r x H1 Q) : tBM0 K T r te σ H Q := q
theorem r_bml {r : V → List V → Hp → VK → Prop} {t : TA} (h : SqL K H a xs) (q : t σ H fun vs H2 => r (.ref a) vs H2 Q) : uBM K "list" r t σ (.ref a) H Q := ⟨.inl ⟨rfl, _, h⟩, q⟩
theorem r_bm0l {r : V → List V → Hp → VK → Prop} (h : SqL K H a xs) (q : r (.ref a) [] H Q) : uBM0 K "list" r (.ref a) H Q := ⟨.inl ⟨rfl, _, h⟩, q⟩
def uRevL (K : PySem.W.Frag) (x : V) (H : Hp) (Q : VK) : Prop := ∃ a xs, x = .ref a ∧ SqL K H a xs ∧ ∀ p, H p = none → Q (.ref p) (upd H p (.lst xs.reverse))
theorem r_revL (q : te σ H fun x H1 => uRevL K x H1 Q) : tRevL K te σ H Q := q
theorem r_revl (h : SqL K H a xs) (q : ∀ p H', H p = none → Same H H' → H' p = some (.lst xs.reverse) → Q (.ref p) H') : uRevL K (.ref a) H Q := ⟨a, xs, rfl, h, fun p hp => q p _ hp (Keep.same (Keep.new hp)) upd_same⟩
theorem r_reverse (h : H a = some (.lst xs)) (q : ∀ H', Keep (At a) H H' → H' a = some (.lst xs.reverse) → Q .non H') : rReverse (.ref a) [] H Q := ⟨a, xs, rfl, rfl, h, q _ Keep.at_ upd_same⟩
theorem r_append (h : H a = some (.lst xs)) (hz : xs.length < sizeLine) (q : ∀ H', Keep (At a) H H' → H' a = some (.lst (xs ++ [v])) → Q .non H') : rAppend (.ref a) [v] H Q := ⟨a, xs, v, rfl, rfl, h, hz, q _ Keep.at_ upd_same⟩
theorem r_extend (h : H a = some (.lst xs)) (h2 : H b = some (.lst ys)) (hz : xs.length + ys.length ≤ sizeLine) (q : ∀ H', Keep (At a) H H' → H' a = some (.lst (xs ++ ys)) → Q .non H') : rExtend (.ref a) [.ref b] H Q := ⟨a, b, xs, ys, rfl, rfl, h, h2, hz, q _ Keep.at_ upd_same⟩
theorem r_sortedI {ns : List Int} (h : SqL K H a (ns.map V.int)) (q : ∀ (ms : List Int) p H', ms.Perm ns → ms.Pairwise (· ≤ ·) → H p = none → Same H H' → H' p = some (.lst (ms.map V.int)) → Q (.ref p) H') : rSortedI K [.ref a] H Q :=
  ⟨a, ns, rfl, h, fun ms p h1 h2 h3 => q ms p _ h1 h2 h3 (Keep.same (Keep.new h3)) upd_same⟩
theorem dpAll_ints (K : PySem.W.Frag) (H : Hp) : ∀ ns : List Int, DpAll K H (ns.map V.int) (ns.map PyData.int)
  | [] => .nil
  | n :: ns => .cons (.int n) (dpAll_ints K H ns)
theorem dpAll_len {K : PySem.W.Frag} {H : Hp} : ∀ {vs : List V} {ds : List PyData}, DpAll K H vs ds → vs.length = ds.length
  | _, _, .nil => rfl
  | _, _, .cons _ h => by simp [dpAll_len h]
theorem dpAll_get {K : PySem.W.Frag} {H : Hp} : ∀ {vs : List V} {ds : List PyData}, DpAll K H vs ds → ∀ x ∈ vs, ∃ d, Dp K H x d
  | _, _, .cons h1 h2, x, hx => by
    rcases List.mem_cons.mp hx with rfl | hx
    · exact ⟨_, h1⟩
    · exact dpAll_get h2 x hx
theorem r_ix01 {x y : Int} {b : Bool} (h : SqL K H p [.int x, .int y]) (q : ∀ z, (z = x ∧ b = false) ∨ (z = y ∧ b = true) → Q (.int z) H) : rIx K (.ref p) (.int (if b = true then 1 else 0)) H Q := by
  cases b with
  | true => exact r_ixl h rfl (q y (.inr ⟨rfl, rfl⟩))
  | false => exact r_ixl h rfl (q x (.inl ⟨rfl, rfl⟩))
theorem SqL.keep (h : SqL K H a xs) (k : Keep F H H') (n : ¬ F a) : SqL K H' a xs := by
  rcases h with (h | ⟨o, h⟩) | h
  · exact .inl (.inl (k a _ h n))
  · exact .inl (.inr ⟨o, k a _ h n⟩)
  · exact .inr h
end
/-! ### data that == is told of: small depth -/
structure Shp (n : Nat) (d : PyData) : Prop where
  c : d.canLay0 = true
  d : d.depth ≤ n
theorem Shp.ok {n : Nat} {d : PyData} (h : Shp n d) (hn : n ≤ 64 := by decide) : SeqAt.shaped d = true := by
  unfold SeqAt.shaped
  rw [h.c, Bool.true_and]
  exact decide_eq_true (Nat.le_trans h.d hn)
theorem Shp.int {n : Nat} (i : Int) : Shp n (.int i) := ⟨by simp [PyData.canLay0], by simp [PyData.depth]⟩
theorem Shp.bool {n : Nat} (i : Bool) : Shp n (.bool i) := ⟨by simp [PyData.canLay0], by simp [PyData.depth]⟩
theorem Shp.none {n : Nat} : Shp n .none := ⟨by simp [PyData.canLay0], by simp [PyData.depth]⟩
theorem shp_all {n : Nat} : ∀ {ds : List PyData}, (∀ d ∈ ds, Shp n d) → PyData.canLayAll0 ds = true ∧ PyData.depthAll ds ≤ n
  | [], _ => ⟨by simp [PyData.canLayAll0], by simp [PyData.depthAll]⟩
  | x :: xs, h => by
    have h1 := h x (List.mem_cons_self ..)
    have h2 := shp_all fun d hd => h d (List.mem_cons_of_mem _ hd)
    exact ⟨by simp [PyData.canLayAll0, h1.c, h2.1], by simp only [PyData.depthAll]; exact Nat.max_le.mpr ⟨h1.d, h2.2⟩⟩
theorem Shp.tuple {n : Nat} {ds : List PyData} (h : ∀ d ∈ ds, Shp n d) : Shp (n + 1) (.tuple ds) := ⟨by simp [PyData.canLay0, (shp_all h).1], by have := (shp_all h).2; simp [PyData.depth]; omega⟩
theorem Shp.list {n : Nat} {ds : List PyData} (h : ∀ d ∈ ds, Shp n d) : Shp (n + 1) (.list ds) := ⟨by simp [PyData.canLay0, (shp_all h).1], by have := (shp_all h).2; simp [PyData.depth]; omega⟩
theorem Shp.tupleM {α : Type} {n : Nat} {as : List α} {f : α → PyData} (h : ∀ c, Shp n (f c)) : Shp (n + 1) (.tuple (as.map f)) := Shp.tuple fun d hd => by
  obtain ⟨c, _, rfl⟩ := List.mem_map.mp hd
  exact h c
theorem Shp.listM {α : Type} {n : Nat} {as : List α} {f : α → PyData} (h : ∀ c, Shp n (f c)) : Shp (n + 1) (.list (as.map f)) := Shp.list fun d hd => by
  obtain ⟨c, _, rfl⟩ := List.mem_map.mp hd
  exact h c
theorem Shp.t2 {n : Nat} {a b : PyData} (ha : Shp n a) (hb : Shp n b) : Shp (n + 1) (.tuple [a, b]) := Shp.tuple (by simp; exact ⟨ha, hb⟩)
theorem Shp.t3 {n : Nat} {a b c : PyData} (ha : Shp n a) (hb : Shp n b) (hc : Shp n c) : Shp (n + 1) (.tuple [a, b, c]) := Shp.tuple (by simp; exact ⟨ha, hb, hc⟩)
theorem Shp.t4 {n : Nat} {a b c d : PyData} (ha : Shp n a) (hb : Shp n b) (hc : Shp n c) (hd : Shp n d) : Shp (n + 1) (.tuple [a, b, c, d]) := Shp.tuple (by simp; exact ⟨ha, hb, hc, hd⟩)
/-! ### data in a row: walks and comprehensions over it -/
section
variable {K : PySem.W.Frag} {σ : St} {H H' : Hp} {Q : VK} {te : TE} {tt : TT} {g : TG} {vs : List Nat} {J : It} {src : Hp → Prop} {item : Nat → Hp → V → Hp → Prop} {a : Addr}
theorem dpAll_at : ∀ {ws : List V} {ds : List PyData}, DpAll K H ws ds → ∀ {i : Nat} {x : V}, ws[i]? = some x → ∃ d, ds[i]? = some d ∧ Dp K H x d
  | _, _, .nil, i, x, h => by simp at h
  | _, _, .cons h1 h2, 0, x, h => by
    have e := Option.some.inj h
    subst e
    exact ⟨_, rfl, h1⟩
  | _, _, .cons h1 h2, i + 1, x, h => dpAll_at h2 (i := i) (x := x) h
theorem dpAll_map_at {α : Type} {f : α → PyData} {as : List α} {ws : List V} (h : DpAll K H ws (as.map f)) {i : Nat} {x : V} (e : ws[i]? = some x) : ∃ c, as[i]? = some c ∧ Dp K H x (f c) := by
  obtain ⟨d, h1, h2⟩ := dpAll_at h e
  rw [List.getElem?_map] at h1
  obtain ⟨c, h3, rfl⟩ := Option.map_eq_some_iff.mp h1
  exact ⟨c, h3, h2⟩
theorem same_at {H H1 H2 : Hp} {f : Addr} (s : Same H H1) (hf : H f = none) (k : Keep (At f) H1 H2) : Same H H2 := fun b o e => k b o (s b o e) (ne_of_none e hf)
theorem dpAll_drop : ∀ {ws : List V} {ds : List PyData} (k : Nat), DpAll K H ws ds → DpAll K H (ws.drop k) (ds.drop k)
  | _, _, 0, h => h
  | _, _, k + 1, .nil => .nil
  | _, _, k + 1, .cons h1 h2 => dpAll_drop k h2
theorem dpAll_take : ∀ {ws : List V} {ds : List PyData} (k : Nat), DpAll K H ws ds → DpAll K H (ws.take k) (ds.take k)
  | _, _, 0, h => by simpa using DpAll.nil
  | _, _, k + 1, .nil => .nil
  | _, _, k + 1, .cons h1 h2 => .cons h1 (dpAll_take k h2)
theorem dpAll_snoc : ∀ {ws : List V} {ds : List PyData} {x : V} {d : PyData}, DpAll K H ws ds → Dp K H x d → DpAll K H (ws ++ [x]) (ds ++ [d])
  | _, _, _, _, .nil, h => .cons h .nil
  | _, _, _, _, .cons h1 h2, h => .cons h1 (dpAll_snoc h2 h)
theorem dpAll_app : ∀ {ws : List V} {ds : List PyData} {ws' : List V} {ds' : List PyData}, DpAll K H ws ds → DpAll K H ws' ds' → DpAll K H (ws ++ ws') (ds ++ ds')
  | _, _, _, _, .nil, h => h
  | _, _, _, _, .cons h1 h2, h => .cons h1 (dpAll_app h2 h)
theorem paired_dp {α : Type} {f : α → PyData} : ∀ {as : List α} {ys : List V}, Paired (fun c y => Dp K H y (f c)) as ys → DpAll K H ys (as.map f)
  | _, _, .nil => .nil
  | _, _, .cons h1 h2 => .cons h1 (paired_dp h2)
theorem dp_tup {v : V} {ds : List PyData} (h : Dp K H v (.tuple ds)) : ∃ p ws, v = .ref p ∧ SqT K H p ws ∧ DpAll K H ws ds := by
  cases h with
  | tup hs ha => exact ⟨_, _, rfl, hs, ha⟩
theorem dp_lst {v : V} {ds : List PyData} (h : Dp K H v (.list ds)) : ∃ p ws, v = .ref p ∧ SqL K H p ws ∧ DpAll K H ws ds := by
  cases h with
  | lst hs ha => exact ⟨_, _, rfl, hs, ha⟩
theorem dp_int {v : V} {i : Int} (h : Dp K H v (.int i)) : v = .int i := by cases h; rfl
theorem dp_non {v : V} (h : Dp K H v .none) : v = .non := by cases h; rfl
theorem dp_bool {v : V} {b : Bool} (h : Dp K H v (.bool b)) : v = .bl b := by cases h; rfl
theorem dp_str {v : V} {z : Str} (h : Dp K H v (.str z)) : v = .str z := by cases h; rfl
theorem dpAll_trues {α : Type} : ∀ {as : List α} {ws : List V}, DpAll K H ws (as.map fun _ => PyData.bool true) → ∀ v ∈ ws, v = V.bl true
  | [], _, .nil, v, hv => by simp at hv
  | a :: as, _, .cons h1 h2, v, hv => by
    rcases List.mem_cons.mp hv with rfl | hv
    · exact dp_bool h1
    · exact dpAll_trues h2 v hv
theorem dpAll_all_ints : ∀ {ws : List V} {ns : List Int}, DpAll K H ws (ns.map PyData.int) → ws = ns.map V.int
  | _, [], .nil => rfl
  | _, n :: ns, .cons h1 h2 => by rw [dp_int h1, dpAll_all_ints h2]; rfl
theorem dp_ints {v : V} {ns : List Int} (h : Dp K H v (.tuple (ns.map PyData.int))) : ∃ p, v = .ref p ∧ SqT K H p (ns.map V.int) := by
  obtain ⟨p, ws, rfl, h1, h2⟩ := dp_tup h
  rw [dpAll_all_ints h2] at h1
  exact ⟨p, rfl, h1⟩
theorem mapP_mono {α : Type} {R S : α → V → Prop} {as : List α} {ys : List V} (h : Paired R as ys) (k : ∀ c y, R c y → S c y) : Paired S as ys := Paired.mapP h k
/-- a comprehension over whatever is walked: each kept item's element is told by R, which stays where tuples stay -/
theorem lc_gen {α : Type} (as : List α) (It1 : α → V → Hp → Prop) (w : Wk J as.length src item) (hit : ∀ i H x H', i < as.length → item i H x H' → ∃ c, as[i]? = some c ∧ Same H H' ∧ It1 c x H') (hsrc : ∀ H', Same H H' → src H')
    (hn : as.length ≤ 16777216) (f : α → Bool) (R : Hp → α → V → Prop) (hR : ∀ H H' c y, TExt H H' → R H c y → R H' c y)
    (hs : ∀ c x H2 (S : VK) (N : Hp → Prop), c ∈ as → Same H H2 → It1 c x H2 → (f c = true → ∀ y H3, Same H2 H3 → R H3 c y → S y H3) → (f c = false → ∀ H3, Same H2 H3 → N H3) →
      g x (wipe σ vs) H2 fun σ2 H3 => wipe σ2 vs = wipe σ vs ∧ tt σ2 H3 fun b H4 => if b = true then te σ2 H4 S else N H4)
    (q : ∀ D H' ys, H D = none → Same H H' → H' D = some (.lst ys) → Paired (R H') (as.filter f) ys → Q (.ref D) H') : LcW J g tt te vs σ H Q := by
  refine lc_wk w (fun D i H' => H D = none ∧ Same H H' ∧ ∃ ys, H' D = some (.lst ys) ∧ Paired (R H') ((as.take i).filter f) ys) (fun D hD => ⟨hD, fun b o e => by rw [upd_ne (ne_of_none e hD)]; exact e, [], by simp [upd_same], by simpa using Paired.nil⟩)
    (fun D i H' _ p => hsrc H' p.2.1) ?_ (fun D H' hD p => by obtain ⟨p1, p2, ys, p3, p4⟩ := p; rw [List.take_length] at p4; exact q D H' ys hD p2 p3 p4)
  rintro D i x H2 H' hD hi ⟨p1, p2, ys, p3, p4⟩ hx
  obtain ⟨c, hc, s1, hI⟩ := hit i H2 x H' hi hx
  have t3 := take_snoc hc
  have hl : ((as.take i).filter f).length ≤ i := Nat.le_trans (List.length_filter_le _ _) (by simp; omega)
  have hl2 := p4.length
  have hm : c ∈ as := List.mem_of_getElem? hc
  refine hs c x H' _ _ hm (p2.trans s1) hI (fun hf y H4 e4 hy => ?_) (fun hf H3 e3 => ?_)
  · refine ⟨ys, e4 _ _ (s1 _ _ p3), by rw [sizeLine_eq]; omega, hD, fun b o e => ?_, ys ++ [y], upd_same, ?_⟩
    · rw [upd_ne (ne_of_none e hD)]; exact e4 _ _ (s1 _ _ (p2 _ _ e))
    · have te2 : TExt H4 (upd H4 D (.lst (ys ++ [y]))) := TExt.lst Keep.at_ (e4 _ _ (s1 _ _ p3))
      rw [t3, List.filter_append]
      simp only [List.filter_cons, hf, List.filter_nil, if_true]
      exact (Paired.mapP p4 fun u z r => hR _ _ _ _ ((TExt.of_same (s1.trans e4)).trans te2) r).snoc (hR _ _ _ _ te2 hy)
  · refine ⟨hD, p2.trans (s1.trans e3), ys, e3 _ _ (s1 _ _ p3), ?_⟩
    rw [t3, List.filter_append]
    simp [hf]
    exact Paired.mapP p4 fun u z r => hR _ _ _ _ (TExt.of_same (s1.trans e3)) r
/-- over range(n) -/
theorem lc_rngD {n : Nat} {lo : Int} (hn : n ≤ 16777216) (f : Nat → Bool) (fx : Nat → PyData) (hi : ∀ c, imm (fx c) = true)
    (hs : ∀ (c : Nat) H2 (S : VK) (N : Hp → Prop), c < n → Same H H2 → (f c = true → ∀ y H3, Same H2 H3 → Dp K H3 y (fx c) → S y H3) → (f c = false → ∀ H3, Same H2 H3 → N H3) →
      g (.int (lo + c)) (wipe σ vs) H2 fun σ2 H3 => wipe σ2 vs = wipe σ vs ∧ tt σ2 H3 fun b H4 => if b = true then te σ2 H4 S else N H4)
    (q : ∀ D H' ys, H D = none → Same H H' → H' D = some (.lst ys) → DpAll K H' ys (((List.range n).filter f).map fx) → Q (.ref D) H') : LcW (Itr lo n) g tt te vs σ H Q := by
  have w : Wk (Itr lo n) (List.range n).length (fun _ => True) (fun i H x H' => H' = H ∧ x = .int (lo + i)) := by
    rw [List.length_range]
    exact wk_rng
  refine lc_gen (List.range n) (fun c x H => x = .int (lo + c)) w (fun i H x H' hi h => ⟨i, List.getElem?_range (by simpa using hi), by rw [h.1]; exact Same.refl _, h.2⟩) (fun _ _ => trivial) (by simpa using hn) f (fun H c y => Dp K H y (fx c)) (fun H H' c y e h => Dp.text e _ _ (hi c) h)
    (fun c x H2 S N hc s hx k1 k2 => ?_) (fun D H' ys hD s e p => q D H' ys hD s e (paired_dp p))
  subst hx
  exact hs c H2 S N (by simpa using hc) s k1 k2
/-- over range(n), one object p (a pot) being changed in each turn -/
theorem lc_rngK {n : Nat} {lo : Int} {p : Addr} {te : TE} {j : Nat} (I : Hp → Prop) (h0 : I H) (hne : ∀ D, H D = none → D ≠ p) (hI : ∀ H1 H2 : Hp, I H1 → H2 p = H1 p → I H2) (hT : ∀ H1 H2, I H1 → Keep (At p) H1 H2 → TExt H1 H2)
    (hn : n ≤ 16777216) (R : Hp → Nat → V → Prop) (hR : ∀ H H' i y, TExt H H' → R H i y → R H' i y)
    (hs : ∀ (i : Nat) H2 (S : VK), i < n → Keep (At p) H H2 → I H2 → (∀ y H3, Keep (At p) H2 H3 → I H3 → R H3 i y → S y H3) → te ((wipe σ [j]).set j (some (.int (lo + i)))) H2 S)
    (q : ∀ D H' ys, H D = none → Keep (At p) H H' → I H' → H' D = some (.lst ys) → Paired (R H') (List.range n) ys → Q (.ref D) H') : LcW (Itr lo n) (gName j) tYes te [j] σ H Q := by
  refine lc_wk wk_rng (fun D i H' => H D = none ∧ Keep (At p) H H' ∧ I H' ∧ ∃ ys, H' D = some (.lst ys) ∧ Paired (R H') (List.range i) ys)
    (fun D hD => ⟨hD, fun b o e _ => by rw [upd_ne (ne_of_none e hD)]; exact e, hI _ _ h0 (by rw [upd_ne (Ne.symm (hne D hD))]), [], by simp [upd_same], by simpa using Paired.nil⟩)
    (fun D i H' _ p => trivial) ?_ (fun D H' hD p => by obtain ⟨p1, p2, p3, ys, p4, p5⟩ := p; exact q D H' ys hD p2 p3 p4 p5)
  rintro D i x H2 H' hD hi ⟨p1, p2, p3, ys, p4, p5⟩ ⟨rfl, rfl⟩
  show wipe ((wipe σ [j]).set j _) [j] = wipe σ [j] ∧ _
  refine ⟨wipe_one, ?_⟩
  refine r_yes (i_T (hs i H' _ hi p2 p3 fun y H3 k3 i3 r3 => ⟨ys, k3 _ _ p4 (hne D hD), by rw [sizeLine_eq, ← p5.length, List.length_range]; omega, hD, ?_, hI _ _ i3 (by rw [upd_ne (Ne.symm (hne D hD))]), ys ++ [y], upd_same, ?_⟩))
  · exact (p2.trans k3).free hD
  · have e3 := k3 _ _ p4 (hne D hD)
    have t3 := hT _ _ p3 k3
    have t4 : TExt H3 (upd H3 D (.lst (ys ++ [y]))) := TExt.lst Keep.at_ e3
    rw [List.range_succ]
    exact (Paired.mapP p5 fun u z r => hR _ _ _ _ (t3.trans t4) r).snoc (hR _ _ _ _ t4 r3)
theorem paired_ex {α β : Type} {R : α → β → Prop} {f : β → PyData} : ∀ {as : List α} {ys : List V}, Paired (fun c y => ∃ z, Dp K H y (f z) ∧ R c z) as ys → ∃ zs : List β, DpAll K H ys (zs.map f) ∧ Paired R as zs
  | _, _, .nil => ⟨[], .nil, .nil⟩
  | _, _, .cons h1 h2 => by
    obtain ⟨z, d, r⟩ := h1
    obtain ⟨zs, ds, rs⟩ := paired_ex h2
    exact ⟨z :: zs, .cons d ds, .cons r rs⟩
theorem paired_right {α : Type} {P : V → Prop} : ∀ {as : List α} {ys : List V}, Paired (fun _ y => P y) as ys → ∀ y ∈ ys, P y
  | _, _, .nil, y, h => by simp at h
  | _, _, .cons h1 h2, y, h => by
    rcases List.mem_cons.mp h with rfl | h
    · exact h1
    · exact paired_right h2 y h
theorem paired_ints {α : Type} {R : α → Int → Prop} : ∀ {as : List α} {ys : List V}, Paired (fun c y => ∃ z, y = V.int z ∧ R c z) as ys → ∃ zs : List Int, ys = zs.map V.int ∧ Paired R as zs
  | _, _, .nil => ⟨[], rfl, .nil⟩
  | _, _, .cons h1 h2 => by
    obtain ⟨z, rfl, r⟩ := h1
    obtain ⟨zs, rfl, rs⟩ := paired_ints h2
    exact ⟨z :: zs, rfl, .cons r rs⟩
theorem int_at {zs : List Int} {i : Nat} {x : V} (h : (zs.map V.int)[i]? = some x) : ∃ z, zs[i]? = some z ∧ x = .int z := by
  rw [List.getElem?_map] at h
  obtain ⟨z, h1, h2⟩ := Option.map_eq_some_iff.mp h
  exact ⟨z, h1, h2.symm⟩
/-- over a tuple of data -/
theorem lc_tupD {α : Type} {as : List α} {fa : α → PyData} {ws : List V} (h1 : SqT K H a ws) (h2 : DpAll K H ws (as.map fa)) (hn : as.length ≤ 16777216) (f : α → Bool) (fx : α → PyData) (hi : ∀ c, imm (fx c) = true)
    (hs : ∀ c x H2 (S : VK) (N : Hp → Prop), c ∈ as → Same H H2 → Dp K H2 x (fa c) → (f c = true → ∀ y H3, Same H2 H3 → Dp K H3 y (fx c) → S y H3) → (f c = false → ∀ H3, Same H2 H3 → N H3) →
      g x (wipe σ vs) H2 fun σ2 H3 => wipe σ2 vs = wipe σ vs ∧ tt σ2 H3 fun b H4 => if b = true then te σ2 H4 S else N H4)
    (q : ∀ D H' ys, H D = none → Same H H' → H' D = some (.lst ys) → DpAll K H' ys ((as.filter f).map fx) → Q (.ref D) H') : LcW (Itt K a) g tt te vs σ H Q := by
  have hl : ws.length = as.length := by rw [dpAll_len h2]; simp
  have w : Wk (Itt K a) as.length (fun H' => SqT K H' a ws ∧ Same H H') (fun i H2 x H' => H' = H2 ∧ Same H H2 ∧ ws[i]? = some x) := by
    rw [← hl]
    exact ⟨fun i H e => wk_tup.go i H e.1, fun i H e => wk_tup.stop i H e.1, fun i H2 x H' e y => by have z := wk_tup.yld i H2 x H' e.1 y; exact ⟨z.1, e.2, z.2⟩⟩
  refine lc_gen as (fun c x H2 => Dp K H2 x (fa c)) w (fun i H2 x H' hi h => ?_) (fun H' s => ⟨SqT.text (TExt.of_same s) h1, s⟩) hn f (fun H c y => Dp K H y (fx c)) (fun H H' c y e h => Dp.text e _ _ (hi c) h) hs
    (fun D H' ys hD s e p => q D H' ys hD s e (paired_dp p))
  obtain ⟨rfl, s, hx⟩ := h
  obtain ⟨c, hc, hd⟩ := dpAll_map_at h2 hx
  exact ⟨c, hc, Same.refl _, Dp.same s _ _ hd⟩
/-- over a list of data -/
theorem lc_lstD {α : Type} {as : List α} {fa : α → PyData} {ws : List V} (h1 : SqL K H a ws) (h2 : DpAll K H ws (as.map fa)) (hn : as.length ≤ 16777216) (f : α → Bool) (fx : α → PyData) (hi : ∀ c, imm (fx c) = true)
    (hs : ∀ c x H2 (S : VK) (N : Hp → Prop), c ∈ as → Same H H2 → Dp K H2 x (fa c) → (f c = true → ∀ y H3, Same H2 H3 → Dp K H3 y (fx c) → S y H3) → (f c = false → ∀ H3, Same H2 H3 → N H3) →
      g x (wipe σ vs) H2 fun σ2 H3 => wipe σ2 vs = wipe σ vs ∧ tt σ2 H3 fun b H4 => if b = true then te σ2 H4 S else N H4)
    (q : ∀ D H' ys, H D = none → Same H H' → H' D = some (.lst ys) → DpAll K H' ys ((as.filter f).map fx) → Q (.ref D) H') : LcW (Itl K a) g tt te vs σ H Q := by
  have hl : ws.length = as.length := by rw [dpAll_len h2]; simp
  have w : Wk (Itl K a) as.length (fun H' => SqL K H' a ws ∧ Same H H') (fun i H2 x H' => H' = H2 ∧ Same H H2 ∧ ws[i]? = some x) := by
    rw [← hl]
    exact ⟨fun i H e => wk_list.go i H e.1, fun i H e => wk_list.stop i H e.1, fun i H2 x H' e y => by have z := wk_list.yld i H2 x H' e.1 y; exact ⟨z.1, e.2, z.2⟩⟩
  refine lc_gen as (fun c x H2 => Dp K H2 x (fa c)) w (fun i H2 x H' hi h => ?_) (fun H' s => ⟨s.seq h1, s⟩) hn f (fun H c y => Dp K H y (fx c)) (fun H H' c y e h => Dp.text e _ _ (hi c) h) hs
    (fun D H' ys hD s e p => q D H' ys hD s e (paired_dp p))
  obtain ⟨rfl, s, hx⟩ := h
  obtain ⟨c, hc, hd⟩ := dpAll_map_at h2 hx
  exact ⟨c, hc, Same.refl _, Dp.same s _ _ hd⟩
/-- over zip of two tuples of data -/
theorem lc_zipD {α β : Type} {as : List α} {bs : List β} {fa : α → PyData} {fb : β → PyData} {b : Addr} {xs ys : List V} (h1 : SqT K H a xs) (d1 : DpAll K H xs (as.map fa)) (h2 : SqT K H b ys) (d2 : DpAll K H ys (bs.map fb)) (hn : as.length ≤ 16777216)
    (f : α × β → Bool) (fx : α × β → PyData) (hi : ∀ c, imm (fx c) = true)
    (hs : ∀ c T x y H2 (S : VK) (N : Hp → Prop), c ∈ as.zip bs → Same H H2 → H2 T = some (.tup [x, y]) → Dp K H2 x (fa c.1) → Dp K H2 y (fb c.2) → (f c = true → ∀ z H3, Same H2 H3 → Dp K H3 z (fx c) → S z H3) → (f c = false → ∀ H3, Same H2 H3 → N H3) →
      g (.ref T) (wipe σ vs) H2 fun σ2 H3 => wipe σ2 vs = wipe σ vs ∧ tt σ2 H3 fun b H4 => if b = true then te σ2 H4 S else N H4)
    (q : ∀ D H' zs, H D = none → Same H H' → H' D = some (.lst zs) → DpAll K H' zs (((as.zip bs).filter f).map fx) → Q (.ref D) H') : LcW (RZ.ItzT K a b) g tt te vs σ H Q := by
  have l1 : xs.length = as.length := by rw [dpAll_len d1]; simp
  have l2 : ys.length = bs.length := by rw [dpAll_len d2]; simp
  have hl : min xs.length ys.length = (as.zip bs).length := by rw [l1, l2, List.length_zip]
  have w : Wk (RZ.ItzT K a b) (as.zip bs).length (fun H' => (SqT K H' a xs ∧ SqT K H' b ys) ∧ Same H H') (fun i H2 v H' => Same H H2 ∧ ∃ T x y, v = .ref T ∧ H2 T = none ∧ H' = upd H2 T (.tup [x, y]) ∧ xs[i]? = some x ∧ ys[i]? = some y) := by
    rw [← hl]
    exact ⟨fun i H e => wk_zipT.go i H e.1, fun i H e => wk_zipT.stop i H e.1, fun i H2 x H' e y => ⟨e.2, wk_zipT.yld i H2 x H' e.1 y⟩⟩
  refine lc_gen (as.zip bs) (fun c v H2 => ∃ T x y, v = .ref T ∧ H2 T = some (.tup [x, y]) ∧ Dp K H2 x (fa c.1) ∧ Dp K H2 y (fb c.2)) w (fun i H2 v H' hi h => ?_) (fun H' s => ⟨⟨SqT.text (TExt.of_same s) h1, SqT.text (TExt.of_same s) h2⟩, s⟩) (by rw [List.length_zip]; omega) f (fun H c y => Dp K H y (fx c)) (fun H H' c y e h => Dp.text e _ _ (hi c) h)
    (fun c v H2 S N hc s hv k1 k2 => ?_) (fun D H' ys hD s e p => q D H' ys hD s e (paired_dp p))
  · obtain ⟨s, T, x, y, rfl, hT, rfl, hx, hy⟩ := h
    obtain ⟨c, hc, hd⟩ := dpAll_map_at d1 hx
    obtain ⟨c', hc', hd'⟩ := dpAll_map_at d2 hy
    have sT : Same H2 (upd H2 T (.tup [x, y])) := Keep.same (Keep.new hT)
    exact ⟨(c, c'), by rw [List.getElem?_zip_eq_some]; exact ⟨hc, hc'⟩, sT, T, x, y, rfl, upd_same, Dp.same (s.trans sT) _ _ hd, Dp.same (s.trans sT) _ _ hd'⟩
  · obtain ⟨T, x, y, rfl, hT, hx, hy⟩ := hv
    exact hs c T x y H2 S N hc s hT hx hy k1 k2
end
theorem cx_none {P : Program} {w : World} {H : Hp} {s : Shared} {e : Value} {s' : Shared} (h : L2.CX P w [] H s (fun _ _ _ => False) e s') : False := by
  obtain ⟨_, _, _, _, _, _, _, _, _, _, _, _, z⟩ := h
  exact z.elim
/-! ### exceptions of the program's own: classes over ValueError without a body -/
def bmV : List Value := [.type "ValueError", .type "Exception", .type "BaseException", .type "object"]
structure Exc (K : PySem.W.Frag) (mg : Str → Option Value) (x : Str) (C : Addr) : Prop where
  g : mg x = some (.ref C)
  ex : PySem.W.excIn K C bmV "ValueError.__new__" = true
  kp : PySem.W.keepIn K (.ref C) = true
  bs : PySem.W.subIn K (.ref C) (.type "BaseException") = some true
  ty : PySem.W.typeIn K (.ref C) = some (.type "type")
section
variable {X : Cx} {k j : Nat} {ps : List Str} {sp : Sp} {E : XK} {x : Str} {p pos : Pos} {e : Expr} {es : List Expr} {t : TA} {C : Addr}
/-- raise X('..') -/
theorem ps_rs {W : WX} {m : Str} {jj : Nat} {p2 pos2 : Pos} (T : Exc X.K X.mg x C) (tk : Takes X W) (hc : X.calm = true := by rfl) (hg : Gl X x := by rfl) (hdb : (x == ("__debug__" : Str)) = false := by decide) :
    PS X (.Raise (some (.Call (.Name x p) [.Constant (.str m) jj p2] [] pos)) none pos2) (fun _ σ H => W (.ref C) none σ H) :=
  ps_raise hc tk (pmk_own PySem.F.excBase_ValueError T.ex T.g T.kp (raises_own T.bs T.ty) hg hdb)
/-- a call whose exception leaves this def -/
theorem pe_fnX (F : Fn X.prog X.w X.K X.mg X.base k x ps sp) (hr : Room j X.A) (tk : Takes X (fun cls d _ H => E cls d H)) (ha : PA X (e :: es) t) (hk : k ≤ j := by decide) (hg : Gl X x := by rfl)
    (hdb : (x == ("__debug__" : Str)) = false := by decide) (he : starEach (e :: es) X.env = (false, eval e X.env) :: starEach es X.env := by rfl) (hpl : (backTo pos (starEach es X.env)).any (·.1) = false := by rfl) :
    PE X (.Call (.Name x p) (e :: es) [] pos) (tFn sp E t) := pe_fnE F hr hk hg (passes_call tk fun _ _ _ _ h => h) ha hdb he hpl
end
theorem eqv_same {d : PyData} (h : SeqAt.shaped d = true) : PyData.eqv d d = true := SeqAt.eqv_refl d (SeqAt.canLay_of_shaped h)
/-- a statement, then the rest, with a word between -/
theorem r_cut {σ : St} {H : Hp} {tu tw : TS} {nx bk ct : St → Hp → Prop} {rt : VK} (Mid : St → Hp → Prop) (h : tu ⟨Mid, rt, bk, ct⟩ σ H) (k : ∀ σ' H', Mid σ' H' → tw ⟨nx, rt, bk, ct⟩ σ' H') : Evl.tCut tu tw ⟨nx, rt, bk, ct⟩ σ H := ⟨Mid, h, k⟩
/-! ### texts -/
open TL (tl tl_append mk_tl joinL tl_join join_eq)
section
variable {X : Cx} {K : PySem.W.Frag} {σ : St} {H : Hp} {Q : VK} {to te ta tb : TE} {o e : Expr} {a p : Addr}
def uJoin (K : PySem.W.Frag) : V → List V → Hp → VK → Prop := fun x xs H Q => ∃ a p, ∃ ys : List Str, x = .str a ∧ xs = [.ref p] ∧ (SqL K H p (ys.map V.str) ∨ SqT K H p (ys.map V.str)) ∧
  (ys.map (·.length)).sum + ys.length * a.length ≤ 16777216 ∧ Q (.str (Txt.join a ys)) H
theorem pe_joinU (K : PySem.W.Frag) {apos pos : Pos} (ho : PE X o to) (he : PE X e te) (hs : starEach [e] X.env = [(false, eval e X.env)] := by rfl) (hbase : attributeBase o "join" X.env (eval o X.env) = eval o X.env := by rfl) (hline : (apos.endLine == pos.line) = true := by rfl) (hK : X.K = K := by rfl) :
    PE X (.Call (.Attribute o "join" apos) [e] [] pos) (tM1 (uJoin K) to te) := hK ▸ pe_join ho he hs hbase hline
def uM1 (r : V → List V → Hp → VK → Prop) (te : TE) (σ : St) (x : V) (H : Hp) (Q : VK) : Prop := (∃ a, x = .str a) ∧ te σ H fun y H2 => r x [y] H2 Q
theorem r_m1 {r : V → List V → Hp → VK → Prop} (q : to σ H fun x H1 => uM1 r te σ x H1 Q) : tM1 r to te σ H Q := q
theorem r_m1s {r : V → List V → Hp → VK → Prop} {z : Str} (q : te σ H fun y H2 => r (.str z) [y] H2 Q) : uM1 r te σ (.str z) H Q := ⟨⟨z, rfl⟩, q⟩
theorem r_join {z : Str} {ys : List Str} (h : SqL K H p (ys.map V.str)) (hz : (ys.map (·.length)).sum + ys.length * z.length ≤ 16777216) (q : Q (.str (Txt.join z ys)) H) : uJoin K (.str z) [.ref p] H Q := ⟨z, p, ys, rfl, rfl, .inl h, hz, q⟩
def uAddS : R2 := fun x y H Q => ∃ i j, x = .str i ∧ y = .str j ∧ i.length + j.length ≤ sizeLine ∧ Q (.str (i ++ j)) H
theorem o_adds : OpR X (binaryOp .Add) uAddS := op_add_str
theorem r_adds {i j : Str} (h : i.length + j.length ≤ sizeLine) (q : Q (.str (i ++ j)) H) : uAddS (.str i) (.str j) H Q := ⟨i, j, rfl, rfl, h, q⟩
theorem tl_inj {x y : Str} (h : tl x = tl y) : x = y := by
  have := congrArg (fun l => (⟨l.toArray⟩ : Str)) h
  rw [← mk_tl x, ← mk_tl y]
  exact this
theorem len_tl (x : Str) : x.length = (tl x).length := by simp [tl, Str.length]
theorem joinL_nil : ∀ ps : List (List Nat), joinL [] ps = ps.flatten
  | [] => rfl
  | [p] => by simp [joinL]
  | p :: q :: r => by
    show p ++ ([] ++ joinL [] (q :: r)) = _
    rw [joinL_nil (q :: r)]
    simp
theorem sum_lens {B : Nat} : ∀ {l : List Str}, (∀ c ∈ l, c.length ≤ B) → (l.map (·.length)).sum ≤ l.length * B
  | [], _ => by simp
  | c :: l, h => by
    have h1 := h c (List.mem_cons_self ..)
    have h2 := sum_lens fun d hd => h d (List.mem_cons_of_mem _ hd)
    simp only [List.map_cons, List.sum_cons, List.length_cons, Nat.add_mul, Nat.one_mul]
    omega
theorem tl_join0 (ys : List Str) : tl (Txt.join ("" : Str) ys) = (ys.map tl).flatten := by
  rw [join_eq, tl_join, show tl ("" : Str) = [] by decide +kernel, joinL_nil]
theorem dpAll_strs {K : PySem.W.Frag} {H : Hp} : ∀ {ws : List V} {zs : List Str}, DpAll K H ws (zs.map PyData.str) → ws = zs.map V.str
  | _, [], .nil => rfl
  | _, n :: ns, .cons h1 h2 => by rw [dp_str h1, dpAll_strs h2]; rfl
theorem dpAll_ofStrs (K : PySem.W.Frag) (H : Hp) : ∀ zs : List Str, DpAll K H (zs.map V.str) (zs.map PyData.str)
  | [] => .nil
  | n :: ns => .cons (.str n) (dpAll_ofStrs K H ns)
end
/-! ### range with a step -/
section
variable {X : Cx} {σ : St} {H : Hp} {tg a b c : Expr} {ta : TA}
def uRng3 (vs : List V) (H : Hp) (R : It → Hp → Prop) : Prop := ∃ (i j c : Int) (n : Nat), vs = [.int i, .int j, .int c] ∧ RgC i j c n ∧ R (Itc i c n) H
def iRngU (ta : TA) : TI := fun σ H R => ta σ H fun vs H1 => uRng3 vs H1 R
theorem pi_rangeU {p pos : Pos} (hg : Gl X "range") (hm : X.mg "range" = none) (ha : PA X [a, b, c] ta)
    (hs : starEach [a, b, c] X.env = (false, eval a X.env) :: starEach [b, c] X.env := by rfl) (hpl : (backTo pos (starEach [b, c] X.env)).any (·.1) = false := by rfl) :
    PI X tg (.Call (.Name "range" p) [a, b, c] [] pos) (iRngU ta) := pi_range3 hg hm ha hs hpl
theorem r_irngU {R : It → Hp → Prop} (q : ta σ H fun vs H1 => uRng3 vs H1 R) : iRngU ta σ H R := q
theorem r_rngdown {i j : Int} {R : It → Hp → Prop} (h : -1000000 ≤ i ∧ i ≤ 1000000 ∧ -1000000 ≤ j ∧ j ≤ 1000000) (q : R (Itc i (-1) (i - j).toNat) H) : uRng3 [.int i, .int j, .int (-1)] H R :=
  ⟨i, j, -1, _, rfl, RgC.neg (by omega) (by omega) (by omega) (by omega), q⟩
end
/-! ### shifts -/
def uShl : R2 := fun x y H Q => ∃ (i : Int) (k : Nat), x = .int i ∧ y = .int (k : Int) ∧ CShl i (k : Int) ∧ Q (.int (i * 2 ^ k)) H
def uShr : R2 := fun x y H Q => ∃ (i : Int) (k : Nat), x = .int i ∧ y = .int (k : Int) ∧ Q (.int (i / 2 ^ k)) H
theorem o_shl {X : Cx} : OpR X (binaryOp .LShift) uShl := op_shlN
theorem o_shr {X : Cx} : OpR X (binaryOp .RShift) uShr := op_shrN
theorem r_shl {i : Int} {k : Nat} {H : Hp} {Q : VK} (h : i.natAbs < 2 ^ 64 ∧ k ≤ 1000) (q : Q (.int (i * 2 ^ k)) H) : uShl (.int i) (.int (k : Int)) H Q := ⟨i, k, rfl, rfl, shl_ok h.1 (by omega), q⟩
theorem r_shl1 {k : Nat} {H : Hp} {Q : VK} (h : k ≤ 1000) (q : Q (.int (2 ^ k)) H) : uShl (.int 1) (.int (k : Int)) H Q := r_shl ⟨by decide, h⟩ (by rw [Int.one_mul]; exact q)
theorem r_shl2 {k : Nat} {H : Hp} {Q : VK} (h : k ≤ 1000) (q : Q (.int (2 ^ (k + 1))) H) : uShl (.int 2) (.int (k : Int)) H Q := r_shl ⟨by decide, h⟩ (by
  have e : (2 : Int) * 2 ^ k = 2 ^ (k + 1) := by rw [Int.pow_succ]; omega
  rw [e]; exact q)
theorem r_shr {i : Int} {k : Nat} {H : Hp} {Q : VK} (q : Q (.int (i / 2 ^ k)) H) : uShr (.int i) (.int (k : Int)) H Q := ⟨i, k, rfl, rfl, q⟩
/-! ### numbers -/
theorem two_pos (n : Nat) : (0 : Int) < 2 ^ n := Int.pow_pos (by decide)
theorem two_succ (n : Nat) : (2 : Int) ^ (n + 1) = 2 * 2 ^ n := by rw [Int.pow_succ]; omega
theorem div_is {x w i : Int} (hw : 0 < w) (h1 : i * w ≤ x) (h2 : x < i * w + w) : x / w = i := by
  have a : i ≤ x / w := (Int.le_ediv_iff_mul_le hw).mpr h1
  have b : x / w < i + 1 := (Int.ediv_lt_iff_lt_mul hw).mpr (by rw [Int.add_mul, Int.one_mul]; exact h2)
  omega
end Fp
/-! pairs of numbers, curves: plain lists; dicts by number -/
namespace Fp
open PySem PySem.Spec PyProof.Rows L2
abbrev Prs := List (Int × Int)
def pairP (p : Int × Int) : PyData := .tuple [.int p.1, .int p.2]
def prsD (l : Prs) : PyData := .tuple (l.map pairP)
theorem imm_pair (p : Int × Int) : imm (pairP p) = true := by simp [pairP, imm, immAll]
theorem imm_all (l : Prs) : immAll (l.map pairP) = true := immAll_map _ imm_pair l
theorem imm_prs (l : Prs) : imm (prsD l) = true := by
  unfold prsD
  simp only [imm]
  exact imm_all l
theorem shp_pair (p : Int × Int) : Shp 1 (pairP p) := Shp.t2 (.int _) (.int _)
theorem shp_prs (l : Prs) : Shp 2 (prsD l) := Shp.tupleM (n := 1) shp_pair
theorem shaped_prs (l : Prs) : SeqAt.shaped (prsD l) = true := (shp_prs l).ok
theorem dp_pair {K : PySem.W.Frag} {H : Hp} {v : V} {p : Int × Int} (h : Dp K H v (pairP p)) : ∃ a, v = .ref a ∧ SqT K H a [.int p.1, .int p.2] := dp_ints (ns := [p.1, p.2]) h
theorem dp_of_pair {K : PySem.W.Frag} {H : Hp} {a : Addr} {i j : Int} (h : SqT K H a [.int i, .int j]) : Dp K H (.ref a) (pairP (i, j)) := .tup h (dpAll_ints K H [i, j])
theorem eqv_pair (p q : Int × Int) : PyData.eqv (pairP p) (pairP q) = decide (p = q) := by
  simp only [pairP, PyData.eqv, PyData.eqvAll, Bool.and_true]
  rw [Bool.eq_iff_iff]
  simp [Prod.ext_iff]
theorem eqvAll_prs : ∀ l m : Prs, PyData.eqvAll (l.map pairP) (m.map pairP) = decide (l = m)
  | [], [] => by simp [PyData.eqvAll]
  | [], q :: m => by simp [PyData.eqvAll]
  | p :: l, [] => by simp [PyData.eqvAll]
  | p :: l, q :: m => by
    simp only [List.map_cons, PyData.eqvAll]
    rw [eqv_pair, eqvAll_prs l m, Bool.eq_iff_iff]
    simp
theorem eqv_prs (l m : Prs) : PyData.eqv (prsD l) (prsD m) = decide (l = m) := by
  unfold prsD
  rw [PyData.eqv]
  exact eqvAll_prs l m
/-! ### tables by number -/
def putP (l : Prs) (t h : Int) : Prs := if (l.any fun p => decide (p.1 = t)) = true then l.map (fun p => if p.1 = t then (p.1, h) else p) else l ++ [(t, h)]
def valP (l : Prs) (t : Int) : Option Int := (l.find? fun p => decide (p.1 = t)).map (·.2)
def mergeP (l more : Prs) : Prs := more.foldl (fun acc p => putP acc p.1 p.2) l
def inj (p : Int × Int) : Key × V := (Sum.inl p.1, .int p.2)
theorem any_inj (t : Int) : ∀ l : Prs, ((l.map inj).any fun kv => decide (kv.1 = Sum.inl t)) = l.any fun p => decide (p.1 = t)
  | [] => rfl
  | p :: l => by
    simp only [List.map_cons, List.any_cons, any_inj t l]
    congr 1
    rw [Bool.eq_iff_iff]
    simp [inj]
theorem put_inj (l : Prs) (t h : Int) : putK (l.map inj) (Sum.inl t) (.int h) = (putP l t h).map inj := by
  unfold putK putP
  rw [any_inj]
  split
  · rw [List.map_map, List.map_map]
    refine List.map_congr_left fun p _ => ?_
    show (if (inj p).1 = Sum.inl t then ((inj p).1, V.int h) else inj p) = inj (if p.1 = t then (p.1, h) else p)
    by_cases e : p.1 = t
    · rw [if_pos e, if_pos (by rw [← e]; rfl)]; rfl
    · rw [if_neg e, if_neg (by simpa [inj] using e)]
  · rw [List.map_append]; rfl
theorem merge_inj : ∀ (more l : Prs), mergeK (l.map inj) (more.map inj) = (mergeP l more).map inj
  | [], l => rfl
  | p :: r, l => by
    show mergeK (putK (l.map inj) (inj p).1 (inj p).2) (r.map inj) = (mergeP (putP l p.1 p.2) r).map inj
    rw [show putK (l.map inj) (inj p).1 (inj p).2 = (putP l p.1 p.2).map inj from put_inj l p.1 p.2]
    exact merge_inj r _
theorem val_inj (t : Int) : ∀ l : Prs, valV (l.map inj) (Sum.inl t) = (valP l t).map V.int
  | [] => rfl
  | p :: l => by
    by_cases e : p.1 = t
    · rw [List.map_cons, valV_pos (by rw [← e]; rfl)]
      simp [valP, List.find?_cons, e, inj]
    · rw [List.map_cons, valV_neg (by simpa [inj] using e), val_inj t l]
      simp [valP, List.find?_cons, e]
theorem valP_pos {p : Int × Int} {r : Prs} {k : Int} (e : p.1 = k) : valP (p :: r) k = some p.2 := by simp [valP, List.find?_cons, e]
theorem valP_neg {p : Int × Int} {r : Prs} {k : Int} (e : ¬ p.1 = k) : valP (p :: r) k = valP r k := by simp [valP, List.find?_cons, e]
theorem valP_iff {t h : Int} : ∀ {l : Prs}, (l.map (·.1)).Nodup → (valP l t = some h ↔ (t, h) ∈ l)
  | [], _ => by simp [valP]
  | p :: l, nd => by
    have nd2 := List.nodup_cons.mp nd
    by_cases e : p.1 = t
    · rw [valP_pos e]
      constructor
      · intro z
        have z := Option.some.inj z
        rw [List.mem_cons]
        left
        rw [← e, ← z]
      · intro z
        rcases List.mem_cons.mp z with z | z
        · rw [← z]
        · exact absurd (show p.1 ∈ l.map (·.1) by rw [e]; exact List.mem_map_of_mem (f := (·.1)) z) nd2.1
    · rw [valP_neg e, valP_iff nd2.2]
      constructor
      · exact fun z => List.mem_cons_of_mem _ z
      · intro z
        rcases List.mem_cons.mp z with z | z
        · exact absurd (by rw [← z]) e
        · exact z
theorem any_iff {l : Prs} {t : Int} : (l.any fun p => decide (p.1 = t)) = true ↔ t ∈ l.map (·.1) := by
  simp only [List.any_eq_true, decide_eq_true_eq, List.mem_map]
theorem keys_put (l : Prs) (t h : Int) : (putP l t h).map (·.1) = if t ∈ l.map (·.1) then l.map (·.1) else l.map (·.1) ++ [t] := by
  unfold putP
  by_cases e : t ∈ l.map (·.1)
  · rw [if_pos e, if_pos (any_iff.mpr e), List.map_map]
    refine List.map_congr_left fun p _ => ?_
    show (if p.1 = t then (p.1, h) else p).1 = p.1
    split <;> rfl
  · rw [if_neg e, if_neg (fun z => e (any_iff.mp z)), List.map_append]; rfl
theorem nd_put {l : Prs} (t h : Int) (nd : (l.map (·.1)).Nodup) : ((putP l t h).map (·.1)).Nodup := by
  rw [keys_put]
  split
  · exact nd
  · rename_i e
    rw [List.nodup_append]
    exact ⟨nd, by simp, fun a ha b hb => by simp at hb; subst hb; exact fun z => e (z ▸ ha)⟩
theorem nd_merge : ∀ (more l : Prs), (l.map (·.1)).Nodup → ((mergeP l more).map (·.1)).Nodup
  | [], l, nd => nd
  | p :: r, l, nd => nd_merge r _ (nd_put p.1 p.2 nd)
theorem mem_put {l : Prs} {t h : Int} {p : Int × Int} : p ∈ putP l t h ↔ (p = (t, h)) ∨ (p ∈ l ∧ p.1 ≠ t) := by
  unfold putP
  split
  · rename_i e
    obtain ⟨q, hq, e⟩ := List.any_eq_true.mp e
    have e : q.1 = t := of_decide_eq_true e
    rw [List.mem_map]
    constructor
    · rintro ⟨x, hx, rfl⟩
      by_cases z : x.1 = t
      · rw [if_pos z, z]; exact .inl rfl
      · rw [if_neg z]; exact .inr ⟨hx, z⟩
    · rintro (rfl | ⟨h1, h2⟩)
      · exact ⟨q, hq, by rw [if_pos e, e]⟩
      · exact ⟨p, h1, if_neg h2⟩
  · rename_i e
    rw [List.mem_append, List.mem_singleton]
    constructor
    · rintro (h1 | h1)
      · exact .inr ⟨h1, fun z => e (any_iff.mpr (z ▸ List.mem_map_of_mem h1))⟩
      · exact .inl h1
    · rintro (h1 | ⟨h1, _⟩)
      · exact .inr h1
      · exact .inl h1
/-- p is the last one of its time -/
def Last (l : Prs) (p : Int × Int) : Prop := p ∈ mergeP [] l
theorem merge_snoc (l : Prs) (q : Int × Int) : mergeP [] (l ++ [q]) = putP (mergeP [] l) q.1 q.2 := by
  unfold mergeP
  rw [List.foldl_append]
  rfl
theorem last_snoc {l : Prs} {q p : Int × Int} : Last (l ++ [q]) p ↔ p = q ∨ (Last l p ∧ p.1 ≠ q.1) := by
  unfold Last
  rw [merge_snoc, mem_put]
theorem mem_merge {p : Int × Int} : ∀ (more l : Prs), p ∈ mergeP l more → p ∈ l ∨ p ∈ more
  | [], l, h => .inl h
  | q :: r, l, h => by
    rcases mem_merge r _ h with h | h
    · rcases mem_put.mp h with h | h
      · exact .inr (h ▸ List.mem_cons_self ..)
      · exact .inl h.1
    · exact .inr (List.mem_cons_of_mem _ h)
theorem Last.mem {l : Prs} {p : Int × Int} (h : Last l p) : p ∈ l := by
  rcases mem_merge l [] h with h | h
  · simp at h
  · exact h
theorem len_put (l : Prs) (t h : Int) : (putP l t h).length ≤ l.length + 1 := by
  unfold putP
  split <;> simp
theorem len_merge : ∀ (more l : Prs), (mergeP l more).length ≤ l.length + more.length
  | [], l => Nat.le_refl _
  | p :: r, l => by
    have h1 := len_merge r (putP l p.1 p.2)
    have h2 := len_put l p.1 p.2
    show (mergeP (putP l p.1 p.2) r).length ≤ _
    simp only [List.length_cons]
    omega
/-- c is the curve of the samples l -/
structure IsC (l c : Prs) : Prop where
  up : c.Pairwise fun p q => p.1 < q.1
  mem : ∀ p, p ∈ c ↔ Last l p
  len0 : c.length = (mergeP [] l).length
theorem IsC.len {l c : Prs} (h : IsC l c) : c.length ≤ l.length := by
  rw [h.len0]
  have := len_merge l []
  simpa using this
theorem up_ext : ∀ {l l' : Prs}, (l.Pairwise fun p q => p.1 < q.1) → (l'.Pairwise fun p q => p.1 < q.1) → (∀ p, p ∈ l ↔ p ∈ l') → l = l'
  | [], [], _, _, _ => rfl
  | [], q :: r, _, _, h => by have := (h q).mpr (List.mem_cons_self ..); simp at this
  | p :: r, [], _, _, h => by have := (h p).mp (List.mem_cons_self ..); simp at this
  | p :: r, q :: r', h1, h2, h => by
    obtain ⟨a1, a2⟩ := List.pairwise_cons.mp h1
    obtain ⟨b1, b2⟩ := List.pairwise_cons.mp h2
    have e : p = q := by
      rcases List.mem_cons.mp ((h p).mp (List.mem_cons_self ..)) with z | z
      · exact z
      · rcases List.mem_cons.mp ((h q).mpr (List.mem_cons_self ..)) with y | y
        · exact y.symm
        · have := a1 q y; have := b1 p z; omega
    subst e
    congr 1
    refine up_ext a2 b2 fun x => ⟨fun hx => ?_, fun hx => ?_⟩
    · rcases List.mem_cons.mp ((h x).mp (List.mem_cons_of_mem _ hx)) with z | z
      · subst z; have := a1 _ hx; omega
      · exact z
    · rcases List.mem_cons.mp ((h x).mpr (List.mem_cons_of_mem _ hx)) with z | z
      · subst z; have := b1 _ hx; omega
      · exact z
theorem IsC.uniq {l c c' : Prs} (h : IsC l c) (h' : IsC l c') : c = c' := up_ext h.up h'.up fun p => (h.mem p).trans (h'.mem p).symm
/-- what dict and sorted make -/
def outOf (m : Prs) (ys : List Int) : Prs := ys.map fun t => (t, (valP m t).getD 0)
theorem isC_out {l : Prs} {ys : List Int} (hp : ys.Perm ((mergeP [] l).map (·.1))) (hs : ys.Pairwise (· ≤ ·)) : IsC l (outOf (mergeP [] l) ys) := by
  have nd := nd_merge l [] (by simp)
  have ndy : ys.Nodup := hp.nodup_iff.mpr nd
  refine ⟨?_, fun p => ?_, ?_⟩
  · unfold outOf
    rw [List.pairwise_map]
    refine List.Pairwise.imp₂ (fun a b h1 h2 => ?_) hs ndy
    show a < b
    have : a ≠ b := h2
    omega
  · unfold outOf Last
    rw [List.mem_map]
    constructor
    · rintro ⟨t, ht, rfl⟩
      obtain ⟨q, hq, e⟩ := List.mem_map.mp (hp.mem_iff.mp ht)
      have e2 : valP (mergeP [] l) t = some q.2 := (valP_iff nd).mpr (by rw [← e]; exact hq)
      rw [e2]
      rw [← e]
      exact hq
    · intro h
      refine ⟨p.1, hp.mem_iff.mpr (List.mem_map_of_mem h), ?_⟩
      have e2 : valP (mergeP [] l) p.1 = some p.2 := (valP_iff nd).mpr h
      rw [e2]
      rfl
  · unfold outOf
    rw [List.length_map, hp.length_eq, List.length_map]
/-- samples each of its own time, rising: their own curve -/
theorem last_nodup : ∀ {l : Prs} {p : Int × Int}, (l.map (·.1)).Nodup → (Last l p ↔ p ∈ l) := by
  intro l
  suffices h : ∀ n, ∀ l : Prs, l.length = n → ∀ p, (l.map (·.1)).Nodup → (Last l p ↔ p ∈ l) from fun {p} nd => h _ l rfl p nd
  intro n
  induction n with
  | zero =>
    intro l hl p _
    have : l = [] := List.length_eq_zero_iff.mp hl
    subst this
    simp [Last, mergeP]
  | succ n ih =>
    intro l hl p nd
    have hne : l ≠ [] := by intro z; subst z; simp at hl
    rw [← List.dropLast_concat_getLast hne] at nd ⊢
    rw [List.map_append, List.nodup_append] at nd
    rw [last_snoc, ih _ (by simp [hl]) p nd.1, List.mem_append, List.mem_singleton]
    constructor
    · rintro (h | h)
      · exact .inr h
      · exact .inl h.1
    · rintro (h | h)
      · exact .inr ⟨h, nd.2.2 _ (List.mem_map_of_mem h) _ (by simp)⟩
      · exact .inl h
theorem up_nodup {c : Prs} (h : c.Pairwise fun p q => p.1 < q.1) : (c.map (·.1)).Nodup := by
  unfold List.Nodup
  rw [List.pairwise_map]
  exact h.imp fun h => by omega
theorem keys_in {t : Int} : ∀ (more l : Prs), t ∈ l.map (·.1) ∨ t ∈ more.map (·.1) → t ∈ (mergeP l more).map (·.1)
  | [], l, h => by
    rcases h with h | h
    · exact h
    · simp at h
  | p :: r, l, h => by
    refine keys_in r (putP l p.1 p.2) ?_
    rw [keys_put]
    rcases h with h | h
    · left
      split
      · exact h
      · exact List.mem_append_left _ h
    · rw [List.map_cons, List.mem_cons] at h
      rcases h with h | h
      · left
        subst h
        split
        · assumption
        · exact List.mem_append_right _ (by simp)
      · exact .inr h
theorem nodup_of_len : ∀ n, ∀ l : Prs, l.length = n → (mergeP [] l).length = l.length → (l.map (·.1)).Nodup := by
  intro n
  induction n with
  | zero =>
    intro l hl _
    have : l = [] := List.length_eq_zero_iff.mp hl
    subst this
    exact List.Pairwise.nil
  | succ n ih =>
    intro l hl h
    have hne : l ≠ [] := by intro z; subst z; simp at hl
    rw [← List.dropLast_concat_getLast hne] at h ⊢
    have hd : l.dropLast.length = n := by simp [hl]
    generalize l.dropLast = d at *
    generalize l.getLast hne = q at *
    rw [merge_snoc] at h
    have e := congrArg List.length (keys_put (mergeP [] d) q.1 q.2)
    simp only [List.length_map] at e
    have hb := len_merge d []
    rw [h] at e
    simp only [List.length_append, List.length_cons, List.length_nil] at e hb
    by_cases hq : q.1 ∈ (mergeP [] d).map (·.1)
    · rw [if_pos hq, List.length_map] at e
      omega
    · rw [if_neg hq, List.length_append, List.length_map] at e
      simp only [List.length_cons, List.length_nil] at e
      rw [List.map_append, List.nodup_append]
      refine ⟨ih d hd (by omega), by simp, fun a ha b hb2 => ?_⟩
      simp at hb2
      subst hb2
      intro z
      subst z
      exact hq (keys_in d [] (.inr ha))
theorem IsC.again {l l' c c' : Prs} (h : IsC l c) (nd : (l.map (·.1)).Nodup) (h' : IsC l' c') (nd' : (l'.map (·.1)).Nodup) (hm : ∀ p, p ∈ l' ↔ p ∈ l) : c' = c :=
  up_ext h'.up h.up fun p => by rw [h'.mem, h.mem, last_nodup nd, last_nodup nd', hm]
theorem IsC.self {c c' : Prs} (hc : c.Pairwise fun p q => p.1 < q.1) (h : IsC c c') : c' = c := up_ext h.up hc fun p => by rw [h.mem, last_nodup (up_nodup hc)]
def prsLD (l : Prs) : PyData := .list (l.map pairP)
theorem shp_prsL (l : Prs) : Shp 2 (prsLD l) := Shp.listM (n := 1) shp_pair
theorem shaped_prsL (l : Prs) : SeqAt.shaped (prsLD l) = true := (shp_prsL l).ok
theorem eqv_prsL (l m : Prs) : PyData.eqv (prsLD l) (prsLD m) = decide (l = m) := by
  unfold prsLD
  rw [PyData.eqv]
  exact eqvAll_prs l m
theorem merge_take {l : Prs} {i : Nat} {p : Int × Int} (h : l[i]? = some p) : mergeP [] (l.take (i + 1)) = putP (mergeP [] (l.take i)) p.1 p.2 := by
  rw [take_snoc h, merge_snoc]
theorem dpAll_rev {K : PySem.W.Frag} {H : Hp} : ∀ {ws : List V} {ds : List PyData}, DpAll K H ws ds → DpAll K H ws.reverse ds.reverse
  | _, _, .nil => .nil
  | _, _, .cons h1 h2 => by
    rw [List.reverse_cons, List.reverse_cons]
    exact dpAll_snoc (dpAll_rev h2) h1
/-! ### dicts, step by step -/
section
variable {X : Cx} {K : PySem.W.Frag} {σ : St} {H H' : Hp} {Q : VK} {td ty tv te : TE} {nx bk ct : St → Hp → Prop} {rt : VK} {a : Addr} {kvs : List (Key × V)} {k : Key} {v x y : V}
def uDGet (x y : V) (H : Hp) (Q : VK) : Prop := ∃ a v, x = .ref a ∧ DGet H a y (some v) ∧ Q v H
theorem r_dget (q : td σ H fun x H1 => ty σ H1 fun y H2 => uDGet x y H2 Q) : tDGet td ty σ H Q := q
theorem r_dgeti {m : Prs} {t h : Int} (hd : H a = some (.dK (m.map inj))) (e : valP m t = some h) (q : Q (.int h) H) : uDGet (.ref a) (.int t) H Q := by
  refine ⟨a, .int h, rfl, ?_, q⟩
  have z := DGet.k (k := Sum.inl t) hd
  rw [val_inj, e] at z
  exact z
def uDPut (x y v : V) (H : Hp) (R : Hp → Prop) : Prop := ∃ a H4, x = .ref a ∧ DPut H a y v H4 ∧ R H4
theorem r_dput (q : tv σ H fun v H1 => td σ H1 fun x H2 => ty σ H2 fun y H3 => uDPut x y v H3 fun H4 => nx σ H4) : sDPut td ty tv ⟨nx, rt, bk, ct⟩ σ H := q
theorem r_dputi {m : Prs} {t h : Int} {R : Hp → Prop} (hd : H a = some (.dK (m.map inj))) (hl : m.length ≤ 100000) (q : ∀ H', Keep (At a) H H' → H' a = some (.dK ((putP m t h).map inj)) → R H') : uDPut (.ref a) (.int t) (.int h) H R := by
  refine ⟨a, _, rfl, DPut.k (k := Sum.inl t) hd (by rw [sizeLine_eq, List.length_map]; omega), q _ Keep.at_ ?_⟩
  rw [upd_same, put_inj]
theorem r_dnew (q : ∀ p H', H p = none → Same H H' → H' p = some (.dK []) → Q (.ref p) H') : tDNewK σ H Q := fun p hp => q p _ hp (Keep.same (Keep.new hp)) upd_same
def uDictP (K : PySem.W.Frag) : List V → Hp → VK → Prop := fun xs H Q => ∃ (a : Addr) (ps : List Addr) (kvs : List (Key × V)), xs = [.ref a] ∧ SqL K H a (ps.map V.ref) ∧ Paired (fun p kv => SqT K H p [kV kv.1, kv.2]) ps kvs ∧ ∀ p, H p = none → Q (.ref p) (upd H p (.dK (mergeK [] kvs)))
theorem c_dictP (hcalm : X.calm = true) : CallR X (.type "dict") (uDictP X.K) := call_dictP hcalm
theorem dp_pairs : ∀ {ws : List V} {l : Prs}, DpAll K H ws (l.map pairP) → ∃ ps : List Addr, ws = ps.map V.ref ∧ Paired (fun p kv => SqT K H p [kV kv.1, kv.2]) ps (l.map inj)
  | _, [], .nil => ⟨[], rfl, .nil⟩
  | _, p :: l, .cons h1 h2 => by
    obtain ⟨b, rfl, hb⟩ := dp_pair h1
    obtain ⟨ps, rfl, hp⟩ := dp_pairs h2
    exact ⟨b :: ps, rfl, .cons hb hp⟩
theorem r_dict {l : Prs} {ws : List V} (h : SqL K H a ws) (hd : DpAll K H ws (l.map pairP)) (q : ∀ p H', H p = none → Same H H' → H' p = some (.dK ((mergeP [] l).map inj)) → Q (.ref p) H') : uDictP K [.ref a] H Q := by
  obtain ⟨ps, rfl, hp⟩ := dp_pairs hd
  refine ⟨a, ps, l.map inj, rfl, h, hp, fun p hn => q p _ hn (Keep.same (Keep.new hn)) ?_⟩
  rw [upd_same]
  congr 2
  exact merge_inj l []
def uSortedD : List V → Hp → VK → Prop := fun xs H Q => ∃ (a : Addr) (kvs : List (Key × V)) (ks : List Int), xs = [.ref a] ∧ Rd H a (.dK kvs) ∧ kvs.map (·.1) = ks.map Sum.inl ∧ ks.length < 64 ∧
    ∀ (ys : List Int) (p : Addr), ys.Perm ks → ys.Pairwise (· ≤ ·) → H p = none → Q (.ref p) (upd H p (.lst (ys.map V.int)))
theorem c_sortedD (hcalm : X.calm = true) : CallR X (.builtin "sorted") uSortedD := call_sortedDI hcalm
theorem r_sortedD {m : Prs} (hd : H a = some (.dK (m.map inj))) (hl : m.length < 64) (q : ∀ (ys : List Int) p H', ys.Perm (m.map (·.1)) → ys.Pairwise (· ≤ ·) → H p = none → Same H H' → H' p = some (.lst (ys.map V.int)) → Q (.ref p) H') : uSortedD [.ref a] H Q :=
  ⟨a, m.map inj, m.map (·.1), rfl, .inl hd, by rw [List.map_map, List.map_map]; rfl, by simpa using hl, fun ys p h1 h2 h3 => q ys p _ h1 h2 h3 (Keep.same (Keep.new h3)) upd_same⟩
end
/-! ### parts of a curve -/
def partL (c : Prs) (b e : Int) : Prs := c.filter fun p => decide (b ≤ p.1) && decide (p.1 < e)
theorem partL_app {c : Prs} {a b d : Int} (hc : c.Pairwise fun p q => p.1 < q.1) (h1 : a ≤ b) (h2 : b ≤ d) : partL c a b ++ partL c b d = partL c a d := by
  induction c with
  | nil => rfl
  | cons p r ih =>
    obtain ⟨c1, c2⟩ := List.pairwise_cons.mp hc
    have ih := ih c2
    unfold partL at *
    by_cases h3 : p.1 < b
    · have e2 : (p :: r).filter (fun p => decide (b ≤ p.1) && decide (p.1 < d)) = r.filter (fun p => decide (b ≤ p.1) && decide (p.1 < d)) := List.filter_cons_of_neg (by simp; omega)
      rw [e2]
      by_cases h4 : a ≤ p.1
      · rw [List.filter_cons_of_pos (by simp; omega), List.filter_cons_of_pos (by simp; omega)]
        simp only [List.cons_append]
        rw [← ih]
      · rw [List.filter_cons_of_neg (by simp; omega), List.filter_cons_of_neg (by simp; omega)]
        exact ih
    · have e1 : r.filter (fun p => decide (a ≤ p.1) && decide (p.1 < b)) = [] := by
        rw [List.filter_eq_nil_iff]
        intro q hq
        have := c1 q hq
        simp
        omega
      rw [List.filter_cons_of_neg (by simp; omega), e1, List.nil_append]
      rw [e1, List.nil_append] at ih
      by_cases h4 : p.1 < d
      · rw [List.filter_cons_of_pos (by simp; omega), List.filter_cons_of_pos (by simp; omega), ih]
      · rw [List.filter_cons_of_neg (by simp; omega), List.filter_cons_of_neg (by simp; omega), ih]
theorem partL_self (c : Prs) (a b : Int) : partL (partL c a b) a b = partL c a b := by
  unfold partL
  rw [List.filter_filter]
  simp
theorem partL_len (c : Prs) (a b : Int) : (partL c a b).length ≤ c.length := List.length_filter_le _ _
theorem zip_up {c : Prs} (h : c.Pairwise fun p q => p.1 < q.1) : ∀ pq ∈ c.zip (c.drop 1), pq.1.1 < pq.2.1 := by
  intro pq hpq
  obtain ⟨i, hi⟩ := List.getElem?_of_mem hpq
  rw [List.getElem?_zip_eq_some] at hi
  obtain ⟨h1, h2⟩ := hi
  rw [List.getElem?_drop] at h2
  obtain ⟨i1, e1⟩ := List.getElem?_eq_some_iff.mp h1
  obtain ⟨i2, e2⟩ := List.getElem?_eq_some_iff.mp h2
  have := List.pairwise_iff_getElem.mp h i (1 + i) i1 i2 (by omega)
  rw [e1, e2] at this
  exact this
/-! ### bounds -/
/-- numbers that the laws draw -/
def big : Int := 1000000000000000000000000000000000000000000000000000000000000
structure Bd (p : Int × Int) : Prop where
  t : -big ≤ p.1 ∧ p.1 ≤ big
  h : -big ≤ p.2 ∧ p.2 ≤ big
end Fp
/-! texts of numbers, of curves -/
namespace Fp
open PySem PySem.Spec PyProof.Rows L2
open TL (tl tl_append mk_tl tl_mk numL numL_digits numL_ne numL_free numL_val numL_len numL_step numL_lt tl_num spl spl_part1 spl_last1 tl_ofString map_tl_inj split_spl kind_ok)
def numT (i : Int) : List Nat := if i < 0 then 45 :: numL i.natAbs else numL i.natAbs
def numS (i : Int) : Str := ⟨(numT i).toArray⟩
theorem tl_numS (i : Int) : tl (numS i) = numT i := tl_mk _
theorem tl_str_int (i : Int) : tl (Str.ofString (toString i)) = numT i := by
  cases i with
  | ofNat n =>
    show tl (Str.ofString (toString ((n : Nat) : Int))) = numT ((n : Nat) : Int)
    rw [tl_num]
    unfold numT
    rw [if_neg (by omega)]
    simp
  | negSucc n =>
    have h : toString (Int.negSucc n) = "-" ++ toString (((n + 1 : Nat) : Int)) := rfl
    rw [h, tl_ofString, String.toList_append, List.map_append, ← tl_ofString, ← tl_ofString, tl_num]
    unfold numT
    rw [if_pos (by omega), show tl (Str.ofString "-") = [45] by decide +kernel]
    rfl
theorem str_int (i : Int) : Str.ofString (toString i) = numS i := tl_inj (by rw [tl_str_int, tl_numS])
theorem numT_free {i : Int} {s : Nat} (h0 : s ≠ 45) (h : s < 48 ∨ 57 < s) : s ∉ numT i := by
  unfold numT
  split
  · intro z
    rcases List.mem_cons.mp z with z | z
    · exact h0 z
    · exact numL_free h z
  · exact numL_free h
theorem pow10_nat (k : Nat) : ((10 ^ k : Nat) : Int) = (10 : Int) ^ k := by exact_mod_cast rfl
theorem numT_len {i : Int} {k : Nat} (hk : 0 < k) (h : i.natAbs < 10 ^ k) : (numT i).length ≤ k + 1 := by
  have := numL_len (n := i.natAbs) hk h
  unfold numT
  split
  · simp only [List.length_cons]; omega
  · omega
theorem int_of_numS {i : Int} (h : (numT i).length ≤ 4300) : intText? (numS i) = some i := by
  unfold numS
  unfold numT at h ⊢
  by_cases z : i < 0
  · rw [if_pos z] at h ⊢
    simp only [List.length_cons] at h
    rw [PySem.intText_neg (cs := numL i.natAbs) (by rfl) (numL_digits _) (numL_ne _) (by simp [Str.length]; omega), numL_val]
    congr 1
    omega
  · rw [if_neg z] at h ⊢
    rw [PySem.intText_digits (by exact numL_digits _) (by exact numL_ne _) (by simp [Str.length]; omega)]
    show some (((NumText.digitsVal (numL i.natAbs) : Nat) : Int)) = some i
    rw [numL_val]
    congr 1
    omega
/-- a line, a text -/
def lineT (p : Int × Int) : List Nat := numT p.1 ++ 32 :: numT p.2
def lineOf (p : Int × Int) : Str := ⟨(lineT p).toArray⟩
def lineNl (p : Int × Int) : Str := ⟨(lineT p ++ [10]).toArray⟩
theorem tl_lineNl (p : Int × Int) : tl (lineNl p) = lineT p ++ [10] := tl_mk _
def textN (c : Prs) : List Nat := (c.map fun p => lineT p ++ [10]).flatten
def textS (c : Prs) : Str := ⟨(textN c).toArray⟩
theorem tl_lineOf (p : Int × Int) : tl (lineOf p) = lineT p := tl_mk _
theorem tl_textS (c : Prs) : tl (textS c) = textN c := tl_mk _
theorem lineT_free (p : Int × Int) : (10 : Nat) ∉ lineT p := by
  unfold lineT
  intro z
  rcases List.mem_append.mp z with z | z
  · exact numT_free (by decide) (by decide) z
  · rcases List.mem_cons.mp z with z | z
    · exact absurd z (by decide)
    · exact numT_free (by decide) (by decide) z
theorem spl_text : ∀ c : Prs, spl [10] 0 [] (textN c) = c.map lineT ++ [[]]
  | [] => by simp [textN, TL.spl_nil]
  | p :: c => by
    have e : textN (p :: c) = lineT p ++ ([10] ++ textN c) := by simp [textN]
    rw [e, spl_part1 (s := 10) (S := []) (lineT_free p), spl_text c]
    rfl
theorem split_text (c : Prs) : Txt.split (textS c) ("\n" : Str) = c.map lineOf ++ [("" : Str)] := by
  refine map_tl_inj ?_
  rw [split_spl _ _ (by decide +kernel) (kind_ok (by decide +kernel)), tl_textS, show tl ("\n" : Str) = [10] by decide +kernel, spl_text, List.map_append, List.map_map]
  congr 1
theorem split_line (p : Int × Int) : Txt.split (lineOf p) (" " : Str) = [numS p.1, numS p.2] := by
  refine map_tl_inj ?_
  rw [split_spl _ _ (by decide +kernel) (kind_ok (by decide +kernel)), tl_lineOf, show tl (" " : Str) = [32] by decide +kernel]
  have e : lineT p = numT p.1 ++ ([32] ++ numT p.2) := by simp [lineT]
  rw [e, spl_part1 (s := 32) (S := []) (numT_free (by decide) (by decide)), spl_last1 (numT_free (by decide) (by decide))]
  simp [tl_numS]
theorem text_snoc {c : Prs} {i : Nat} {p : Int × Int} (h : c[i]? = some p) : textN (c.take (i + 1)) = textN (c.take i) ++ (numT p.1 ++ [32] ++ numT p.2 ++ [10]) := by
  unfold textN
  rw [take_snoc h, List.map_append, List.flatten_append]
  simp [lineT]
/-- numbers of at most k digits -/
structure Bdk (k : Nat) (p : Int × Int) : Prop where
  t : p.1.natAbs < 10 ^ k
  h : p.2.natAbs < 10 ^ k
theorem lineT_len {k : Nat} {p : Int × Int} (hk : 0 < k) (h : Bdk k p) : (lineT p).length ≤ 2 * k + 3 := by
  have h1 := numT_len hk h.t
  have h2 := numT_len hk h.h
  unfold lineT
  simp only [List.length_append, List.length_cons]
  omega
theorem textN_len {k : Nat} (hk : 0 < k) : ∀ {c : Prs}, (∀ p ∈ c, Bdk k p) → (textN c).length ≤ c.length * (2 * k + 4)
  | [], _ => by simp [textN]
  | p :: c, h => by
    have h1 := lineT_len hk (h p (List.mem_cons_self ..))
    have h2 := textN_len hk fun q hq => h q (List.mem_cons_of_mem _ hq)
    have e : textN (p :: c) = lineT p ++ ([10] ++ textN c) := by simp [textN]
    rw [e]
    simp only [List.length_append, List.length_cons, List.length_nil, Nat.add_mul, Nat.one_mul]
    omega
theorem bdk_of {p : Int × Int} (h : Bd p) : Bdk 61 p := by
  have e : (10 : Nat) ^ 61 = 10000000000000000000000000000000000000000000000000000000000000 := by decide
  have h1 := h.t
  have h2 := h.h
  unfold big at h1 h2
  exact ⟨by rw [e]; omega, by rw [e]; omega⟩
/-! ### rules of texts -/
section
variable {X : Cx} {K : PySem.W.Frag} {σ : St} {H H' : Hp} {Q : VK} {te : TE}
theorem r_str {i : Int} (h : i.natAbs < 2 ^ 1920) (q : Q (.str (numS i)) H) : uStr [.int i] H Q := by
  refine ⟨i, rfl, ?_, by rw [show ((toString i : String) : Str) = numS i from str_int i]; exact q⟩
  by_cases z : i.natAbs = 0
  · rw [z]; decide
  · exact (Nat.log2_lt z).mpr h
def uSplit : V → List V → Hp → VK → Prop := fun x xs H Q => ∃ a b, x = .str a ∧ xs = [.str b] ∧ (b.length == 0) = false ∧ a.length + 2 ≤ sizeLine ∧ rNewStrs (Txt.split a b) H Q
theorem pe_splitU {o e : Expr} {to te : TE} {apos pos : Pos} (ho : PE X o to) (he : PE X e te) (hs : starEach [e] X.env = [(false, eval e X.env)] := by rfl) (hbase : attributeBase o "split" X.env (eval o X.env) = eval o X.env := by rfl) (hline : (apos.endLine == pos.line) = true := by rfl) :
    PE X (.Call (.Attribute o "split" apos) [e] [] pos) (tM1 uSplit to te) := pe_split ho he hs hbase hline
theorem r_split {a b : Str} (hb : (b.length == 0) = false) (ha : a.length + 2 ≤ sizeLine) (q : ∀ p H', H p = none → Same H H' → H' p = some (.lst ((Txt.split a b).map V.str)) → Q (.ref p) H') : uSplit (.str a) [.str b] H Q :=
  ⟨a, b, rfl, rfl, hb, ha, fun p hp => q p _ hp (Keep.same (Keep.new hp)) upd_same⟩
def uRep01 : R2 := fun x y H Q => ∃ (z : Str) (k : Int), x = .str z ∧ y = .int k ∧ ((k = 0 ∧ Q (.str Str.empty) H) ∨ (k = 1 ∧ Q (.str z) H))
theorem o_rep01 : OpR X (binaryOp .Mult) uRep01 := by
  intro pins s σ H x y v u Q I rx ry h
  obtain ⟨z, k, rfl, rfl, hq⟩ := h
  obtain ⟨t, rfl⟩ := rx
  obtain ⟨t', rfl⟩ := ry
  rcases hq with ⟨rfl, q⟩ | ⟨rfl, q⟩
  · exact PySem.P.mul_str_none (by decide) (by decide) ⟨.str Str.empty, H, I.tok _, ⟨_, rfl⟩, q⟩
  · refine PySem.P.mul_str (by decide) (fun _ w => by simp at w) (fun _ w => by simp at w) ?_
    rw [if_neg (by decide), if_pos (by simp)]
    exact ⟨.str z, H, I, ⟨_, rfl⟩, q⟩
theorem r_rep0 {z : Str} {k : Int} (e : k = 0) (q : Q (.str ("" : Str)) H) : uRep01 (.str z) (.int k) H Q := ⟨z, k, rfl, rfl, .inl ⟨e, q⟩⟩
theorem r_rep1 {z : Str} {k : Int} (e : k = 1) (q : Q (.str z) H) : uRep01 (.str z) (.int k) H Q := ⟨z, k, rfl, rfl, .inr ⟨e, q⟩⟩
def uInS : R2 := fun x y H Q => ∃ (c : Nat) (z : Str), x = .str ⟨#[c]⟩ ∧ y = .str z ∧ Q (.bl (decide (c ∈ z.cps.toList))) H
theorem o_inS : OpR X (compareOp .In) uInS := op_in_sign
theorem r_inS {c : Nat} {z : Str} (q : Q (.bl (decide (c ∈ tl z))) H) : uInS (.str ⟨#[c]⟩) (.str z) H Q := ⟨c, z, rfl, rfl, q⟩
def uIntS : List V → Hp → VK → Prop := fun xs H Q => ∃ a n, xs = [.str a] ∧ PySem.intText? a = some n ∧ a.length ≤ 640 ∧ Q (.int n) H
theorem c_intS : CallR X (.type "int") uIntS := call_int_str
theorem r_intS {i : Int} (h : (numT i).length ≤ 640) (q : Q (.int i) H) : uIntS [.str (numS i)] H Q := ⟨numS i, i, rfl, int_of_numS (by omega), by rw [len_tl, tl_numS]; exact h, q⟩
def uSlS : V → Option Int → Option Int → Hp → VK → Prop := fun x lo hi H Q => ∃ z, x = .str z ∧ z.length ≤ sizeLine ∧ Q (.str (cutS z lo hi)) H
theorem o_slS : SlR X uSlS := sl_str
theorem r_slS {z : Str} {lo hi : Option Int} (h : z.length ≤ sizeLine) (q : Q (.str (cutS z lo hi)) H) : uSlS (.str z) lo hi H Q := ⟨z, rfl, h, q⟩
theorem cutS_head {c : Nat} {l : List Nat} : cutS (⟨(c :: l).toArray⟩ : Str) none (some 1) = ⟨#[c]⟩ := by
  apply tl_inj
  unfold cutS
  simp [HT.sIx, Str.length, tl]
theorem cutS_tail {c : Nat} {l : List Nat} : cutS (⟨(c :: l).toArray⟩ : Str) (some 1) none = ⟨l.toArray⟩ := by
  apply tl_inj
  unfold cutS
  simp [HT.sIx, Str.length, tl]
def uStrW (v : V) (H : Hp) (R : It → Hp → Prop) : Prop := ∃ x, v = .str x ∧ R (Its x) H
def iStrU (te : TE) : TI := fun σ H R => te σ H fun v H1 => uStrW v H1 R
theorem pi_strU {tg e : Expr} (he : PE X e te) : PI X tg e (iStrU te) := pi_str he
theorem r_istrU {R : It → Hp → Prop} (q : te σ H fun v H1 => uStrW v H1 R) : iStrU te σ H R := q
theorem r_strW {x : Str} {R : It → Hp → Prop} (q : R (Its x) H) : uStrW (.str x) H R := ⟨x, rfl, q⟩
theorem wk_str {x : Str} : Wk (Its x) (tl x).length (fun _ => True) (fun i H v H' => H' = H ∧ ∃ c, (tl x)[i]? = some c ∧ v = .str ⟨#[c]⟩) where
  go := fun i H _ hi => by show i < x.cps.size; simpa [tl] using hi
  stop := fun i H _ hi => by show x.cps.size ≤ i; simpa [tl] using hi
  yld := fun i H v H' _ y => by
    obtain ⟨e, c, h1, h2⟩ := y
    exact ⟨e, c, by simpa [tl] using h1, h2⟩
end
end Fp
namespace Lk14
open PySem PySem.Spec PyProof.Rows L2 Fp
open TL (tl tl_append)
/-! steps by their head -/
local macro_rules | `(tactic| walk_at "s") => `(tactic| first
  | (with_reducible refine' r_seq ?_)
  | (with_reducible refine' r_cons ?_)
  | ((with_reducible refine' r_var ?hvv ?_); (case hvv => exact rfl))
  | (with_reducible refine' r_c ?_)
  | (with_reducible refine' r_nil ?_)
  | (with_reducible refine' r_op ?_)
  | (with_reducible refine' r_tup ?_)
  | (with_reducible refine' r_lst ?_)
  | (with_reducible refine' r_I0 ?_)
  | (with_reducible refine' r_asg ?_)
  | (with_reducible refine' r_fn ?_)
  | (with_reducible refine' r_fnS ?_)
  | (with_reducible refine' r_CB ?_)
  | (with_reducible refine' r_ret ?_)
  | (with_reducible refine' r_ifS ?_)
  | (with_reducible refine' r_test ?_)
  | (with_reducible refine' r_B ?_)
  | (with_reducible refine' r_bl ?_)
  | (with_reducible refine' r_and ?_)
  | (with_reducible refine' r_or ?_)
  | (with_reducible refine' r_not ?_)
  | (with_reducible refine' r_yes ?_)
  | (with_reducible refine' r_andV ?_)
  | (with_reducible refine' r_orV ?_)
  | (with_reducible refine' r_notV ?_)
  | (with_reducible refine' r_if ?_)
  | (with_reducible refine' r_chain ?_)
  | (with_reducible refine' r_eq_i ?_)
  | (with_reducible refine' r_ne_i ?_)
  | (with_reducible refine' r_un ?_)
  | (with_reducible refine' r_U ?_)
  | (with_reducible refine' r_int_i ?_)
  | (with_reducible refine' r_int_b ?_)
  | (with_reducible refine' r_abs ?_)
  | (with_reducible refine' r_max2 ?_)
  | (with_reducible refine' r_min2 ?_)
  | (with_reducible refine' r_isB ?_)
  | (with_reducible refine' r_notB ?_)
  | (with_reducible refine' r_isN_n ?_)
  | (with_reducible refine' r_isN_i ?_)
  | (with_reducible refine' r_isN_r ?_)
  | (with_reducible refine' r_isN_s ?_)
  | (with_reducible refine' r_notN_n ?_)
  | (with_reducible refine' r_notN_i ?_)
  | (with_reducible refine' r_notN_r ?_)
  | (with_reducible refine' r_notN_s ?_)
  | ((with_reducible refine' r_isN ?hvv ?_); (case hvv => exact rfl))
  | ((with_reducible refine' r_notN ?hvv ?_); (case hvv => exact rfl))
  | ((with_reducible refine' r_aug ?hvv ?_); (case hvv => exact rfl))
  | (with_reducible refine' r_ipI ?_)
  | (with_reducible refine' r_next ?_)
  | (with_reducible refine' r_par ?_)
  | (with_reducible refine' r_par2 ?_)
  | (with_reducible refine' r_drop ?_)
  | (with_reducible refine' r_gname ?_)
  | (with_reducible refine' r_asgG ?_)
  | (with_reducible refine' r_gsub ?_)
  | (with_reducible refine' r_gcons ?_)
  | (with_reducible refine' r_gnil ?_)
  | (with_reducible refine' r_retN ?_)
  | (with_reducible refine' r_for ?_)
  | (with_reducible refine' r_lc ?_)
  | (with_reducible refine' r_ilist ?_)
  | (with_reducible refine' r_itup ?_)
  | (with_reducible refine' r_irng1 ?_)
  | (with_reducible refine' r_irng2 ?_)
  | (with_reducible refine' r_izip ?_)
  | (with_reducible refine' r_sl ?_)
  | (with_reducible refine' r_nopart ?_)
  | (with_reducible refine' r_part ?_)
  | (with_reducible refine' r_parti ?_)
  | (with_reducible refine' r_bm ?_)
  | (with_reducible refine' r_m1 ?_)
  | (with_reducible refine' r_m1s ?_)
  | (with_reducible refine' r_irngU ?_)
  | (with_reducible refine' r_bm0 ?_)
  | (with_reducible refine' r_revL ?_)
  | (with_reducible refine' r_isi_ii ?_)
  | (with_reducible refine' r_isi_ib ?_)
  | (with_reducible refine' r_isi_it ?_)
  | (with_reducible refine' r_isi_is ?_)
  | (with_reducible refine' r_isi_ni ?_)
  | (with_reducible refine' r_isi_nt ?_)
  | (with_reducible refine' r_isi_bb ?_)
  | (with_reducible refine' r_isi_bi ?_)
  | (with_reducible refine' r_isi_ss ?_)
  | (with_reducible refine' r_isi_si ?_)
  | (with_reducible refine' r_isi_st ?_)
  | (with_reducible refine' r_brk ?_)
  | (with_reducible refine' r_cont ?_)
  | (with_reducible refine' i_T ?_)
  | (with_reducible refine' i_F ?_)
  | (with_reducible refine' i_NT ?_)
  | (with_reducible refine' i_NF ?_)
  | fail)
/-! sides -/
local macro_rules | `(tactic| walk_at "mul") => `(tactic| first
  | exact mul_r (by decide) (by decide)
  | exact mul_l (by decide) (by decide)
  | exact mul_r (by omega) (by omega)
  | exact mul_l (by omega) (by omega)
  | exact mul_b (n := 256) (m := 256) (by omega) (by omega)
  | fail)
local macro_rules | `(tactic| walk_at "div") => `(tactic| first
  | exact div_b (n := 64) (by decide) (by decide)
  | exact div_b (n := 64) (by omega) (by omega)
  | exact div_b (n := 256) (by omega) (by omega)
  | fail)
local macro_rules | `(tactic| walk_at "ix") => `(tactic| first
  | rfl
  | assumption
  | fail)
/-- what a tuple, a list at an address is: by what is known, the heaps between going on -/
local macro_rules | `(tactic| walk_at "kp") => `(tactic| first
  | assumption
  | exact Keep.of_same (by assumption)
  | exact Keep.refl _
  | (refine' Keep.trans ?hk1 ?hk2; (case hk2 => first | assumption | exact Keep.of_same (by assumption)); (case hk1 => walk_at "kp"))
  | fail)
local macro_rules | `(tactic| walk_at "sm") => `(tactic| first
  | assumption
  | exact Same.refl _
  | (refine' Same.trans ?hk1 ?hk2; (case hk2 => assumption); (case hk1 => walk_at "sm"))
  | fail)
local macro_rules | `(tactic| walk_at "lk") => `(tactic| first
  | assumption
  | (refine' same_app ?hk1 ?hk2; (case hk1 => assumption); (case hk2 => walk_at "lk"))
  | (refine' Keep.app ?hk1 ?hk2 ?hk3; (case hk1 => assumption); (case hk2 => walk_at "lk"); (case hk3 => walk_at "ne"))
  | fail)
local macro_rules | `(tactic| walk_at "sqt") => `(tactic| first
  | assumption
  | (refine' SqT.of ?hk1; (case hk1 => walk_at "lk"))
  | walk_at "st"
  | fail)
local macro_rules | `(tactic| walk_at "sql") => `(tactic| first
  | assumption
  | (refine' SqL.of ?hk1; (case hk1 => walk_at "lk"))
  | (refine' Same.seq ?hk1 ?hk2; (case hk1 => assumption); (case hk2 => walk_at "sql"))
  | (refine' scr_sql ?hk1 ?hk2; (case hk1 => assumption); (case hk2 => walk_at "te"))
  | fail)
local macro_rules | `(tactic| walk_at "i") => `(tactic| first
  | ((with_reducible refine' r_ix01 ?hva ?_); (case hva => walk_at "sql"); intro _ _)
  | ((with_reducible refine' r_gtup ?hva ?hvb ?_); (case hva => walk_at "sqt"); (case hvb => exact rfl))
  | ((with_reducible refine' r_glst ?hva ?hvb ?_); (case hva => walk_at "sql"); (case hvb => exact rfl))
  | ((with_reducible refine' r_new ?hvv ?_); (case hvv => exact sz_lit rfl); intro _ _ _ _ _)
  | ((with_reducible refine' r_I ?hvv ?_); (case hvv => first | (with_reducible show IntMulOk _ _; walk_at "mul") | (with_reducible show CDivW _ _; walk_at "div") | (with_reducible show (0 : Int) < _; first | omega | exact two_pos _) | decide))
  | ((with_reducible refine' r_ixl ?hva ?hvb ?_); (case hva => walk_at "sql"); (case hvb => walk_at "ix"))
  | ((with_reducible refine' r_ixt ?hva ?hvb ?_); (case hva => walk_at "sqt"); (case hvb => walk_at "ix"))
  | ((with_reducible refine' r_len_l ?hva ?hvb ?_); (case hva => walk_at "sql"); (case hvb => first | (simp only [List.length_cons, List.length_nil, List.length_map, Nat.reduceAdd, Nat.zero_add]; exact rfl) | exact rfl))
  | ((with_reducible refine' r_len_t ?hva ?hvb ?_); (case hva => walk_at "sqt"); (case hvb => first | (simp only [List.length_cons, List.length_nil, List.length_map, Nat.reduceAdd, Nat.zero_add]; exact rfl) | exact rfl))
  | ((with_reducible refine' r_isi_tt ?hva ?_); (case hva => walk_at "sqt"))
  | ((with_reducible refine' r_isi_ti ?hva ?_); (case hva => walk_at "sqt"))
  | ((with_reducible refine' r_sll ?hva ?_); (case hva => walk_at "sql"); intro _ _ _ _ _)
  | ((with_reducible refine' r_revl ?hva ?_); (case hva => walk_at "sql"); intro _ _ _ _ _)
  | ((with_reducible refine' r_sla ?hva ?_); (case hva => walk_at "sqt"); intro _ _ _ _)
  | ((with_reducible refine' r_cat ?hva ?hvb ?hvc ?_); (case hva => walk_at "lk"); (case hvb => walk_at "lk"); (case hvc => first | exact sz_lit rfl | (refine sz_le ?_; omega)); intro _ _ _ _ _)
  | ((with_reducible refine' r_catA ?hva ?hvb ?hvc ?_); (case hva => walk_at "sqt"); (case hvb => walk_at "sqt"); (case hvc => first | exact sz_lit rfl | (refine sz_le ?_; omega)); intro _ _ _ _)
  | ((with_reducible refine' r_tuple_l ?hva ?_); (case hva => walk_at "sql"); intro _ _ _ _ _)
  | ((with_reducible refine' r_tuple_t ?hva ?_); (case hva => walk_at "sqt"))
  | ((with_reducible refine' r_list_l ?hva ?_); (case hva => walk_at "sql"); intro _ _ _ _ _)
  | ((with_reducible refine' r_list_t ?hva ?_); (case hva => walk_at "sqt"); intro _ _ _ _ _)
  | ((with_reducible refine' r_shl1 ?hva ?_); (case hva => omega))
  | ((with_reducible refine' r_shl2 ?hva ?_); (case hva => omega))
  | ((with_reducible refine' r_shl ?hva ?_); (case hva => omega))
  | (with_reducible refine' r_shr ?_)
  | ((with_reducible refine' i_pos ?hvv ?_); (case hvv => first | decide | omega))
  | ((with_reducible refine' i_neg ?hvv ?_); (case hvv => first | decide | omega))
  | ((with_reducible refine' i_npos ?hvv ?_); (case hvv => first | decide | omega))
  | ((with_reducible refine' i_nneg ?hvv ?_); (case hvv => first | decide | omega))
  | ((with_reducible refine' r_rng1 ?hva ?hvb ?_); (case hva => omega); (case hvb => omega))
  | ((with_reducible refine' r_rng2 ?hva ?hvb ?hvc ?hvd ?_); (case hva => omega); (case hvb => omega); (case hvc => omega); (case hvd => omega))
  | ((with_reducible refine' r_wl ?hva ?_); (case hva => walk_at "sql"))
  | ((with_reducible refine' r_wt ?hva ?_); (case hva => walk_at "sqt"))
  | fail)
local macro_rules | `(tactic| walk_at "call") => `(tactic| fail)
local macro_rules | `(tactic| walk_at "a") => `(tactic| repeat' (first | walk_at "s" | walk_at "i" | walk_at "call" | fail))

def top (i : Nat) : Stmt := PySem.Challenge.pw_fourpoints_k14_whole_texts_of_curves.main.body.getD i (.Pass ⟨0, 0, 0, 0⟩)
abbrev s_is_whole : Stmt := top 5
abbrev s_is_sample : Stmt := top 6
abbrev s_is_curve : Stmt := top 7
abbrev s_curve_text : Stmt := top 8
abbrev s_is_figures : Stmt := top 9
abbrev s_read_number : Stmt := top 10
abbrev s_read_sample : Stmt := top 11
abbrev s_read_curve : Stmt := top 12
abbrev s_law_cell : Stmt := top 14
abbrev s_law_pot : Stmt := top 15
abbrev s_law_take : Stmt := top 16
abbrev s_law_number : Stmt := top 17
abbrev s_law_samples : Stmt := top 18
abbrev s_law_curve : Stmt := top 19
abbrev s_law_written : Stmt := top 20
abbrev s_law_text : Stmt := top 21
abbrev s_law_is_whole : Stmt := top 22
abbrev s_law_same : Stmt := top 23
abbrev s_law_long : Stmt := top 24
abbrev s_law : Stmt := top 25
theorem sc_is_whole : FnScope ["thing"] ["thing"] (defScope s_is_whole) := ⟨rfl, rfl, rfl, by decide +kernel, rfl, by decide +kernel, by decide +kernel⟩
theorem sc_is_sample : FnScope ["thing", "part"] ["thing"] (defScope s_is_sample) := ⟨rfl, rfl, rfl, by decide +kernel, rfl, by decide +kernel, by decide +kernel⟩
theorem sc_is_curve : FnScope ["thing", "one", "other"] ["thing"] (defScope s_is_curve) := ⟨rfl, rfl, rfl, by decide +kernel, rfl, by decide +kernel, by decide +kernel⟩
theorem sc_curve_text : FnScope ["curve", "t", "h"] ["curve"] (defScope s_curve_text) := ⟨rfl, rfl, rfl, by decide +kernel, rfl, by decide +kernel, by decide +kernel⟩
theorem sc_is_figures : FnScope ["text", "sign"] ["text"] (defScope s_is_figures) := ⟨rfl, rfl, rfl, by decide +kernel, rfl, by decide +kernel, by decide +kernel⟩
theorem sc_read_number : FnScope ["word", "figures"] ["word"] (defScope s_read_number) := ⟨rfl, rfl, rfl, by decide +kernel, rfl, by decide +kernel, by decide +kernel⟩
theorem sc_read_sample : FnScope ["line", "words"] ["line"] (defScope s_read_sample) := ⟨rfl, rfl, rfl, by decide +kernel, rfl, by decide +kernel, by decide +kernel⟩
theorem sc_read_curve : FnScope ["text", "lines", "curve", "line"] ["text"] (defScope s_read_curve) := ⟨rfl, rfl, rfl, by decide +kernel, rfl, by decide +kernel, by decide +kernel⟩
theorem sc_law_cell : FnScope ["_law_script", "_law_k"] ["_law_script", "_law_k"] (defScope s_law_cell) := ⟨rfl, rfl, rfl, by decide +kernel, rfl, by decide +kernel, by decide +kernel⟩
theorem sc_law_pot : FnScope ["_law_cell_here"] ["_law_cell_here"] (defScope s_law_pot) := ⟨rfl, rfl, rfl, by decide +kernel, rfl, by decide +kernel, by decide +kernel⟩
theorem sc_law_take : FnScope ["_law_pot_here", "_law_many", "_law_digit"] ["_law_pot_here", "_law_many"] (defScope s_law_take) := ⟨rfl, rfl, rfl, by decide +kernel, rfl, by decide +kernel, by decide +kernel⟩
theorem sc_law_number : FnScope ["_law_pot_here", "_law_way"] ["_law_pot_here"] (defScope s_law_number) := ⟨rfl, rfl, rfl, by decide +kernel, rfl, by decide +kernel, by decide +kernel⟩
theorem sc_law_samples : FnScope ["_law_script", "_law_found", "_law_k", "_law_pot_here"] ["_law_script"] (defScope s_law_samples) := ⟨rfl, rfl, rfl, by decide +kernel, rfl, by decide +kernel, by decide +kernel⟩
theorem sc_law_curve : FnScope ["_law_samples_here", "_law_held", "_law_t"] ["_law_samples_here"] (defScope s_law_curve) := ⟨rfl, rfl, rfl, by decide +kernel, rfl, by decide +kernel, by decide +kernel⟩
theorem sc_law_written : FnScope ["_law_number_here", "_law_found", "_law_rest"] ["_law_number_here"] (defScope s_law_written) := ⟨rfl, rfl, rfl, by decide +kernel, rfl, by decide +kernel, by decide +kernel⟩
theorem sc_law_text : FnScope ["_law_curve_here", "_law_found", "_law_t", "_law_h"] ["_law_curve_here"] (defScope s_law_text) := ⟨rfl, rfl, rfl, by decide +kernel, rfl, by decide +kernel, by decide +kernel⟩
theorem sc_law_is_whole : FnScope ["_law_thing"] ["_law_thing"] (defScope s_law_is_whole) := ⟨rfl, rfl, rfl, by decide +kernel, rfl, by decide +kernel, by decide +kernel⟩
theorem sc_law_same : FnScope ["_law_told", "_law_due", "_law_one"] ["_law_told", "_law_due"] (defScope s_law_same) := ⟨rfl, rfl, rfl, by decide +kernel, rfl, by decide +kernel, by decide +kernel⟩
theorem sc_law_long : FnScope ["_law_cell_here", "_law_pot_here", "_law_begin", "_law_step", "_law_many", "_law_k"] ["_law_cell_here"] (defScope s_law_long) := ⟨rfl, rfl, rfl, by decide +kernel, rfl, by decide +kernel, by decide +kernel⟩
theorem sc_law : FnScope ["_law_script", "_law_curve_here", "_law_far", "_law_part", "_law_text_here"] ["_law_script"] (defScope s_law) := ⟨rfl, rfl, rfl, by decide +kernel, rfl, by decide +kernel, by decide +kernel⟩
/-! script[k] or 0 -/
def sp_nth (K : PySem.W.Frag) : Sp := fun vs H Q _ => ∃ (a : Addr) (ns : List Int) (k : Nat), vs = [.ref a, .int k] ∧ SqL K H a (ns.map V.int) ∧ Q (.int (ns.getD k 0)) H
theorem getD_map_int {ns : List Int} {k : Nat} (h : k < ns.length) : (ns.map V.int)[k]? = some (V.int (ns.getD k 0)) := by
  rw [List.getElem?_map, List.getElem?_eq_getElem h]
  simp [List.getD, h]
section
variable {P : Program} {w : World} {K : PySem.W.Frag} {mg : Str → Option Value} {base : Heap}
theorem ok_law_cell (B : Blt mg) (D : Def K mg "_law_cell" s_law_cell ["_law_script", "_law_k"]) :
    Fn P w K mg base 1 "_law_cell" ["_law_script", "_law_k"] (sp_nth K) := by
  refine D.ok sc_law_cell (fun vs H Q E h => ?_) (fun f cdv A outer s H vs Q E hr h => ?_)
  · obtain ⟨a, ns, k, rfl, hS, q⟩ := h
    rfl
  · obtain ⟨a, ns, k, rfl, hS, q⟩ := h
    refine ⟨_, (pss_one (ps_ret (pe_ifExp (pt_cmpR op_lt (pv 1) (pe_callB (crK K c_len) rfl B.len (by decide +kernel) (pa_cons (pv 0) pa_nil)) (nomark _)) (pe_ix (ixK K ix_seq) (pv 0) (pv 1) (fun _ _ => rfl)) pe_int))), ?_⟩
    refine r_start (σ' := [some (.ref a), some (.int k)]) rfl ?_
    walk_at "a"
    refine i_cases (fun hk => ?_) (fun hk => ?_)
    · walk_at "a"
      exact r_ixl hS (at_of rfl (getD_map_int (by omega))) q
    · walk_at "a"
      have e0 : ns.getD k 0 = 0 := by
        have h1 : ns.length ≤ k := by omega
        simp [List.getD, h1]
      rw [e0] at q
      exact q
end
theorem use_nth {K : PySem.W.Frag} {H : Hp} {Q : VK} {E : XK} {a : Addr} {ns : List Int} {z : Int} (h : SqL K H a (ns.map V.int)) (h0 : 0 ≤ z) (q : Q (.int (ns.getD z.toNat 0)) H) : sp_nth K [.ref a, .int z] H Q E :=
  ⟨a, ns, z.toNat, by rw [Int.toNat_of_nonneg h0], h, q⟩
local macro_rules | `(tactic| walk_at "call") => `(tactic| ((with_reducible refine' use_nth ?hva ?hvb ?_); (case hva => walk_at "sql"); (case hvb => omega)))

/-! the pot: a list of two numbers -/
structure Pot (H : Hp) (p : Addr) : Prop where
  ex : ∃ a b : Int, H p = some (.lst [.int a, .int b]) ∧ 0 ≤ a ∧ 0 ≤ b ∧ b < 4294967296
theorem Pot.keep {H H' : Hp} {p : Addr} {F : Addr → Prop} (h : Pot H p) (k : Keep F H H') (n : ¬ F p) : Pot H' p := by
  obtain ⟨a, b, e, r⟩ := h.ex
  exact ⟨a, b, k p _ e n, r⟩
theorem Pot.same {H H' : Hp} {p : Addr} (h : Pot H p) (k : Same H H') : Pot H' p := by
  obtain ⟨a, b, e, r⟩ := h.ex
  exact ⟨a, b, k p _ e, r⟩
theorem Pot.text {H H' : Hp} {p : Addr} (h : Pot H p) (k : Keep (At p) H H') : TExt H H' := by
  obtain ⟨a, b, e, r⟩ := h.ex
  exact TExt.lst k e
theorem Pot.ne_new {H : Hp} {p q : Addr} (h : Pot H p) (hn : H q = none) : q ≠ p := by
  obtain ⟨a, b, e, r⟩ := h.ex
  exact fun z => by rw [z, e] at hn; cases hn
def sp_pot (K : PySem.W.Frag) : Sp := fun vs H Q _ => ∃ c : Int, vs = [.int c] ∧ ∀ (p : Addr) (H' : Hp), H p = none → Same H H' → Pot H' p → Q (.ref p) H'
def sp_take (K : PySem.W.Frag) : Sp := fun vs H Q _ => ∃ (p : Addr) (n : Int), vs = [.ref p, .int n] ∧ Pot H p ∧ 0 < n ∧ n ≤ 1000000000000000000000000000000000000000000000000000000000000000000000000000 ∧
  ∀ (r : Int) (H' : Hp), Keep (At p) H H' → Pot H' p → 0 ≤ r → r < n → Q (.int r) H'
section
variable {P : Program} {w : World} {K : PySem.W.Frag} {mg : Str → Option Value} {base : Heap}
theorem ok_law_pot (B : Blt mg) (D : Def K mg "_law_pot" s_law_pot ["_law_cell_here"]) :
    Fn P w K mg base 1 "_law_pot" ["_law_cell_here"] (sp_pot K) := by
  refine D.ok sc_law_pot (fun vs H Q E h => ?_) (fun f cdv A outer s H vs Q E hr h => ?_)
  · obtain ⟨c, rfl, q⟩ := h
    rfl
  · obtain ⟨c, rfl, q⟩ := h
    refine ⟨_, (pss_one (ps_ret (pe_lst (pa_cons (pe_op op_mulY (pv 0) (pe_callTy c_int1 rfl B.int (by decide +kernel) (pa_cons (pe_cmpR op_ge (pv 0) (pe_powC (z := 1000000000000000000) (by decide +kernel) (by decide +kernel)) (nomark _)) pa_nil))) (pa_cons (pe_op op_mod (pe_op op_add (pe_op op_mulY (pv 0) pe_int) pe_int) pe_int) pa_nil))))), ?_⟩
    refine r_start (σ' := [some (.int c)]) rfl ?_
    walk_at "a"
    rename_i p H' hn h1 h2
    refine q p H' hn h1 ⟨_, _, h2, ?_, ?_, ?_⟩
    · split
      · rename_i h3
        have h4 := of_decide_eq_true h3
        omega
      · omega
    · omega
    · omega
end
section
variable {P : Program} {w : World} {K : PySem.W.Frag} {mg : Str → Option Value} {base : Heap}
theorem ok_law_take (B : Blt mg) (D : Def K mg "_law_take" s_law_take ["_law_pot_here", "_law_many"]) :
    Fn P w K mg base 1 "_law_take" ["_law_pot_here", "_law_many"] (sp_take K) := by
  refine D.ok sc_law_take (fun vs H Q E h => ?_) (fun f cdv A outer s H vs Q E hr h => ?_)
  · obtain ⟨p, n, rfl, hp, hn, hb, q⟩ := h
    rfl
  · obtain ⟨p, n, rfl, hp, hn, hb, q⟩ := h
    refine ⟨_, (pss_cons (ps_if (pt_cmpR op_gt (pe_ix (ixK K ix_seq) (pv 0) pe_int (fun _ _ => rfl)) pe_int (nomark _))
      (pss_cons (ps_set (i := 2) sc_law_take.nd rfl (Or.inl rfl) (pe_op op_mod (pe_ix (ixK K ix_seq) (pv 0) pe_int (fun _ _ => rfl)) (pv 1)))
      (pss_cons (ps_asg (pe_op op_fdivW (pe_ix (ixK K ix_seq) (pv 0) pe_int (fun _ _ => rfl)) (pv 1)) (pg_sub (pv 0) pe_int set_list))
      (pss_one (ps_ret (pv 2)))))
      pss_nil)
      (pss_cons (ps_asg (pe_op op_mod (pe_op op_add (pe_op op_mulY (pe_ix (ixK K ix_seq) (pv 0) pe_int (fun _ _ => rfl)) pe_int) pe_int) pe_int) (pg_sub (pv 0) pe_int set_list))
      (pss_one (ps_ret (pe_op op_mod (pe_op op_fdivW (pe_op op_mod (pe_op op_mulY (pe_ix (ixK K ix_seq) (pv 0) pe_int (fun _ _ => rfl)) (pe_ix (ixK K ix_seq) (pv 0) pe_int (fun _ _ => rfl))) pe_int) pe_int) (pv 1)))))), ?_⟩
    refine r_start (σ' := [some (.ref p), some (.int n), none]) rfl ?_
    obtain ⟨a, b, hp, ha, hb0, hb1⟩ := hp.ex
    walk_at "a"
    refine i_cases (fun hk => ?_) (fun hk => ?_)
    · walk_at "a"
      refine r_setl hp rfl fun H' h1 h2 => ?_
      walk_at "a"
      exact q _ H' h1 ⟨_, _, h2, Int.ediv_nonneg ha (by omega), hb0, hb1⟩ (Int.emod_nonneg _ (by omega)) (Int.emod_lt_of_pos _ hn)
    · walk_at "a"
      refine r_setl hp rfl fun H' h1 e2 => ?_
      have e2 : H' p = some (.lst [.int a, .int ((b * 39373 + 7919) % 2147483629)]) := e2
      generalize hc : (b * 39373 + 7919) % 2147483629 = c at e2
      have c0 : 0 ≤ c := by omega
      have c1 : c < 4294967296 := by omega
      clear hc
      walk_at "a"
      exact q _ H' h1 ⟨_, _, e2, ha, c0, c1⟩ (Int.emod_nonneg _ (by omega)) (Int.emod_lt_of_pos _ hn)
end
theorem use_pot {K : PySem.W.Frag} {H : Hp} {Q : VK} {E : XK} {c : Int} (q : ∀ (p : Addr) (H' : Hp), H p = none → Same H H' → Pot H' p → Q (.ref p) H') : sp_pot K [.int c] H Q E := ⟨c, rfl, q⟩
theorem use_take {K : PySem.W.Frag} {H : Hp} {Q : VK} {E : XK} {p : Addr} {n : Int} (h : Pot H p) (h0 : 0 < n) (h1 : n ≤ 1000000000000000000000000000000000000000000000000000000000000000000000000000) (q : ∀ (r : Int) (H' : Hp), Keep (At p) H H' → Pot H' p → 0 ≤ r → r < n → Q (.int r) H') : sp_take K [.ref p, .int n] H Q E :=
  ⟨p, n, rfl, h, h0, h1, q⟩
local macro_rules | `(tactic| walk_at "call") => `(tactic| ((with_reducible refine' use_take ?hva ?hvb ?hvc ?_); (case hva => walk_at "pot"); (case hvb => omega); (case hvc => omega); intro _ _ _ _ _ _))
local macro_rules | `(tactic| walk_at "call") => `(tactic| ((with_reducible refine' use_pot ?_); intro _ _ _ _ _))
local macro_rules | `(tactic| walk_at "pot") => `(tactic| first
  | assumption
  | (refine' Pot.same ?hk1 ?hk2; (case hk2 => assumption); (case hk1 => walk_at "pot"))
  | (refine' Pot.keep ?hk1 ?hk2 ?hk3; (case hk2 => assumption); (case hk1 => walk_at "pot"); (case hk3 => walk_at "ne"))
  | fail)
local macro_rules | `(tactic| walk_at "te") => `(tactic| first
  | assumption
  | exact TExt.refl _
  | exact TExt.of_same (by assumption)
  | (refine' Pot.text ?hk1 ?hk2; (case hk2 => assumption); (case hk1 => assumption))
  | (refine' TExt.trans ?hk1 ?hk2; (case hk2 => first | exact TExt.of_same (by assumption) | (refine' Pot.text ?hk3 ?hk4; (case hk4 => assumption); (case hk3 => walk_at "pot"))); (case hk1 => walk_at "te"))
  | fail)
/-- a tuple through the heaps -/
local macro_rules | `(tactic| walk_at "st") => `(tactic| first
  | assumption
  | exact SqT.of (by assumption)
  | (refine' SqT.text ?hk1 ?hk2; (case hk1 => first | exact TExt.of_same (by assumption) | (refine' Pot.text ?hk3 ?hk4; (case hk4 => assumption); (case hk3 => walk_at "pot"))); (case hk2 => walk_at "st"))
  | fail)
local macro_rules | `(tactic| walk_at "ne") => `(tactic| first
  | assumption
  | exact Ne.symm (by assumption)
  | (refine' Pot.ne_new ?hk1 ?hk2; (case hk2 => assumption); (case hk1 => walk_at "pot"))
  | fail)
/-! the law's promise -/
def sp_law (K : PySem.W.Frag) : Sp := fun vs H Q _ => ∃ a ns, vs = [.ref a] ∧ Scr K H a ns ∧ ns.length ≤ 63 ∧ ∀ H', Q (.bl true) H'
theorem sp_law_top {K : PySem.W.Frag} {H : Hp} {a : Addr} {ns : List Int} {E : XK} (hl : ns.length ≤ 63) (hb : ∀ z ∈ ns, Builtin.Int.intBits z ≤ 1048576) (hO : Only H) (hS : SqL K H a (ns.map V.int)) : sp_law K [.ref a] H (fun v _ => v = .bl true) E :=
  ⟨a, ns, rfl, Scr.of hO hS, hl, fun _ => rfl⟩
/-- a drawn number -/
def sp_drawn (lo hi : Int) (K : PySem.W.Frag) : Sp := fun vs H Q _ => ∃ p, vs = [.ref p] ∧ Pot H p ∧ ∀ (z : Int) (H' : Hp), Keep (At p) H H' → Pot H' p → lo ≤ z → z ≤ hi → Q (.int z) H'
theorem use_drawn {lo hi : Int} {K : PySem.W.Frag} {H : Hp} {Q : VK} {E : XK} {p : Addr} (h : Pot H p) (q : ∀ (z : Int) (H' : Hp), Keep (At p) H H' → Pot H' p → lo ≤ z → z ≤ hi → Q (.int z) H') : sp_drawn lo hi K [.ref p] H Q E := ⟨p, rfl, h, q⟩
local macro_rules | `(tactic| walk_at "call") => `(tactic| ((with_reducible refine' use_drawn ?hva ?_); (case hva => walk_at "pot"); intro _ _ _ _ _ _))
/-- a comprehension over range(n) that draws from the pot -/
theorem lc_pot {σ : L2.St} {H : Hp} {Q : VK} {n : Nat} {lo : Int} {p : Addr} {te : TE} {j : Nat} (hp : Pot H p) (hn : n ≤ 16777216) (R : Hp → Nat → V → Prop) (hR : ∀ H H' i y, TExt H H' → R H i y → R H' i y)
    (hs : ∀ (i : Nat) H2 (S : VK), i < n → Keep (At p) H H2 → Pot H2 p → (∀ y H3, Keep (At p) H2 H3 → Pot H3 p → R H3 i y → S y H3) → te ((wipe σ [j]).set j (some (.int (lo + i)))) H2 S)
    (q : ∀ D H' ys, H D = none → Keep (At p) H H' → Pot H' p → H' D = some (.lst ys) → Paired (R H') (List.range n) ys → Q (.ref D) H') : LcW (Itr lo n) (gName j) tYes te [j] σ H Q :=
  lc_rngK (fun H => Pot H p) hp (fun D hD => hp.ne_new hD) (fun H1 H2 h e => by obtain ⟨a, b, z, r⟩ := h.ex; exact ⟨a, b, by rw [e]; exact z, r⟩) (fun H1 H2 h k => h.text k) hn R hR hs q

/-! a drawn number -/
def sp_number (K : PySem.W.Frag) : Sp := sp_drawn (-1000000000000000000000000000000000000000000000000000000000000) 1000000000000000000000000000000000000000000000000000000000000 K
section
variable {P : Program} {w : World} {K : PySem.W.Frag} {mg : Str → Option Value} {base : Heap}
theorem ok_law_number (B : Blt mg) (D : Def K mg "_law_number" s_law_number ["_law_pot_here"]) (G_law_take : Fn P w K mg base 1 "_law_take" ["_law_pot_here", "_law_many"] (sp_take K)) :
    Fn P w K mg base 2 "_law_number" ["_law_pot_here"] (sp_number K) := by
  refine D.ok sc_law_number (fun vs H Q E h => ?_) (fun f cdv A outer s H vs Q E hr h => ?_)
  · obtain ⟨p, rfl, hp, q⟩ := h
    rfl
  · obtain ⟨p, rfl, hp, q⟩ := h
    refine ⟨_, (pss_cons (ps_set (i := 1) sc_law_number.nd rfl (Or.inl rfl) (pe_fn G_law_take hr (pa_cons (pv 0) (pa_cons pe_int pa_nil))))
      (pss_cons (ps_if (pt_cmpR (opK K (o_eq hr.units)) (pv 1) pe_int (nomark _))
      (pss_one (ps_ret (pe_op op_mulY (pe_op op_add (pe_op op_mulY (pe_fn G_law_take hr (pa_cons (pv 0) (pa_cons (pe_powC (z := 1000000000) (by decide +kernel) (by decide +kernel)) pa_nil))) (pe_powC (z := 100000000000000000000000000000000000000000000000000) (by decide +kernel) (by decide +kernel))) (pe_fn G_law_take hr (pa_cons (pv 0) (pa_cons (pe_powC (z := 1000000000) (by decide +kernel) (by decide +kernel)) pa_nil)))) (pe_op op_sub pe_int (pe_op op_mulY pe_int (pe_fn G_law_take hr (pa_cons (pv 0) (pa_cons pe_int pa_nil))))))))
      pss_nil)
      (pss_cons (ps_if (pt_cmpR (opK K (o_eq hr.units)) (pv 1) pe_int (nomark _))
      (pss_one (ps_ret (pe_op op_sub (pe_fn G_law_take hr (pa_cons (pv 0) (pa_cons (pe_op op_mulY pe_int (pe_powC (z := 1000000) (by decide +kernel) (by decide +kernel))) pa_nil))) (pe_powC (z := 1000000) (by decide +kernel) (by decide +kernel)))))
      pss_nil)
      (pss_one (ps_ret (pe_op op_sub (pe_fn G_law_take hr (pa_cons (pv 0) (pa_cons pe_int pa_nil))) pe_int)))))), ?_⟩
    refine r_start (σ' := [some (.ref p), none]) rfl ?_
    walk_at "a"
    refine i_cases (fun h => ?_) (fun h => ?_)
    · walk_at "a"
      rename_i r H1 k1 p1 r0 r1 s H2 k2 p2 s0 s1 b H3 k3 p3 b0 b1
      obtain rfl | rfl : b = 0 ∨ b = 1 := by omega
      · exact q _ _ (by walk_at "kp") (by walk_at "pot") (by omega) (by omega)
      · exact q _ _ (by walk_at "kp") (by walk_at "pot") (by omega) (by omega)
    walk_at "a"
    refine i_cases (fun h => ?_) (fun h => ?_)
    · walk_at "a"
      exact q _ _ (by walk_at "kp") (by walk_at "pot") (by omega) (by omega)
    walk_at "a"
    exact q _ _ (by walk_at "kp") (by walk_at "pot") (by omega) (by omega)
end
theorem use_number {K : PySem.W.Frag} {H : Hp} {Q : VK} {E : XK} {p : Addr} (h : Pot H p) (q : ∀ (z : Int) (H' : Hp), Keep (At p) H H' → Pot H' p → -1000000000000000000000000000000000000000000000000000000000000 ≤ z → z ≤ 1000000000000000000000000000000000000000000000000000000000000 → Q (.int z) H') : sp_number K [.ref p] H Q E := ⟨p, rfl, h, q⟩
local macro_rules | `(tactic| walk_at "call") => `(tactic| ((with_reducible refine' use_number ?hva ?_); (case hva => walk_at "pot"); intro _ _ _ _ _ _))

/-! the drawn samples, their curve -/
def sp_samples (K : PySem.W.Frag) : Sp := fun vs H Q _ => ∃ (a : Addr) (ns : List Int), vs = [.ref a] ∧ Scr K H a ns ∧ ns.length ≤ 63 ∧
  ∀ (f : Addr) (l : Prs) (ws : List V) (H' : Hp), H f = none → Same H H' → H' f = some (.lst ws) → DpAll K H' ws (l.map pairP) → l.length ≤ 40 → (∀ p ∈ l, Bd p) → Q (.ref f) H'
section
variable {P : Program} {w : World} {K : PySem.W.Frag} {mg : Str → Option Value} {base : Heap}
theorem ok_law_samples (B : Blt mg) (D : Def K mg "_law_samples" s_law_samples ["_law_script"]) (G_law_pot : Fn P w K mg base 1 "_law_pot" ["_law_cell_here"] (sp_pot K)) (G_law_cell : Fn P w K mg base 1 "_law_cell" ["_law_script", "_law_k"] (sp_nth K)) (G_law_number : Fn P w K mg base 2 "_law_number" ["_law_pot_here"] (sp_number K)) :
    Fn P w K mg base 3 "_law_samples" ["_law_script"] (sp_samples K) := by
  refine D.ok sc_law_samples (fun vs H Q E h => ?_) (fun f cdv A outer s H vs Q E hr h => ?_)
  · obtain ⟨a, ns, rfl, hS, hl, q⟩ := h
    rfl
  · obtain ⟨a, ns, rfl, hS, hl, q⟩ := h
    refine ⟨_, (pss_cons (ps_set (i := 1) sc_law_samples.nd rfl (Or.inl rfl) (pe_lst pa_nil))
      (pss_cons (ps_for PassesOwn.never rfl (pi_range1 rfl B.range (pa_cons (pe_callB (c_min2 rfl) rfl B.min (by decide +kernel) (pa_cons pe_int (pa_cons (pe_callB (crK K c_len) rfl B.len (by decide +kernel) (pa_cons (pv 0) pa_nil)) pa_nil))) pa_nil)) (pg_name (i := 2) sc_law_samples.nd rfl (Or.inl rfl))
      (pss_cons (ps_set (i := 3) sc_law_samples.nd rfl (Or.inl rfl) (pe_fn G_law_pot hr (pa_cons (pe_op op_add (pe_fn G_law_cell hr (pa_cons (pv 0) (pa_cons (pv 2) pa_nil))) (pe_op op_mulY (pe_op op_mulY pe_int (pv 2)) (pe_callTy c_int1 rfl B.int (by decide +kernel) (pa_cons (pe_cmpR op_lt (pe_callB c_abs rfl B.abs (by decide +kernel) (pa_cons (pe_fn G_law_cell hr (pa_cons (pv 0) (pa_cons (pv 2) pa_nil))) pa_nil)) (pe_powC (z := 1000000000000000000) (by decide +kernel) (by decide +kernel)) (nomark _)) pa_nil)))) pa_nil)))
      (pss_one (ps_expr (peK_bm K PySem.F.plainAttrs_list PySem.F.slot_list_append PySem.F.type_list_append mt_append (pv 1) (pa_cons (pe_tup (pa_cons (pe_fn G_law_number hr (pa_cons (pv 3) pa_nil)) (pa_cons (pe_fn G_law_number hr (pa_cons (pv 3) pa_nil)) pa_nil))) pa_nil))))))
      (pss_one (ps_ret (pv 1))))), ?_⟩
    refine r_start (σ' := [some (.ref a), none, none, none]) rfl ?_
    have hS0 := hS.1
    walk_at "a"
    rename_i f Hf nf sf ef
    refine for_wk wk_rng (fun i σ H' => (∃ v1 v2 : Option V, σ = [some (.ref a), some (.ref f), v1, v2]) ∧ Same H H' ∧ ∃ ws, ∃ l : Prs, H' f = some (.lst ws) ∧ DpAll K H' ws (l.map pairP) ∧ l.length = i ∧ (∀ p ∈ l, Bd p))
      ⟨⟨_, _, rfl⟩, sf, [], [], ef, .nil, rfl, by simp⟩ (fun _ _ _ _ _ => trivial) ?_ ?_
    · rintro i x σ H1 H1' hi ⟨⟨v1, v2, rfl⟩, s1, ws, l, e1, d1, l1, b1⟩ ⟨rfl, rfl⟩
      have hS1 := (hS.text (TExt.of_same s1)).1
      walk_at "a"
      rename_i p2 H2 n2 s2 hp2
      refine r_bml (SqL.of (s2 _ _ e1)) ?_
      walk_at "a"
      rename_i z H3 k3 hp3 z0 z1 y H4 k4 hp4 y0 y1 p5 H5 n5 s5 e5
      have s4 : Same H1' H4 := same_at s2 n2 (k3.trans k4)
      have e4 := s5 _ _ (s4 _ _ e1)
      have hlw : ws.length = i := by rw [dpAll_len d1, List.length_map, l1]
      refine r_append e4 (by rw [sizeLine_eq]; omega) fun H6 k6 e6 => ?_
      have t6 := TExt.lst k6 e4
      walk_at "a"
      refine ⟨⟨_, _, rfl⟩, same_at ((s1.trans s4).trans s5) nf k6, _, l ++ [(z, y)], e6, ?_, by simp; omega, fun p hp => ?_⟩
      · rw [List.map_append]
        exact dpAll_snoc (DpAll.text t6 _ _ (imm_all _) (DpAll.same (s4.trans s5) _ _ d1)) (dp_of_pair (SqT.text t6 (SqT.of e5)))
      · rcases List.mem_append.mp hp with hp | hp
        · exact b1 p hp
        · have : p = (z, y) := by simpa using hp
          subst this
          exact ⟨by unfold big; exact ⟨z0, z1⟩, by unfold big; exact ⟨y0, y1⟩⟩
    · rintro σ H1 ⟨⟨v1, v2, rfl⟩, s1, ws, l, e1, d1, l1, b1⟩
      walk_at "a"
      exact q f l ws H1 nf s1 e1 d1 (by omega) b1
end
theorem use_samples {K : PySem.W.Frag} {H : Hp} {Q : VK} {E : XK} {a : Addr} {ns : List Int} (hS : Scr K H a ns) (hl : ns.length ≤ 63)
    (q : ∀ (f : Addr) (l : Prs) (ws : List V) (H' : Hp), H f = none → Same H H' → H' f = some (.lst ws) → DpAll K H' ws (l.map pairP) → l.length ≤ 40 → (∀ p ∈ l, Bd p) → Q (.ref f) H') : sp_samples K [.ref a] H Q E := ⟨a, ns, rfl, hS, hl, q⟩
def sp_curve (K : PySem.W.Frag) : Sp := fun vs H Q _ => ∃ (a : Addr) (l : Prs) (ws : List V), vs = [.ref a] ∧ SqL K H a ws ∧ DpAll K H ws (l.map pairP) ∧ l.length < 64 ∧ ∀ (c : Prs) p H', Same H H' → IsC l c → Dp K H' (.ref p) (prsD c) → Q (.ref p) H'
section
variable {P : Program} {w : World} {K : PySem.W.Frag} {mg : Str → Option Value} {base : Heap}
theorem ok_law_curve (B : Blt mg) (D : Def K mg "_law_curve" s_law_curve ["_law_samples_here"]) :
    Fn P w K mg base 1 "_law_curve" ["_law_samples_here"] (sp_curve K) := by
  refine D.ok sc_law_curve (fun vs H Q E h => ?_) (fun f cdv A outer s H vs Q E hr h => ?_)
  · obtain ⟨a, l, ws, rfl, ha, hd, hl, q⟩ := h
    rfl
  · obtain ⟨a, l, ws, rfl, ha, hd, hl, q⟩ := h
    refine ⟨_, (pss_cons (ps_set (i := 1) sc_law_curve.nd rfl (Or.inr rfl) (pe_callTy (crK K (c_dictP rfl)) rfl B.dict (by decide +kernel) (pa_cons (pv 0) pa_nil)))
      (pss_one (ps_ret (pe_callTy (crK K c_tuple) rfl B.tuple (by decide +kernel) (pa_cons (pe_lc (own := [("_law_t", 2)]) (g := gName 2) (tt := tYes) rfl sc_law_curve.nd (piK_list K (pe_callB (c_sortedD rfl) rfl B.sorted (by decide +kernel) (pa_cons (pv 1) pa_nil))) (blkOk_by (N := ["_law_samples_here", "_law_held", "_law_t"]) (sc := defScope s_law_curve) (by decide +kernel)) (fun _ _ _ _ _ => (pg_name (i := 2) sc_law_curve.nd rfl (Or.inl rfl))) (fun _ _ _ _ _ => pts_nil) (fun _ _ _ _ _ => (pe_tup (pa_cons (pv 2) (pa_cons (pe_dget (hu_of hr) (pv 1) (pv 2) (fun _ _ => rfl)) pa_nil))))) pa_nil))))), ?_⟩
    refine r_start (σ' := [some (.ref a), none, none]) rfl ?_
    walk_at "a"
    refine r_dict ha hd fun p1 H1 n1 s1 e1 => ?_
    walk_at "a"
    have hm := len_merge l []
    refine r_sortedD e1 (by simp at hm; omega) fun ys p2 H2 hp hs n2 s2 e2 => ?_
    walk_at "a"
    have nd := nd_merge l [] (by simp)
    refine lc_lstD (K := K) (as := ys) (fa := PyData.int) (SqL.of e2) (dpAll_ints K _ ys) (by rw [hp.length_eq, List.length_map]; simp at hm; omega) (fun _ => true) (fun t => pairP (t, (valP (mergeP [] l) t).getD 0)) (fun c => imm_pair _) (fun t x H3 S N ht s3 hx k1 k2 => ?_) (fun D H3 ys2 hD s3 e3 p3 => ?_)
    · cases dp_int hx
      refine r_gname ⟨wipe_one, ?_⟩
      walk_at "a"
      refine r_dget ?_
      walk_at "a"
      obtain ⟨h, hh⟩ : ∃ h, valP (mergeP [] l) t = some h := by
        obtain ⟨q, hq, rfl⟩ := List.mem_map.mp (hp.mem_iff.mp ht)
        exact ⟨q.2, (valP_iff nd).mpr hq⟩
      refine r_dgeti (s3 _ _ (s2 _ _ e1)) hh ?_
      walk_at "a"
      rw [hh] at k1
      exact k1 rfl _ _ (by assumption) (dp_of_pair (SqT.of (by assumption)))
    · walk_at "a"
      rename_i p4 H4 n4 s4 e4
      have e : ((ys.filter fun _ => true).map fun t => pairP (t, (valP (mergeP [] l) t).getD 0)) = (outOf (mergeP [] l) ys).map pairP := by
        rw [Fp.filter_all]
        unfold outOf
        rw [List.map_map]
        rfl
      rw [e] at p3
      exact q _ p4 H4 (by walk_at "sm") (isC_out hp hs) (.tup (SqT.of e4) (DpAll.same s4 _ _ p3))
end
theorem use_curve {K : PySem.W.Frag} {H : Hp} {Q : VK} {E : XK} {a : Addr} {l : Prs} {ws : List V} (h : SqL K H a ws) (hd : DpAll K H ws (l.map pairP)) (hl : l.length < 64) (q : ∀ (c : Prs) p H', Same H H' → IsC l c → Dp K H' (.ref p) (prsD c) → Q (.ref p) H') : sp_curve K [.ref a] H Q E := ⟨a, l, ws, rfl, h, hd, hl, q⟩

/-! whether a thing is a whole number -/
def numV : V → Bool
  | .int _ => true
  | _ => false
theorem numV_dp {K : PySem.W.Frag} {H : Hp} {v : V} {d : PyData} (h : Dp K H v d) : (isT "int" d && !isT "bool" d) = numV v := by
  cases h <;> simp [isT, isK, tyN, numV]
def sp_is_number (K : PySem.W.Frag) : Sp := fun vs H Q _ => ∃ v d, vs = [v] ∧ Dp K H v d ∧ Q (.bl (numV v)) H
section
variable {P : Program} {w : World} {K : PySem.W.Frag} {mg : Str → Option Value} {base : Heap}
theorem ok_is_whole (B : Blt mg) (D : Def K mg "is_whole" s_is_whole ["thing"]) :
    Fn P w K mg base 1 "is_whole" ["thing"] (sp_is_number K) := by
  refine D.ok sc_is_whole (fun vs H Q E h => ?_) (fun f cdv A outer s H vs Q E hr h => ?_)
  · obtain ⟨v, d, rfl, hd, q⟩ := h
    rfl
  · obtain ⟨v, d, rfl, hd, q⟩ := h
    refine ⟨_, (pss_one (ps_ret (pe_and (pe_callB (crK K call_isi) rfl B.isinstance (by decide +kernel) (pa_cons (pv 0) (pa_cons (pe_bltn (v := .ty "int") rfl B.int (by decide +kernel) rfl) pa_nil))) (pe_one (pe_not (pe_callB (crK K call_isi) rfl B.isinstance (by decide +kernel) (pa_cons (pv 0) (pa_cons (pe_bltn (v := .ty "bool") rfl B.bool (by decide +kernel) rfl) pa_nil)))))))), ?_⟩
    refine r_start (σ' := [some (v)]) rfl ?_
    rw [← numV_dp hd] at q
    walk_at "a"
    refine r_isi hd (by decide) ?_
    walk_at "a"
    cases h1 : isT "int" d with
    | false =>
      rw [h1] at q
      walk_at "a"
      exact q
    | true =>
      rw [h1] at q
      walk_at "a"
      refine r_isi hd (by decide) ?_
      walk_at "a"
      exact q
end
theorem use_is_number {K : PySem.W.Frag} {H : Hp} {Q : VK} {E : XK} {v : V} {d : PyData} (h : Dp K H v d) (q : Q (.bl (numV v)) H) : sp_is_number K [v] H Q E := ⟨v, d, rfl, h, q⟩
theorem use_is_number_i {K : PySem.W.Frag} {H : Hp} {Q : VK} {E : XK} {i : Int} (q : Q (.bl true) H) : sp_is_number K [.int i] H Q E := ⟨_, .int i, rfl, .int i, q⟩
local macro_rules | `(tactic| walk_at "call") => `(tactic| ((with_reducible refine' use_is_number_i ?_)))

/-! whole numbers, samples, curves; texts of curves, read -/
def sp_is_sample (K : PySem.W.Frag) : Sp := fun vs H Q _ => ∃ v c, vs = [v] ∧ Dp K H v (pairP c) ∧ ∀ H', Same H H' → Q (.bl true) H'
section
variable {P : Program} {w : World} {K : PySem.W.Frag} {mg : Str → Option Value} {base : Heap}
theorem ok_is_sample (B : Blt mg) (D : Def K mg "is_sample" s_is_sample ["thing"]) (G_is_whole : Fn P w K mg base 1 "is_whole" ["thing"] (sp_is_number K)) :
    Fn P w K mg base 2 "is_sample" ["thing"] (sp_is_sample K) := by
  refine D.ok sc_is_sample (fun vs H Q E h => ?_) (fun f cdv A outer s H vs Q E hr h => ?_)
  · obtain ⟨v, c, rfl, hd, q⟩ := h
    rfl
  · obtain ⟨v, c, rfl, hd, q⟩ := h
    refine ⟨_, (pss_one (ps_ret (pe_and (pe_callB (crK K call_isi) rfl B.isinstance (by decide +kernel) (pa_cons (pv 0) (pa_cons (pe_bltn (v := .ty "tuple") rfl B.tuple (by decide +kernel) rfl) pa_nil))) (pe_and (pe_cmpR (opK K (o_eq hr.units)) (pe_callB (crK K c_len) rfl B.len (by decide +kernel) (pa_cons (pv 0) pa_nil)) pe_int (nomark _)) (pe_one (pe_callB (crK K (cr_all rfl)) rfl B.all (by decide +kernel) (pa_cons (pe_lc (own := [("part", 1)]) (g := gName 1) (tt := tYes) rfl sc_is_sample.nd (piK_tup K (pv 0)) (blkOk_by (N := ["thing", "part"]) (sc := defScope s_is_sample) (by decide +kernel)) (fun _ _ _ _ _ => (pg_name (i := 1) sc_is_sample.nd rfl (Or.inl rfl))) (fun _ _ _ _ _ => pts_nil) (fun _ _ _ _ _ => (pe_fn G_is_whole hr (pa_cons (pv 1) pa_nil)))) pa_nil))))))), ?_⟩
    refine r_start (σ' := [some (v), none]) rfl ?_
    obtain ⟨a, rfl, ha⟩ := dp_pair hd
    walk_at "a"
    refine lc_map wk_tup (fun H' e => SqT.text (TExt.of_same e) ha) (by simp) (fun _ => .bl true) (fun v H3 R hv s3 kk => ?_) (fun D H3 hD s3 e3 => ?_)
    · obtain ⟨t, rfl⟩ : ∃ t, v = .int t := by
        simp at hv
        rcases hv with rfl | rfl <;> exact ⟨_, rfl⟩
      walk_at "a"
      exact kk _ (Same.refl _)
    · walk_at "a"
      refine r_allT (SqL.of e3) (by simp) ?_
      exact q _ s3
end
theorem use_is_sample {K : PySem.W.Frag} {H : Hp} {Q : VK} {E : XK} {v : V} {c : Int × Int} (h : Dp K H v (pairP c)) (q : ∀ H', Same H H' → Q (.bl true) H') : sp_is_sample K [v] H Q E := ⟨v, c, rfl, h, q⟩
def sp_is_curve (K : PySem.W.Frag) : Sp := fun vs H Q _ => ∃ (v : V) (c : Prs), vs = [v] ∧ Dp K H v (prsD c) ∧ (c.Pairwise fun p q => p.1 < q.1) ∧ c.length ≤ 100000 ∧ ∀ H', Same H H' → Q (.bl true) H'
section
variable {P : Program} {w : World} {K : PySem.W.Frag} {mg : Str → Option Value} {base : Heap}
theorem ok_is_curve (B : Blt mg) (D : Def K mg "is_curve" s_is_curve ["thing"]) (G_is_sample : Fn P w K mg base 2 "is_sample" ["thing"] (sp_is_sample K)) :
    Fn P w K mg base 3 "is_curve" ["thing"] (sp_is_curve K) := by
  refine D.ok sc_is_curve (fun vs H Q E h => ?_) (fun f cdv A outer s H vs Q E hr h => ?_)
  · obtain ⟨v, c, rfl, hd, hc, hl, q⟩ := h
    rfl
  · obtain ⟨v, c, rfl, hd, hc, hl, q⟩ := h
    refine ⟨_, (pss_cons (ps_if (PW.pt (pw_or (pt_not (pt_val (pe_callB (crK K call_isi) rfl B.isinstance (by decide +kernel) (pa_cons (pv 0) (pa_cons (pe_bltn (v := .ty "tuple") rfl B.tuple (by decide +kernel) rfl) pa_nil))))) (pw_or1 (pt_not (pt_val (pe_callB (crK K (cr_all rfl)) rfl B.all (by decide +kernel) (pa_cons (pe_lc (own := [("one", 1)]) (g := gName 1) (tt := tYes) rfl sc_is_curve.nd (piK_tup K (pv 0)) (blkOk_by (N := ["thing", "one", "other"]) (sc := defScope s_is_curve) (by decide +kernel)) (fun _ _ _ _ _ => (pg_name (i := 1) sc_is_curve.nd rfl (Or.inl rfl))) (fun _ _ _ _ _ => pts_nil) (fun _ _ _ _ _ => (pe_fn G_is_sample hr (pa_cons (pv 1) pa_nil)))) pa_nil)))))))
      (pss_one (ps_ret pe_bl))
      pss_nil)
      (pss_one (ps_ret (pe_callB (crK K (cr_all rfl)) rfl B.all (by decide +kernel) (pa_cons (pe_lc (own := [("one", 1), ("other", 2)]) (g := gTup K 2 (gCons (gName 1) (gCons (gName 2) gNil))) (tt := tYes) rfl sc_is_curve.nd (piK_zip K B.zip (pa_cons (pv 0) (pa_cons (pe_slice (slK K sl_tupA) (pv 0) (po_some pe_int) po_none) pa_nil))) (blkOk_by (N := ["thing", "one", "other"]) (sc := defScope s_is_curve) (by decide +kernel)) (fun _ _ _ _ _ => (pgK_tup K (n := 2) rfl (pgs_cons (pg_name (i := 1) sc_is_curve.nd rfl (Or.inl rfl)) (pgs_cons (pg_name (i := 2) sc_is_curve.nd rfl (Or.inl rfl)) pgs_nil)))) (fun _ _ _ _ _ => pts_nil) (fun _ _ _ _ _ => (pe_cmpR op_lt (pe_ix (ixK K ix_seq) (pv 1) pe_int (fun _ _ => rfl)) (pe_ix (ixK K ix_seq) (pv 2) pe_int (fun _ _ => rfl)) (nomark _)))) pa_nil))))), ?_⟩
    refine r_start (σ' := [some (v), none, none]) rfl ?_
    obtain ⟨a, ws, rfl, ha, hw⟩ := dp_tup hd
    walk_at "a"
    refine lc_tupD ha hw (by omega) (fun _ => true) (fun _ => .bool true) (fun _ => rfl) (fun c x H2 S N hc s2 hx k1 k2 => ?_) (fun D H2 ys hD s2 e2 p2 => ?_)
    · refine r_gname ⟨wipe_one, ?_⟩
      walk_at "a"
      exact use_is_sample hx fun H3 s3 => k1 rfl _ _ s3 (.bl true)
    rw [Fp.filter_all] at p2
    walk_at "a"
    refine r_allT (SqL.of e2) (dpAll_trues p2) ?_
    walk_at "a"
    have ha2 := SqT.text (TExt.of_same s2) ha
    have hw2 := DpAll.same s2 _ _ hw
    rename_i p3 H3 s3 e3
    rw [show (1 : Int) = ((1 : Nat) : Int) from rfl, cutV_from] at e3
    have d3 : DpAll K H3 (ws.drop 1) ((c.drop 1).map pairP) := by
      rw [List.map_drop]
      exact dpAll_drop 1 (DpAll.same s3 _ _ hw2)
    refine r_zipT (SqT.text (TExt.of_same s3) ha2) e3 ?_
    refine lc_zipD (SqT.text (TExt.of_same s3) ha2) (DpAll.same s3 _ _ hw2) e3 d3 (by omega) (fun _ => true) (fun _ => .bool true) (fun _ => rfl) (fun pq T x y H4 S N hc4 s4 hT hx hy k1 k2 => ?_) (fun D H4 ys hD s4 e4 p4 => ?_)
    · obtain ⟨px, rfl, hpx⟩ := dp_pair hx
      obtain ⟨py, rfl, hpy⟩ := dp_pair hy
      have hlt := zip_up hc pq hc4
      walk_at "a"
      refine ⟨rfl, ?_⟩
      walk_at "a"
      rw [decide_eq_true hlt]
      exact k1 rfl _ _ (Same.refl _) (.bl true)
    · rw [Fp.filter_all] at p4
      walk_at "a"
      refine r_allT (SqL.of e4) (dpAll_trues p4) ?_
      exact q _ ((s2.trans s3).trans s4)
end
theorem use_is_curve {K : PySem.W.Frag} {H : Hp} {Q : VK} {E : XK} {v : V} {c : Prs} (h : Dp K H v (prsD c)) (hc : c.Pairwise fun p q => p.1 < q.1) (hl : c.length ≤ 100000) (q : ∀ H', Same H H' → Q (.bl true) H') : sp_is_curve K [v] H Q E := ⟨v, c, rfl, h, hc, hl, q⟩
def sp_curve_text (K : PySem.W.Frag) : Sp := fun vs H Q _ => ∃ (v : V) (c : Prs), vs = [v] ∧ Dp K H v (prsD c) ∧ (∀ p ∈ c, Bdk 61 p) ∧ c.length ≤ 10000 ∧ ∀ H', Same H H' → Q (.str (textS c)) H'
theorem len_app (x y : Str) : (x ++ y).length = x.length + y.length := by rw [len_tl, len_tl, len_tl, tl_append, List.length_append]
theorem len_numS {i : Int} (h : i.natAbs < 10 ^ 61) : (numS i).length ≤ 62 := by rw [len_tl, tl_numS]; exact numT_len (by decide) h
theorem pow_1920 {i : Int} (h : i.natAbs < 10 ^ 61) : i.natAbs < 2 ^ 1920 := Nat.lt_trans h (by decide +kernel)
theorem line_nl (p : Int × Int) : numS p.1 ++ (" " : Str) ++ numS p.2 ++ ("\n" : Str) = lineNl p := by
  apply tl_inj
  rw [tl_append, tl_append, tl_append, tl_numS, tl_numS, show tl (" " : Str) = [32] by decide +kernel, show tl ("\n" : Str) = [10] by decide +kernel]
  rw [tl_lineNl]
  simp [lineT]
theorem join_text (c : Prs) : Txt.join ("" : Str) (c.map fun p => lineNl p) = textS c := by
  apply tl_inj
  rw [tl_join0, tl_textS, List.map_map]
  rfl
section
variable {P : Program} {w : World} {K : PySem.W.Frag} {mg : Str → Option Value} {base : Heap}
theorem ok_curve_text (B : Blt mg) (D : Def K mg "curve_text" s_curve_text ["curve"]) :
    Fn P w K mg base 1 "curve_text" ["curve"] (sp_curve_text K) := by
  refine D.ok sc_curve_text (fun vs H Q E h => ?_) (fun f cdv A outer s H vs Q E hr h => ?_)
  · obtain ⟨v, c, rfl, hd, hb, hl, q⟩ := h
    rfl
  · obtain ⟨v, c, rfl, hd, hb, hl, q⟩ := h
    refine ⟨_, (pss_one (ps_ret (pe_joinU K pe_str (pe_lc (own := [("t", 1), ("h", 2)]) (g := gTup K 2 (gCons (gName 1) (gCons (gName 2) gNil))) (tt := tYes) rfl sc_curve_text.nd (piK_tup K (pv 0)) (blkOk_by (N := ["curve", "t", "h"]) (sc := defScope s_curve_text) (by decide +kernel)) (fun _ _ _ _ _ => (pgK_tup K (n := 2) rfl (pgs_cons (pg_name (i := 1) sc_curve_text.nd rfl (Or.inl rfl)) (pgs_cons (pg_name (i := 2) sc_curve_text.nd rfl (Or.inl rfl)) pgs_nil)))) (fun _ _ _ _ _ => pts_nil) (fun _ _ _ _ _ => (pe_op o_adds (pe_op o_adds (pe_op o_adds (pe_callTy c_str rfl B.str (by decide +kernel) (pa_cons (pv 1) pa_nil)) pe_str) (pe_callTy c_str rfl B.str (by decide +kernel) (pa_cons (pv 2) pa_nil))) pe_str)))))), ?_⟩
    refine r_start (σ' := [some (v), none, none]) rfl ?_
    obtain ⟨a, ws, rfl, ha, hw⟩ := dp_tup hd
    walk_at "a"
    refine lc_tupD ha hw (by omega) (fun _ => true) (fun p => .str (lineNl p)) (fun _ => rfl) (fun c x H2 S N hc s2 hx k1 k2 => ?_) (fun D H2 ys hD s2 e2 p2 => ?_)
    · obtain ⟨px, rfl, hpx⟩ := dp_pair hx
      have h1 := len_numS (hb c hc).t
      have h2 := len_numS (hb c hc).h
      have z1 : (" " : Str).length = 1 := by decide +kernel
      have z2 : ("\n" : Str).length = 1 := by decide +kernel
      walk_at "a"
      refine ⟨rfl, ?_⟩
      walk_at "a"
      refine r_str (pow_1920 (hb c hc).t) ?_
      walk_at "a"
      refine r_adds (by rw [sizeLine_eq]; omega) ?_
      walk_at "a"
      refine r_str (pow_1920 (hb c hc).h) ?_
      refine r_adds (by rw [sizeLine_eq, len_app]; omega) ?_
      walk_at "a"
      refine r_adds (by rw [sizeLine_eq, len_app, len_app]; omega) ?_
      rw [line_nl]
      exact k1 rfl _ _ (Same.refl _) (.str _)
    · rw [Fp.filter_all, show (c.map fun p => PyData.str (lineNl p)) = (c.map fun p => lineNl p).map PyData.str by rw [List.map_map]; rfl] at p2
      have ey := dpAll_strs p2
      subst ey
      refine r_join (SqL.of e2) ?_ ?_
      · have hz : ("" : Str).length = 0 := by decide +kernel
        have hB := sum_lens (B := 126) (l := c.map fun p => lineNl p) fun s hs => by
          obtain ⟨p, hp, rfl⟩ := List.mem_map.mp hs
          have := lineT_len (by decide) (hb p hp)
          rw [len_tl, tl_lineNl, List.length_append]
          simp only [List.length_cons, List.length_nil]
          omega
        rw [List.length_map] at hB ⊢
        rw [hz]
        omega
      rw [join_text]
      exact q _ s2
end
theorem use_curve_text {K : PySem.W.Frag} {H : Hp} {Q : VK} {E : XK} {v : V} {c : Prs} (h : Dp K H v (prsD c)) (hb : ∀ p ∈ c, Bdk 61 p) (hl : c.length ≤ 10000) (q : ∀ H', Same H H' → Q (.str (textS c)) H') : sp_curve_text K [v] H Q E := ⟨v, c, rfl, h, hb, hl, q⟩
def figN : List Nat := [48, 49, 50, 51, 52, 53, 54, 55, 56, 57]
theorem tl_fig : tl ("0123456789" : Str) = figN := by decide +kernel
theorem fig_mem {c : Nat} (h : 48 ≤ c ∧ c ≤ 57) : c ∈ figN := by
  unfold figN
  simp
  omega
def digS (n : Nat) : Str := ⟨(TL.numL n).toArray⟩
theorem tl_digS (n : Nat) : tl (digS n) = TL.numL n := TL.tl_mk _
def sp_is_figures (K : PySem.W.Frag) : Sp := fun vs H Q _ => ∃ n : Nat, vs = [.str (digS n)] ∧ (TL.numL n).length ≤ 1000 ∧ ∀ H', Same H H' → Q (.bl true) H'
theorem digS_ne (n : Nat) : digS n ≠ ("" : Str) := fun z => by
  have := congrArg tl z
  rw [tl_digS, show tl ("" : Str) = [] by decide +kernel] at this
  exact TL.numL_ne n this
theorem one_sign {c d : Nat} : ((⟨#[c]⟩ : Str) = ⟨#[d]⟩) ↔ c = d := by simp
/-- no figure nought ahead, but of nought itself -/
theorem num_head : ∀ n : Nat, ∃ c r, TL.numL n = c :: r ∧ (c = 48 → n = 0) := by
  intro n
  induction n using Nat.strongRecOn with
  | _ n ih =>
    by_cases h : n < 10
    · exact ⟨48 + n, [], TL.numL_lt h, by omega⟩
    · obtain ⟨c, r, e, hc⟩ := ih (n / 10) (by omega)
      refine ⟨c, r ++ [48 + n % 10], by rw [TL.numL_step (by omega), e]; rfl, fun z => ?_⟩
      have := hc z
      omega
section
variable {P : Program} {w : World} {K : PySem.W.Frag} {mg : Str → Option Value} {base : Heap}
theorem ok_is_figures (B : Blt mg) (D : Def K mg "is_figures" s_is_figures ["text"]) {tk_FIGURES : Tok} (C_FIGURES : mg "FIGURES" = some (.str "0123456789" tk_FIGURES)) :
    Fn P w K mg base 1 "is_figures" ["text"] (sp_is_figures K) := by
  refine D.ok sc_is_figures (fun vs H Q E h => ?_) (fun f cdv A outer s H vs Q E hr h => ?_)
  · obtain ⟨n, rfl, hl, q⟩ := h
    rfl
  · obtain ⟨n, rfl, hl, q⟩ := h
    refine ⟨_, (pss_cons (ps_if (PW.pt (pw_or (pt_cmpR (opK K (o_eq hr.units)) (pv 0) pe_str (nomark _)) (pw_or1 (pt_not (pt_val (pe_callB (crK K (cr_all rfl)) rfl B.all (by decide +kernel) (pa_cons (pe_lc (own := [("sign", 1)]) (g := gName 1) (tt := tYes) rfl sc_is_figures.nd (pi_strU (pv 0)) (blkOk_by (N := ["text", "sign"]) (sc := defScope s_is_figures) (by decide +kernel)) (fun _ _ _ _ _ => (pg_name (i := 1) sc_is_figures.nd rfl (Or.inl rfl))) (fun _ _ _ _ _ => pts_nil) (fun _ _ _ _ _ => (pe_cmpR o_inS (pv 1) (pe_glob (v := .str "0123456789") rfl C_FIGURES ⟨_, rfl⟩) (by with_unfolding_all rfl)))) pa_nil)))))))
      (pss_one (ps_ret pe_bl))
      pss_nil)
      (pss_one (ps_ret (pe_or (pe_cmpR (opK K (o_ne hr.units)) (pe_ix (ixK K ix_seq) (pv 0) pe_int (fun _ _ => rfl)) pe_str (nomark _)) (pe_one (pe_cmpR (opK K (o_eq hr.units)) (pv 0) pe_str (nomark _))))))), ?_⟩
    refine r_start (σ' := [some (.str (digS n)), none]) rfl ?_
    walk_at "a"
    refine r_eq_s ?_
    rw [decide_eq_false (digS_ne n)]
    walk_at "a"
    refine r_istrU ?_
    walk_at "a"
    refine r_strW ?_
    refine lc_gen (as := TL.numL n) (fun c v _ => v = .str ⟨#[c]⟩) (src := fun _ => True) (item := fun i H v H' => H' = H ∧ ∃ c, (TL.numL n)[i]? = some c ∧ v = .str ⟨#[c]⟩) (by have w := wk_str (x := digS n); rw [tl_digS] at w; exact w)
      (fun i H2 v H' hi h => by obtain ⟨rfl, c, hc, rfl⟩ := h; exact ⟨c, hc, Same.refl _, rfl⟩) (fun _ _ => trivial) (by omega) (fun _ => true) (fun _ _ y => y = .bl true) (fun _ _ _ _ _ h => h) (fun c v H2 S N hc s2 hv k1 k2 => ?_) (fun D H2 ys hD s2 e2 p2 => ?_)
    · subst hv
      refine r_gname ⟨wipe_one, ?_⟩
      walk_at "a"
      refine r_inS ?_
      rw [tl_fig, decide_eq_true (fig_mem (TL.numL_digits n c hc))]
      exact k1 rfl _ _ (Same.refl _) rfl
    · walk_at "a"
      refine r_allT (SqL.of e2) (paired_right p2) ?_
      walk_at "a"
      obtain ⟨c, r, e, hc⟩ := num_head n
      refine r_ixs (c := c) (by rw [len_tl, tl_digS, sizeLine_eq]; omega) (by rw [show (digS n).cps.toList = c :: r by rw [← e]; exact tl_digS n]; exact atI_nat (j := 0) rfl) ?_
      walk_at "a"
      refine r_ne_s ?_
      by_cases h48 : c = 48
      · have hn := hc h48
        subst hn
        subst h48
        rw [decide_eq_true (show (⟨#[48]⟩ : Str) = Str.ofString "0" by decide +kernel)]
        walk_at "a"
        refine r_eq_s ?_
        rw [decide_eq_true (show digS 0 = Str.ofString "0" by decide +kernel)]
        exact q _ s2
      · rw [decide_eq_false (show ¬ (⟨#[c]⟩ : Str) = Str.ofString "0" by rw [show Str.ofString "0" = (⟨#[48]⟩ : Str) by decide +kernel, one_sign]; exact h48)]
        walk_at "a"
        exact q _ s2
end
theorem use_is_figures {K : PySem.W.Frag} {H : Hp} {Q : VK} {E : XK} {n : Nat} (h : (TL.numL n).length ≤ 1000) (q : ∀ H', Same H H' → Q (.bl true) H') : sp_is_figures K [.str (digS n)] H Q E := ⟨n, rfl, h, q⟩
def sp_read_number (K : PySem.W.Frag) : Sp := fun vs H Q _ => ∃ i : Int, vs = [.str (numS i)] ∧ i.natAbs < 10 ^ 61 ∧ ∀ H', Same H H' → Q (.int i) H'
section
variable {P : Program} {w : World} {K : PySem.W.Frag} {mg : Str → Option Value} {base : Heap}
theorem ok_read_number (B : Blt mg) (D : Def K mg "read_number" s_read_number ["word"]) {E_NoText : Addr} (X_NoText : Exc K mg "NoText" E_NoText) (G_is_figures : Fn P w K mg base 1 "is_figures" ["text"] (sp_is_figures K)) :
    Fn P w K mg base 2 "read_number" ["word"] (sp_read_number K) := by
  refine D.okX sc_read_number (fun vs H Q E h => ?_) (fun f cdv A outer s H vs Q E hr h => ?_)
  · obtain ⟨i, rfl, hb, q⟩ := h
    rfl
  · obtain ⟨i, rfl, hb, q⟩ := h
    refine ⟨_, (pss_cons (ps_set (i := 1) sc_read_number.nd rfl (Or.inl rfl) (pv 0))
      (pss_cons (ps_if (pt_cmpR (opK K (o_eq hr.units)) (pe_slice o_slS (pv 0) po_none (po_some pe_int)) pe_str (nomark _))
      (pss_one (ps_set (i := 1) sc_read_number.nd rfl (Or.inl rfl) (pe_slice o_slS (pv 0) (po_some pe_int) po_none)))
      pss_nil)
      (pss_cons (ps_if (PW.pt (pw_or (pt_not (pt_val (pe_fn G_is_figures hr (pa_cons (pv 1) pa_nil)))) (pw_or1 (pt_cmpR (opK K (o_eq hr.units)) (pv 0) pe_str (nomark _)))))
      (pss_one (ps_rs X_NoText (takes_of rfl rfl rfl rfl)))
      pss_nil)
      (pss_one (ps_ret (pe_callTy c_intS rfl B.int (by decide +kernel) (pa_cons (pv 0) pa_nil))))))), ?_⟩
    refine r_start (σ' := [some (.str (numS i)), none]) rfl ?_
    have hl := numT_len (by decide) hb
    have hls : (numS i).length ≤ 62 := by rw [len_tl, tl_numS]; exact hl
    have fin : ∀ σ H', Same H H' → σ[0]? = some (some (V.str (numS i))) → tRet (tCB uIntS (tCons (tVar 0) tNil)) { nx := fun x H' => Q V.non H', rt := Q } σ H' := fun σ H' s h => by
      walk_at "a"
      refine r_var h ?_
      walk_at "a"
      exact r_intS (by omega) (q _ s)
    have hnz : numS i ≠ ("-0" : Str) := fun z => by
      have := congrArg tl z
      rw [tl_numS, show tl ("-0" : Str) = [45, 48] by decide +kernel] at this
      unfold numT at this
      split at this
      · rename_i h
        have := (List.cons.inj this).2
        have := congrArg NumText.digitsVal this
        rw [TL.numL_val] at this
        have e : NumText.digitsVal [48] = 0 := by decide
        omega
      · have h45 := TL.numL_digits i.natAbs 45 (by rw [this]; simp)
        omega
    have hd : (TL.numL i.natAbs).length ≤ 1000 := by
      have := TL.numL_len (n := i.natAbs) (k := 61) (by decide) hb
      omega
    have rest : ∀ H', Same H H' → tSeq (tIfS
              (tOr (tNot (tB (tFn (sp_is_figures K) E0 (tCons (tVar 1) tNil))))
                (tTest (tOp (uEq K) (tVar 0) (tC (V.str (Str.ofString "-0"))))))
              (fun x σ H => E (Value.ref E_NoText) none H) tNext)
            (tRet (tCB uIntS (tCons (tVar 0) tNil))) { nx := fun x H' => Q V.non H', rt := Q } [some (V.str (numS i)), some (V.str (digS i.natAbs))] H' := fun H' s => by
      walk_at "a"
      refine use_is_figures hd fun H2 s2 => ?_
      walk_at "a"
      refine r_eq_s ?_
      rw [decide_eq_false hnz]
      exact ⟨false, rfl, i_F (r_next (fin [some (.str (numS i)), some (.str (digS i.natAbs))] _ (s.trans s2) rfl))⟩
    by_cases h : i < 0
    · have e : numS i = (⟨(45 :: TL.numL i.natAbs).toArray⟩ : Str) := by unfold numS numT; rw [if_pos h]
      have c1 : cutS (numS i) none (some 1) = ⟨#[45]⟩ := by rw [e]; exact cutS_head
      have c2 : cutS (numS i) (some 1) none = digS i.natAbs := by rw [e]; exact cutS_tail
      walk_at "a"
      refine r_slS (by rw [sizeLine_eq]; omega) ?_
      rw [c1]
      walk_at "a"
      refine r_eq_s ?_
      rw [decide_eq_true (show (⟨#[45]⟩ : Str) = Str.ofString "-" by decide +kernel)]
      walk_at "a"
      refine r_slS (by rw [sizeLine_eq]; omega) ?_
      rw [c2]
      exact rest _ (Same.refl _)
    · have e : numS i = digS i.natAbs := by unfold numS numT digS; rw [if_neg h]
      obtain ⟨c, r, ec, _⟩ := num_head i.natAbs
      have hc := TL.numL_digits i.natAbs c (by rw [ec]; simp)
      have c1 : cutS (numS i) none (some 1) = ⟨#[c]⟩ := by rw [e]; unfold digS; rw [ec]; exact cutS_head
      walk_at "a"
      refine r_slS (by rw [sizeLine_eq]; omega) ?_
      rw [c1]
      walk_at "a"
      refine r_eq_s ?_
      rw [decide_eq_false (show ¬ (⟨#[c]⟩ : Str) = Str.ofString "-" by rw [show Str.ofString "-" = (⟨#[45]⟩ : Str) by decide +kernel, one_sign]; omega)]
      have rest := rest _ (Same.refl H)
      rw [← e] at rest
      exact ⟨false, rfl, i_F (r_next rest)⟩
end
theorem use_read_number {K : PySem.W.Frag} {H : Hp} {Q : VK} {E : XK} {i : Int} (h : i.natAbs < 10 ^ 61) (q : ∀ H', Same H H' → Q (.int i) H') : sp_read_number K [.str (numS i)] H Q E := ⟨i, rfl, h, q⟩
def sp_read_sample (K : PySem.W.Frag) : Sp := fun vs H Q _ => ∃ p, vs = [.str (lineOf p)] ∧ Bdk 61 p ∧ ∀ a H', Same H H' → Dp K H' (.ref a) (pairP p) → Q (.ref a) H'
section
variable {P : Program} {w : World} {K : PySem.W.Frag} {mg : Str → Option Value} {base : Heap}
theorem ok_read_sample (B : Blt mg) (D : Def K mg "read_sample" s_read_sample ["line"]) {E_NoText : Addr} (X_NoText : Exc K mg "NoText" E_NoText) (G_read_number : Fn P w K mg base 2 "read_number" ["word"] (sp_read_number K)) :
    Fn P w K mg base 3 "read_sample" ["line"] (sp_read_sample K) := by
  refine D.okX sc_read_sample (fun vs H Q E h => ?_) (fun f cdv A outer s H vs Q E hr h => ?_)
  · obtain ⟨p, rfl, hb, q⟩ := h
    rfl
  · obtain ⟨p, rfl, hb, q⟩ := h
    refine ⟨_, (pss_cons (ps_set (i := 1) sc_read_sample.nd rfl (Or.inl rfl) (pe_splitU (pv 0) pe_str))
      (pss_cons (ps_if (pt_cmpR (opK K (o_ne hr.units)) (pe_callB (crK K c_len) rfl B.len (by decide +kernel) (pa_cons (pv 1) pa_nil)) pe_int (nomark _))
      (pss_one (ps_rs X_NoText (takes_of rfl rfl rfl rfl)))
      pss_nil)
      (pss_one (ps_ret (pe_tup (pa_cons (pe_fnX G_read_number hr (takes_of rfl rfl rfl rfl) (pa_cons (pe_ix (ixK K ix_seq) (pv 1) pe_int (fun _ _ => rfl)) pa_nil)) (pa_cons (pe_fnX G_read_number hr (takes_of rfl rfl rfl rfl) (pa_cons (pe_ix (ixK K ix_seq) (pv 1) pe_int (fun _ _ => rfl)) pa_nil)) pa_nil))))))), ?_⟩
    refine r_start (σ' := [some (.str (lineOf p)), none]) rfl ?_
    have hl := lineT_len (by decide) hb
    walk_at "a"
    refine r_split (by decide +kernel) (by rw [sizeLine_eq, len_tl, tl_lineOf]; omega) fun w1 H1 n1 s1 e1 => ?_
    rw [split_line] at e1
    have e1 : H1 w1 = some (.lst [.str (numS p.1), .str (numS p.2)]) := e1
    walk_at "a"
    refine use_read_number hb.t fun H2 s2 => ?_
    walk_at "a"
    refine use_read_number hb.h fun H3 s3 => ?_
    walk_at "a"
    rename_i a H4 n4 s4 e4
    exact q a H4 (((s1.trans s2).trans s3).trans s4) (dp_of_pair (SqT.of e4))
end
theorem use_read_sample {K : PySem.W.Frag} {H : Hp} {Q : VK} {E : XK} {p : Int × Int} (h : Bdk 61 p) (q : ∀ a H', Same H H' → Dp K H' (.ref a) (pairP p) → Q (.ref a) H') : sp_read_sample K [.str (lineOf p)] H Q E := ⟨p, rfl, h, q⟩
def sp_read_curve (K : PySem.W.Frag) : Sp := fun vs H Q _ => ∃ c, vs = [.str (textS c)] ∧ (∀ p ∈ c, Bdk 61 p) ∧ (c.Pairwise fun p q => p.1 < q.1) ∧ c.length ≤ 10000 ∧ ∀ a H', Same H H' → Dp K H' (.ref a) (prsD c) → Q (.ref a) H'
section
variable {P : Program} {w : World} {K : PySem.W.Frag} {mg : Str → Option Value} {base : Heap}
theorem ok_read_curve (B : Blt mg) (D : Def K mg "read_curve" s_read_curve ["text"]) {E_NoText : Addr} (X_NoText : Exc K mg "NoText" E_NoText) (G_is_curve : Fn P w K mg base 3 "is_curve" ["thing"] (sp_is_curve K)) (G_read_sample : Fn P w K mg base 3 "read_sample" ["line"] (sp_read_sample K)) :
    Fn P w K mg base 4 "read_curve" ["text"] (sp_read_curve K) := by
  refine D.okX sc_read_curve (fun vs H Q E h => ?_) (fun f cdv A outer s H vs Q E hr h => ?_)
  · obtain ⟨c, rfl, hb, hc, hl, q⟩ := h
    rfl
  · obtain ⟨c, rfl, hb, hc, hl, q⟩ := h
    refine ⟨_, (pss_cons (ps_if (pt_not (pt_val (pe_callB (crK K call_isi) rfl B.isinstance (by decide +kernel) (pa_cons (pv 0) (pa_cons (pe_bltn (v := .ty "str") rfl B.str (by decide +kernel) rfl) pa_nil)))))
      (pss_one (ps_rs X_NoText (takes_of rfl rfl rfl rfl)))
      pss_nil)
      (pss_cons (ps_set (i := 1) sc_read_curve.nd rfl (Or.inl rfl) (pe_splitU (pv 0) pe_str))
      (pss_cons (ps_if (pt_cmpR (opK K (o_ne hr.units)) (pe_ix (ixK K ix_seq) (pv 1) (pe_un un_neg pe_int) (fun _ _ => rfl)) pe_str (nomark _))
      (pss_one (ps_rs X_NoText (takes_of rfl rfl rfl rfl)))
      pss_nil)
      (pss_cons (ps_set (i := 2) sc_read_curve.nd rfl (Or.inl rfl) (pe_callTy (crK K c_tuple) rfl B.tuple (by decide +kernel) (pa_cons (pe_lc (own := [("line", 3)]) (g := gName 3) (tt := tYes) rfl sc_read_curve.nd (piK_list K (pe_slice (slK K sl_list) (pv 1) po_none (po_some (pe_un un_neg pe_int)))) (blkOk_by (N := ["text", "lines", "curve", "line"]) (sc := defScope s_read_curve) (by decide +kernel)) (fun _ _ _ _ _ => (pg_name (i := 3) sc_read_curve.nd rfl (Or.inl rfl))) (fun _ _ _ _ _ => pts_nil) (fun _ _ _ _ _ => (pe_fn G_read_sample hr (pa_cons (pv 3) pa_nil)))) pa_nil)))
      (pss_cons (ps_if (pt_not (pt_val (pe_fn G_is_curve hr (pa_cons (pv 2) pa_nil))))
      (pss_one (ps_rs X_NoText (takes_of rfl rfl rfl rfl)))
      pss_nil)
      (pss_one (ps_ret (pv 2)))))))), ?_⟩
    refine r_start (σ' := [some (.str (textS c)), none, none, none]) rfl ?_
    have htl := textN_len (k := 61) (by decide) hb
    walk_at "a"
    refine r_split (by decide +kernel) (by rw [sizeLine_eq, len_tl, tl_textS]; omega) fun w1 H1 n1 s1 e1 => ?_
    rw [split_text, List.map_append, List.map_map] at e1
    have e1 : H1 w1 = some (.lst ((c.map fun p => V.str (lineOf p)) ++ [V.str (Str.ofString "")])) := e1
    walk_at "a"
    refine r_ixl (SqL.of e1) (atI_last _ _) ?_
    walk_at "a"
    refine r_ne_s ?_
    rw [decide_eq_true rfl]
    walk_at "a"
    rename_i p2 H2 n2 s2 e2
    rw [cutV_init] at e2
    have dl : DpAll K H2 (c.map fun p => V.str (lineOf p)) (c.map fun p => PyData.str (lineOf p)) := by
      have := dpAll_ofStrs K H2 (c.map lineOf)
      rw [List.map_map, List.map_map] at this
      exact this
    refine lc_lstD (K := K) (as := c) (fa := fun p => PyData.str (lineOf p)) (SqL.of e2) dl (by omega) (fun _ => true) pairP imm_pair (fun p x H3 S N hp s3 hx k1 k2 => ?_) (fun D H3 ys hD s3 e3 p3 => ?_)
    · cases dp_str hx
      refine r_gname ⟨wipe_one, ?_⟩
      walk_at "a"
      exact use_read_sample (hb p hp) fun a H4 s4 d4 => k1 rfl _ _ s4 d4
    rw [Fp.filter_all] at p3
    walk_at "a"
    rename_i p4 H4 n4 s4 e4
    have d4 : Dp K H4 (.ref p4) (prsD c) := .tup (SqT.of e4) (DpAll.same s4 _ _ p3)
    refine use_is_curve d4 hc (by omega) fun H5 s5 => ?_
    walk_at "a"
    exact q _ _ ((((s1.trans s2).trans s3).trans s4).trans s5) (Dp.same s5 _ _ d4)
end
theorem use_read_curve {K : PySem.W.Frag} {H : Hp} {Q : VK} {E : XK} {c : Prs} (hb : ∀ p ∈ c, Bdk 61 p) (hc : c.Pairwise fun p q => p.1 < q.1) (hl : c.length ≤ 10000) (q : ∀ a H', Same H H' → Dp K H' (.ref a) (prsD c) → Q (.ref a) H') : sp_read_curve K [.str (textS c)] H Q E := ⟨c, rfl, hb, hc, hl, q⟩

/-! ### the law's -/
def sp_written (K : PySem.W.Frag) : Sp := fun vs H Q _ => ∃ i : Int, vs = [.int i] ∧ i.natAbs < 10 ^ 61 ∧ Q (.str (numS i)) H
theorem dig_at {d : Int} (h0 : 0 ≤ d) (h1 : d < 10) : atI (tl ("0123456789" : Str)) d = some (48 + d.toNat) := by
  rw [tl_fig]
  obtain rfl | rfl | rfl | rfl | rfl | rfl | rfl | rfl | rfl | rfl : d = 0 ∨ d = 1 ∨ d = 2 ∨ d = 3 ∨ d = 4 ∨ d = 5 ∨ d = 6 ∨ d = 7 ∨ d = 8 ∨ d = 9 := by omega
  all_goals decide +kernel
section
variable {P : Program} {w : World} {K : PySem.W.Frag} {mg : Str → Option Value} {base : Heap}
theorem ok_law_written (B : Blt mg) (D : Def K mg "_law_written" s_law_written ["_law_number_here"]) :
    Fn P w K mg base 1 "_law_written" ["_law_number_here"] (sp_written K) := by
  refine D.ok sc_law_written (fun vs H Q E h => ?_) (fun f cdv A outer s H vs Q E hr h => ?_)
  · obtain ⟨i, rfl, hb, q⟩ := h
    rfl
  · obtain ⟨i, rfl, hb, q⟩ := h
    refine ⟨_, (pss_cons (ps_set (i := 1) sc_law_written.nd rfl (Or.inl rfl) pe_str)
      (pss_cons (ps_set (i := 2) sc_law_written.nd rfl (Or.inl rfl) (pe_callB c_abs rfl B.abs (by decide +kernel) (pa_cons (pv 0) pa_nil)))
      (pss_cons (ps_while PassesOwn.never (pt_cmpR op_gt (pv 2) pe_int (nomark _))
      (pss_cons (ps_set (i := 1) sc_law_written.nd rfl (Or.inl rfl) (pe_op o_adds (pe_ix (ixK K ix_seq) pe_str (pe_op op_mod (pv 2) pe_int) (fun _ _ => rfl)) (pv 1)))
      (pss_one (ps_set (i := 2) sc_law_written.nd rfl (Or.inl rfl) (pe_op op_fdivW (pv 2) pe_int)))))
      (pss_cons (ps_set (i := 1) sc_law_written.nd rfl (Or.inl rfl) (pe_op o_adds (pe_ix (ixK K ix_seq) pe_str (pv 2) (fun _ _ => rfl)) (pv 1)))
      (pss_one (ps_ret (pe_op o_adds (pe_op o_rep01 pe_str (pe_callTy c_int1 rfl B.int (by decide +kernel) (pa_cons (pe_cmpR op_lt (pv 0) pe_int (nomark _)) pa_nil))) (pv 1)))))))), ?_⟩
    refine r_start (σ' := [some (.int i), none, none]) rfl ?_
    have hl := TL.numL_len (n := i.natAbs) (k := 61) (by decide) hb
    have l10 : ("0123456789" : Str).length = 10 := by decide +kernel
    walk_at "a"
    have ea : (if i < 0 then -i else i) = ((i.natAbs : Nat) : Int) := by omega
    rw [ea]
    refine ⟨fun m σ H' => H' = H ∧ ∃ l : List Nat, TL.numL i.natAbs = TL.numL m ++ l ∧ σ = [some (.int i), some (.str ⟨l.toArray⟩), some (.int (m : Int))], ⟨i.natAbs, rfl, [], by simp, rfl⟩, ?_⟩
    rintro m σ H' ⟨rfl, l, el, rfl⟩
    have hll : l.length ≤ 61 := by
      have := congrArg List.length el
      rw [List.length_append] at this
      omega
    walk_at "a"
    refine i_cases (fun h => ?_) (fun h => ?_)
    · refine ⟨_, fun _ _ h => h, ?_⟩
      walk_at "a"
      refine r_ixs (c := 48 + ((m : Int) % 10).toNat) (by rw [l10, sizeLine_eq]; omega) (dig_at (by omega) (by omega)) ?_
      walk_at "a"
      refine r_adds (by rw [sizeLine_eq]; simp [Str.length]; omega) ?_
      walk_at "a"
      refine ⟨m / 10, by omega, rfl, (48 + m % 10) :: l, ?_, ?_⟩
      · rw [el, TL.numL_step (by omega)]
        simp
      · have e1 : ((m : Int) % 10).toNat = m % 10 := by omega
        have e2 : (m : Int) / 10 = ((m / 10 : Nat) : Int) := by omega
        have e3 : (⟨#[48 + m % 10]⟩ : Str) ++ (⟨l.toArray⟩ : Str) = ⟨((48 + m % 10) :: l).toArray⟩ := by
          apply tl_inj
          rw [tl_append]
          rfl
        rw [e1, e2, e3]
        rfl
    · walk_at "a"
      refine r_ixs (c := 48 + (m : Int).toNat) (by rw [l10, sizeLine_eq]; omega) (dig_at (by omega) (by omega)) ?_
      walk_at "a"
      refine r_adds (by rw [sizeLine_eq]; simp [Str.length]; omega) ?_
      walk_at "a"
      have e1 : (m : Int).toNat = m := by omega
      have ed : (⟨#[48 + (m : Int).toNat]⟩ : Str) ++ (⟨l.toArray⟩ : Str) = digS i.natAbs := by
        apply tl_inj
        rw [tl_append, tl_digS, el, TL.numL_lt (by omega), e1]
      rw [ed]
      have hld : (digS i.natAbs).length ≤ 61 := by rw [len_tl, tl_digS]; exact hl
      by_cases hn : i < 0
      · rw [decide_eq_true hn]
        refine r_rep1 rfl ?_
        walk_at "a"
        refine r_adds (by rw [sizeLine_eq, show ("-" : Str).length = 1 by decide +kernel]; omega) ?_
        have : ("-" : Str) ++ digS i.natAbs = numS i := by
          apply tl_inj
          rw [tl_append, tl_digS, tl_numS, show tl ("-" : Str) = [45] by decide +kernel]
          unfold numT
          rw [if_pos hn]
          rfl
        rw [this]
        exact q
      · rw [decide_eq_false hn]
        refine r_rep0 rfl ?_
        walk_at "a"
        refine r_adds (by rw [sizeLine_eq, show ("" : Str).length = 0 by decide +kernel]; omega) ?_
        have : ("" : Str) ++ digS i.natAbs = numS i := by
          apply tl_inj
          rw [tl_append, tl_digS, tl_numS, show tl ("" : Str) = [] by decide +kernel]
          unfold numT
          rw [if_neg hn]
          rfl
        rw [this]
        exact q
end
theorem use_written {K : PySem.W.Frag} {H : Hp} {Q : VK} {E : XK} {i : Int} (h : i.natAbs < 10 ^ 61) (q : Q (.str (numS i)) H) : sp_written K [.int i] H Q E := ⟨i, rfl, h, q⟩
def sp_text (K : PySem.W.Frag) : Sp := fun vs H Q _ => ∃ (v : V) (c : Prs), vs = [v] ∧ Dp K H v (prsD c) ∧ (∀ p ∈ c, Bdk 61 p) ∧ c.length ≤ 10000 ∧ Q (.str (textS c)) H
section
variable {P : Program} {w : World} {K : PySem.W.Frag} {mg : Str → Option Value} {base : Heap}
theorem ok_law_text (B : Blt mg) (D : Def K mg "_law_text" s_law_text ["_law_curve_here"]) (G_law_written : Fn P w K mg base 1 "_law_written" ["_law_number_here"] (sp_written K)) :
    Fn P w K mg base 2 "_law_text" ["_law_curve_here"] (sp_text K) := by
  refine D.ok sc_law_text (fun vs H Q E h => ?_) (fun f cdv A outer s H vs Q E hr h => ?_)
  · obtain ⟨v, c, rfl, hd, hb, hl, q⟩ := h
    rfl
  · obtain ⟨v, c, rfl, hd, hb, hl, q⟩ := h
    refine ⟨_, (pss_cons (ps_set (i := 1) sc_law_text.nd rfl (Or.inl rfl) pe_str)
      (pss_cons (ps_for PassesOwn.never rfl (piK_tup K (pv 0)) (pgK_tup K (n := 2) rfl (pgs_cons (pg_name (i := 2) sc_law_text.nd rfl (Or.inl rfl)) (pgs_cons (pg_name (i := 3) sc_law_text.nd rfl (Or.inl rfl)) pgs_nil)))
      (pss_one (ps_set (i := 1) sc_law_text.nd rfl (Or.inl rfl) (pe_op o_adds (pe_op o_adds (pe_op o_adds (pe_op o_adds (pv 1) (pe_fn G_law_written hr (pa_cons (pv 2) pa_nil))) pe_str) (pe_fn G_law_written hr (pa_cons (pv 3) pa_nil))) pe_str))))
      (pss_one (ps_ret (pv 1))))), ?_⟩
    refine r_start (σ' := [some (v), none, none, none]) rfl ?_
    obtain ⟨a, ws, rfl, ha, hw⟩ := dp_tup hd
    have hwl : ws.length = c.length := by rw [dpAll_len hw, List.length_map]
    walk_at "a"
    refine for_wk wk_tup (fun i σ H' => (∃ v1 v2 : Option V, σ = [some (.ref a), some (.str (textS (c.take i))), v1, v2]) ∧ H' = H) ⟨⟨none, none, by rw [show textS (c.take 0) = Str.ofString "" from tl_inj (by rw [tl_textS, show tl ("" : Str) = [] by decide +kernel]; rfl)]; rfl⟩, rfl⟩ (fun i σ H' _ p => by rw [p.2]; exact ha) ?_ ?_
    · rintro i x σ H1 H1' hi ⟨⟨v1, v2, rfl⟩, rfl⟩ ⟨rfl, hx⟩
      obtain ⟨p, hp, hd⟩ := dpAll_map_at hw hx
      obtain ⟨px, rfl, hpx⟩ := dp_pair hd
      have hbp := hb p (List.mem_of_getElem? hp)
      have h0 : (textS (c.take i)).length ≤ 10000 * 126 := by
        rw [len_tl, tl_textS]
        refine Nat.le_trans (textN_len (k := 61) (by decide) fun q hq => hb q (List.mem_of_mem_take hq)) ?_
        exact Nat.mul_le_mul (by simp; omega) (by decide)
      have h1 := len_numS hbp.t
      have h2 := len_numS hbp.h
      have z1 : (" " : Str).length = 1 := by decide +kernel
      have z2 : ("\n" : Str).length = 1 := by decide +kernel
      walk_at "a"
      refine use_written hbp.t ?_
      refine r_adds (by rw [sizeLine_eq]; omega) ?_
      walk_at "a"
      refine r_adds (by rw [sizeLine_eq, len_app]; omega) ?_
      walk_at "a"
      refine use_written hbp.h ?_
      refine r_adds (by rw [sizeLine_eq, len_app, len_app]; omega) ?_
      walk_at "a"
      refine r_adds (by rw [sizeLine_eq, len_app, len_app, len_app]; omega) ?_
      have e : textS (c.take i) ++ numS p.1 ++ (" " : Str) ++ numS p.2 ++ ("\n" : Str) = textS (c.take (i + 1)) := by
        apply tl_inj
        rw [tl_append, tl_append, tl_append, tl_append, tl_textS, tl_textS, tl_numS, tl_numS, text_snoc hp, show tl (" " : Str) = [32] by decide +kernel, show tl ("\n" : Str) = [10] by decide +kernel]
        simp
      rw [e]
      exact ⟨⟨_, _, rfl⟩, rfl⟩
    · rintro σ H1 ⟨⟨v1, v2, rfl⟩, rfl⟩
      rw [List.take_of_length_le (by omega)]
      walk_at "a"
      exact q
end
theorem use_text {K : PySem.W.Frag} {H : Hp} {Q : VK} {E : XK} {v : V} {c : Prs} (h : Dp K H v (prsD c)) (hb : ∀ p ∈ c, Bdk 61 p) (hl : c.length ≤ 10000) (q : Q (.str (textS c)) H) : sp_text K [v] H Q E := ⟨v, c, rfl, h, hb, hl, q⟩
section
variable {P : Program} {w : World} {K : PySem.W.Frag} {mg : Str → Option Value} {base : Heap}
theorem ok_law_is_whole (B : Blt mg) (D : Def K mg "_law_is_whole" s_law_is_whole ["_law_thing"]) :
    Fn P w K mg base 1 "_law_is_whole" ["_law_thing"] (sp_is_number K) := by
  refine D.ok sc_law_is_whole (fun vs H Q E h => ?_) (fun f cdv A outer s H vs Q E hr h => ?_)
  · obtain ⟨v, d, rfl, hd, q⟩ := h
    rfl
  · obtain ⟨v, d, rfl, hd, q⟩ := h
    refine ⟨_, (pss_one (ps_ret (pe_and (pe_callB (crK K call_isi) rfl B.isinstance (by decide +kernel) (pa_cons (pv 0) (pa_cons (pe_bltn (v := .ty "int") rfl B.int (by decide +kernel) rfl) pa_nil))) (pe_one (pe_not (pe_callB (crK K call_isi) rfl B.isinstance (by decide +kernel) (pa_cons (pv 0) (pa_cons (pe_bltn (v := .ty "bool") rfl B.bool (by decide +kernel) rfl) pa_nil)))))))), ?_⟩
    refine r_start (σ' := [some (v)]) rfl ?_
    rw [← numV_dp hd] at q
    walk_at "a"
    refine r_isi hd (by decide) ?_
    walk_at "a"
    cases h1 : isT "int" d with
    | false =>
      rw [h1] at q
      walk_at "a"
      exact q
    | true =>
      rw [h1] at q
      walk_at "a"
      refine r_isi hd (by decide) ?_
      walk_at "a"
      exact q
end
def sp_same (K : PySem.W.Frag) : Sp := fun vs H Q _ => ∃ (x y : V) (c : Prs), vs = [x, y] ∧ Dp K H x (prsD c) ∧ Dp K H y (prsD c) ∧ c.length ≤ 100000 ∧ ∀ H', Same H H' → Q (.bl true) H'
section
variable {P : Program} {w : World} {K : PySem.W.Frag} {mg : Str → Option Value} {base : Heap}
theorem ok_law_same (B : Blt mg) (D : Def K mg "_law_same" s_law_same ["_law_told", "_law_due"]) (G_law_is_whole : Fn P w K mg base 1 "_law_is_whole" ["_law_thing"] (sp_is_number K)) :
    Fn P w K mg base 2 "_law_same" ["_law_told", "_law_due"] (sp_same K) := by
  refine D.ok sc_law_same (fun vs H Q E h => ?_) (fun f cdv A outer s H vs Q E hr h => ?_)
  · obtain ⟨x, y, c, rfl, hx, hy, hc, q⟩ := h
    rfl
  · obtain ⟨x, y, c, rfl, hx, hy, hc, q⟩ := h
    refine ⟨_, (pss_cons (ps_if (PW.pt (pw_or (pt_not (pt_val (pe_callB (crK K call_isi) rfl B.isinstance (by decide +kernel) (pa_cons (pv 0) (pa_cons (pe_bltn (v := .ty "tuple") rfl B.tuple (by decide +kernel) rfl) pa_nil))))) (pw_or1 (pt_cmpR (opK K (o_ne hr.units)) (pv 0) (pv 1) (nomark _)))))
      (pss_one (ps_ret pe_bl))
      pss_nil)
      (pss_one (ps_ret (pe_callB (crK K (cr_all rfl)) rfl B.all (by decide +kernel) (pa_cons (pe_lc (own := [("_law_one", 2)]) (g := gName 2) (tt := tYes) rfl sc_law_same.nd (piK_tup K (pv 0)) (blkOk_by (N := ["_law_told", "_law_due", "_law_one"]) (sc := defScope s_law_same) (by decide +kernel)) (fun _ _ _ _ _ => (pg_name (i := 2) sc_law_same.nd rfl (Or.inl rfl))) (fun _ _ _ _ _ => pts_nil) (fun _ _ _ _ _ => (pe_and (pe_callB (crK K call_isi) rfl B.isinstance (by decide +kernel) (pa_cons (pv 2) (pa_cons (pe_bltn (v := .ty "tuple") rfl B.tuple (by decide +kernel) rfl) pa_nil))) (pe_and (pe_fn G_law_is_whole hr (pa_cons (pe_ix (ixK K ix_seq) (pv 2) pe_int (fun _ _ => rfl)) pa_nil)) (pe_one (pe_fn G_law_is_whole hr (pa_cons (pe_ix (ixK K ix_seq) (pv 2) pe_int (fun _ _ => rfl)) pa_nil))))))) pa_nil))))), ?_⟩
    refine r_start (σ' := [some (x), some (y), none]) rfl ?_
    obtain ⟨a, ws, rfl, ha, hw⟩ := dp_tup hx
    walk_at "a"
    refine r_ne_d hx hy (shaped_prs c) (shaped_prs c) ?_
    rw [eqv_same (shaped_prs c)]
    walk_at "a"
    refine lc_tupD ha hw (by omega) (fun _ => true) (fun _ => .bool true) (fun _ => rfl) (fun c x H2 S N hc s2 hx k1 k2 => ?_) (fun D H2 ys hD s2 e2 p2 => ?_)
    · obtain ⟨px, rfl, hpx⟩ := dp_pair hx
      refine r_gname ⟨wipe_one, ?_⟩
      walk_at "a"
      exact k1 rfl _ _ (Same.refl _) (.bl true)
    rw [Fp.filter_all] at p2
    walk_at "a"
    refine r_allT (SqL.of e2) (dpAll_trues p2) ?_
    exact q _ s2
end
theorem use_same {K : PySem.W.Frag} {H : Hp} {Q : VK} {E : XK} {x y : V} {c : Prs} (hx : Dp K H x (prsD c)) (hy : Dp K H y (prsD c)) (hc : c.length ≤ 100000) (q : ∀ H', Same H H' → Q (.bl true) H') : sp_same K [x, y] H Q E := ⟨x, y, c, rfl, hx, hy, hc, q⟩
/-- a curve that may be written -/
structure OkC (c : Prs) : Prop where
  up : c.Pairwise fun p q => p.1 < q.1
  bd : ∀ p ∈ c, Bdk 61 p
  len : c.length ≤ 10000
def longL (b s : Int) (n : Nat) : Prs := (List.range n).map fun (k : Nat) => (b + (k : Int) * s, (k : Int) * k % 97 - 40)
theorem ten61 : (10 : Nat) ^ 61 = 10000000000000000000000000000000000000000000000000000000000000 := by decide
theorem ok_long {b s : Int} {n : Nat} (hb : -1000000000000000000000000000000000000000000000000000000000000 ≤ b ∧ b ≤ 1000000000000000000000000000000000000000000000000000000000000) (hs : 1 ≤ s ∧ s ≤ 1000) (hn : n ≤ 1200) : OkC (longL b s n) := by
  refine ⟨?_, fun p hp => ?_, by simp [longL]; omega⟩
  · unfold longL
    rw [List.pairwise_map]
    refine List.Pairwise.imp (fun {x y} h => ?_) (List.pairwise_lt_range (n := n))
    show b + (x : Int) * s < b + (y : Int) * s
    have : (x : Int) * s < (y : Int) * s := Int.mul_lt_mul_of_pos_right (by omega) (by omega)
    omega
  · unfold longL at hp
    obtain ⟨k, hk, rfl⟩ := List.mem_map.mp hp
    rw [List.mem_range] at hk
    have h1 : 0 ≤ (k : Int) * s := Int.mul_nonneg (by omega) (by omega)
    have h2 : (k : Int) * s ≤ 1200 * 1000 := Int.mul_le_mul (by omega) (by omega) (by omega) (by omega)
    refine ⟨?_, ?_⟩
    · show (b + (k : Int) * s).natAbs < 10 ^ 61
      rw [ten61]
      omega
    · show ((k : Int) * k % 97 - 40).natAbs < 10 ^ 61
      rw [ten61]
      omega
def sp_long (K : PySem.W.Frag) : Sp := fun vs H Q _ => ∃ z : Int, vs = [.int z] ∧ ∀ c p H', Same H H' → OkC c → Dp K H' (.ref p) (prsD c) → Q (.ref p) H'
section
variable {P : Program} {w : World} {K : PySem.W.Frag} {mg : Str → Option Value} {base : Heap}
theorem ok_law_long (B : Blt mg) (D : Def K mg "_law_long" s_law_long ["_law_cell_here"]) (G_law_pot : Fn P w K mg base 1 "_law_pot" ["_law_cell_here"] (sp_pot K)) (G_law_number : Fn P w K mg base 2 "_law_number" ["_law_pot_here"] (sp_number K)) (G_law_take : Fn P w K mg base 1 "_law_take" ["_law_pot_here", "_law_many"] (sp_take K)) :
    Fn P w K mg base 3 "_law_long" ["_law_cell_here"] (sp_long K) := by
  refine D.ok sc_law_long (fun vs H Q E h => ?_) (fun f cdv A outer s H vs Q E hr h => ?_)
  · obtain ⟨z, rfl, q⟩ := h
    rfl
  · obtain ⟨z, rfl, q⟩ := h
    refine ⟨_, (pss_cons (ps_set (i := 1) sc_law_long.nd rfl (Or.inl rfl) (pe_fn G_law_pot hr (pa_cons (pv 0) pa_nil)))
      (pss_cons (ps_asg (pe_tup (pa_cons (pe_fn G_law_number hr (pa_cons (pv 1) pa_nil)) (pa_cons (pe_op op_add pe_int (pe_fn G_law_take hr (pa_cons (pv 1) (pa_cons pe_int pa_nil)))) pa_nil))) (pgK_tup K (n := 2) rfl (pgs_cons (pg_name (i := 2) sc_law_long.nd rfl (Or.inr rfl)) (pgs_cons (pg_name (i := 3) sc_law_long.nd rfl (Or.inr rfl)) pgs_nil))))
      (pss_cons (ps_set (i := 4) sc_law_long.nd rfl (Or.inl rfl) (pe_ix (ixK K ix_seq) (pe_lst (pa_cons pe_int (pa_cons (pe_op op_add pe_int (pe_fn G_law_take hr (pa_cons (pv 1) (pa_cons pe_int pa_nil)))) pa_nil))) (pe_callTy c_int1 rfl B.int (by decide +kernel) (pa_cons (pe_cmpR (opK K (o_eq hr.units)) (pe_fn G_law_take hr (pa_cons (pv 1) (pa_cons pe_int pa_nil))) pe_int (nomark _)) pa_nil)) (fun _ _ => rfl)))
      (pss_one (ps_ret (pe_callTy (crK K c_tuple) rfl B.tuple (by decide +kernel) (pa_cons (pe_lc (own := [("_law_k", 5)]) (g := gName 5) (tt := tYes) rfl sc_law_long.nd (pi_range1 rfl B.range (pa_cons (pv 4) pa_nil)) (blkOk_by (N := ["_law_cell_here", "_law_pot_here", "_law_begin", "_law_step", "_law_many", "_law_k"]) (sc := defScope s_law_long) (by decide +kernel)) (fun _ _ _ _ _ => (pg_name (i := 5) sc_law_long.nd rfl (Or.inl rfl))) (fun _ _ _ _ _ => pts_nil) (fun _ _ _ _ _ => (pe_tup (pa_cons (pe_op op_add (pv 2) (pe_op op_mulY (pv 5) (pv 3))) (pa_cons (pe_op op_sub (pe_op op_mod (pe_op op_mulY (pv 5) (pv 5)) pe_int) pe_int) pa_nil))))) pa_nil))))))), ?_⟩
    refine r_start (σ' := [some (.int z), none, none, none, none, none]) rfl ?_
    walk_at "a"
    rename_i p1 H1 n1 s1 hp1 b H2 k2 hp2 b0 b1 st H3 k3 hp3 st0 st1 p4 H4 n4 s4 e4 r5 H5 k5 hp5 r50 r51 p6 H6 n6 s6 e6 r7 H7 k7 hp7 r70 r71 m hm
    have m0 : 0 ≤ m ∧ m ≤ 1199 := by omega
    have s7 : Same H H7 := by
      have k37 : Keep (At p1) H1 H7 := by walk_at "kp"
      exact same_at s1 n1 k37
    refine lc_rngD (K := K) (by omega) (fun _ => true) (fun (k : Nat) => pairP (b + (k : Int) * (1 + st), (k : Int) * k % 97 - 40)) (fun c => imm_pair _) (fun k H8 S N hk s8 k1 k2 => ?_) (fun D H8 ys hD s8 e8 p8 => ?_)
    · refine r_gname ⟨wipe_one, ?_⟩
      rw [Int.zero_add (k : Int)]
      walk_at "a"
      exact k1 rfl _ _ (by assumption) (dp_of_pair (SqT.of (by assumption)))
    · walk_at "a"
      rename_i p9 H9 n9 s9 e9
      rw [Fp.filter_all, show ((List.range m.toNat).map fun (k : Nat) => pairP (b + (k : Int) * (1 + st), (k : Int) * k % 97 - 40)) = (longL b (1 + st) m.toNat).map pairP by unfold longL; rw [List.map_map]; rfl] at p8
      exact q _ p9 H9 ((s7.trans s8).trans s9) (ok_long ⟨b0, b1⟩ (by omega) (by omega)) (.tup (SqT.of e9) (DpAll.same s9 _ _ p8))
end
theorem use_long {K : PySem.W.Frag} {H : Hp} {Q : VK} {E : XK} {z : Int} (q : ∀ c p H', Same H H' → OkC c → Dp K H' (.ref p) (prsD c) → Q (.ref p) H') : sp_long K [.int z] H Q E := ⟨z, rfl, q⟩
theorem OkC.take {c : Prs} (h : OkC c) (k : Nat) : OkC (c.take k) := ⟨h.up.sublist (List.take_sublist _ _), fun p hp => h.bd p (List.mem_of_mem_take hp), Nat.le_trans (by simp; omega) h.len⟩
theorem OkC.drop {c : Prs} (h : OkC c) (k : Nat) : OkC (c.drop k) := ⟨h.up.sublist (List.drop_sublist _ _), fun p hp => h.bd p (List.mem_of_mem_drop hp), Nat.le_trans (by simp) h.len⟩
section
variable {P : Program} {w : World} {K : PySem.W.Frag} {mg : Str → Option Value} {base : Heap}
theorem ok_law {f : Addr} {fd : FuncData} (B : Blt mg) (F : Fun K "law" "law" s_law f fd) (G_law_curve : Fn P w K mg base 1 "_law_curve" ["_law_samples_here"] (sp_curve K)) (G_law_long : Fn P w K mg base 3 "_law_long" ["_law_cell_here"] (sp_long K)) (G_law_same : Fn P w K mg base 2 "_law_same" ["_law_told", "_law_due"] (sp_same K)) (G_law_samples : Fn P w K mg base 3 "_law_samples" ["_law_script"] (sp_samples K)) (G_curve_text : Fn P w K mg base 1 "curve_text" ["curve"] (sp_curve_text K)) (G_read_curve : Fn P w K mg base 4 "read_curve" ["text"] (sp_read_curve K)) (G_law_cell : Fn P w K mg base 1 "_law_cell" ["_law_script", "_law_k"] (sp_nth K)) (G_law_text : Fn P w K mg base 2 "_law_text" ["_law_curve_here"] (sp_text K)) :
    FnOk P w K mg base (L2.CX P w) 5 f fd ["_law_script"] (sp_law K) := by
  refine fn_up (F.ok sc_law (fun vs H Q E h => ?_) (fun cdv A outer s H vs Q E hr h => ?_))
  · obtain ⟨a, ns, rfl, hS, hl, q⟩ := h
    rfl
  · obtain ⟨a, ns, rfl, hS, hl, q⟩ := h
    refine ⟨_, (pss_cons (ps_set (i := 1) sc_law.nd rfl (Or.inl rfl) (pe_fn G_law_curve hr (pa_cons (pe_fn G_law_samples hr (pa_cons (pv 0) pa_nil)) pa_nil)))
      (pss_cons (ps_set (i := 2) sc_law.nd rfl (Or.inl rfl) (pe_fn G_law_long hr (pa_cons (pe_op op_add (pe_fn G_law_cell hr (pa_cons (pv 0) (pa_cons pe_int pa_nil))) (pe_callB (crK K c_len) rfl B.len (by decide +kernel) (pa_cons (pv 0) pa_nil))) pa_nil)))
      (pss_cons (ps_for PassesOwn.never rfl (piK_list K (pe_lst (pa_cons (pv 1) (pa_cons (pe_slice (slK K sl_tupA) (pv 1) po_none (po_some pe_int)) (pa_cons (pe_slice (slK K sl_tupA) (pv 1) (po_some (pe_op op_fdivW (pe_callB (crK K c_len) rfl B.len (by decide +kernel) (pa_cons (pv 1) pa_nil)) pe_int)) po_none) (pa_cons (pe_tup pa_nil) (pa_cons (pv 2) pa_nil))))))) (pg_name (i := 3) sc_law.nd rfl (Or.inl rfl))
      (pss_cons (ps_set (i := 4) sc_law.nd rfl (Or.inl rfl) (pe_fn G_curve_text hr (pa_cons (pv 3) pa_nil)))
      (pss_cons (ps_if (PW.pt (pw_or (pt_not (pt_val (pe_callB (crK K call_isi) rfl B.isinstance (by decide +kernel) (pa_cons (pv 4) (pa_cons (pe_bltn (v := .ty "str") rfl B.str (by decide +kernel) rfl) pa_nil))))) (pw_or1 (pt_cmpR (opK K (o_ne hr.units)) (pv 4) (pe_fn G_law_text hr (pa_cons (pv 3) pa_nil)) (nomark _)))))
      (pss_one (ps_ret pe_bl))
      pss_nil)
      (pss_one (ps_if (PW.pt (pw_or (pt_not (pt_val (pe_fn G_law_same hr (pa_cons (pe_fn G_read_curve hr (pa_cons (pv 4) pa_nil)) (pa_cons (pv 3) pa_nil))))) (pw_or1 (pt_cmpR (opK K (o_ne hr.units)) (pe_fn G_curve_text hr (pa_cons (pv 3) pa_nil)) (pv 4) (nomark _)))))
      (pss_one (ps_ret pe_bl))
      pss_nil)))))
      (pss_one (ps_ret (pe_fn G_law_same hr (pa_cons (pe_fn G_read_curve hr (pa_cons (pe_fn G_curve_text hr (pa_cons (pv 1) pa_nil)) pa_nil)) (pa_cons (pv 1) pa_nil)))))))), ?_⟩
    refine r_start (σ' := [some (.ref a), none, none, none, none]) rfl ?_
    have hS0 := hS.1
    walk_at "a"
    refine use_samples hS hl fun f l ws H1 n1 s1 e1 d1 l1 b1 => ?_
    walk_at "a"
    refine use_curve (SqL.of e1) d1 (by omega) fun c p2 H2 s2 hc d2 => ?_
    have okc : OkC c := ⟨hc.up, fun p hp => bdk_of (b1 p ((hc.mem p).mp hp).mem), by have := hc.len; omega⟩
    walk_at "a"
    refine use_long fun cf p3 H3 s3 okf d3 => ?_
    have d2' := Dp.same s3 _ _ d2
    obtain ⟨pp, ws2, epp, h2, hw2⟩ := dp_tup d2'
    cases epp
    have hwl : ws2.length = c.length := by rw [dpAll_len hw2, List.length_map]
    walk_at "a"
    rename_i p4 H4 s4 e4 p5 H5 s5 e5 p6 H6 n6 s6 e6 p7 H7 n7 s7 e7
    rw [show (1 : Int) = ((1 : Nat) : Int) from rfl, cutV_to] at e4
    rw [show ((ws2.length : Int) / 2) = ((ws2.length / 2 : Nat) : Int) by omega, cutV_from] at e5
    have all : ∀ x ∈ [V.ref p2, V.ref p4, V.ref p5, V.ref p6, V.ref p3], ∃ c', OkC c' ∧ Dp K H7 x (prsD c') := by
      intro x hx
      simp only [List.mem_cons, List.not_mem_nil, or_false] at hx
      have s57 := (s5.trans s6).trans s7
      rcases hx with rfl | rfl | rfl | rfl | rfl
      · exact ⟨c, okc, Dp.same (s4.trans s57) _ _ d2'⟩
      · refine ⟨c.take 1, okc.take 1, Dp.same s57 _ _ (.tup e4 ?_)⟩
        have := dpAll_take 1 (DpAll.same s4 _ _ hw2)
        rw [← List.map_take] at this
        exact this
      · refine ⟨c.drop (ws2.length / 2), okc.drop _, Dp.same (s6.trans s7) _ _ (.tup e5 ?_)⟩
        have := dpAll_drop (ws2.length / 2) (DpAll.same (s4.trans s5) _ _ hw2)
        rw [← List.map_drop] at this
        exact this
      · exact ⟨[], ⟨List.Pairwise.nil, by simp, by simp⟩, Dp.same s7 _ _ (.tup (SqT.of e6) .nil)⟩
      · exact ⟨cf, okf, Dp.same (s4.trans s57) _ _ d3⟩
    refine for_wk wk_list (fun i σ H' => (∃ v1 v2 : Option V, σ = [some (.ref a), some (.ref p2), some (.ref p3), v1, v2]) ∧ Same H7 H') ⟨⟨_, _, rfl⟩, Same.refl _⟩ (fun i σ H' _ p => p.2.seq (SqL.of e7)) ?_ ?_
    · rintro i x σ H8 H8' hi ⟨⟨v1, v2, rfl⟩, s8⟩ ⟨rfl, hx⟩
      obtain ⟨c', okc', d7⟩ := all x (List.mem_of_getElem? hx)
      have d8 := Dp.same s8 _ _ d7
      walk_at "a"
      refine use_curve_text d8 okc'.bd okc'.len fun H9 s9 => ?_
      have d9 := Dp.same s9 _ _ d8
      walk_at "a"
      refine use_text d9 okc'.bd okc'.len ?_
      refine r_ne_s ?_
      rw [decide_eq_true rfl]
      walk_at "a"
      refine use_read_curve okc'.bd okc'.up okc'.len fun p10 H10 s10 d10 => ?_
      walk_at "a"
      refine use_same d10 (Dp.same s10 _ _ d9) (by have := okc'.len; omega) fun H11 s11 => ?_
      walk_at "a"
      refine use_curve_text (Dp.same (s10.trans s11) _ _ d9) okc'.bd okc'.len fun H12 s12 => ?_
      walk_at "a"
      refine r_ne_s ?_
      rw [decide_eq_true rfl]
      walk_at "a"
      exact ⟨⟨_, _, rfl⟩, (((s8.trans s9).trans s10).trans s11).trans s12⟩
    · rintro σ H8 ⟨⟨v1, v2, rfl⟩, s8⟩
      obtain ⟨c', okc', d7⟩ := all (.ref p2) (by simp)
      have d8 := Dp.same s8 _ _ d7
      walk_at "a"
      refine use_curve_text d8 okc'.bd okc'.len fun H9 s9 => ?_
      have d9 := Dp.same s9 _ _ d8
      walk_at "a"
      refine use_read_curve okc'.bd okc'.up okc'.len fun p10 H10 s10 d10 => ?_
      walk_at "a"
      exact use_same d10 (Dp.same s10 _ _ d9) (by have := okc'.len; omega) fun H11 s11 => q _
end
theorem all_mk {l : PySem.W.OpenLaw} {w : World} {K : PySem.W.Frag} {h : Heap} {mg : Str → Option Value} {fa : Addr} (X : K.In h) (G : h.Ns mainGlobals mg) (hfa : mg "law" = some (.ref fa))
    {od_is_whole an_is_whole : Option Addr} {sl_is_whole : Array (Option Value)} {f_is_whole : Addr} {oc_is_whole kV_is_whole dc_is_whole pm_is_whole cd_is_whole ct_is_whole : Value}
    (a_is_whole : PySem.W.nsIn K mainGlobals "is_whole" = some (some (.ref f_is_whole)))
    (l_is_whole : K.lookup f_is_whole = some ⟨oc_is_whole, od_is_whole, .func (PySem.W.fnOf "is_whole" "is_whole" (defArgs s_is_whole) (defBody s_is_whole) (defScope s_is_whole) .none kV_is_whole dc_is_whole pm_is_whole an_is_whole cd_is_whole ct_is_whole), sl_is_whole⟩)
    (c_is_whole : PySem.W.codeIn K cd_is_whole "is_whole" = true) (k_is_whole : PySem.W.keepIn K (.ref f_is_whole) = true)
    {od_is_sample an_is_sample : Option Addr} {sl_is_sample : Array (Option Value)} {f_is_sample : Addr} {oc_is_sample kV_is_sample dc_is_sample pm_is_sample cd_is_sample ct_is_sample : Value}
    (a_is_sample : PySem.W.nsIn K mainGlobals "is_sample" = some (some (.ref f_is_sample)))
    (l_is_sample : K.lookup f_is_sample = some ⟨oc_is_sample, od_is_sample, .func (PySem.W.fnOf "is_sample" "is_sample" (defArgs s_is_sample) (defBody s_is_sample) (defScope s_is_sample) .none kV_is_sample dc_is_sample pm_is_sample an_is_sample cd_is_sample ct_is_sample), sl_is_sample⟩)
    (c_is_sample : PySem.W.codeIn K cd_is_sample "is_sample" = true) (k_is_sample : PySem.W.keepIn K (.ref f_is_sample) = true)
    {od_is_curve an_is_curve : Option Addr} {sl_is_curve : Array (Option Value)} {f_is_curve : Addr} {oc_is_curve kV_is_curve dc_is_curve pm_is_curve cd_is_curve ct_is_curve : Value}
    (a_is_curve : PySem.W.nsIn K mainGlobals "is_curve" = some (some (.ref f_is_curve)))
    (l_is_curve : K.lookup f_is_curve = some ⟨oc_is_curve, od_is_curve, .func (PySem.W.fnOf "is_curve" "is_curve" (defArgs s_is_curve) (defBody s_is_curve) (defScope s_is_curve) .none kV_is_curve dc_is_curve pm_is_curve an_is_curve cd_is_curve ct_is_curve), sl_is_curve⟩)
    (c_is_curve : PySem.W.codeIn K cd_is_curve "is_curve" = true) (k_is_curve : PySem.W.keepIn K (.ref f_is_curve) = true)
    {od_curve_text an_curve_text : Option Addr} {sl_curve_text : Array (Option Value)} {f_curve_text : Addr} {oc_curve_text kV_curve_text dc_curve_text pm_curve_text cd_curve_text ct_curve_text : Value}
    (a_curve_text : PySem.W.nsIn K mainGlobals "curve_text" = some (some (.ref f_curve_text)))
    (l_curve_text : K.lookup f_curve_text = some ⟨oc_curve_text, od_curve_text, .func (PySem.W.fnOf "curve_text" "curve_text" (defArgs s_curve_text) (defBody s_curve_text) (defScope s_curve_text) .none kV_curve_text dc_curve_text pm_curve_text an_curve_text cd_curve_text ct_curve_text), sl_curve_text⟩)
    (c_curve_text : PySem.W.codeIn K cd_curve_text "curve_text" = true) (k_curve_text : PySem.W.keepIn K (.ref f_curve_text) = true)
    {od_is_figures an_is_figures : Option Addr} {sl_is_figures : Array (Option Value)} {f_is_figures : Addr} {oc_is_figures kV_is_figures dc_is_figures pm_is_figures cd_is_figures ct_is_figures : Value}
    (a_is_figures : PySem.W.nsIn K mainGlobals "is_figures" = some (some (.ref f_is_figures)))
    (l_is_figures : K.lookup f_is_figures = some ⟨oc_is_figures, od_is_figures, .func (PySem.W.fnOf "is_figures" "is_figures" (defArgs s_is_figures) (defBody s_is_figures) (defScope s_is_figures) .none kV_is_figures dc_is_figures pm_is_figures an_is_figures cd_is_figures ct_is_figures), sl_is_figures⟩)
    (c_is_figures : PySem.W.codeIn K cd_is_figures "is_figures" = true) (k_is_figures : PySem.W.keepIn K (.ref f_is_figures) = true)
    {od_read_number an_read_number : Option Addr} {sl_read_number : Array (Option Value)} {f_read_number : Addr} {oc_read_number kV_read_number dc_read_number pm_read_number cd_read_number ct_read_number : Value}
    (a_read_number : PySem.W.nsIn K mainGlobals "read_number" = some (some (.ref f_read_number)))
    (l_read_number : K.lookup f_read_number = some ⟨oc_read_number, od_read_number, .func (PySem.W.fnOf "read_number" "read_number" (defArgs s_read_number) (defBody s_read_number) (defScope s_read_number) .none kV_read_number dc_read_number pm_read_number an_read_number cd_read_number ct_read_number), sl_read_number⟩)
    (c_read_number : PySem.W.codeIn K cd_read_number "read_number" = true) (k_read_number : PySem.W.keepIn K (.ref f_read_number) = true)
    {od_read_sample an_read_sample : Option Addr} {sl_read_sample : Array (Option Value)} {f_read_sample : Addr} {oc_read_sample kV_read_sample dc_read_sample pm_read_sample cd_read_sample ct_read_sample : Value}
    (a_read_sample : PySem.W.nsIn K mainGlobals "read_sample" = some (some (.ref f_read_sample)))
    (l_read_sample : K.lookup f_read_sample = some ⟨oc_read_sample, od_read_sample, .func (PySem.W.fnOf "read_sample" "read_sample" (defArgs s_read_sample) (defBody s_read_sample) (defScope s_read_sample) .none kV_read_sample dc_read_sample pm_read_sample an_read_sample cd_read_sample ct_read_sample), sl_read_sample⟩)
    (c_read_sample : PySem.W.codeIn K cd_read_sample "read_sample" = true) (k_read_sample : PySem.W.keepIn K (.ref f_read_sample) = true)
    {od_read_curve an_read_curve : Option Addr} {sl_read_curve : Array (Option Value)} {f_read_curve : Addr} {oc_read_curve kV_read_curve dc_read_curve pm_read_curve cd_read_curve ct_read_curve : Value}
    (a_read_curve : PySem.W.nsIn K mainGlobals "read_curve" = some (some (.ref f_read_curve)))
    (l_read_curve : K.lookup f_read_curve = some ⟨oc_read_curve, od_read_curve, .func (PySem.W.fnOf "read_curve" "read_curve" (defArgs s_read_curve) (defBody s_read_curve) (defScope s_read_curve) .none kV_read_curve dc_read_curve pm_read_curve an_read_curve cd_read_curve ct_read_curve), sl_read_curve⟩)
    (c_read_curve : PySem.W.codeIn K cd_read_curve "read_curve" = true) (k_read_curve : PySem.W.keepIn K (.ref f_read_curve) = true)
    {od_law_cell an_law_cell : Option Addr} {sl_law_cell : Array (Option Value)} {f_law_cell : Addr} {oc_law_cell kV_law_cell dc_law_cell pm_law_cell cd_law_cell ct_law_cell : Value}
    (a_law_cell : PySem.W.nsIn K mainGlobals "_law_cell" = some (some (.ref f_law_cell)))
    (l_law_cell : K.lookup f_law_cell = some ⟨oc_law_cell, od_law_cell, .func (PySem.W.fnOf "_law_cell" "_law_cell" (defArgs s_law_cell) (defBody s_law_cell) (defScope s_law_cell) .none kV_law_cell dc_law_cell pm_law_cell an_law_cell cd_law_cell ct_law_cell), sl_law_cell⟩)
    (c_law_cell : PySem.W.codeIn K cd_law_cell "_law_cell" = true) (k_law_cell : PySem.W.keepIn K (.ref f_law_cell) = true)
    {od_law_pot an_law_pot : Option Addr} {sl_law_pot : Array (Option Value)} {f_law_pot : Addr} {oc_law_pot kV_law_pot dc_law_pot pm_law_pot cd_law_pot ct_law_pot : Value}
    (a_law_pot : PySem.W.nsIn K mainGlobals "_law_pot" = some (some (.ref f_law_pot)))
    (l_law_pot : K.lookup f_law_pot = some ⟨oc_law_pot, od_law_pot, .func (PySem.W.fnOf "_law_pot" "_law_pot" (defArgs s_law_pot) (defBody s_law_pot) (defScope s_law_pot) .none kV_law_pot dc_law_pot pm_law_pot an_law_pot cd_law_pot ct_law_pot), sl_law_pot⟩)
    (c_law_pot : PySem.W.codeIn K cd_law_pot "_law_pot" = true) (k_law_pot : PySem.W.keepIn K (.ref f_law_pot) = true)
    {od_law_take an_law_take : Option Addr} {sl_law_take : Array (Option Value)} {f_law_take : Addr} {oc_law_take kV_law_take dc_law_take pm_law_take cd_law_take ct_law_take : Value}
    (a_law_take : PySem.W.nsIn K mainGlobals "_law_take" = some (some (.ref f_law_take)))
    (l_law_take : K.lookup f_law_take = some ⟨oc_law_take, od_law_take, .func (PySem.W.fnOf "_law_take" "_law_take" (defArgs s_law_take) (defBody s_law_take) (defScope s_law_take) .none kV_law_take dc_law_take pm_law_take an_law_take cd_law_take ct_law_take), sl_law_take⟩)
    (c_law_take : PySem.W.codeIn K cd_law_take "_law_take" = true) (k_law_take : PySem.W.keepIn K (.ref f_law_take) = true)
    {od_law_number an_law_number : Option Addr} {sl_law_number : Array (Option Value)} {f_law_number : Addr} {oc_law_number kV_law_number dc_law_number pm_law_number cd_law_number ct_law_number : Value}
    (a_law_number : PySem.W.nsIn K mainGlobals "_law_number" = some (some (.ref f_law_number)))
    (l_law_number : K.lookup f_law_number = some ⟨oc_law_number, od_law_number, .func (PySem.W.fnOf "_law_number" "_law_number" (defArgs s_law_number) (defBody s_law_number) (defScope s_law_number) .none kV_law_number dc_law_number pm_law_number an_law_number cd_law_number ct_law_number), sl_law_number⟩)
    (c_law_number : PySem.W.codeIn K cd_law_number "_law_number" = true) (k_law_number : PySem.W.keepIn K (.ref f_law_number) = true)
    {od_law_samples an_law_samples : Option Addr} {sl_law_samples : Array (Option Value)} {f_law_samples : Addr} {oc_law_samples kV_law_samples dc_law_samples pm_law_samples cd_law_samples ct_law_samples : Value}
    (a_law_samples : PySem.W.nsIn K mainGlobals "_law_samples" = some (some (.ref f_law_samples)))
    (l_law_samples : K.lookup f_law_samples = some ⟨oc_law_samples, od_law_samples, .func (PySem.W.fnOf "_law_samples" "_law_samples" (defArgs s_law_samples) (defBody s_law_samples) (defScope s_law_samples) .none kV_law_samples dc_law_samples pm_law_samples an_law_samples cd_law_samples ct_law_samples), sl_law_samples⟩)
    (c_law_samples : PySem.W.codeIn K cd_law_samples "_law_samples" = true) (k_law_samples : PySem.W.keepIn K (.ref f_law_samples) = true)
    {od_law_curve an_law_curve : Option Addr} {sl_law_curve : Array (Option Value)} {f_law_curve : Addr} {oc_law_curve kV_law_curve dc_law_curve pm_law_curve cd_law_curve ct_law_curve : Value}
    (a_law_curve : PySem.W.nsIn K mainGlobals "_law_curve" = some (some (.ref f_law_curve)))
    (l_law_curve : K.lookup f_law_curve = some ⟨oc_law_curve, od_law_curve, .func (PySem.W.fnOf "_law_curve" "_law_curve" (defArgs s_law_curve) (defBody s_law_curve) (defScope s_law_curve) .none kV_law_curve dc_law_curve pm_law_curve an_law_curve cd_law_curve ct_law_curve), sl_law_curve⟩)
    (c_law_curve : PySem.W.codeIn K cd_law_curve "_law_curve" = true) (k_law_curve : PySem.W.keepIn K (.ref f_law_curve) = true)
    {od_law_written an_law_written : Option Addr} {sl_law_written : Array (Option Value)} {f_law_written : Addr} {oc_law_written kV_law_written dc_law_written pm_law_written cd_law_written ct_law_written : Value}
    (a_law_written : PySem.W.nsIn K mainGlobals "_law_written" = some (some (.ref f_law_written)))
    (l_law_written : K.lookup f_law_written = some ⟨oc_law_written, od_law_written, .func (PySem.W.fnOf "_law_written" "_law_written" (defArgs s_law_written) (defBody s_law_written) (defScope s_law_written) .none kV_law_written dc_law_written pm_law_written an_law_written cd_law_written ct_law_written), sl_law_written⟩)
    (c_law_written : PySem.W.codeIn K cd_law_written "_law_written" = true) (k_law_written : PySem.W.keepIn K (.ref f_law_written) = true)
    {od_law_text an_law_text : Option Addr} {sl_law_text : Array (Option Value)} {f_law_text : Addr} {oc_law_text kV_law_text dc_law_text pm_law_text cd_law_text ct_law_text : Value}
    (a_law_text : PySem.W.nsIn K mainGlobals "_law_text" = some (some (.ref f_law_text)))
    (l_law_text : K.lookup f_law_text = some ⟨oc_law_text, od_law_text, .func (PySem.W.fnOf "_law_text" "_law_text" (defArgs s_law_text) (defBody s_law_text) (defScope s_law_text) .none kV_law_text dc_law_text pm_law_text an_law_text cd_law_text ct_law_text), sl_law_text⟩)
    (c_law_text : PySem.W.codeIn K cd_law_text "_law_text" = true) (k_law_text : PySem.W.keepIn K (.ref f_law_text) = true)
    {od_law_is_whole an_law_is_whole : Option Addr} {sl_law_is_whole : Array (Option Value)} {f_law_is_whole : Addr} {oc_law_is_whole kV_law_is_whole dc_law_is_whole pm_law_is_whole cd_law_is_whole ct_law_is_whole : Value}
    (a_law_is_whole : PySem.W.nsIn K mainGlobals "_law_is_whole" = some (some (.ref f_law_is_whole)))
    (l_law_is_whole : K.lookup f_law_is_whole = some ⟨oc_law_is_whole, od_law_is_whole, .func (PySem.W.fnOf "_law_is_whole" "_law_is_whole" (defArgs s_law_is_whole) (defBody s_law_is_whole) (defScope s_law_is_whole) .none kV_law_is_whole dc_law_is_whole pm_law_is_whole an_law_is_whole cd_law_is_whole ct_law_is_whole), sl_law_is_whole⟩)
    (c_law_is_whole : PySem.W.codeIn K cd_law_is_whole "_law_is_whole" = true) (k_law_is_whole : PySem.W.keepIn K (.ref f_law_is_whole) = true)
    {od_law_same an_law_same : Option Addr} {sl_law_same : Array (Option Value)} {f_law_same : Addr} {oc_law_same kV_law_same dc_law_same pm_law_same cd_law_same ct_law_same : Value}
    (a_law_same : PySem.W.nsIn K mainGlobals "_law_same" = some (some (.ref f_law_same)))
    (l_law_same : K.lookup f_law_same = some ⟨oc_law_same, od_law_same, .func (PySem.W.fnOf "_law_same" "_law_same" (defArgs s_law_same) (defBody s_law_same) (defScope s_law_same) .none kV_law_same dc_law_same pm_law_same an_law_same cd_law_same ct_law_same), sl_law_same⟩)
    (c_law_same : PySem.W.codeIn K cd_law_same "_law_same" = true) (k_law_same : PySem.W.keepIn K (.ref f_law_same) = true)
    {od_law_long an_law_long : Option Addr} {sl_law_long : Array (Option Value)} {f_law_long : Addr} {oc_law_long kV_law_long dc_law_long pm_law_long cd_law_long ct_law_long : Value}
    (a_law_long : PySem.W.nsIn K mainGlobals "_law_long" = some (some (.ref f_law_long)))
    (l_law_long : K.lookup f_law_long = some ⟨oc_law_long, od_law_long, .func (PySem.W.fnOf "_law_long" "_law_long" (defArgs s_law_long) (defBody s_law_long) (defScope s_law_long) .none kV_law_long dc_law_long pm_law_long an_law_long cd_law_long ct_law_long), sl_law_long⟩)
    (c_law_long : PySem.W.codeIn K cd_law_long "_law_long" = true) (k_law_long : PySem.W.keepIn K (.ref f_law_long) = true)
    {od_law an_law : Option Addr} {sl_law : Array (Option Value)} {f_law : Addr} {oc_law kV_law dc_law pm_law cd_law ct_law : Value}
    (a_law : PySem.W.nsIn K mainGlobals "law" = some (some (.ref f_law)))
    (l_law : K.lookup f_law = some ⟨oc_law, od_law, .func (PySem.W.fnOf "law" "law" (defArgs s_law) (defBody s_law) (defScope s_law) .none kV_law dc_law pm_law an_law cd_law ct_law), sl_law⟩)
    (c_law : PySem.W.codeIn K cd_law "law" = true) (k_law : PySem.W.keepIn K (.ref f_law) = true)
    (z_isinstance : PySem.W.nsIn K mainGlobals "isinstance" = some none)
    (z_len : PySem.W.nsIn K mainGlobals "len" = some none)
    (z_range : PySem.W.nsIn K mainGlobals "range" = some none)
    (z_int : PySem.W.nsIn K mainGlobals "int" = some none)
    (z_bool : PySem.W.nsIn K mainGlobals "bool" = some none)
    (z_str : PySem.W.nsIn K mainGlobals "str" = some none)
    (z_tuple : PySem.W.nsIn K mainGlobals "tuple" = some none)
    (z_list : PySem.W.nsIn K mainGlobals "list" = some none)
    (z_set : PySem.W.nsIn K mainGlobals "set" = some none)
    (z_dict : PySem.W.nsIn K mainGlobals "dict" = some none)
    (z_abs : PySem.W.nsIn K mainGlobals "abs" = some none)
    (z_all : PySem.W.nsIn K mainGlobals "all" = some none)
    (z_any : PySem.W.nsIn K mainGlobals "any" = some none)
    (z_max : PySem.W.nsIn K mainGlobals "max" = some none)
    (z_min : PySem.W.nsIn K mainGlobals "min" = some none)
    (z_sum : PySem.W.nsIn K mainGlobals "sum" = some none)
    (z_sorted : PySem.W.nsIn K mainGlobals "sorted" = some none)
    (z_zip : PySem.W.nsIn K mainGlobals "zip" = some none)
    (z_divmod : PySem.W.nsIn K mainGlobals "divmod" = some none)
    (z_repr : PySem.W.nsIn K mainGlobals "repr" = some none)
    (z_reversed : PySem.W.nsIn K mainGlobals "reversed" = some none)
    (z_ValueError : PySem.W.nsIn K mainGlobals "ValueError" = some none)
    {tk_FIGURES : Tok} (v_FIGURES : PySem.W.nsIn K mainGlobals "FIGURES" = some (some (.str "0123456789" tk_FIGURES)))
    {E_FourPointsError : Addr} (xg_FourPointsError : PySem.W.nsIn K mainGlobals "FourPointsError" = some (some (.ref E_FourPointsError))) (xe_FourPointsError : PySem.W.excIn K E_FourPointsError bmV "ValueError.__new__" = true) (xk_FourPointsError : PySem.W.keepIn K (.ref E_FourPointsError) = true) (xb_FourPointsError : PySem.W.subIn K (.ref E_FourPointsError) (.type "BaseException") = some true) (xt_FourPointsError : PySem.W.typeIn K (.ref E_FourPointsError) = some (.type "type"))
    {E_NoText : Addr} (xg_NoText : PySem.W.nsIn K mainGlobals "NoText" = some (some (.ref E_NoText))) (xe_NoText : PySem.W.excIn K E_NoText bmV "ValueError.__new__" = true) (xk_NoText : PySem.W.keepIn K (.ref E_NoText) = true) (xb_NoText : PySem.W.subIn K (.ref E_NoText) (.type "BaseException") = some true) (xt_NoText : PySem.W.typeIn K (.ref E_NoText) = some (.type "type"))
    : ∃ fd : FuncData, (∀ (s : Shared) (v : Value), BindsTo s fd ⟨[v], []⟩ [("_law_script", v)]) ∧ ∀ base : Heap, K.In base → base.Ns mainGlobals mg → FnOk l.prog w K mg base (L2.CX l.prog w) 5 fa fd ["_law_script"] (sp_law K) := by
  have e := hfa.symm.trans (PySem.W.mg_of X G a_law)
  cases e
  have B : Blt mg := ⟨PySem.W.mg_none_of X G z_isinstance, PySem.W.mg_none_of X G z_len, PySem.W.mg_none_of X G z_range, PySem.W.mg_none_of X G z_int, PySem.W.mg_none_of X G z_bool, PySem.W.mg_none_of X G z_str, PySem.W.mg_none_of X G z_tuple, PySem.W.mg_none_of X G z_list, PySem.W.mg_none_of X G z_set, PySem.W.mg_none_of X G z_dict, PySem.W.mg_none_of X G z_abs, PySem.W.mg_none_of X G z_all, PySem.W.mg_none_of X G z_any, PySem.W.mg_none_of X G z_max, PySem.W.mg_none_of X G z_min, PySem.W.mg_none_of X G z_sum, PySem.W.mg_none_of X G z_sorted, PySem.W.mg_none_of X G z_zip, PySem.W.mg_none_of X G z_divmod, PySem.W.mg_none_of X G z_repr, PySem.W.mg_none_of X G z_reversed, PySem.W.mg_none_of X G z_ValueError⟩
  have F_is_whole := fun_mk (st := s_is_whole) l_is_whole c_is_whole k_is_whole
  have D_is_whole : Def K mg "is_whole" s_is_whole ["thing"] := def_mk F_is_whole (PySem.W.mg_of X G a_is_whole) (F_is_whole.binds (ps := ["thing"]) fun _ _ _ _ _ _ us hl => match us, hl with | [_], _ => rfl)
  have F_is_sample := fun_mk (st := s_is_sample) l_is_sample c_is_sample k_is_sample
  have D_is_sample : Def K mg "is_sample" s_is_sample ["thing"] := def_mk F_is_sample (PySem.W.mg_of X G a_is_sample) (F_is_sample.binds (ps := ["thing"]) fun _ _ _ _ _ _ us hl => match us, hl with | [_], _ => rfl)
  have F_is_curve := fun_mk (st := s_is_curve) l_is_curve c_is_curve k_is_curve
  have D_is_curve : Def K mg "is_curve" s_is_curve ["thing"] := def_mk F_is_curve (PySem.W.mg_of X G a_is_curve) (F_is_curve.binds (ps := ["thing"]) fun _ _ _ _ _ _ us hl => match us, hl with | [_], _ => rfl)
  have F_curve_text := fun_mk (st := s_curve_text) l_curve_text c_curve_text k_curve_text
  have D_curve_text : Def K mg "curve_text" s_curve_text ["curve"] := def_mk F_curve_text (PySem.W.mg_of X G a_curve_text) (F_curve_text.binds (ps := ["curve"]) fun _ _ _ _ _ _ us hl => match us, hl with | [_], _ => rfl)
  have F_is_figures := fun_mk (st := s_is_figures) l_is_figures c_is_figures k_is_figures
  have D_is_figures : Def K mg "is_figures" s_is_figures ["text"] := def_mk F_is_figures (PySem.W.mg_of X G a_is_figures) (F_is_figures.binds (ps := ["text"]) fun _ _ _ _ _ _ us hl => match us, hl with | [_], _ => rfl)
  have F_read_number := fun_mk (st := s_read_number) l_read_number c_read_number k_read_number
  have D_read_number : Def K mg "read_number" s_read_number ["word"] := def_mk F_read_number (PySem.W.mg_of X G a_read_number) (F_read_number.binds (ps := ["word"]) fun _ _ _ _ _ _ us hl => match us, hl with | [_], _ => rfl)
  have F_read_sample := fun_mk (st := s_read_sample) l_read_sample c_read_sample k_read_sample
  have D_read_sample : Def K mg "read_sample" s_read_sample ["line"] := def_mk F_read_sample (PySem.W.mg_of X G a_read_sample) (F_read_sample.binds (ps := ["line"]) fun _ _ _ _ _ _ us hl => match us, hl with | [_], _ => rfl)
  have F_read_curve := fun_mk (st := s_read_curve) l_read_curve c_read_curve k_read_curve
  have D_read_curve : Def K mg "read_curve" s_read_curve ["text"] := def_mk F_read_curve (PySem.W.mg_of X G a_read_curve) (F_read_curve.binds (ps := ["text"]) fun _ _ _ _ _ _ us hl => match us, hl with | [_], _ => rfl)
  have F_law_cell := fun_mk (st := s_law_cell) l_law_cell c_law_cell k_law_cell
  have D_law_cell : Def K mg "_law_cell" s_law_cell ["_law_script", "_law_k"] := def_mk F_law_cell (PySem.W.mg_of X G a_law_cell) (F_law_cell.binds (ps := ["_law_script", "_law_k"]) fun _ _ _ _ _ _ us hl => match us, hl with | [_, _], _ => rfl)
  have F_law_pot := fun_mk (st := s_law_pot) l_law_pot c_law_pot k_law_pot
  have D_law_pot : Def K mg "_law_pot" s_law_pot ["_law_cell_here"] := def_mk F_law_pot (PySem.W.mg_of X G a_law_pot) (F_law_pot.binds (ps := ["_law_cell_here"]) fun _ _ _ _ _ _ us hl => match us, hl with | [_], _ => rfl)
  have F_law_take := fun_mk (st := s_law_take) l_law_take c_law_take k_law_take
  have D_law_take : Def K mg "_law_take" s_law_take ["_law_pot_here", "_law_many"] := def_mk F_law_take (PySem.W.mg_of X G a_law_take) (F_law_take.binds (ps := ["_law_pot_here", "_law_many"]) fun _ _ _ _ _ _ us hl => match us, hl with | [_, _], _ => rfl)
  have F_law_number := fun_mk (st := s_law_number) l_law_number c_law_number k_law_number
  have D_law_number : Def K mg "_law_number" s_law_number ["_law_pot_here"] := def_mk F_law_number (PySem.W.mg_of X G a_law_number) (F_law_number.binds (ps := ["_law_pot_here"]) fun _ _ _ _ _ _ us hl => match us, hl with | [_], _ => rfl)
  have F_law_samples := fun_mk (st := s_law_samples) l_law_samples c_law_samples k_law_samples
  have D_law_samples : Def K mg "_law_samples" s_law_samples ["_law_script"] := def_mk F_law_samples (PySem.W.mg_of X G a_law_samples) (F_law_samples.binds (ps := ["_law_script"]) fun _ _ _ _ _ _ us hl => match us, hl with | [_], _ => rfl)
  have F_law_curve := fun_mk (st := s_law_curve) l_law_curve c_law_curve k_law_curve
  have D_law_curve : Def K mg "_law_curve" s_law_curve ["_law_samples_here"] := def_mk F_law_curve (PySem.W.mg_of X G a_law_curve) (F_law_curve.binds (ps := ["_law_samples_here"]) fun _ _ _ _ _ _ us hl => match us, hl with | [_], _ => rfl)
  have F_law_written := fun_mk (st := s_law_written) l_law_written c_law_written k_law_written
  have D_law_written : Def K mg "_law_written" s_law_written ["_law_number_here"] := def_mk F_law_written (PySem.W.mg_of X G a_law_written) (F_law_written.binds (ps := ["_law_number_here"]) fun _ _ _ _ _ _ us hl => match us, hl with | [_], _ => rfl)
  have F_law_text := fun_mk (st := s_law_text) l_law_text c_law_text k_law_text
  have D_law_text : Def K mg "_law_text" s_law_text ["_law_curve_here"] := def_mk F_law_text (PySem.W.mg_of X G a_law_text) (F_law_text.binds (ps := ["_law_curve_here"]) fun _ _ _ _ _ _ us hl => match us, hl with | [_], _ => rfl)
  have F_law_is_whole := fun_mk (st := s_law_is_whole) l_law_is_whole c_law_is_whole k_law_is_whole
  have D_law_is_whole : Def K mg "_law_is_whole" s_law_is_whole ["_law_thing"] := def_mk F_law_is_whole (PySem.W.mg_of X G a_law_is_whole) (F_law_is_whole.binds (ps := ["_law_thing"]) fun _ _ _ _ _ _ us hl => match us, hl with | [_], _ => rfl)
  have F_law_same := fun_mk (st := s_law_same) l_law_same c_law_same k_law_same
  have D_law_same : Def K mg "_law_same" s_law_same ["_law_told", "_law_due"] := def_mk F_law_same (PySem.W.mg_of X G a_law_same) (F_law_same.binds (ps := ["_law_told", "_law_due"]) fun _ _ _ _ _ _ us hl => match us, hl with | [_, _], _ => rfl)
  have F_law_long := fun_mk (st := s_law_long) l_law_long c_law_long k_law_long
  have D_law_long : Def K mg "_law_long" s_law_long ["_law_cell_here"] := def_mk F_law_long (PySem.W.mg_of X G a_law_long) (F_law_long.binds (ps := ["_law_cell_here"]) fun _ _ _ _ _ _ us hl => match us, hl with | [_], _ => rfl)
  have F_law := fun_mk (st := s_law) l_law c_law k_law
  have D_law : Def K mg "law" s_law ["_law_script"] := def_mk F_law (PySem.W.mg_of X G a_law) (F_law.binds (ps := ["_law_script"]) fun _ _ _ _ _ _ us hl => match us, hl with | [_], _ => rfl)
  have C_FIGURES := PySem.W.mg_of X G v_FIGURES
  have X_FourPointsError : Exc K mg "FourPointsError" E_FourPointsError := ⟨PySem.W.mg_of X G xg_FourPointsError, xe_FourPointsError, xk_FourPointsError, xb_FourPointsError, xt_FourPointsError⟩
  have X_NoText : Exc K mg "NoText" E_NoText := ⟨PySem.W.mg_of X G xg_NoText, xe_NoText, xk_NoText, xb_NoText, xt_NoText⟩
  refine ⟨PySem.W.fnOf "law" "law" (defArgs s_law) (defBody s_law) (defScope s_law) .none kV_law dc_law pm_law an_law cd_law ct_law, fun s v => .of_eq rfl, fun base _ _ => ?_⟩
  have G_law_cell := fun base => ok_law_cell (P := l.prog) (w := w) (base := base) B D_law_cell
  have G_law_pot := fun base => ok_law_pot (P := l.prog) (w := w) (base := base) B D_law_pot
  have G_law_take := fun base => ok_law_take (P := l.prog) (w := w) (base := base) B D_law_take
  have G_law_number := fun base => ok_law_number (P := l.prog) (w := w) (base := base) B D_law_number (G_law_take base)
  have G_law_samples := fun base => ok_law_samples (P := l.prog) (w := w) (base := base) B D_law_samples (G_law_pot base) (G_law_cell base) (G_law_number base)
  have G_law_curve := fun base => ok_law_curve (P := l.prog) (w := w) (base := base) B D_law_curve
  have G_is_whole := fun base => ok_is_whole (P := l.prog) (w := w) (base := base) B D_is_whole
  have G_is_sample := fun base => ok_is_sample (P := l.prog) (w := w) (base := base) B D_is_sample (G_is_whole base)
  have G_is_curve := fun base => ok_is_curve (P := l.prog) (w := w) (base := base) B D_is_curve (G_is_sample base)
  have G_curve_text := fun base => ok_curve_text (P := l.prog) (w := w) (base := base) B D_curve_text
  have G_is_figures := fun base => ok_is_figures (P := l.prog) (w := w) (base := base) B D_is_figures C_FIGURES
  have G_read_number := fun base => ok_read_number (P := l.prog) (w := w) (base := base) B D_read_number X_NoText (G_is_figures base)
  have G_read_sample := fun base => ok_read_sample (P := l.prog) (w := w) (base := base) B D_read_sample X_NoText (G_read_number base)
  have G_read_curve := fun base => ok_read_curve (P := l.prog) (w := w) (base := base) B D_read_curve X_NoText (G_is_curve base) (G_read_sample base)
  have G_law_written := fun base => ok_law_written (P := l.prog) (w := w) (base := base) B D_law_written
  have G_law_text := fun base => ok_law_text (P := l.prog) (w := w) (base := base) B D_law_text (G_law_written base)
  have G_law_is_whole := fun base => ok_law_is_whole (P := l.prog) (w := w) (base := base) B D_law_is_whole
  have G_law_same := fun base => ok_law_same (P := l.prog) (w := w) (base := base) B D_law_same (G_law_is_whole base)
  have G_law_long := fun base => ok_law_long (P := l.prog) (w := w) (base := base) B D_law_long (G_law_pot base) (G_law_number base) (G_law_take base)
  exact ok_law B F_law (G_law_curve base) (G_law_long base) (G_law_same base) (G_law_samples base) (G_curve_text base) (G_read_curve base) (G_law_cell base) (G_law_text base)

open PySem.W in
theorem walk {l : PySem.W.OpenLaw} {q : Program} {loose : List Str} {XP : (Str → Option Value) → Heap → Prop} {YP : World → Heap → Prop} {d : DefRec} {K : Params → PySem.W.Frag} (hn : l.most = some 63) (hdf : d.params.defaults = [])
    (hY : ∀ (w : World) (h : Heap), YP w h → (K w.params).In h)
    (F : ∀ (w : World) (mg : Str → Option Value) (fa : Addr) (h : Heap), (K w.params).In h → h.Ns mainGlobals mg → mg d.name = some (.ref fa) →
      ∃ fd : FuncData, (∀ (s : Shared) (u : Value), BindsTo s fd ⟨[u], []⟩ [("_law_script", u)]) ∧ ∀ base : Heap, (K w.params).In base → base.Ns mainGlobals mg → FnOk l.prog w (K w.params) mg base (L2.CX l.prog w) 5 fa fd ["_law_script"] (sp_law (K w.params))) :
    PySem.W.WalkO q loose XP YP l.row.toRowW d [] (fun f vs => PySem.call f vs) :=
  L2.walk_ofB (n := 63) (k := 5) (x := "_law_script") (CX := fun w => L2.CX l.prog w) (sp := fun w => sp_law (K w.params)) hn (by decide) hdf ⟨rfl, by decide, by decide⟩ hY F (fun _ H a ns hl hb hO hS => sp_law_top hl hb hO hS)
    fun _ _ _ _ _ z => cx_none z
end Lk14
open PySem PySem.W PyProof.Rows
set_option maxRecDepth 100000 in
set_option maxHeartbeats 0 in
theorem PySem.Challenge.cw_fourpoints_k14_whole_texts_of_curves_holds : PySem.Challenge.rw_fourpoints_k14_whole_texts_of_curves.Holds := by
  w_on; o_law; k_head; (case hw => w_witness2)
  k_fill
  refine Lk14.walk (l := PySem.Challenge.rw_fourpoints_k14_whole_texts_of_curves) rfl rfl (fun w h Y => PySem.W.kIn_of Y) ?F
  case F =>
    intro w mg fa h KX G hmg
    refine' Lk14.all_mk KX G hmg ?a_is_whole ?l_is_whole ?c_is_whole ?k_is_whole ?a_is_sample ?l_is_sample ?c_is_sample ?k_is_sample ?a_is_curve ?l_is_curve ?c_is_curve ?k_is_curve ?a_curve_text ?l_curve_text ?c_curve_text ?k_curve_text ?a_is_figures ?l_is_figures ?c_is_figures ?k_is_figures ?a_read_number ?l_read_number ?c_read_number ?k_read_number ?a_read_sample ?l_read_sample ?c_read_sample ?k_read_sample ?a_read_curve ?l_read_curve ?c_read_curve ?k_read_curve ?a_law_cell ?l_law_cell ?c_law_cell ?k_law_cell ?a_law_pot ?l_law_pot ?c_law_pot ?k_law_pot ?a_law_take ?l_law_take ?c_law_take ?k_law_take ?a_law_number ?l_law_number ?c_law_number ?k_law_number ?a_law_samples ?l_law_samples ?c_law_samples ?k_law_samples ?a_law_curve ?l_law_curve ?c_law_curve ?k_law_curve ?a_law_written ?l_law_written ?c_law_written ?k_law_written ?a_law_text ?l_law_text ?c_law_text ?k_law_text ?a_law_is_whole ?l_law_is_whole ?c_law_is_whole ?k_law_is_whole ?a_law_same ?l_law_same ?c_law_same ?k_law_same ?a_law_long ?l_law_long ?c_law_long ?k_law_long ?a_law ?l_law ?c_law ?k_law ?z_isinstance ?z_len ?z_range ?z_int ?z_bool ?z_str ?z_tuple ?z_list ?z_set ?z_dict ?z_abs ?z_all ?z_any ?z_max ?z_min ?z_sum ?z_sorted ?z_zip ?z_divmod ?z_repr ?z_reversed ?z_ValueError ?v_FIGURES ?xg_FourPointsError ?xe_FourPointsError ?xk_FourPointsError ?xb_FourPointsError ?xt_FourPointsError ?xg_NoText ?xe_NoText ?xk_NoText ?xb_NoText ?xt_NoText
    (case a_is_whole => k_is)
    (case l_is_whole => k_is)
    (case c_is_whole => k_is)
    (case k_is_whole => k_is)
    (case a_is_sample => k_is)
    (case l_is_sample => k_is)
    (case c_is_sample => k_is)
    (case k_is_sample => k_is)
    (case a_is_curve => k_is)
    (case l_is_curve => k_is)
    (case c_is_curve => k_is)
    (case k_is_curve => k_is)
    (case a_curve_text => k_is)
    (case l_curve_text => k_is)
    (case c_curve_text => k_is)
    (case k_curve_text => k_is)
    (case a_is_figures => k_is)
    (case l_is_figures => k_is)
    (case c_is_figures => k_is)
    (case k_is_figures => k_is)
    (case a_read_number => k_is)
    (case l_read_number => k_is)
    (case c_read_number => k_is)
    (case k_read_number => k_is)
    (case a_read_sample => k_is)
    (case l_read_sample => k_is)
    (case c_read_sample => k_is)
    (case k_read_sample => k_is)
    (case a_read_curve => k_is)
    (case l_read_curve => k_is)
    (case c_read_curve => k_is)
    (case k_read_curve => k_is)
    (case a_law_cell => k_is)
    (case l_law_cell => k_is)
    (case c_law_cell => k_is)
    (case k_law_cell => k_is)
    (case a_law_pot => k_is)
    (case l_law_pot => k_is)
    (case c_law_pot => k_is)
    (case k_law_pot => k_is)
    (case a_law_take => k_is)
    (case l_law_take => k_is)
    (case c_law_take => k_is)
    (case k_law_take => k_is)
    (case a_law_number => k_is)
    (case l_law_number => k_is)
    (case c_law_number => k_is)
    (case k_law_number => k_is)
    (case a_law_samples => k_is)
    (case l_law_samples => k_is)
    (case c_law_samples => k_is)
    (case k_law_samples => k_is)
    (case a_law_curve => k_is)
    (case l_law_curve => k_is)
    (case c_law_curve => k_is)
    (case k_law_curve => k_is)
    (case a_law_written => k_is)
    (case l_law_written => k_is)
    (case c_law_written => k_is)
    (case k_law_written => k_is)
    (case a_law_text => k_is)
    (case l_law_text => k_is)
    (case c_law_text => k_is)
    (case k_law_text => k_is)
    (case a_law_is_whole => k_is)
    (case l_law_is_whole => k_is)
    (case c_law_is_whole => k_is)
    (case k_law_is_whole => k_is)
    (case a_law_same => k_is)
    (case l_law_same => k_is)
    (case c_law_same => k_is)
    (case k_law_same => k_is)
    (case a_law_long => k_is)
    (case l_law_long => k_is)
    (case c_law_long => k_is)
    (case k_law_long => k_is)
    (case a_law => k_is)
    (case l_law => k_is)
    (case c_law => k_is)
    (case k_law => k_is)
    (case z_isinstance => k_is)
    (case z_len => k_is)
    (case z_range => k_is)
    (case z_int => k_is)
    (case z_bool => k_is)
    (case z_str => k_is)
    (case z_tuple => k_is)
    (case z_list => k_is)
    (case z_set => k_is)
    (case z_dict => k_is)
    (case z_abs => k_is)
    (case z_all => k_is)
    (case z_any => k_is)
    (case z_max => k_is)
    (case z_min => k_is)
    (case z_sum => k_is)
    (case z_sorted => k_is)
    (case z_zip => k_is)
    (case z_divmod => k_is)
    (case z_repr => k_is)
    (case z_reversed => k_is)
    (case z_ValueError => k_is)
    (case v_FIGURES => k_is)
    (case xg_FourPointsError => k_is)
    (case xe_FourPointsError => k_exc)
    (case xk_FourPointsError => k_is)
    (case xb_FourPointsError => k_is)
    (case xt_FourPointsError => k_is)
    (case xg_NoText => k_is)
    (case xe_NoText => k_exc)
    (case xk_NoText => k_is)
    (case xb_NoText => k_is)
    (case xt_NoText => k_is)
