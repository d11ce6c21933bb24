import PyProof.Rows.All
import Wide.All
import OpenK.AllK
import Wide.FinOn
import HandS.ForMost
import HandS.ForExc
import HandS.Wide
import HandS.EndBits
import HandS.IsInst
import HandS.TupLe
import HandS.TupAny
import HandS.Zip
import HandS.Flow
import HandS.Evl
import HandS.RevRange
import HandS.WideBits
import HandS.TryOnly
import HandS.Style
import HandS.SortInts
import HandS.More
import PySem.Challenge.RW_fourpoints_k45_pictures_of_dots
set_option Elab.async false
set_option linter.all false
set_option maxRecDepth 100000
set_option maxHeartbeats 4000000
/-! my own base over HandS: defs of the text, heaps that keep, readings taken step by step -/
namespace Fp
open PySem PySem.Spec PyProof.Rows L2
abbrev St := L2.St

/-! ### defs -/
/-- a def of the top that stands at the module's name x -/
structure Def (K : PySem.W.Frag) (mg : Str → Option Value) (x : Str) (st : Stmt) (ps : List Str) : Prop where
  ex : ∃ f fd, Fun K x x st f fd ∧ mg x = some (.ref f) ∧ Binds K fd ps []
/-- .. and its promise -/
structure Fn (P : Program) (w : World) (K : PySem.W.Frag) (mg : Str → Option Value) (base : Heap) (k : Nat) (x : Str) (ps : List Str) (sp : Sp) : Prop where
  ex : ∃ f fd, mg x = some (.ref f) ∧ PySem.W.keepIn K (.ref f) = true ∧ Binds K fd ps [] ∧ FnOk P w K mg base (L2.CX P w) k f fd ps sp

section
variable {P : Program} {w : World} {K : PySem.W.Frag} {mg : Str → Option Value} {base : Heap}
theorem fn_up {k : Nat} {f : Addr} {fd : FuncData} {ps : List Str} {sp : Sp} (F : FnOk P w K mg base CX0 k f fd ps sp) : FnOk P w K mg base (L2.CX P w) k f fd ps sp :=
  ⟨F.len, fun A outer s H args us vs Q E hr he hb hv hs => codeAny_mono (F.run A outer s H args us vs Q E hr he hb hv hs) fun r s' hq => by
    cases r with
    | error e => exact False.elim hq
    | ok fl => cases fl <;> exact hq⟩
/-- a def that lets nothing out -/
theorem Def.ok {x : Str} {st : Stmt} {N ps : List Str} {k : Nat} {sp : Sp} (D : Def K mg x st ps) (S : FnScope N ps (defScope st)) (len : ∀ vs H Q E, sp vs H Q E → vs.length = ps.length)
    (hbody : ∀ (f : Addr) (cdv : Value) (A : Around) (outer : List Env) (s : Shared) (H : Hp) (vs : List V) (Q : VK) (E : XK), Room k (A.deeper (envOfC x (defScope st) s.heap.objs.size f cdv)) → sp vs H Q E →
      ∃ t, PSs (cxOf CX0 P w K mg base N x (defScope st) f cdv A outer s H E).nox (defBody st) t ∧ t { nx := fun _ H' => Q .non H', rt := Q } (start N vs) H) : Fn P w K mg base (k + 1) x ps sp := by
  obtain ⟨f, fd, F, hm, hb⟩ := D.ex
  exact ⟨f, fd, hm, F.kp, hb, fn_up (F.ok S len (hbody f))⟩
/-- a def that may raise -/
theorem Def.okX {x : Str} {st : Stmt} {N ps : List Str} {k : Nat} {sp : Sp} (D : Def K mg x st ps) (S : FnScope N ps (defScope st)) (len : ∀ vs H Q E, sp vs H Q E → vs.length = ps.length)
    (hbody : ∀ (f : Addr) (cdv : Value) (A : Around) (outer : List Env) (s : Shared) (H : Hp) (vs : List V) (Q : VK) (E : XK), Room k (A.deeper (envOfC x (defScope st) s.heap.objs.size f cdv)) → sp vs H Q E →
      ∃ t, PSs (cxOf (L2.CX P w) P w K mg base N x (defScope st) f cdv A outer s H E) (defBody st) t ∧ t { nx := fun _ H' => Q .non H', rt := Q } (start N vs) H) : Fn P w K mg base (k + 1) x ps sp := by
  obtain ⟨f, fd, F, hm, hb⟩ := D.ex
  exact ⟨f, fd, hm, F.kp, hb, F.okX S len (hbody f)⟩
theorem def_mk {x : Str} {st : Stmt} {f : Addr} {fd : FuncData} {ps : List Str} (F : Fun K x x st f fd) (hm : mg x = some (.ref f)) (hb : Binds K fd ps []) : Def K mg x st ps := ⟨f, fd, F, hm, hb⟩
theorem Fn.up {k j : Nat} {x : Str} {ps : List Str} {sp : Sp} (F : Fn P w K mg base k x ps sp) (h : k ≤ j) : Fn P w K mg base j x ps sp := by
  obtain ⟨f, fd, a, b, c, d⟩ := F.ex
  exact ⟨f, fd, a, b, c, d.mono h⟩
theorem Fn.imp {k : Nat} {x : Str} {ps : List Str} {sp sp' : Sp} (F : Fn P w K mg base k x ps sp) (h : ∀ vs H Q E, sp' vs H Q E → sp vs H Q E) : Fn P w K mg base k x ps sp' := by
  obtain ⟨f, fd, a, b, c, d⟩ := F.ex
  exact ⟨f, fd, a, b, c, d.imp h⟩
end

/-! ### a call of such a def, where nothing is let out -/
def tFn (sp : Sp) (E : XK) (t : TA) : TE := fun σ H Q => t σ H fun vs H1 => sp vs H1 Q E
section
variable {X : Cx} {k j : Nat} {ps : List Str} {sp : Sp} {E : XK} {x : Str} {p pos : Pos} {e : Expr} {es : List Expr} {t : TA}
theorem pe_fnE (F : Fn X.prog X.w X.K X.mg X.base k x ps sp) (hr : Room j X.A) (hk : k ≤ j) (hg : Gl X x) (hx : Passes (L2.CX X.prog X.w) X E) (ha : PA X (e :: es) t)
    (hdb : (x == ("__debug__" : Str)) = false := by decide) (he : starEach (e :: es) X.env = (false, eval e X.env) :: starEach es X.env := by rfl) (hpl : (backTo pos (starEach es X.env)).any (·.1) = false := by rfl) :
    PE X (.Call (.Name x p) (e :: es) [] pos) (tFn sp E t) := by
  obtain ⟨f, fd, hm, hkp, hb, G⟩ := F.ex
  have h := pe_call (dvs := []) (p := p) (pos := pos) (G.mono hk) hr hg hm hkp hb .nil hx ha hdb he hpl
  have e1 : tCall sp [] E t = tFn sp E t := by
    funext σ H Q
    show t σ H (fun vs H1 => sp (vs ++ []) H1 Q E) = t σ H (fun vs H1 => sp vs H1 Q E)
    simp only [List.append_nil]
  rw [e1] at h
  exact h
theorem pe_fn0E (F : Fn X.prog X.w X.K X.mg X.base k x ps sp) (hr : Room j X.A) (hk : k ≤ j) (hg : Gl X x) (hx : Passes (L2.CX X.prog X.w) X E)
    (hdb : (x == ("__debug__" : Str)) = false := by decide) :
    PE X (.Call (.Name x p) [] [] pos) (tFn sp E tNil) := by
  obtain ⟨f, fd, hm, hkp, hb, G⟩ := F.ex
  exact pe_call0 (dvs := []) (p := p) (pos := pos) (G.mono hk) hr hg hm hkp hb .nil hx hdb
theorem pe_fn (F : Fn X.prog X.w X.K X.mg X.base k x ps sp) (hr : Room j X.A) (ha : PA X (e :: es) t) (hk : k ≤ j := by decide) (hg : Gl X x := by rfl)
    (hdb : (x == ("__debug__" : Str)) = false := by decide) (he : starEach (e :: es) X.env = (false, eval e X.env) :: starEach es X.env := by rfl) (hpl : (backTo pos (starEach es X.env)).any (·.1) = false := by rfl) :
    PE X (.Call (.Name x p) (e :: es) [] pos) (tFn sp E0 t) := pe_fnE F hr hk hg passL ha hdb he hpl
theorem pe_fn0 (F : Fn X.prog X.w X.K X.mg X.base k x ps sp) (hr : Room j X.A) (hk : k ≤ j := by decide) (hg : Gl X x := by rfl)
    (hdb : (x == ("__debug__" : Str)) = false := by decide) : PE X (.Call (.Name x p) [] [] pos) (tFn sp E0 tNil) := pe_fn0E F hr hk hg passL hdb
/-- f(..) whose exceptions are wished for at the slots (within a try, or out of this def) -/
def tFnS (sp : Sp) (E : St → XK) (t : TA) : TE := fun σ H Q => t σ H fun vs H1 => sp vs H1 Q (E σ)
theorem pe_fnS {E : St → XK} (F : Fn X.prog X.w X.K X.mg X.base k x ps sp) (hr : Room j X.A) (hk : k ≤ j) (hg : Gl X x) (hx : ∀ σ, PassesAt (L2.CX X.prog X.w) X σ (E σ)) (ha : PA X (e :: es) t)
    (hdb : (x == ("__debug__" : Str)) = false := by decide) (he : starEach (e :: es) X.env = (false, eval e X.env) :: starEach es X.env := by rfl) (hpl : (backTo pos (starEach es X.env)).any (·.1) = false := by rfl) :
    PE X (.Call (.Name x p) (e :: es) [] pos) (tFnS sp E t) := by
  obtain ⟨f, fd, hm, hkp, hb, G⟩ := F.ex
  exact pe_callS (p := p) (pos := pos) (G.mono hk) hr hg hm hkp hb hx ha hdb he hpl
end

/-! ### what of the built-ins no name of the module hides -/
structure Blt (mg : Str → Option Value) : Prop where
  isinstance : mg "isinstance" = none
  len : mg "len" = none
  range : mg "range" = none
  int : mg "int" = none
  bool : mg "bool" = none
  str : mg "str" = none
  tuple : mg "tuple" = none
  list : mg "list" = none
  set : mg "set" = none
  dict : mg "dict" = none
  abs : mg "abs" = none
  all : mg "all" = none
  any : mg "any" = none
  max : mg "max" = none
  min : mg "min" = none
  sum : mg "sum" = none
  sorted : mg "sorted" = none
  zip : mg "zip" = none
  divmod : mg "divmod" = none
  repr : mg "repr" = none
  reversed : mg "reversed" = none
  ValueError : mg "ValueError" = none

/-! ### heaps: all stays but what F names -/
def Keep (F : Addr → Prop) (H H' : Hp) : Prop := ∀ b o, H b = some o → ¬ F b → H' b = some o
abbrev No : Addr → Prop := fun _ => False
abbrev At (p : Addr) : Addr → Prop := fun b => b = p
theorem Keep.refl {F : Addr → Prop} (H : Hp) : Keep F H H := fun _ _ h _ => h
theorem Keep.trans {F : Addr → Prop} {H H1 H2 : Hp} (a : Keep F H H1) (b : Keep F H1 H2) : Keep F H H2 := fun c o h n => b c o (a c o h n) n
theorem Keep.mono {F G : Addr → Prop} {H H' : Hp} (a : Keep F H H') (h : ∀ b, F b → G b) : Keep G H H' := fun c o e n => a c o e fun z => n (h c z)
theorem Keep.of_same {F : Addr → Prop} {H H' : Hp} (a : Same H H') : Keep F H H' := fun c o e _ => a c o e
theorem Keep.same {H H' : Hp} (a : Keep No H H') : Same H H' := fun c o e => a c o e fun z => z
theorem Keep.new {F : Addr → Prop} {H : Hp} {p : Addr} {o : HO} (h : H p = none) : Keep F H (upd H p o) := fun b u e _ => by rw [upd_ne (ne_of_none e h)]; exact e
theorem Keep.at_ {H : Hp} {p : Addr} {o : HO} : Keep (At p) H (upd H p o) := fun b u e n => by rw [upd_ne n]; exact e
/-- what was free at the start may change -/
theorem Keep.free {F : Addr → Prop} {H H' : Hp} {p : Addr} {o : HO} (a : Keep F H H') (h : H p = none) : Keep F H (upd H' p o) := fun b u e n => by
  rw [upd_ne (ne_of_none e h)]; exact a b u e n
theorem Keep.put {F : Addr → Prop} {H H' : Hp} {p : Addr} {o : HO} (a : Keep F H H') (h : F p) : Keep F H (upd H' p o) := fun b u e n => by
  rw [upd_ne fun z => n (by rw [z]; exact h)]; exact a b u e n
theorem Keep.back {F : Addr → Prop} {H H' : Hp} (a : Keep F H H') {p : Addr} (h : H' p = none) (n : ¬ F p) : H p = none := by
  cases q : H p with
  | none => rfl
  | some o => rw [a p o q n] at h; cases h
theorem Keep.app {F : Addr → Prop} {H H' : Hp} {a : Addr} {o : HO} (k : Keep F H H') (e : H a = some o) (n : ¬ F a) : H' a = some o := k a o e n
theorem same_app {H H' : Hp} {a : Addr} {o : HO} (k : Same H H') (e : H a = some o) : H' a = some o := k a o e
/-- the tuples, and what is locked, stay, whatever else is done -/
structure TExt (H H' : Hp) : Prop where
  t : ∀ a xs, Rd H a (.tup xs) → Rd H' a (.tup xs)
  f : ∀ a o u, H a = some (.frz o u) → H' a = some (.frz o u)
theorem Keep.text {F : Addr → Prop} {H H' : Hp} (a : Keep F H H') (h : ∀ b, F b → Mut (H b)) : TExt H H' := by
  have nt : ∀ b xs, H b = some (.tup xs) → ¬ F b := fun b xs e z => by have m := h b z; rw [e] at m; exact m
  have nf : ∀ b o u, H b = some (.frz o u) → ¬ F b := fun b o u e z => by have m := h b z; rw [e] at m; exact m
  refine ⟨fun b xs r => ?_, fun b o u e => a b _ e (nf b o u e)⟩
  rcases r with r | ⟨o, r⟩
  · exact .inl (a b _ r (nt b xs r))
  · exact .inr ⟨o, a b _ r (nf b o _ r)⟩
theorem TExt.refl (H : Hp) : TExt H H := ⟨fun _ _ h => h, fun _ _ _ h => h⟩
theorem TExt.trans {H H1 H2 : Hp} (a : TExt H H1) (b : TExt H1 H2) : TExt H H2 := ⟨fun c xs h => b.t c xs (a.t c xs h), fun c o u h => b.f c o u (a.f c o u h)⟩
theorem TExt.of_same {H H' : Hp} (a : Same H H') : TExt H H' := ⟨fun b xs r => by
  rcases r with r | ⟨o, r⟩
  · exact .inl (a b _ r)
  · exact .inr ⟨o, a b _ r⟩, fun b o u e => a b _ e⟩
theorem TExt.lst {H H' : Hp} {p : Addr} {ys : List V} (k : Keep (At p) H H') (h : H p = some (.lst ys)) : TExt H H' := k.text fun b e => by rw [show b = p from e, h]; trivial
theorem SqT.text {K : PySem.W.Frag} {H H' : Hp} {a : Addr} {xs : List V} (e : TExt H H') (h : SqT K H a xs) : SqT K H' a xs := by
  rcases h with h | h
  · exact .inl (e.t a xs h)
  · exact .inr h
/-- the script: locked, or written -/
def Scr (K : PySem.W.Frag) (H : Hp) (a : Addr) (ns : List Int) : Prop := SqL K H a (ns.map V.int) ∧ ∀ H', TExt H H' → SqL K H' a (ns.map V.int)
theorem Scr.text {K : PySem.W.Frag} {H H' : Hp} {a : Addr} {ns : List Int} (h : Scr K H a ns) (e : TExt H H') : Scr K H' a ns := ⟨h.2 H' e, fun H2 e2 => h.2 H2 (e.trans e2)⟩
theorem scr_sql {K : PySem.W.Frag} {H H' : Hp} {a : Addr} {ns : List Int} (h : Scr K H a ns) (e : TExt H H') : SqL K H' a (ns.map V.int) := h.2 H' e
theorem Scr.of {K : PySem.W.Frag} {H : Hp} {a : Addr} {ns : List Int} (hO : Only H) (h : SqL K H a (ns.map V.int)) : Scr K H a ns := by
  refine ⟨h, fun H' e => ?_⟩
  rcases h with (h | ⟨o, h⟩) | h
  · rcases hO a with z | ⟨o, xs, z⟩
    · rw [z] at h; cases h
    · rw [z] at h; cases h
  · exact .inl (.inr ⟨o, e.f a o _ h⟩)
  · exact .inr h

/-! ### data: as L2.Dp tells; data without lists stays where tuples stay -/
mutual
def imm : PyData → Bool
  | .list _ => false
  | .dict _ => false
  | .tuple xs => immAll xs
  | _ => true
def immAll : List PyData → Bool
  | [] => true
  | x :: xs => imm x && immAll xs
end
section
variable {K : PySem.W.Frag} {H H' : Hp}
mutual
theorem Dp.text (e : TExt H H') : ∀ (d : PyData) (v : V), imm d = true → Dp K H v d → Dp K H' v d
  | .none, _, _, h => by cases h; exact .non
  | .bool b, _, _, h => by cases h; exact .bl b
  | .int i, _, _, h => by cases h; exact .int i
  | .str x, _, _, h => by cases h; exact .str x
  | .list _, _, hi, _ => by simp [imm] at hi
  | .dict _, _, hi, _ => by simp [imm] at hi
  | .tuple ds, _, hi, h => by
    cases h with
    | tup hs ha => exact .tup (SqT.text e hs) (DpAll.text e ds _ (by simpa [imm] using hi) ha)
theorem DpAll.text (e : TExt H H') : ∀ (ds : List PyData) (vs : List V), immAll ds = true → DpAll K H vs ds → DpAll K H' vs ds
  | [], _, _, h => by cases h; exact .nil
  | d :: ds, _, hi, h => by
    have hi2 : imm d = true ∧ immAll ds = true := by simpa [immAll] using hi
    cases h with
    | cons h1 h2 => exact .cons (Dp.text e d _ hi2.1 h1) (DpAll.text e ds _ hi2.2 h2)
end
mutual
theorem Dp.same (e : Same H H') : ∀ (d : PyData) (v : V), Dp K H v d → Dp K H' v d
  | .none, _, h => by cases h; exact .non
  | .bool b, _, h => by cases h; exact .bl b
  | .int i, _, h => by cases h; exact .int i
  | .str x, _, h => by cases h; exact .str x
  | .list ds, _, h => by
    cases h with
    | lst hs ha => exact .lst (e.seq hs) (DpAll.same e ds _ ha)
  | .dict _, _, h => by cases h
  | .tuple ds, _, h => by
    cases h with
    | tup hs ha => exact .tup (SqT.text (TExt.of_same e) hs) (DpAll.same e ds _ ha)
theorem DpAll.same (e : Same H H') : ∀ (ds : List PyData) (vs : List V), DpAll K H vs ds → DpAll K H' vs ds
  | [], _, h => by cases h; exact .nil
  | d :: ds, _, h => by
    cases h with
    | cons h1 h2 => exact .cons (Dp.same e d _ h1) (DpAll.same e ds _ h2)
end
end
theorem immAll_map {α : Type} (f : α → PyData) (h : ∀ x, imm (f x) = true) : ∀ xs : List α, immAll (xs.map f) = true
  | [] => rfl
  | x :: xs => by simp [immAll, h x, immAll_map f h xs]

/-! ### readings, one step each: what is left is what follows -/
section
variable {K : PySem.W.Frag} {σ : St} {H : Hp} {Q : VK} {v x y : V} {ta tb tc te : TE} {r : R2} {t : TA} {tt uu : TT} {tu tw : TS} {nx bk ct : St → Hp → Prop} {rt : VK} {A B : Prop}
theorem r_var {i : Nat} (h : σ[i]? = some (some v)) (q : Q v H) : tVar i σ H Q := ⟨v, h, q⟩
theorem r_c (q : Q v H) : tC v σ H Q := q
theorem r_op (q : ta σ H fun x H1 => tb σ H1 fun y H2 => r x y H2 Q) : tOp r ta tb σ H Q := q
theorem r_un {u : V → Hp → VK → Prop} (q : ta σ H fun x H1 => u x H1 Q) : tUn u ta σ H Q := q
theorem r_I0 {g : Int → Int → V} {i j : Int} (q : Q (g i j) H) : rI0 g (.int i) (.int j) H Q := ⟨i, j, rfl, rfl, q⟩
theorem r_I {C : Int → Int → Prop} {g : Int → Int → V} {i j : Int} (hc : C i j) (q : Q (g i j) H) : rI C g (.int i) (.int j) H Q := ⟨i, j, rfl, rfl, hc, q⟩
theorem r_U {g : Int → V} {i : Int} (q : Q (g i) H) : rU g (.int i) H Q := ⟨i, rfl, q⟩
theorem r_eqi {i j : Int} (q : Q (.bl (decide (i = j))) H) : rEq (.int i) (.int j) H Q := ⟨rfl, by
  have e : decide (V.int i = V.int j) = decide (i = j) := by rw [Bool.eq_iff_iff]; simp
  rw [e]; exact q⟩
theorem r_nei {i j : Int} (q : Q (.bl (!decide (i = j))) H) : rNe (.int i) (.int j) H Q := ⟨rfl, by
  have e : decide (V.int i = V.int j) = decide (i = j) := by rw [Bool.eq_iff_iff]; simp
  rw [e]; exact q⟩
theorem r_cons {tr : TA} {Q : List V → Hp → Prop} (q : te σ H fun x H1 => tr σ H1 fun xs H2 => Q (x :: xs) H2) : tCons te tr σ H Q := q
theorem r_nil {Q : List V → Hp → Prop} (q : Q [] H) : tNil σ H Q := q
theorem r_fn {sp : Sp} {E : XK} (q : t σ H fun vs H1 => sp vs H1 Q E) : tFn sp E t σ H Q := q
theorem r_fnS {sp : Sp} {E : St → XK} (q : t σ H fun vs H1 => sp vs H1 Q (E σ)) : tFnS sp E t σ H Q := q
theorem r_CB {u : List V → Hp → VK → Prop} (q : t σ H fun vs H1 => u vs H1 Q) : tCB u t σ H Q := q
/-- a new object -/
def uNew (o : HO) (n : Nat) (H : Hp) (Q : VK) : Prop := n ≤ sizeLine ∧ ∀ p, H p = none → Q (.ref p) (upd H p o)
theorem r_tup (q : t σ H fun xs H1 => uNew (.tup xs) xs.length H1 Q) : tTup t σ H Q := q
theorem r_lst (q : t σ H fun xs H1 => uNew (.lst xs) xs.length H1 Q) : tLst t σ H Q := q
theorem r_new {o : HO} {n : Nat} (hn : n ≤ sizeLine) (q : ∀ p H', H p = none → Same H H' → H' p = some o → Q (.ref p) H') : uNew o n H Q :=
  ⟨hn, fun p hp => q p _ hp (Keep.same (Keep.new hp)) upd_same⟩
theorem sz_lit {n : Nat} (h : Nat.ble n 100000 = true) : n ≤ sizeLine := by
  rw [sizeLine_eq]
  exact Nat.le_trans (Nat.le_of_ble_eq_true h) (by decide)
theorem sz_le {n : Nat} (h : n ≤ 16777216) : n ≤ sizeLine := by rw [sizeLine_eq]; exact h
/-! rules with K by name -/
section
variable {X : Cx}
theorem opK (K : PySem.W.Frag) {f : Value → Value → Sem Value} {r : PySem.W.Frag → R2} (h : OpR X f (r X.K)) (hK : X.K = K := by rfl) : OpR X f (r K) := hK ▸ h
theorem ixK (K : PySem.W.Frag) {r : PySem.W.Frag → R2} (h : IxR X (r X.K)) (hK : X.K = K := by rfl) : IxR X (r K) := hK ▸ h
theorem slK (K : PySem.W.Frag) {r : PySem.W.Frag → V → Option Int → Option Int → Hp → VK → Prop} (h : SlR X (r X.K)) (hK : X.K = K := by rfl) : SlR X (r K) := hK ▸ h
theorem crK (K : PySem.W.Frag) {f : Value} {r : PySem.W.Frag → List V → Hp → VK → Prop} (h : CallR X f (r X.K)) (hK : X.K = K := by rfl) : CallR X f (r K) := hK ▸ h
variable {o e l tg value : Expr} {es : List Expr} {to te tl tv : TE} {t : TA} {ts : TGs} {name f : Str} {apos cpos pos pos' tpos : Pos} {T id : String} {r : V → List V → Hp → VK → Prop} {n k : Nat}
theorem piK_list (K : PySem.W.Frag) (hl : PE X l tl) (hK : X.K = K := by rfl) : PI X tg l (iList K tl) := hK ▸ pi_list hl
theorem piK_tup (K : PySem.W.Frag) (hl : PE X l tl) (hK : X.K = K := by rfl) : PI X tg l (iTup K tl) := hK ▸ pi_tup hl
/-- what is walked is a list or a tuple -/
def iSeq (K : PySem.W.Frag) (tl : TE) : TI := fun σ H R => iList K tl σ H R ∨ iTup K tl σ H R
theorem piK_seq (K : PySem.W.Frag) (hl : PE X l tl) (hK : X.K = K := by rfl) : PI X tg l (iSeq K tl) := by
  subst hK
  exact ⟨fun pins s σ H R I h => h.elim ((pi_list hl).run pins s σ H R I) ((pi_tup hl).run pins s σ H R I)⟩
theorem peK_revL (K : PySem.W.Frag) {kk : Nat} {p1 p2 p3 : Pos} (he : PE X e te) (hK : X.K = K := by rfl) : PE X (.Subscript e (.Slice none none (some (.UnaryOp .USub (.Constant (.int 1) kk p1) p2)) p3) pos) (tRevL K te) := hK ▸ pe_revL he
theorem piK_zip (K : PySem.W.Frag) {e2 : Expr} {kk : Nat} {elts : List Expr} {p : Pos} (hm : X.mg "zip" = none) (ha : PA X [e, e2] t) (hg : Gl X "zip" := by rfl)
    (hs : starEach [e, e2] X.env = (false, eval e X.env) :: starEach [e2] X.env := by rfl) (hpl : (backTo pos (starEach [e2] X.env)).any (·.1) = false := by rfl) (hK : X.K = K := by rfl) :
    PI X (.Tuple elts kk tpos) (.Call (.Name "zip" p) [e, e2] [] pos) (RZ.iZipA K t) := hK ▸ RZ.pi_zipA hg hm ha hs hpl
theorem pgK_tup (K : PySem.W.Frag) (hc : X.calm = true) (h : PGs X es ts) (hn : (assignEach es X.env).length = n := by rfl) (hst : (assignEach es X.env).findIdx? (·.1) = none := by rfl) (hK : X.K = K := by rfl) : PG X (.Tuple es k pos) (gTup K n ts) := hK ▸ pg_tup hc h hn hst
theorem pgK_lst (K : PySem.W.Frag) (hc : X.calm = true) (h : PGs X es ts) (hn : (assignEach es X.env).length = n := by rfl) (hst : (assignEach es X.env).findIdx? (·.1) = none := by rfl) (hK : X.K = K := by rfl) : PG X (.Tuple es k pos) (gLst K n ts) := hK ▸ pg_lst hc h hn hst
theorem peK_fld (K : PySem.W.Frag) (he : PE X e te) (hb : attributeBase e f X.env (eval e X.env) = eval e X.env := by rfl) (hK : X.K = K := by rfl) : PE X (.Attribute e f pos) (tFld K te f) := hK ▸ pe_fld he hb
theorem peK_bm0 (K : PySem.W.Frag) (pa : PlainAttrs T) (slot : Slot T name id) (hty : typeOf (.builtin id) = pure (.type "method_descriptor")) (hm : MtR X id r) (ho : PE X o to)
    (hbase : attributeBase o name X.env (eval o X.env) = eval o X.env := by rfl) (hline : (apos.endLine == cpos.line) = true := by rfl) (hK : X.K = K := by rfl) : PE X (.Call (.Attribute o name apos) [] [] cpos) (tBM0 K T r to) := hK ▸ pe_bm0 pa slot hty hm ho hbase hline
theorem peK_bm (K : PySem.W.Frag) (pa : PlainAttrs T) (slot : Slot T name id) (hty : typeOf (.builtin id) = pure (.type "method_descriptor")) (hm : MtR X id r) (ho : PE X o to) (ha : PA X (e :: es) t)
    (hbase : attributeBase o name X.env (eval o X.env) = eval o X.env := by rfl)
    (hfew : ((backTo cpos (starEach (e :: es) X.env)).all (fun x => !x.1) && (backToKw cpos (keywordEach [] X.env)).all (fun x => x.1.isSome)
      && decide ((e :: es).length + ([] : List Keyword).length + (if ([] : List Keyword).isEmpty then 0 else 1) < 30)) = true := by rfl)
    (hline : (apos.endLine == cpos.line) = true := by rfl) (hs : starEach (e :: es) X.env = (false, eval e X.env) :: starEach es X.env := by rfl) (hplain : (backTo cpos (starEach es X.env)).any (·.1) = false := by rfl) (hK : X.K = K := by rfl) :
    PE X (.Call (.Attribute o name apos) (e :: es) [] cpos) (tBM K T r to t) := hK ▸ pe_bm pa slot hty hm ho ha hbase hfew hline hs hplain
theorem psK_fld (K : PySem.W.Frag) (ha : PE X o to) (hv : PE X value tv) (hs : swapsWith value (some (.Attribute o f pos')) pos.line X.env = pure false := by rfl) (hK : X.K = K := by rfl) : PS X (.Assign [.Attribute o f pos'] value pos) (sFld K to tv f) := hK ▸ ps_fld ha hv hs
theorem psK_fldaug (K : PySem.W.Frag) {op : Operator} {rd : V → V → Hp → VK → Prop} (ha : PE X o to) (hv : PE X value tv) (hop : InOp X op rd) (hK : X.K = K := by rfl) : PS X (.AugAssign (.Attribute o f tpos) op value pos) (sFldAug K to tv rd f) := hK ▸ ps_fldaug ha hv hop
end
/-! tests -/
theorem r_test {Q : Bool → Hp → Prop} (q : te σ H fun x H' => ∃ k, x = .bl k ∧ Q k H') : tTest te σ H Q := q
theorem r_B {Q : Bool → Hp → Prop} (q : te σ H fun x H' => ∃ k, x = .bl k ∧ Q k H') : tB te σ H Q := q
theorem r_bl {b : Bool} {Q : Bool → Prop} (q : Q b) : ∃ k, V.bl b = .bl k ∧ Q k := ⟨b, rfl, q⟩
theorem r_and {Q : Bool → Hp → Prop} (q : tt σ H fun c H1 => if c = true then uu σ H1 Q else Q false H1) : tAnd tt uu σ H Q := q
theorem r_or {Q : Bool → Hp → Prop} (q : tt σ H fun c H1 => if c = true then Q true H1 else uu σ H1 Q) : tOr tt uu σ H Q := q
theorem r_yes {Q : Bool → Hp → Prop} (q : Q true H) : tYes σ H Q := q
theorem r_not {Q : Bool → Hp → Prop} (q : tt σ H fun c H1 => Q (!c) H1) : tNot tt σ H Q := q
theorem r_andV (q : ta σ H fun x H1 => ∃ c, x = .bl c ∧ if c = true then tb σ H1 Q else Q (.bl false) H1) : tAndV ta tb σ H Q := q
theorem r_orV (q : ta σ H fun x H1 => ∃ c, x = .bl c ∧ if c = true then Q (.bl true) H1 else tb σ H1 Q) : tOrV ta tb σ H Q := q
theorem r_notV (q : ta σ H fun x H1 => ∃ c, x = .bl c ∧ Q (.bl (!c)) H1) : tNotV ta σ H Q := q
theorem r_if (q : tt σ H fun c H1 => if c = true then ta σ H1 Q else tb σ H1 Q) : tIf tt ta tb σ H Q := q
theorem r_chain {r' : R2} (q : ta σ H fun x H1 => tb σ H1 fun y H2 => r x y H2 fun z H3 => ∃ k, z = .bl k ∧ (if k = true then tc σ H3 fun w' H4 => r' y w' H4 Q else Q (.bl false) H3)) : tChain r r' ta tb tc σ H Q := q
theorem i_T (q : A) : if true = true then A else B := by rw [if_pos rfl]; exact q
theorem i_F (q : B) : if false = true then A else B := by rw [if_neg Bool.false_ne_true]; exact q
theorem i_NT (q : B) : if (!true) = true then A else B := by rw [if_neg (by decide)]; exact q
theorem i_NF (q : A) : if (!false) = true then A else B := by rw [if_pos (by decide)]; exact q
theorem i_pos {c : Prop} [Decidable c] (h : c) (q : A) : if decide c = true then A else B := by rw [if_pos (decide_eq_true h)]; exact q
theorem i_neg {c : Prop} [Decidable c] (h : ¬ c) (q : B) : if decide c = true then A else B := by rw [if_neg (by simpa using h)]; exact q
theorem i_npos {c : Prop} [Decidable c] (h : ¬ c) (q : A) : if (!decide c) = true then A else B := by rw [if_pos (by simpa using h)]; exact q
theorem i_nneg {c : Prop} [Decidable c] (h : c) (q : B) : if (!decide c) = true then A else B := by rw [if_neg (by simpa using h)]; exact q
theorem i_cases {c : Prop} [Decidable c] (p : c → A) (n : ¬ c → B) : if decide c = true then A else B := by
  by_cases h : c
  · exact i_pos h (p h)
  · exact i_neg h (n h)
theorem i_ncases {c : Prop} [Decidable c] (p : ¬ c → A) (n : c → B) : if (!decide c) = true then A else B := by
  by_cases h : c
  · exact i_nneg h (n h)
  · exact i_npos h (p h)
theorem i_bool {b : Bool} (p : b = true → A) (n : b = false → B) : if b = true then A else B := by
  cases b with
  | true => exact i_T (p rfl)
  | false => exact i_F (n rfl)
/-- two at once -/
def uPar (i j : Nat) (vs : List V) (σ : St) (H : Hp) (nx : St → Hp → Prop) : Prop := ∃ v w, vs = [v, w] ∧ nx ((σ.set i (some v)).set j (some w)) H
/-! statements -/
theorem r_next (q : nx σ H) : tNext ⟨nx, rt, bk, ct⟩ σ H := q
theorem r_brk (q : bk σ H) : tBreak ⟨nx, rt, bk, ct⟩ σ H := q
theorem r_cont (q : ct σ H) : tCont ⟨nx, rt, bk, ct⟩ σ H := q
theorem r_seq (q : tu ⟨tw ⟨nx, rt, bk, ct⟩, rt, bk, ct⟩ σ H) : tSeq tu tw ⟨nx, rt, bk, ct⟩ σ H := q
theorem r_asg {i : Nat} (q : te σ H fun v H1 => nx (σ.set i (some v)) H1) : tAsg te (gName i) ⟨nx, rt, bk, ct⟩ σ H := q
theorem r_asgG {g : TG} (q : te σ H fun v H1 => g v σ H1 nx) : tAsg te g ⟨nx, rt, bk, ct⟩ σ H := q
theorem r_aug {i : Nat} {x : V} {ti : TIp} (h : σ[i]? = some (some x)) (q : te σ H fun y H1 => ti x y H1 fun z H2 => nx (σ.set i (some z)) H2) : tAug i te ti ⟨nx, rt, bk, ct⟩ σ H := ⟨x, h, q⟩
theorem r_ipI {g : Int → Int → Int} {i j : Int} (q : Q (.int (g i j)) H) : ipI g (.int i) (.int j) H Q := ⟨i, j, rfl, rfl, q⟩
theorem r_par {i j : Nat} (q : t σ H fun vs H1 => uPar i j vs σ H1 nx) : tPar i j t ⟨nx, rt, bk, ct⟩ σ H := q
theorem r_par2 {i j : Nat} {R : St → Hp → Prop} (q : R ((σ.set i (some x)).set j (some y)) H) : uPar i j [x, y] σ H R := ⟨x, y, rfl, q⟩
theorem r_drop (q : te σ H fun _ H1 => nx σ H1) : tDrop te ⟨nx, rt, bk, ct⟩ σ H := q
theorem r_ret (q : te σ H rt) : tRet te ⟨nx, rt, bk, ct⟩ σ H := q
theorem r_retN (q : rt .non H) : tRetN ⟨nx, rt, bk, ct⟩ σ H := q
theorem r_ifS (q : tt σ H fun b H1 => if b = true then tu ⟨nx, rt, bk, ct⟩ σ H1 else tw ⟨nx, rt, bk, ct⟩ σ H1) : tIfS tt tu tw ⟨nx, rt, bk, ct⟩ σ H := q
theorem r_start {tu : TS} {D : Ends} {N : List Str} {vs : List V} {σ' : St} (e : start N vs = σ') (q : tu D σ' H) : tu D (start N vs) H := by rw [e]; exact q
theorem r_set {i : Nat} {σ' : St} {P : St → Prop} (e : σ.set i (some v) = σ') (q : P σ') : P (σ.set i (some v)) := by rw [e]; exact q
end

/-! ### numbers of any size -/
theorem intBits_small {i : Int} {n : Nat} (h : i.natAbs < 2 ^ n) : Builtin.Int.intBits i ≤ n := by
  unfold Builtin.Int.intBits
  split
  · omega
  · rename_i h0
    have h1 : i.natAbs ≠ 0 := by simpa using h0
    have := (Nat.log2_lt h1).mpr h
    omega
theorem mul_l {i j : Int} (h1 : -(2 ^ 64) < i) (h2 : i < 2 ^ 64) : IntMulOk i j := .of_left (intBits_le_64 h1 h2)
theorem mul_r {i j : Int} (h1 : -(2 ^ 64) < j) (h2 : j < 2 ^ 64) : IntMulOk i j := .of_right (intBits_le_64 h1 h2)
theorem mul_b {i j : Int} {n m : Nat} (h1 : i.natAbs < 2 ^ n) (h2 : j.natAbs < 2 ^ m) (hn : n ≤ 1048576 := by decide) (hm : m ≤ 1048576 := by decide) : IntMulOk i j :=
  .of_bits (Nat.le_trans (intBits_small h1) (Nat.le_trans hn (by decide))) (Nat.le_trans (intBits_small h2) (Nat.le_trans hm (by decide)))
theorem div_b {i j : Int} {n : Nat} (h0 : 0 < j) (h : j.natAbs < 2 ^ n) (hn : n ≤ 9000 := by decide) (h1 : 0 < n := by decide) : CDivW i j := wide_div h0 h h1 hn
section
variable {X : Cx}
theorem op_mulY : OpR X (binaryOp .Mult) (rI IntMulOk fun i j => .int (i * j)) := opI fun _ _ _ _ _ _ _ hc q => mul_int q hc
theorem pe_powC {i j z : Int} {a b : Nat} {p1 p2 pos : Pos} (h : 0 ≤ j ∧ j ≤ 1000000 ∧ i.natAbs < 2 ^ 64) (e : i ^ j.toNat = z) :
    PE X (.BinOp (.Constant (.int i) a p1) .Pow (.Constant (.int j) b p2) pos) (tC (.int z)) := by
  have h1 : PE X (.BinOp (.Constant (.int i) a p1) .Pow (.Constant (.int j) b p2) pos) (tOp (rI CPow fun i j => .int (i ^ j.toNat)) (tC (.int i)) (tC (.int j))) := pe_op op_pow pe_int pe_int
  exact ⟨fun pins s σ H Q I q => h1.run pins s σ H Q I ⟨i, j, rfl, rfl, h, by
    show Q (.int (i ^ j.toNat)) H
    rw [e]; exact q⟩⟩
/-! ### built-ins by names of mine, that steps may see them -/
def uInt1 : List V → Hp → VK → Prop := fun xs H Q => (∃ i, xs = [.int i] ∧ Q (.int i) H) ∨ ∃ k, xs = [.bl k] ∧ Q (.int (if k then 1 else 0)) H
theorem c_int1 : CallR X (.type "int") uInt1 := call_int1
def uLen (K : PySem.W.Frag) : List V → Hp → VK → Prop := fun xs H Q => ∃ x n, xs = [x] ∧ LenV K x H n ∧ Q (.int n) H
theorem c_len : CallR X (.builtin "len") (uLen X.K) := call_len
def uAbs : List V → Hp → VK → Prop := fun xs H Q => ∃ i, xs = [.int i] ∧ Q (.int (if i < 0 then -i else i)) H
theorem c_abs : CallR X (.builtin "abs") uAbs := call_abs
def uMax2 : List V → Hp → VK → Prop := fun xs H Q => ∃ i j, xs = [.int i, .int j] ∧ Q (.int (if j > i then j else i)) H
theorem c_max2 (hc : X.calm = true) : CallR X (.builtin "max") uMax2 := call_max2 hc
def uMin2 : List V → Hp → VK → Prop := fun xs H Q => ∃ i j, xs = [.int i, .int j] ∧ Q (.int (if j < i then j else i)) H
theorem c_min2 (hc : X.calm = true) : CallR X (.builtin "min") uMin2 := call_min2 hc
def uStr : List V → Hp → VK → Prop := fun xs H Q => ∃ i, xs = [.int i] ∧ i.natAbs.log2 < 1920 ∧ Q (.str (toString i)) H
theorem c_str : CallR X (.type "str") uStr := call_str_int
def uTuple (K : PySem.W.Frag) : List V → Hp → VK → Prop := fun xs H Q => ∃ p ys, xs = [.ref p] ∧ ((SqL K H p ys ∧ ∀ l, H l = none → Q (.ref l) (upd H l (.tup ys))) ∨ (SqT K H p ys ∧ Q (.ref p) H))
theorem c_tuple : CallR X (.type "tuple") (uTuple X.K) := call_tuple_of
def uList (K : PySem.W.Frag) : List V → Hp → VK → Prop := fun xs H Q => ∃ p ys, xs = [.ref p] ∧ (SqL K H p ys ∨ SqT K H p ys) ∧ ∀ l, H l = none → Q (.ref l) (upd H l (.lst ys))
theorem c_list : CallR X (.type "list") (uList X.K) := call_list_of
def uIsB : R2 := fun x y H Q => ∃ a b, x = .bl a ∧ y = .bl b ∧ Q (.bl (decide (a = b))) H
theorem o_isB : OpR X (compareOp .Is) uIsB := op_is_bl
def uNotB : R2 := fun x y H Q => ∃ a b, x = .bl a ∧ y = .bl b ∧ Q (.bl (!decide (a = b))) H
theorem o_notB : OpR X (compareOp .IsNot) uNotB := op_isnot_bl
def uIsN : R2 := fun x y H Q => y = .non ∧ Q (.bl (decide (x = .non))) H
theorem o_isN : OpR X (compareOp .Is) uIsN := op_isN
def uNotN : R2 := fun x y H Q => y = .non ∧ Q (.bl (!decide (x = .non))) H
theorem o_notN : OpR X (compareOp .IsNot) uNotN := op_notN
/-- == of anything: scalars, data -/
def uEq (K : PySem.W.Frag) : R2 := fun x y H Q => rEq x y H Q ∨ rEqD K x y H Q
theorem o_eq (hu : X.A.units + 64 < cLine) : OpR X (compareOp .Eq) (uEq X.K) := op_eq.or (op_eqD hu)
def uNe (K : PySem.W.Frag) : R2 := fun x y H Q => rNe x y H Q ∨ rNeD K x y H Q
theorem o_ne (hu : X.A.units + 64 < cLine) : OpR X (compareOp .NotEq) (uNe X.K) := op_ne.or (op_neD hu)
end
section
variable {K : PySem.W.Frag} {σ : St} {H : Hp} {Q : VK} {v x y : V} {i j : Int} {a p : Addr} {xs : List V}
theorem r_int_i (q : Q (.int i) H) : uInt1 [.int i] H Q := .inl ⟨i, rfl, q⟩
theorem r_int_b {k : Bool} (q : Q (.int (if k = true then 1 else 0)) H) : uInt1 [.bl k] H Q := .inr ⟨k, rfl, q⟩
theorem r_len_l {n : Nat} (h : SqL K H a xs) (e : xs.length = n) (q : Q (.int n) H) : uLen K [.ref a] H Q := ⟨_, _, rfl, .inl ⟨xs, h, e.symm⟩, q⟩
theorem r_len_t {n : Nat} (h : SqT K H a xs) (e : xs.length = n) (q : Q (.int n) H) : uLen K [.ref a] H Q := ⟨_, _, rfl, .inr ⟨xs, h, e.symm⟩, q⟩
theorem r_len_s {z : Str} (h : z.length ≤ sizeLine) (q : Q (.int z.length) H) : uLen K [.str z] H Q := ⟨_, _, rfl, ⟨h, rfl⟩, q⟩
theorem r_abs (q : Q (.int (if i < 0 then -i else i)) H) : uAbs [.int i] H Q := ⟨i, rfl, q⟩
theorem r_max2 (q : Q (.int (if j > i then j else i)) H) : uMax2 [.int i, .int j] H Q := ⟨i, j, rfl, q⟩
theorem r_min2 (q : Q (.int (if j < i then j else i)) H) : uMin2 [.int i, .int j] H Q := ⟨i, j, rfl, q⟩
theorem r_tuple_l (h : SqL K H p xs) (q : ∀ l H', H l = none → Same H H' → H' l = some (.tup xs) → Q (.ref l) H') : uTuple K [.ref p] H Q := ⟨p, xs, rfl, .inl ⟨h, fun l hl => q l _ hl (Keep.same (Keep.new hl)) upd_same⟩⟩
theorem r_tuple_t (h : SqT K H p xs) (q : Q (.ref p) H) : uTuple K [.ref p] H Q := ⟨p, xs, rfl, .inr ⟨h, q⟩⟩
theorem r_list_l (h : SqL K H p xs) (q : ∀ l H', H l = none → Same H H' → H' l = some (.lst xs) → Q (.ref l) H') : uList K [.ref p] H Q := ⟨p, xs, rfl, .inl h, fun l hl => q l _ hl (Keep.same (Keep.new hl)) upd_same⟩
theorem r_list_t (h : SqT K H p xs) (q : ∀ l H', H l = none → Same H H' → H' l = some (.lst xs) → Q (.ref l) H') : uList K [.ref p] H Q := ⟨p, xs, rfl, .inr h, fun l hl => q l _ hl (Keep.same (Keep.new hl)) upd_same⟩
theorem r_isB {b c : Bool} (q : Q (.bl (decide (b = c))) H) : uIsB (.bl b) (.bl c) H Q := ⟨b, c, rfl, rfl, q⟩
theorem r_notB {b c : Bool} (q : Q (.bl (!decide (b = c))) H) : uNotB (.bl b) (.bl c) H Q := ⟨b, c, rfl, rfl, q⟩
theorem r_isN_n (q : Q (.bl true) H) : uIsN .non .non H Q := ⟨rfl, q⟩
theorem r_isN_i (q : Q (.bl false) H) : uIsN (.int i) .non H Q := ⟨rfl, q⟩
theorem r_isN_r (q : Q (.bl false) H) : uIsN (.ref a) .non H Q := ⟨rfl, q⟩
theorem r_isN_s {z : Str} (q : Q (.bl false) H) : uIsN (.str z) .non H Q := ⟨rfl, q⟩
theorem r_notN_n (q : Q (.bl false) H) : uNotN .non .non H Q := ⟨rfl, q⟩
theorem r_notN_i (q : Q (.bl true) H) : uNotN (.int i) .non H Q := ⟨rfl, q⟩
theorem r_notN_r (q : Q (.bl true) H) : uNotN (.ref a) .non H Q := ⟨rfl, q⟩
theorem r_notN_s {z : Str} (q : Q (.bl true) H) : uNotN (.str z) .non H Q := ⟨rfl, q⟩
theorem r_isN {k : Bool} (e : decide (x = V.non) = k) (q : Q (.bl k) H) : uIsN x .non H Q := ⟨rfl, by rw [e]; exact q⟩
theorem r_notN {k : Bool} (e : (!decide (x = V.non)) = k) (q : Q (.bl k) H) : uNotN x .non H Q := ⟨rfl, by rw [e]; exact q⟩
theorem r_eq_i (q : Q (.bl (decide (i = j))) H) : uEq K (.int i) (.int j) H Q := .inl (r_eqi q)
theorem r_ne_i (q : Q (.bl (!decide (i = j))) H) : uNe K (.int i) (.int j) H Q := .inl (r_nei q)
theorem r_eq_s {s t : Str} (q : Q (.bl (decide (s = t))) H) : uEq K (.str s) (.str t) H Q := .inl ⟨rfl, by
  have e : decide (V.str s = V.str t) = decide (s = t) := by rw [Bool.eq_iff_iff]; simp
  rw [e]; exact q⟩
theorem r_ne_s {s t : Str} (q : Q (.bl (!decide (s = t))) H) : uNe K (.str s) (.str t) H Q := .inl ⟨rfl, by
  have e : decide (V.str s = V.str t) = decide (s = t) := by rw [Bool.eq_iff_iff]; simp
  rw [e]; exact q⟩
theorem r_eq_d {d e : PyData} (hd : Dp K H x d) (he : Dp K H y e) (s1 : SeqAt.shaped d = true) (s2 : SeqAt.shaped e = true) (q : Q (.bl (PyData.eqv d e)) H) : uEq K x y H Q := .inr ⟨d, e, hd, he, s1, s2, q⟩
theorem r_ne_d {d e : PyData} (hd : Dp K H x d) (he : Dp K H y e) (s1 : SeqAt.shaped d = true) (s2 : SeqAt.shaped e = true) (q : Q (.bl (!PyData.eqv d e)) H) : uNe K x y H Q := .inr ⟨d, e, hd, he, s1, s2, q⟩
theorem r_ixl (h : SqL K H p xs) (e : atI xs i = some v) (q : Q v H) : rIx K (.ref p) (.int i) H Q := .inl ⟨p, xs, i, v, rfl, rfl, h, e, q⟩
theorem r_ixt (h : SqT K H p xs) (e : atI xs i = some v) (q : Q v H) : rIx K (.ref p) (.int i) H Q := .inr (.inl ⟨p, xs, i, v, rfl, rfl, h, e, q⟩)
theorem r_ixs {z : Str} {c : Nat} (h : z.length ≤ sizeLine) (e : atI z.cps.toList i = some c) (q : Q (.str ⟨#[c]⟩) H) : rIx K (.str z) (.int i) H Q := .inr (.inr ⟨z, i, c, rfl, rfl, h, e, q⟩)
theorem r_gsub {to ti : TE} {t : TSet} {R : St → Hp → Prop} (q : to σ H fun o H1 => ti σ H1 fun i H2 => t o i v H2 fun H3 => R σ H3) : gSub to ti t v σ H R := q
theorem r_gname {i : Nat} {R : St → Hp → Prop} (q : R (σ.set i (some v)) H) : gName i v σ H R := q
theorem r_setl {R : Hp → Prop} {j : Nat} (h : H p = some (.lst xs)) (e : ixN xs.length i = some j) (q : ∀ H', Keep (At p) H H' → H' p = some (.lst (xs.set j v)) → R H') : rSetL (.ref p) (.int i) v H R := ⟨p, xs, i, j, rfl, rfl, h, e, q _ Keep.at_ upd_same⟩
theorem r_gtup {n : Nat} {t : TGs} {R : St → Hp → Prop} (h : SqT K H a xs) (e : xs.length = n) (q : t xs σ H R) : gTup K n t (.ref a) σ H R := ⟨a, xs, rfl, h, e, q⟩
theorem r_glst {n : Nat} {t : TGs} {R : St → Hp → Prop} (h : SqL K H a xs) (e : xs.length = n) (q : t xs σ H R) : gLst K n t (.ref a) σ H R := ⟨a, xs, rfl, h, e, q⟩
theorem r_gcons {t : TG} {u : TGs} {vs : List V} {R : St → Hp → Prop} (q : t v σ H fun σ' H' => u vs σ' H' R) : gCons t u (v :: vs) σ H R := ⟨v, vs, rfl, q⟩
theorem r_gnil {R : St → Hp → Prop} (q : R σ H) : gNil [] σ H R := ⟨rfl, q⟩
theorem r_all {bs : List Bool} (h : SqL K H a (bs.map V.bl)) (q : Q (.bl (bs.all id)) H) : rAll K [.ref a] H Q := ⟨a, bs, rfl, h, q⟩
theorem r_allT (h : SqL K H a xs) (hx : ∀ v ∈ xs, v = V.bl true) (q : Q (.bl true) H) : rAll K [.ref a] H Q := by
  have e : xs = (xs.map fun _ => true).map V.bl := by
    rw [List.map_map]
    have : xs = xs.map id := by simp
    rw [this]
    simp only [List.map_map]
    exact List.map_congr_left fun v hv => hx v hv
  have e2 : (xs.map fun _ => true).all id = true := by simp
  refine r_all (bs := xs.map fun _ => true) (by rw [← e]; exact h) ?_
  rw [e2]
  exact q
theorem r_any {bs : List Bool} (h : SqL K H a (bs.map V.bl)) (q : Q (.bl (bs.any id)) H) : rAny K [.ref a] H Q := ⟨a, bs, rfl, h, q⟩
/-! isinstance -/
def tyN : PyData → String
  | .none => "NoneType"
  | .bool _ => "bool"
  | .int _ => "int"
  | .str _ => "str"
  | .list _ => "list"
  | .tuple _ => "tuple"
  | .dict _ => "dict"
def isK (n t : String) : Bool := n == t || (t == "bool" && n == "int")
def isT (n : String) (d : PyData) : Bool := isK n (tyN d)
def tyD (d : PyData) : Value := .type (tyN d)
theorem kit_tab {t n : String} (ht : t = "NoneType" ∨ t = "bool" ∨ t = "int" ∨ t = "str" ∨ t = "list" ∨ t = "tuple" ∨ t = "dict") (hn : n = "int" ∨ n = "bool" ∨ n = "tuple" ∨ n = "str" ∨ n = "list") : kitB t n = some (isK n t) := by
  rcases ht with rfl | rfl | rfl | rfl | rfl | rfl | rfl <;> rcases hn with rfl | rfl | rfl | rfl | rfl <;> decide +kernel
theorem dp_ty {d : PyData} (h : Dp K H v d) : TyX K H v (tyD d) := by
  cases h with
  | non => exact .base .non
  | bl b => exact .base (.bl b)
  | int i => exact .base (.int i)
  | str s => exact .base (.str s)
  | lst hs _ =>
    rcases hs with (hs | ⟨o, hs⟩) | ⟨o, its, n, hk, hc, _⟩
    · exact .base (.lst hs)
    · exact .base (.frz hs)
    · exact .kList hk hc
  | tup hs _ =>
    rcases hs with (hs | ⟨o, hs⟩) | ⟨o, its, n, hk, hc, _⟩
    · exact .base (.tup hs)
    · exact .fTuple hs
    · exact .kTuple hk hc
theorem r_isi {d : PyData} {n : String} (h : Dp K H v d) (hn : n = "int" ∨ n = "bool" ∨ n = "tuple" ∨ n = "str" ∨ n = "list") (q : Q (.bl (isT n d)) H) : rIsi K [v, .ty n] H Q := by
  refine ⟨v, .ty n, tyD d, .type n, isT n d, rfl, .ty n, dp_ty h, ?_, q⟩
  refine kit_ty (kit_tab ?_ hn)
  cases d <;> simp [tyN]
end

section
variable {K : PySem.W.Frag} {H : Hp} {Q : VK} {a : Addr} {xs : List V} {i : Int} {b : Bool} {z : Str}
theorem r_isi_ii (q : Q (.bl true) H) : rIsi K [.int i, .ty "int"] H Q := r_isi (n := "int") (.int i) (by decide) q
theorem r_isi_ib (q : Q (.bl false) H) : rIsi K [.int i, .ty "bool"] H Q := r_isi (n := "bool") (.int i) (by decide) q
theorem r_isi_it (q : Q (.bl false) H) : rIsi K [.int i, .ty "tuple"] H Q := r_isi (n := "tuple") (.int i) (by decide) q
theorem r_isi_is (q : Q (.bl false) H) : rIsi K [.int i, .ty "str"] H Q := r_isi (n := "str") (.int i) (by decide) q
theorem r_isi_ni (q : Q (.bl false) H) : rIsi K [.non, .ty "int"] H Q := r_isi (n := "int") .non (by decide) q
theorem r_isi_nt (q : Q (.bl false) H) : rIsi K [.non, .ty "tuple"] H Q := r_isi (n := "tuple") .non (by decide) q
theorem r_isi_bb (q : Q (.bl true) H) : rIsi K [.bl b, .ty "bool"] H Q := r_isi (n := "bool") (.bl b) (by decide) q
theorem r_isi_bi (q : Q (.bl true) H) : rIsi K [.bl b, .ty "int"] H Q := r_isi (n := "int") (.bl b) (by decide) q
theorem r_isi_ss (q : Q (.bl true) H) : rIsi K [.str z, .ty "str"] H Q := r_isi (n := "str") (.str z) (by decide) q
theorem r_isi_si (q : Q (.bl false) H) : rIsi K [.str z, .ty "int"] H Q := r_isi (n := "int") (.str z) (by decide) q
theorem r_isi_st (q : Q (.bl false) H) : rIsi K [.str z, .ty "tuple"] H Q := r_isi (n := "tuple") (.str z) (by decide) q
theorem tyX_tup (h : SqT K H a xs) : TyX K H (.ref a) (.type "tuple") := by
  rcases h with (hs | ⟨o, hs⟩) | ⟨o, its, n, hk, hc, _⟩
  · exact .base (.tup hs)
  · exact .fTuple hs
  · exact .kTuple hk hc
theorem tyX_lst (h : SqL K H a xs) : TyX K H (.ref a) (.type "list") := by
  rcases h with (hs | ⟨o, hs⟩) | ⟨o, its, n, hk, hc, _⟩
  · exact .base (.lst hs)
  · exact .base (.frz hs)
  · exact .kList hk hc
theorem r_isi_tt (h : SqT K H a xs) (q : Q (.bl true) H) : rIsi K [.ref a, .ty "tuple"] H Q := ⟨_, _, _, _, true, rfl, .ty "tuple", tyX_tup h, kit_ty (kit_tab (by decide) (by decide)), q⟩
theorem r_isi_ti (h : SqT K H a xs) (q : Q (.bl false) H) : rIsi K [.ref a, .ty "int"] H Q := ⟨_, _, _, _, false, rfl, .ty "int", tyX_tup h, kit_ty (kit_tab (by decide) (by decide)), q⟩
end
/-! ### walks: how many turns, what each turn yields -/
structure Wk (J : It) (n : Nat) (src : Hp → Prop) (item : Nat → Hp → V → Hp → Prop) : Prop where
  go : ∀ i H, src H → i < n → J.go i H
  stop : ∀ i H, src H → n ≤ i → J.stop i H
  yld : ∀ i H x H', src H → J.yld i H x H' → item i H x H'
section
variable {K : PySem.W.Frag} {a b : Addr} {xs ys : List V}
theorem wk_list : Wk (Itl K a) xs.length (fun H => SqL K H a xs) (fun i H x H' => H' = H ∧ xs[i]? = some x) where
  go := fun i H h hi => ⟨xs, xs[i], h, by simp [hi]⟩
  stop := fun i H h hi => ⟨xs, h, hi⟩
  yld := fun i H x H' h y => by obtain ⟨e, y⟩ := y; exact ⟨e, y xs h⟩
theorem wk_tup : Wk (Itt K a) xs.length (fun H => SqT K H a xs) (fun i H x H' => H' = H ∧ xs[i]? = some x) where
  go := fun i H h hi => ⟨xs, xs[i], h, by simp [hi]⟩
  stop := fun i H h hi => ⟨xs, h, hi⟩
  yld := fun i H x H' h y => by obtain ⟨e, y⟩ := y; exact ⟨e, y xs h⟩
theorem wk_rng {lo : Int} {n : Nat} : Wk (Itr lo n) n (fun _ => True) (fun i H x H' => H' = H ∧ x = .int (lo + i)) where
  go := fun i H _ hi => hi
  stop := fun i H _ hi => hi
  yld := fun i H x H' _ y => y
theorem wk_rngC {lo c : Int} {n : Nat} : Wk (Itc lo c n) n (fun _ => True) (fun i H x H' => H' = H ∧ x = .int (lo + (i : Nat) * c)) where
  go := fun i H _ hi => hi
  stop := fun i H _ hi => hi
  yld := fun i H x H' _ y => y
theorem wk_zipL : Wk (Itz K a b) (min xs.length ys.length) (fun H => SqL K H a xs ∧ SqL K H b ys) (fun i H v H' => ∃ T x y, v = .ref T ∧ H T = none ∧ H' = upd H T (.tup [x, y]) ∧ xs[i]? = some x ∧ ys[i]? = some y) where
  go := fun i H h hi => ⟨xs, ys, xs[i]'(by omega), ys[i]'(by omega), h.1, h.2, by simp, by simp⟩
  stop := fun i H h hi => ⟨xs, ys, h.1, h.2, by omega⟩
  yld := fun i H v H' h y => by
    obtain ⟨T, x, z, e1, e2, e3, e4, e5⟩ := y
    exact ⟨T, x, z, e1, e2, e3, e4 xs h.1, e5 ys h.2⟩
theorem wk_zipT : Wk (RZ.ItzT K a b) (min xs.length ys.length) (fun H => SqT K H a xs ∧ SqT K H b ys) (fun i H v H' => ∃ T x y, v = .ref T ∧ H T = none ∧ H' = upd H T (.tup [x, y]) ∧ xs[i]? = some x ∧ ys[i]? = some y) where
  go := fun i H h hi => ⟨xs, ys, xs[i]'(by omega), ys[i]'(by omega), h.1, h.2, by simp, by simp⟩
  stop := fun i H h hi => ⟨xs, ys, h.1, h.2, by omega⟩
  yld := fun i H v H' h y => by
    obtain ⟨T, x, z, e1, e2, e3, e4, e5⟩ := y
    exact ⟨T, x, z, e1, e2, e3, e4 xs h.1, e5 ys h.2⟩
end
/-- what a for asks once it is known what it walks -/
def ForW (J : It) (g : TG) (tb : TS) : TS := fun D σ H => ∃ W : Nat → Nat → St → Hp → Prop, (∃ m, W 0 m σ H) ∧ ∀ i m σ H, W i m σ H →
  (J.stop i H ∧ D.nx σ H) ∨ (J.go i H ∧ ∃ N : St → Hp → Prop, (∀ σ' H', N σ' H' → ∃ m', m' < m ∧ W (i + 1) m' σ' H') ∧ ∀ x H', J.yld i H x H' → g x σ H' fun σ2 H2 => tb { D with nx := N, ct := N, bk := D.nx } σ2 H2)
def LcW (J : It) (g : TG) (tt : TT) (te : TE) (vs : List Nat) : TE := fun σ H1 Q => ∀ D, H1 D = none → ∃ W : Nat → Nat → Hp → Prop, (∃ m, W 0 m (upd H1 D (.lst []))) ∧ ∀ i m H, W i m H →
  (J.stop i H ∧ Q (.ref D) H) ∨ (J.go i H ∧ ∃ Nx : Hp → Prop, (∀ H', Nx H' → ∃ m', m' < m ∧ W (i + 1) m' H') ∧ ∀ x H', J.yld i H x H' → g x (wipe σ vs) H' fun σ2 H2 => wipe σ2 vs = wipe σ vs ∧ tt σ2 H2 fun b H3 =>
    if b = true then te σ2 H3 fun y H4 => ∃ acc, H4 D = some (.lst acc) ∧ acc.length < sizeLine ∧ Nx (upd H4 D (.lst (acc ++ [y]))) else Nx H3)
section
variable {K : PySem.W.Frag} {σ : St} {H : Hp} {Q : VK} {ta tl te : TE} {tt : TT} {tb : TS} {g : TG} {wi : TI} {nx bk ct : St → Hp → Prop} {rt : VK} {vs : List Nat} {J : It} {n : Nat} {src : Hp → Prop} {item : Nat → Hp → V → Hp → Prop} {a b : Addr} {xs ys : List V}
theorem r_for (q : wi σ H fun J H1 => ForW J g tb ⟨nx, rt, bk, ct⟩ σ H1) : tFor wi g tb ⟨nx, rt, bk, ct⟩ σ H := q
theorem r_lc (q : wi σ H fun J H1 => LcW J g tt te vs σ H1 Q) : tLc wi g tt te vs σ H Q := q
/-- a list or a tuple that is walked -/
def uWalk (K : PySem.W.Frag) (x : V) (H : Hp) (R : It → Hp → Prop) (l : Bool) : Prop := ∃ a, x = .ref a ∧ (if l = true then (∃ xs, SqL K H a xs) ∧ R (Itl K a) H else (∃ xs, SqT K H a xs) ∧ R (Itt K a) H)
theorem r_ilist {R : It → Hp → Prop} (q : tl σ H fun x H1 => uWalk K x H1 R true) : iList K tl σ H R := by
  have e : (fun (x : V) (H1 : Hp) => uWalk K x H1 R true) = fun x H1 => ∃ a, x = .ref a ∧ (∃ xs, SqL K H1 a xs) ∧ R (Itl K a) H1 := by
    funext x H1
    simp [uWalk]
  rw [e] at q
  exact q
theorem r_itup {R : It → Hp → Prop} (q : tl σ H fun x H1 => uWalk K x H1 R false) : iTup K tl σ H R := by
  have e : (fun (x : V) (H1 : Hp) => uWalk K x H1 R false) = fun x H1 => ∃ a, x = .ref a ∧ (∃ xs, SqT K H1 a xs) ∧ R (Itt K a) H1 := by
    funext x H1
    simp [uWalk]
  rw [e] at q
  exact q
theorem r_wl {R : It → Hp → Prop} (h : SqL K H a xs) (q : R (Itl K a) H) : uWalk K (.ref a) H R true := ⟨a, rfl, by rw [if_pos rfl]; exact ⟨⟨xs, h⟩, q⟩⟩
theorem r_wt {R : It → Hp → Prop} (h : SqT K H a xs) (q : R (Itt K a) H) : uWalk K (.ref a) H R false := ⟨a, rfl, by rw [if_neg (by decide)]; exact ⟨⟨xs, h⟩, q⟩⟩
def uRng1 (vs : List V) (H : Hp) (R : It → Hp → Prop) : Prop := ∃ j : Int, vs = [.int j] ∧ -(2 ^ 62) ≤ j ∧ j < 2 ^ 62 ∧ R (Itr 0 j.toNat) H
def uRng2 (vs : List V) (H : Hp) (R : It → Hp → Prop) : Prop := ∃ i j : Int, vs = [.int i, .int j] ∧ (-(2 ^ 62) ≤ i ∧ i < 2 ^ 62 ∧ -(2 ^ 62) ≤ j ∧ j < 2 ^ 62) ∧ R (Itr i (j - i).toNat) H
theorem r_irng1 {t : TA} {R : It → Hp → Prop} (q : t σ H fun vs H1 => uRng1 vs H1 R) : iRng1 t σ H R := q
theorem r_irng2 {t : TA} {R : It → Hp → Prop} (q : t σ H fun vs H1 => uRng2 vs H1 R) : iRng2 t σ H R := q
theorem r_rng1 {j : Int} {R : It → Hp → Prop} (h1 : -(2 ^ 62) ≤ j) (h2 : j < 2 ^ 62) (q : R (Itr 0 j.toNat) H) : uRng1 [.int j] H R := ⟨j, rfl, h1, h2, q⟩
theorem r_rng2 {i j : Int} {R : It → Hp → Prop} (h1 : -(2 ^ 62) ≤ i) (h2 : i < 2 ^ 62) (h3 : -(2 ^ 62) ≤ j) (h4 : j < 2 ^ 62) (q : R (Itr i (j - i).toNat) H) : uRng2 [.int i, .int j] H R := ⟨i, j, rfl, ⟨h1, h2, h3, h4⟩, q⟩
def uZip (K : PySem.W.Frag) (vs : List V) (H : Hp) (R : It → Hp → Prop) : Prop := ∃ a b xs ys, vs = [.ref a, .ref b] ∧ ((SqL K H a xs ∧ SqL K H b ys ∧ R (Itz K a b) H) ∨ (SqT K H a xs ∧ SqT K H b ys ∧ R (RZ.ItzT K a b) H))
theorem r_izip {t : TA} {R : It → Hp → Prop} (q : t σ H fun vs H1 => uZip K vs H1 R) : RZ.iZipA K t σ H R := q
theorem r_zipL {R : It → Hp → Prop} (h1 : SqL K H a xs) (h2 : SqL K H b ys) (q : R (Itz K a b) H) : uZip K [.ref a, .ref b] H R := ⟨a, b, xs, ys, rfl, .inl ⟨h1, h2, q⟩⟩
theorem r_zipT {R : It → Hp → Prop} (h1 : SqT K H a xs) (h2 : SqT K H b ys) (q : R (RZ.ItzT K a b) H) : uZip K [.ref a, .ref b] H R := ⟨a, b, xs, ys, rfl, .inr ⟨h1, h2, q⟩⟩

/-- a for by its invariant -/
theorem for_wk (w : Wk J n src item) (Pv : Nat → St → Hp → Prop) (h0 : Pv 0 σ H) (hsrc : ∀ i σ H, i ≤ n → Pv i σ H → src H)
    (hs : ∀ i x σ H H', i < n → Pv i σ H → item i H x H' → g x σ H' fun σ2 H2 => tb ⟨Pv (i + 1), rt, nx, Pv (i + 1)⟩ σ2 H2) (hd : ∀ σ H, Pv n σ H → nx σ H) :
    ForW J g tb ⟨nx, rt, bk, ct⟩ σ H := by
  refine ⟨fun i m σ H => m = n - i ∧ i ≤ n ∧ Pv i σ H, ⟨n, by simp, Nat.zero_le _, h0⟩, ?_⟩
  rintro i m σ H ⟨rfl, hi, p⟩
  have q := hsrc i σ H hi p
  by_cases hlt : i < n
  · refine .inr ⟨w.go i H q hlt, Pv (i + 1), fun σ' H' p' => ⟨n - (i + 1), by omega, rfl, hlt, p'⟩, fun x H' y => ?_⟩
    exact hs i x σ H H' hlt p (w.yld i H x H' q y)
  · have e : i = n := by omega
    subst e
    exact .inl ⟨w.stop i H q (Nat.le_refl _), hd σ H p⟩
theorem lc_wk (w : Wk J n src item) (Pv : Addr → Nat → Hp → Prop) (h0 : ∀ D, H D = none → Pv D 0 (upd H D (.lst []))) (hsrc : ∀ D i H, i ≤ n → Pv D i H → src H)
    (hs : ∀ D i x H2 H', H D = none → i < n → Pv D i H2 → item i H2 x H' → g x (wipe σ vs) H' fun σ2 H2 => wipe σ2 vs = wipe σ vs ∧ tt σ2 H2 fun b H3 =>
      if b = true then te σ2 H3 fun y H4 => ∃ acc, H4 D = some (.lst acc) ∧ acc.length < sizeLine ∧ Pv D (i + 1) (upd H4 D (.lst (acc ++ [y]))) else Pv D (i + 1) H3)
    (hd : ∀ D H', H D = none → Pv D n H' → Q (.ref D) H') : LcW J g tt te vs σ H Q := by
  intro D hD
  refine ⟨fun i m H => m = n - i ∧ i ≤ n ∧ Pv D i H, ⟨n, by simp, Nat.zero_le _, h0 D hD⟩, ?_⟩
  rintro i m H2 ⟨rfl, hi, p⟩
  have q := hsrc D i H2 hi p
  by_cases hlt : i < n
  · refine .inr ⟨w.go i H2 q hlt, Pv D (i + 1), fun H' p' => ⟨n - (i + 1), by omega, rfl, hlt, p'⟩, fun x H' y => ?_⟩
    exact hs D i x H2 H' hD hlt p (w.yld i H2 x H' q y)
  · have e : i = n := by omega
    subst e
    exact .inl ⟨w.stop i H2 q (Nat.le_refl _), hd D H2 hD p⟩
theorem wipe_one {j : Nat} {x : V} : wipe ((wipe σ [j]).set j (some x)) [j] = wipe σ [j] := by
  simp [wipe, List.set_set]
theorem take_snoc {α : Type} : ∀ {l : List α} {i : Nat} {x : α}, l[i]? = some x → l.take (i + 1) = l.take i ++ [x]
  | [], i, x, h => by simp at h
  | a :: l, 0, x, h => by
    have e : a = x := Option.some.inj h
    subst e; rfl
  | a :: l, i + 1, x, h => by
    have ih := take_snoc (l := l) (i := i) (x := x) h
    show a :: l.take (i + 1) = a :: l.take i ++ [x]
    rw [ih]; rfl
/-- a comprehension over one name whose element and test are pure: known values -/
theorem lc_pure {j : Nat} (w : Wk J xs.length src (fun i H x H' => H' = H ∧ xs[i]? = some x)) (hsrc : ∀ H', Same H H' → src H') (hn : xs.length ≤ 16777216) (f : V → Bool) (v : V → V)
    (ht : ∀ x H2 (R : Bool → Hp → Prop), x ∈ xs → Same H H2 → (∀ H3, Same H2 H3 → R (f x) H3) → tt ((wipe σ [j]).set j (some x)) H2 R)
    (he : ∀ x H2 (R : VK), x ∈ xs → f x = true → Same H H2 → (∀ H3, Same H2 H3 → R (v x) H3) → te ((wipe σ [j]).set j (some x)) H2 R)
    (q : ∀ D H', H D = none → Same H H' → H' D = some (.lst ((xs.filter f).map v)) → Q (.ref D) H') : LcW J (gName j) tt te [j] σ H Q := by
  refine lc_wk w (fun D i H' => H D = none ∧ Same H H' ∧ H' D = some (.lst (((xs.take i).filter f).map v))) (fun D hD => ⟨hD, fun b o e => by rw [upd_ne (ne_of_none e hD)]; exact e, by simp [upd_same]⟩)
    (fun D i H' _ p => hsrc H' p.2.1) ?_ (fun D H' hD p => q D H' hD p.2.1 (by have := p.2.2; rw [List.take_length] at this; exact this))
  rintro D i x H2 H' hD hi ⟨p1, p2, p3⟩ ⟨rfl, hx⟩
  have hm : x ∈ xs := List.mem_of_getElem? hx
  show wipe ((wipe σ [j]).set j (some x)) [j] = wipe σ [j] ∧ tt ((wipe σ [j]).set j (some x)) H' _
  refine ⟨wipe_one, ht x H' _ hm p2 fun H3 e3 => ?_⟩
  have t3 := take_snoc hx
  have hl : ((xs.take i).filter f).length ≤ i := Nat.le_trans (List.length_filter_le _ _) (by simp; omega)
  cases hf : f x with
  | true =>
    refine i_T (he x H3 _ hm hf (p2.trans e3) fun H4 e4 => ⟨_, e4 _ _ (e3 _ _ p3), by rw [List.length_map, sizeLine_eq]; omega, hD, fun b o e => ?_, ?_⟩)
    · rw [upd_ne (ne_of_none e hD)]; exact e4 _ _ (e3 _ _ (p2 _ _ e))
    · rw [upd_same, t3, List.filter_append, List.map_append]
      simp [hf]
  | false =>
    refine i_F ⟨hD, p2.trans e3, ?_⟩
    rw [t3, List.filter_append, List.map_append]
    simp [hf]
    exact e3 _ _ p3
/-- .. whose elements are told by a relation that stays where tuples stay -/
theorem lc_rel {j : Nat} (w : Wk J xs.length src (fun i H x H' => H' = H ∧ xs[i]? = some x)) (hsrc : ∀ H', Same H H' → src H') (hn : xs.length ≤ 16777216) (f : V → Bool) (R : Hp → V → V → Prop) (hR : ∀ H H' x y, TExt H H' → R H x y → R H' x y)
    (ht : ∀ x H2 (S : Bool → Hp → Prop), x ∈ xs → Same H H2 → (∀ H3, Same H2 H3 → S (f x) H3) → tt ((wipe σ [j]).set j (some x)) H2 S)
    (he : ∀ x H2 (S : VK), x ∈ xs → f x = true → Same H H2 → (∀ y H3, Same H2 H3 → R H3 x y → S y H3) → te ((wipe σ [j]).set j (some x)) H2 S)
    (q : ∀ D H' ys, H D = none → Same H H' → H' D = some (.lst ys) → Paired (R H') (xs.filter f) ys → Q (.ref D) H') : LcW J (gName j) tt te [j] σ H Q := by
  refine lc_wk w (fun D i H' => H D = none ∧ Same H H' ∧ ∃ ys, H' D = some (.lst ys) ∧ Paired (R H') ((xs.take i).filter f) ys) (fun D hD => ⟨hD, fun b o e => by rw [upd_ne (ne_of_none e hD)]; exact e, [], by simp [upd_same], by simpa using Paired.nil⟩)
    (fun D i H' _ p => hsrc H' p.2.1) ?_ (fun D H' hD p => by obtain ⟨p1, p2, ys, p3, p4⟩ := p; rw [List.take_length] at p4; exact q D H' ys hD p2 p3 p4)
  rintro D i x H2 H' hD hi ⟨p1, p2, ys, p3, p4⟩ ⟨rfl, hx⟩
  have hm : x ∈ xs := List.mem_of_getElem? hx
  show wipe ((wipe σ [j]).set j (some x)) [j] = wipe σ [j] ∧ tt ((wipe σ [j]).set j (some x)) H' _
  refine ⟨wipe_one, ht x H' _ hm p2 fun H3 e3 => ?_⟩
  have t3 := take_snoc hx
  have hl : ((xs.take i).filter f).length ≤ i := Nat.le_trans (List.length_filter_le _ _) (by simp; omega)
  have hl2 := p4.length
  cases hf : f x with
  | true =>
    refine i_T (he x H3 _ hm hf (p2.trans e3) fun y H4 e4 hy => ⟨ys, e4 _ _ (e3 _ _ p3), by rw [sizeLine_eq]; omega, hD, fun b o e => ?_, ys ++ [y], upd_same, ?_⟩)
    · rw [upd_ne (ne_of_none e hD)]; exact e4 _ _ (e3 _ _ (p2 _ _ e))
    · have te2 : TExt H4 (upd H4 D (.lst (ys ++ [y]))) := TExt.lst Keep.at_ (e4 _ _ (e3 _ _ p3))
      rw [t3, List.filter_append]
      simp only [List.filter_cons, hf, List.filter_nil, if_true]
      exact (Paired.mapP p4 fun u z r => hR _ _ _ _ ((TExt.of_same (e3.trans e4)).trans te2) r).snoc (hR _ _ _ _ te2 hy)
  | false =>
    refine i_F ⟨hD, p2.trans e3, ys, e3 _ _ p3, ?_⟩
    rw [t3, List.filter_append]
    simp [hf]
    exact Paired.mapP p4 fun u z r => hR _ _ _ _ (TExt.of_same e3) r
theorem filter_all {α : Type} (l : List α) : l.filter (fun _ => true) = l := List.filter_eq_self.mpr (by simp)
theorem lc_map {j : Nat} (w : Wk J xs.length src (fun i H x H' => H' = H ∧ xs[i]? = some x)) (hsrc : ∀ H', Same H H' → src H') (hn : xs.length ≤ 16777216) (v : V → V)
    (he : ∀ x H2 (R : VK), x ∈ xs → Same H H2 → (∀ H3, Same H2 H3 → R (v x) H3) → te ((wipe σ [j]).set j (some x)) H2 R)
    (q : ∀ D H', H D = none → Same H H' → H' D = some (.lst (xs.map v)) → Q (.ref D) H') : LcW J (gName j) tYes te [j] σ H Q :=
  lc_pure w hsrc hn (fun _ => true) v (fun x H2 R _ _ k => k H2 (Same.refl H2)) (fun x H2 R hx _ e k => he x H2 R hx e k) (fun D H' hD e hl => q D H' hD e (by rw [filter_all] at hl; exact hl))
theorem lc_mapR {j : Nat} (w : Wk J xs.length src (fun i H x H' => H' = H ∧ xs[i]? = some x)) (hsrc : ∀ H', Same H H' → src H') (hn : xs.length ≤ 16777216) (R : Hp → V → V → Prop) (hR : ∀ H H' x y, TExt H H' → R H x y → R H' x y)
    (he : ∀ x H2 (S : VK), x ∈ xs → Same H H2 → (∀ y H3, Same H2 H3 → R H3 x y → S y H3) → te ((wipe σ [j]).set j (some x)) H2 S)
    (q : ∀ D H' ys, H D = none → Same H H' → H' D = some (.lst ys) → Paired (R H') xs ys → Q (.ref D) H') : LcW J (gName j) tYes te [j] σ H Q :=
  lc_rel w hsrc hn (fun _ => true) R hR (fun x H2 S _ _ k => k H2 (Same.refl H2)) (fun x H2 S hx _ e k => he x H2 S hx e k) (fun D H' ys hD e hl hp => q D H' ys hD e hl (by rw [filter_all] at hp; exact hp))
end
/-! ### more steps -/
section
variable {K : PySem.W.Frag} {H H' : Hp} {Q : VK} {p q a b : Addr} {F : Addr → Prop} {xs ys : List V} {σ : St} {te : TE} {tl th : TO} {lo hi : Option Int} {v : V}
theorem r_sl {r : V → Option Int → Option Int → Hp → VK → Prop} (q : te σ H fun x H1 => tl σ H1 fun l H2 => th σ H2 fun u H3 => r x l u H3 Q) : tSl r te tl th σ H Q := q
theorem r_nopart {R : Option Int → Hp → Prop} (q : R none H) : tNoPart σ H R := q
def uPart (x : V) (H : Hp) (R : Option Int → Hp → Prop) : Prop := ∃ i, x = .int i ∧ R (some i) H
theorem r_part {R : Option Int → Hp → Prop} (q : te σ H fun x H1 => uPart x H1 R) : tPart te σ H R := q
theorem r_parti {i : Int} {R : Option Int → Hp → Prop} (q : R (some i) H) : uPart (.int i) H R := ⟨i, rfl, q⟩
theorem r_sll (h : SqL K H a xs) (q : ∀ p H', H p = none → Same H H' → H' p = some (.lst (cutV xs lo hi)) → Q (.ref p) H') : rSlL K (.ref a) lo hi H Q :=
  ⟨a, xs, rfl, h, fun p hp => q p _ hp (Keep.same (Keep.new hp)) upd_same⟩
theorem r_sla (h : SqT K H a xs) (q : ∀ p H', Same H H' → SqT K H' p (cutV xs lo hi) → Q (.ref p) H') : rSlA K (.ref a) lo hi H Q := by
  refine ⟨a, xs, rfl, h, fun e => q a H (Same.refl H) ?_, fun _ p hp => q p _ (Keep.same (Keep.new hp)) (SqT.of upd_same)⟩
  unfold cutV
  rw [e.1, e.2]
  simpa using h
theorem r_cat (h1 : H a = some (.lst xs)) (h2 : H b = some (.lst ys)) (hz : xs.length + ys.length ≤ sizeLine) (q : ∀ p H', H p = none → Same H H' → H' p = some (.lst (xs ++ ys)) → Q (.ref p) H') : rCat (.ref a) (.ref b) H Q :=
  ⟨a, b, xs, ys, rfl, rfl, h1, h2, hz, fun p hp => q p _ hp (Keep.same (Keep.new hp)) upd_same⟩
theorem r_catA (h1 : SqT K H a xs) (h2 : SqT K H b ys) (hz : xs.length + ys.length ≤ sizeLine) (q : ∀ p H', Same H H' → SqT K H' p (xs ++ ys) → Q (.ref p) H') : rCatA K (.ref a) (.ref b) H Q := by
  refine ⟨a, b, xs, ys, rfl, rfl, h1, h2, hz, fun e => ?_, fun _ e => ?_, fun _ _ p hp => q p _ (Keep.same (Keep.new hp)) (SqT.of upd_same)⟩
  · subst e
    exact q b H (Same.refl H) (by simpa using h2)
  · subst e
    exact q a H (Same.refl H) (by simpa using h1)
def uBM (K : PySem.W.Frag) (T : String) (r : V → List V → Hp → VK → Prop) (t : TA) (σ : St) (x : V) (H : Hp) (Q : VK) : Prop := tyV K T x H ∧ t σ H fun xs H2 => r x xs H2 Q
theorem r_bm {T : String} {r : V → List V → Hp → VK → Prop} {t : TA} (q : te σ H fun x H1 => uBM K T r t σ x H1 Q) : tBM K T r te t σ H Q := q
def uBM0 (K : PySem.W.Frag) (T : String) (r : V → List V → Hp → VK → Prop) (x : V) (H : Hp) (Q : VK) : Prop := tyV K T x H ∧ r x [] H Q
theorem r_bm0 {T : String} {r : V → List V → Hp → VK → Prop} (q : te σ H fun x H1 => uBM0 K T r x H1 Q) : tBM0 K T r te σ H Q := q
theorem r_bml {r : V → List V → Hp → VK → Prop} {t : TA} (h : SqL K H a xs) (q : t σ H fun vs H2 => r (.ref a) vs H2 Q) : uBM K "list" r t σ (.ref a) H Q := ⟨.inl ⟨rfl, _, h⟩, q⟩
theorem r_bm0l {r : V → List V → Hp → VK → Prop} (h : SqL K H a xs) (q : r (.ref a) [] H Q) : uBM0 K "list" r (.ref a) H Q := ⟨.inl ⟨rfl, _, h⟩, q⟩
def uRevL (K : PySem.W.Frag) (x : V) (H : Hp) (Q : VK) : Prop := ∃ a xs, x = .ref a ∧ SqL K H a xs ∧ ∀ p, H p = none → Q (.ref p) (upd H p (.lst xs.reverse))
theorem r_revL (q : te σ H fun x H1 => uRevL K x H1 Q) : tRevL K te σ H Q := q
theorem r_revl (h : SqL K H a xs) (q : ∀ p H', H p = none → Same H H' → H' p = some (.lst xs.reverse) → Q (.ref p) H') : uRevL K (.ref a) H Q := ⟨a, xs, rfl, h, fun p hp => q p _ hp (Keep.same (Keep.new hp)) upd_same⟩
theorem r_reverse (h : H a = some (.lst xs)) (q : ∀ H', Keep (At a) H H' → H' a = some (.lst xs.reverse) → Q .non H') : rReverse (.ref a) [] H Q := ⟨a, xs, rfl, rfl, h, q _ Keep.at_ upd_same⟩
theorem r_append (h : H a = some (.lst xs)) (hz : xs.length < sizeLine) (q : ∀ H', Keep (At a) H H' → H' a = some (.lst (xs ++ [v])) → Q .non H') : rAppend (.ref a) [v] H Q := ⟨a, xs, v, rfl, rfl, h, hz, q _ Keep.at_ upd_same⟩
theorem r_extend (h : H a = some (.lst xs)) (h2 : H b = some (.lst ys)) (hz : xs.length + ys.length ≤ sizeLine) (q : ∀ H', Keep (At a) H H' → H' a = some (.lst (xs ++ ys)) → Q .non H') : rExtend (.ref a) [.ref b] H Q := ⟨a, b, xs, ys, rfl, rfl, h, h2, hz, q _ Keep.at_ upd_same⟩
theorem r_sortedI {ns : List Int} (h : SqL K H a (ns.map V.int)) (q : ∀ (ms : List Int) p H', ms.Perm ns → ms.Pairwise (· ≤ ·) → H p = none → Same H H' → H' p = some (.lst (ms.map V.int)) → Q (.ref p) H') : rSortedI K [.ref a] H Q :=
  ⟨a, ns, rfl, h, fun ms p h1 h2 h3 => q ms p _ h1 h2 h3 (Keep.same (Keep.new h3)) upd_same⟩
theorem dpAll_ints (K : PySem.W.Frag) (H : Hp) : ∀ ns : List Int, DpAll K H (ns.map V.int) (ns.map PyData.int)
  | [] => .nil
  | n :: ns => .cons (.int n) (dpAll_ints K H ns)
theorem dpAll_len {K : PySem.W.Frag} {H : Hp} : ∀ {vs : List V} {ds : List PyData}, DpAll K H vs ds → vs.length = ds.length
  | _, _, .nil => rfl
  | _, _, .cons _ h => by simp [dpAll_len h]
theorem dpAll_get {K : PySem.W.Frag} {H : Hp} : ∀ {vs : List V} {ds : List PyData}, DpAll K H vs ds → ∀ x ∈ vs, ∃ d, Dp K H x d
  | _, _, .cons h1 h2, x, hx => by
    rcases List.mem_cons.mp hx with rfl | hx
    · exact ⟨_, h1⟩
    · exact dpAll_get h2 x hx
theorem r_ix01 {x y : Int} {b : Bool} (h : SqL K H p [.int x, .int y]) (q : ∀ z, (z = x ∧ b = false) ∨ (z = y ∧ b = true) → Q (.int z) H) : rIx K (.ref p) (.int (if b = true then 1 else 0)) H Q := by
  cases b with
  | true => exact r_ixl h rfl (q y (.inr ⟨rfl, rfl⟩))
  | false => exact r_ixl h rfl (q x (.inl ⟨rfl, rfl⟩))
theorem SqL.keep (h : SqL K H a xs) (k : Keep F H H') (n : ¬ F a) : SqL K H' a xs := by
  rcases h with (h | ⟨o, h⟩) | h
  · exact .inl (.inl (k a _ h n))
  · exact .inl (.inr ⟨o, k a _ h n⟩)
  · exact .inr h
end
/-! ### data that == is told of: small depth -/
structure Shp (n : Nat) (d : PyData) : Prop where
  c : d.canLay0 = true
  d : d.depth ≤ n
theorem Shp.ok {n : Nat} {d : PyData} (h : Shp n d) (hn : n ≤ 64 := by decide) : SeqAt.shaped d = true := by
  unfold SeqAt.shaped
  rw [h.c, Bool.true_and]
  exact decide_eq_true (Nat.le_trans h.d hn)
theorem Shp.int {n : Nat} (i : Int) : Shp n (.int i) := ⟨by simp [PyData.canLay0], by simp [PyData.depth]⟩
theorem Shp.bool {n : Nat} (i : Bool) : Shp n (.bool i) := ⟨by simp [PyData.canLay0], by simp [PyData.depth]⟩
theorem Shp.none {n : Nat} : Shp n .none := ⟨by simp [PyData.canLay0], by simp [PyData.depth]⟩
theorem shp_all {n : Nat} : ∀ {ds : List PyData}, (∀ d ∈ ds, Shp n d) → PyData.canLayAll0 ds = true ∧ PyData.depthAll ds ≤ n
  | [], _ => ⟨by simp [PyData.canLayAll0], by simp [PyData.depthAll]⟩
  | x :: xs, h => by
    have h1 := h x (List.mem_cons_self ..)
    have h2 := shp_all fun d hd => h d (List.mem_cons_of_mem _ hd)
    exact ⟨by simp [PyData.canLayAll0, h1.c, h2.1], by simp only [PyData.depthAll]; exact Nat.max_le.mpr ⟨h1.d, h2.2⟩⟩
theorem Shp.tuple {n : Nat} {ds : List PyData} (h : ∀ d ∈ ds, Shp n d) : Shp (n + 1) (.tuple ds) := ⟨by simp [PyData.canLay0, (shp_all h).1], by have := (shp_all h).2; simp [PyData.depth]; omega⟩
theorem Shp.list {n : Nat} {ds : List PyData} (h : ∀ d ∈ ds, Shp n d) : Shp (n + 1) (.list ds) := ⟨by simp [PyData.canLay0, (shp_all h).1], by have := (shp_all h).2; simp [PyData.depth]; omega⟩
theorem Shp.tupleM {α : Type} {n : Nat} {as : List α} {f : α → PyData} (h : ∀ c, Shp n (f c)) : Shp (n + 1) (.tuple (as.map f)) := Shp.tuple fun d hd => by
  obtain ⟨c, _, rfl⟩ := List.mem_map.mp hd
  exact h c
theorem Shp.listM {α : Type} {n : Nat} {as : List α} {f : α → PyData} (h : ∀ c, Shp n (f c)) : Shp (n + 1) (.list (as.map f)) := Shp.list fun d hd => by
  obtain ⟨c, _, rfl⟩ := List.mem_map.mp hd
  exact h c
theorem Shp.t2 {n : Nat} {a b : PyData} (ha : Shp n a) (hb : Shp n b) : Shp (n + 1) (.tuple [a, b]) := Shp.tuple (by simp; exact ⟨ha, hb⟩)
theorem Shp.t3 {n : Nat} {a b c : PyData} (ha : Shp n a) (hb : Shp n b) (hc : Shp n c) : Shp (n + 1) (.tuple [a, b, c]) := Shp.tuple (by simp; exact ⟨ha, hb, hc⟩)
theorem Shp.t4 {n : Nat} {a b c d : PyData} (ha : Shp n a) (hb : Shp n b) (hc : Shp n c) (hd : Shp n d) : Shp (n + 1) (.tuple [a, b, c, d]) := Shp.tuple (by simp; exact ⟨ha, hb, hc, hd⟩)
/-! ### data in a row: walks and comprehensions over it -/
section
variable {K : PySem.W.Frag} {σ : St} {H H' : Hp} {Q : VK} {te : TE} {tt : TT} {g : TG} {vs : List Nat} {J : It} {src : Hp → Prop} {item : Nat → Hp → V → Hp → Prop} {a : Addr}
theorem dpAll_at : ∀ {ws : List V} {ds : List PyData}, DpAll K H ws ds → ∀ {i : Nat} {x : V}, ws[i]? = some x → ∃ d, ds[i]? = some d ∧ Dp K H x d
  | _, _, .nil, i, x, h => by simp at h
  | _, _, .cons h1 h2, 0, x, h => by
    have e := Option.some.inj h
    subst e
    exact ⟨_, rfl, h1⟩
  | _, _, .cons h1 h2, i + 1, x, h => dpAll_at h2 (i := i) (x := x) h
theorem dpAll_map_at {α : Type} {f : α → PyData} {as : List α} {ws : List V} (h : DpAll K H ws (as.map f)) {i : Nat} {x : V} (e : ws[i]? = some x) : ∃ c, as[i]? = some c ∧ Dp K H x (f c) := by
  obtain ⟨d, h1, h2⟩ := dpAll_at h e
  rw [List.getElem?_map] at h1
  obtain ⟨c, h3, rfl⟩ := Option.map_eq_some_iff.mp h1
  exact ⟨c, h3, h2⟩
theorem same_at {H H1 H2 : Hp} {f : Addr} (s : Same H H1) (hf : H f = none) (k : Keep (At f) H1 H2) : Same H H2 := fun b o e => k b o (s b o e) (ne_of_none e hf)
theorem dpAll_snoc : ∀ {ws : List V} {ds : List PyData} {x : V} {d : PyData}, DpAll K H ws ds → Dp K H x d → DpAll K H (ws ++ [x]) (ds ++ [d])
  | _, _, _, _, .nil, h => .cons h .nil
  | _, _, _, _, .cons h1 h2, h => .cons h1 (dpAll_snoc h2 h)
theorem dpAll_app : ∀ {ws : List V} {ds : List PyData} {ws' : List V} {ds' : List PyData}, DpAll K H ws ds → DpAll K H ws' ds' → DpAll K H (ws ++ ws') (ds ++ ds')
  | _, _, _, _, .nil, h => h
  | _, _, _, _, .cons h1 h2, h => .cons h1 (dpAll_app h2 h)
theorem paired_dp {α : Type} {f : α → PyData} : ∀ {as : List α} {ys : List V}, Paired (fun c y => Dp K H y (f c)) as ys → DpAll K H ys (as.map f)
  | _, _, .nil => .nil
  | _, _, .cons h1 h2 => .cons h1 (paired_dp h2)
theorem dp_tup {v : V} {ds : List PyData} (h : Dp K H v (.tuple ds)) : ∃ p ws, v = .ref p ∧ SqT K H p ws ∧ DpAll K H ws ds := by
  cases h with
  | tup hs ha => exact ⟨_, _, rfl, hs, ha⟩
theorem dp_lst {v : V} {ds : List PyData} (h : Dp K H v (.list ds)) : ∃ p ws, v = .ref p ∧ SqL K H p ws ∧ DpAll K H ws ds := by
  cases h with
  | lst hs ha => exact ⟨_, _, rfl, hs, ha⟩
theorem dp_int {v : V} {i : Int} (h : Dp K H v (.int i)) : v = .int i := by cases h; rfl
theorem dp_non {v : V} (h : Dp K H v .none) : v = .non := by cases h; rfl
theorem dp_str {v : V} {z : Str} (h : Dp K H v (.str z)) : v = .str z := by cases h; rfl
theorem dpAll_all_ints : ∀ {ws : List V} {ns : List Int}, DpAll K H ws (ns.map PyData.int) → ws = ns.map V.int
  | _, [], .nil => rfl
  | _, n :: ns, .cons h1 h2 => by rw [dp_int h1, dpAll_all_ints h2]; rfl
theorem dp_ints {v : V} {ns : List Int} (h : Dp K H v (.tuple (ns.map PyData.int))) : ∃ p, v = .ref p ∧ SqT K H p (ns.map V.int) := by
  obtain ⟨p, ws, rfl, h1, h2⟩ := dp_tup h
  rw [dpAll_all_ints h2] at h1
  exact ⟨p, rfl, h1⟩
theorem mapP_mono {α : Type} {R S : α → V → Prop} {as : List α} {ys : List V} (h : Paired R as ys) (k : ∀ c y, R c y → S c y) : Paired S as ys := Paired.mapP h k
/-- a comprehension over whatever is walked: each kept item's element is told by R, which stays where tuples stay -/
theorem lc_gen {α : Type} (as : List α) (It1 : α → V → Hp → Prop) (w : Wk J as.length src item) (hit : ∀ i H x H', i < as.length → item i H x H' → ∃ c, as[i]? = some c ∧ Same H H' ∧ It1 c x H') (hsrc : ∀ H', Same H H' → src H')
    (hn : as.length ≤ 16777216) (f : α → Bool) (R : Hp → α → V → Prop) (hR : ∀ H H' c y, TExt H H' → R H c y → R H' c y)
    (hs : ∀ c x H2 (S : VK) (N : Hp → Prop), c ∈ as → Same H H2 → It1 c x H2 → (f c = true → ∀ y H3, Same H2 H3 → R H3 c y → S y H3) → (f c = false → ∀ H3, Same H2 H3 → N H3) →
      g x (wipe σ vs) H2 fun σ2 H3 => wipe σ2 vs = wipe σ vs ∧ tt σ2 H3 fun b H4 => if b = true then te σ2 H4 S else N H4)
    (q : ∀ D H' ys, H D = none → Same H H' → H' D = some (.lst ys) → Paired (R H') (as.filter f) ys → Q (.ref D) H') : LcW J g tt te vs σ H Q := by
  refine lc_wk w (fun D i H' => H D = none ∧ Same H H' ∧ ∃ ys, H' D = some (.lst ys) ∧ Paired (R H') ((as.take i).filter f) ys) (fun D hD => ⟨hD, fun b o e => by rw [upd_ne (ne_of_none e hD)]; exact e, [], by simp [upd_same], by simpa using Paired.nil⟩)
    (fun D i H' _ p => hsrc H' p.2.1) ?_ (fun D H' hD p => by obtain ⟨p1, p2, ys, p3, p4⟩ := p; rw [List.take_length] at p4; exact q D H' ys hD p2 p3 p4)
  rintro D i x H2 H' hD hi ⟨p1, p2, ys, p3, p4⟩ hx
  obtain ⟨c, hc, s1, hI⟩ := hit i H2 x H' hi hx
  have t3 := take_snoc hc
  have hl : ((as.take i).filter f).length ≤ i := Nat.le_trans (List.length_filter_le _ _) (by simp; omega)
  have hl2 := p4.length
  have hm : c ∈ as := List.mem_of_getElem? hc
  refine hs c x H' _ _ hm (p2.trans s1) hI (fun hf y H4 e4 hy => ?_) (fun hf H3 e3 => ?_)
  · refine ⟨ys, e4 _ _ (s1 _ _ p3), by rw [sizeLine_eq]; omega, hD, fun b o e => ?_, ys ++ [y], upd_same, ?_⟩
    · rw [upd_ne (ne_of_none e hD)]; exact e4 _ _ (s1 _ _ (p2 _ _ e))
    · have te2 : TExt H4 (upd H4 D (.lst (ys ++ [y]))) := TExt.lst Keep.at_ (e4 _ _ (s1 _ _ p3))
      rw [t3, List.filter_append]
      simp only [List.filter_cons, hf, List.filter_nil, if_true]
      exact (Paired.mapP p4 fun u z r => hR _ _ _ _ ((TExt.of_same (s1.trans e4)).trans te2) r).snoc (hR _ _ _ _ te2 hy)
  · refine ⟨hD, p2.trans (s1.trans e3), ys, e3 _ _ (s1 _ _ p3), ?_⟩
    rw [t3, List.filter_append]
    simp [hf]
    exact Paired.mapP p4 fun u z r => hR _ _ _ _ (TExt.of_same (s1.trans e3)) r
/-- over range(n) -/
theorem lc_rngD {n : Nat} {lo : Int} (hn : n ≤ 16777216) (f : Nat → Bool) (fx : Nat → PyData) (hi : ∀ c, imm (fx c) = true)
    (hs : ∀ (c : Nat) H2 (S : VK) (N : Hp → Prop), c < n → Same H H2 → (f c = true → ∀ y H3, Same H2 H3 → Dp K H3 y (fx c) → S y H3) → (f c = false → ∀ H3, Same H2 H3 → N H3) →
      g (.int (lo + c)) (wipe σ vs) H2 fun σ2 H3 => wipe σ2 vs = wipe σ vs ∧ tt σ2 H3 fun b H4 => if b = true then te σ2 H4 S else N H4)
    (q : ∀ D H' ys, H D = none → Same H H' → H' D = some (.lst ys) → DpAll K H' ys (((List.range n).filter f).map fx) → Q (.ref D) H') : LcW (Itr lo n) g tt te vs σ H Q := by
  have w : Wk (Itr lo n) (List.range n).length (fun _ => True) (fun i H x H' => H' = H ∧ x = .int (lo + i)) := by
    rw [List.length_range]
    exact wk_rng
  refine lc_gen (List.range n) (fun c x H => x = .int (lo + c)) w (fun i H x H' hi h => ⟨i, List.getElem?_range (by simpa using hi), by rw [h.1]; exact Same.refl _, h.2⟩) (fun _ _ => trivial) (by simpa using hn) f (fun H c y => Dp K H y (fx c)) (fun H H' c y e h => Dp.text e _ _ (hi c) h)
    (fun c x H2 S N hc s hx k1 k2 => ?_) (fun D H' ys hD s e p => q D H' ys hD s e (paired_dp p))
  subst hx
  exact hs c H2 S N (by simpa using hc) s k1 k2
/-- over range(n), one object p (a pot) being changed in each turn -/
theorem lc_rngK {n : Nat} {lo : Int} {p : Addr} {te : TE} {j : Nat} (I : Hp → Prop) (h0 : I H) (hne : ∀ D, H D = none → D ≠ p) (hI : ∀ H1 H2 : Hp, I H1 → H2 p = H1 p → I H2) (hT : ∀ H1 H2, I H1 → Keep (At p) H1 H2 → TExt H1 H2)
    (hn : n ≤ 16777216) (R : Hp → Nat → V → Prop) (hR : ∀ H H' i y, TExt H H' → R H i y → R H' i y)
    (hs : ∀ (i : Nat) H2 (S : VK), i < n → Keep (At p) H H2 → I H2 → (∀ y H3, Keep (At p) H2 H3 → I H3 → R H3 i y → S y H3) → te ((wipe σ [j]).set j (some (.int (lo + i)))) H2 S)
    (q : ∀ D H' ys, H D = none → Keep (At p) H H' → I H' → H' D = some (.lst ys) → Paired (R H') (List.range n) ys → Q (.ref D) H') : LcW (Itr lo n) (gName j) tYes te [j] σ H Q := by
  refine lc_wk wk_rng (fun D i H' => H D = none ∧ Keep (At p) H H' ∧ I H' ∧ ∃ ys, H' D = some (.lst ys) ∧ Paired (R H') (List.range i) ys)
    (fun D hD => ⟨hD, fun b o e _ => by rw [upd_ne (ne_of_none e hD)]; exact e, hI _ _ h0 (by rw [upd_ne (Ne.symm (hne D hD))]), [], by simp [upd_same], by simpa using Paired.nil⟩)
    (fun D i H' _ p => trivial) ?_ (fun D H' hD p => by obtain ⟨p1, p2, p3, ys, p4, p5⟩ := p; exact q D H' ys hD p2 p3 p4 p5)
  rintro D i x H2 H' hD hi ⟨p1, p2, p3, ys, p4, p5⟩ ⟨rfl, rfl⟩
  show wipe ((wipe σ [j]).set j _) [j] = wipe σ [j] ∧ _
  refine ⟨wipe_one, ?_⟩
  refine r_yes (i_T (hs i H' _ hi p2 p3 fun y H3 k3 i3 r3 => ⟨ys, k3 _ _ p4 (hne D hD), by rw [sizeLine_eq, ← p5.length, List.length_range]; omega, hD, ?_, hI _ _ i3 (by rw [upd_ne (Ne.symm (hne D hD))]), ys ++ [y], upd_same, ?_⟩))
  · exact (p2.trans k3).free hD
  · have e3 := k3 _ _ p4 (hne D hD)
    have t3 := hT _ _ p3 k3
    have t4 : TExt H3 (upd H3 D (.lst (ys ++ [y]))) := TExt.lst Keep.at_ e3
    rw [List.range_succ]
    exact (Paired.mapP p5 fun u z r => hR _ _ _ _ (t3.trans t4) r).snoc (hR _ _ _ _ t4 r3)
theorem paired_ex {α β : Type} {R : α → β → Prop} {f : β → PyData} : ∀ {as : List α} {ys : List V}, Paired (fun c y => ∃ z, Dp K H y (f z) ∧ R c z) as ys → ∃ zs : List β, DpAll K H ys (zs.map f) ∧ Paired R as zs
  | _, _, .nil => ⟨[], .nil, .nil⟩
  | _, _, .cons h1 h2 => by
    obtain ⟨z, d, r⟩ := h1
    obtain ⟨zs, ds, rs⟩ := paired_ex h2
    exact ⟨z :: zs, .cons d ds, .cons r rs⟩
theorem paired_ints {α : Type} {R : α → Int → Prop} : ∀ {as : List α} {ys : List V}, Paired (fun c y => ∃ z, y = V.int z ∧ R c z) as ys → ∃ zs : List Int, ys = zs.map V.int ∧ Paired R as zs
  | _, _, .nil => ⟨[], rfl, .nil⟩
  | _, _, .cons h1 h2 => by
    obtain ⟨z, rfl, r⟩ := h1
    obtain ⟨zs, rfl, rs⟩ := paired_ints h2
    exact ⟨z :: zs, rfl, .cons r rs⟩
theorem int_at {zs : List Int} {i : Nat} {x : V} (h : (zs.map V.int)[i]? = some x) : ∃ z, zs[i]? = some z ∧ x = .int z := by
  rw [List.getElem?_map] at h
  obtain ⟨z, h1, h2⟩ := Option.map_eq_some_iff.mp h
  exact ⟨z, h1, h2.symm⟩
/-- over a tuple of data -/
theorem lc_tupD {α : Type} {as : List α} {fa : α → PyData} {ws : List V} (h1 : SqT K H a ws) (h2 : DpAll K H ws (as.map fa)) (hn : as.length ≤ 16777216) (f : α → Bool) (fx : α → PyData) (hi : ∀ c, imm (fx c) = true)
    (hs : ∀ c x H2 (S : VK) (N : Hp → Prop), c ∈ as → Same H H2 → Dp K H2 x (fa c) → (f c = true → ∀ y H3, Same H2 H3 → Dp K H3 y (fx c) → S y H3) → (f c = false → ∀ H3, Same H2 H3 → N H3) →
      g x (wipe σ vs) H2 fun σ2 H3 => wipe σ2 vs = wipe σ vs ∧ tt σ2 H3 fun b H4 => if b = true then te σ2 H4 S else N H4)
    (q : ∀ D H' ys, H D = none → Same H H' → H' D = some (.lst ys) → DpAll K H' ys ((as.filter f).map fx) → Q (.ref D) H') : LcW (Itt K a) g tt te vs σ H Q := by
  have hl : ws.length = as.length := by rw [dpAll_len h2]; simp
  have w : Wk (Itt K a) as.length (fun H' => SqT K H' a ws ∧ Same H H') (fun i H2 x H' => H' = H2 ∧ Same H H2 ∧ ws[i]? = some x) := by
    rw [← hl]
    exact ⟨fun i H e => wk_tup.go i H e.1, fun i H e => wk_tup.stop i H e.1, fun i H2 x H' e y => by have z := wk_tup.yld i H2 x H' e.1 y; exact ⟨z.1, e.2, z.2⟩⟩
  refine lc_gen as (fun c x H2 => Dp K H2 x (fa c)) w (fun i H2 x H' hi h => ?_) (fun H' s => ⟨SqT.text (TExt.of_same s) h1, s⟩) hn f (fun H c y => Dp K H y (fx c)) (fun H H' c y e h => Dp.text e _ _ (hi c) h) hs
    (fun D H' ys hD s e p => q D H' ys hD s e (paired_dp p))
  obtain ⟨rfl, s, hx⟩ := h
  obtain ⟨c, hc, hd⟩ := dpAll_map_at h2 hx
  exact ⟨c, hc, Same.refl _, Dp.same s _ _ hd⟩
/-- over a list of data -/
theorem lc_lstD {α : Type} {as : List α} {fa : α → PyData} {ws : List V} (h1 : SqL K H a ws) (h2 : DpAll K H ws (as.map fa)) (hn : as.length ≤ 16777216) (f : α → Bool) (fx : α → PyData) (hi : ∀ c, imm (fx c) = true)
    (hs : ∀ c x H2 (S : VK) (N : Hp → Prop), c ∈ as → Same H H2 → Dp K H2 x (fa c) → (f c = true → ∀ y H3, Same H2 H3 → Dp K H3 y (fx c) → S y H3) → (f c = false → ∀ H3, Same H2 H3 → N H3) →
      g x (wipe σ vs) H2 fun σ2 H3 => wipe σ2 vs = wipe σ vs ∧ tt σ2 H3 fun b H4 => if b = true then te σ2 H4 S else N H4)
    (q : ∀ D H' ys, H D = none → Same H H' → H' D = some (.lst ys) → DpAll K H' ys ((as.filter f).map fx) → Q (.ref D) H') : LcW (Itl K a) g tt te vs σ H Q := by
  have hl : ws.length = as.length := by rw [dpAll_len h2]; simp
  have w : Wk (Itl K a) as.length (fun H' => SqL K H' a ws ∧ Same H H') (fun i H2 x H' => H' = H2 ∧ Same H H2 ∧ ws[i]? = some x) := by
    rw [← hl]
    exact ⟨fun i H e => wk_list.go i H e.1, fun i H e => wk_list.stop i H e.1, fun i H2 x H' e y => by have z := wk_list.yld i H2 x H' e.1 y; exact ⟨z.1, e.2, z.2⟩⟩
  refine lc_gen as (fun c x H2 => Dp K H2 x (fa c)) w (fun i H2 x H' hi h => ?_) (fun H' s => ⟨s.seq h1, s⟩) hn f (fun H c y => Dp K H y (fx c)) (fun H H' c y e h => Dp.text e _ _ (hi c) h) hs
    (fun D H' ys hD s e p => q D H' ys hD s e (paired_dp p))
  obtain ⟨rfl, s, hx⟩ := h
  obtain ⟨c, hc, hd⟩ := dpAll_map_at h2 hx
  exact ⟨c, hc, Same.refl _, Dp.same s _ _ hd⟩
end
theorem cx_none {P : Program} {w : World} {H : Hp} {s : Shared} {e : Value} {s' : Shared} (h : L2.CX P w [] H s (fun _ _ _ => False) e s') : False := by
  obtain ⟨_, _, _, _, _, _, _, _, _, _, _, _, z⟩ := h
  exact z.elim
/-! ### exceptions of the program's own: classes over ValueError without a body -/
def bmV : List Value := [.type "ValueError", .type "Exception", .type "BaseException", .type "object"]
structure Exc (K : PySem.W.Frag) (mg : Str → Option Value) (x : Str) (C : Addr) : Prop where
  g : mg x = some (.ref C)
  ex : PySem.W.excIn K C bmV "ValueError.__new__" = true
  kp : PySem.W.keepIn K (.ref C) = true
  bs : PySem.W.subIn K (.ref C) (.type "BaseException") = some true
  ty : PySem.W.typeIn K (.ref C) = some (.type "type")
section
variable {X : Cx} {k j : Nat} {ps : List Str} {sp : Sp} {E : XK} {x : Str} {p pos : Pos} {e : Expr} {es : List Expr} {t : TA} {C : Addr}
/-- raise X('..') -/
theorem ps_rs {W : WX} {m : Str} {jj : Nat} {p2 pos2 : Pos} (T : Exc X.K X.mg x C) (tk : Takes X W) (hc : X.calm = true := by rfl) (hg : Gl X x := by rfl) (hdb : (x == ("__debug__" : Str)) = false := by decide) :
    PS X (.Raise (some (.Call (.Name x p) [.Constant (.str m) jj p2] [] pos)) none pos2) (fun _ σ H => W (.ref C) none σ H) :=
  ps_raise hc tk (pmk_own PySem.F.excBase_ValueError T.ex T.g T.kp (raises_own T.bs T.ty) hg hdb)
/-- a call whose exception leaves this def -/
theorem pe_fnX (F : Fn X.prog X.w X.K X.mg X.base k x ps sp) (hr : Room j X.A) (tk : Takes X (fun cls d _ H => E cls d H)) (ha : PA X (e :: es) t) (hk : k ≤ j := by decide) (hg : Gl X x := by rfl)
    (hdb : (x == ("__debug__" : Str)) = false := by decide) (he : starEach (e :: es) X.env = (false, eval e X.env) :: starEach es X.env := by rfl) (hpl : (backTo pos (starEach es X.env)).any (·.1) = false := by rfl) :
    PE X (.Call (.Name x p) (e :: es) [] pos) (tFn sp E t) := pe_fnE F hr hk hg (passes_call tk fun _ _ _ _ h => h) ha hdb he hpl
end
theorem eqv_same {d : PyData} (h : SeqAt.shaped d = true) : PyData.eqv d d = true := SeqAt.eqv_refl d (SeqAt.canLay_of_shaped h)
/-- a statement, then the rest, with a word between -/
theorem r_cut {σ : St} {H : Hp} {tu tw : TS} {nx bk ct : St → Hp → Prop} {rt : VK} (Mid : St → Hp → Prop) (h : tu ⟨Mid, rt, bk, ct⟩ σ H) (k : ∀ σ' H', Mid σ' H' → tw ⟨nx, rt, bk, ct⟩ σ' H') : Evl.tCut tu tw ⟨nx, rt, bk, ct⟩ σ H := ⟨Mid, h, k⟩
/-! ### texts -/
open TL (tl tl_append mk_tl joinL tl_join join_eq)
section
variable {X : Cx} {K : PySem.W.Frag} {σ : St} {H : Hp} {Q : VK} {to te ta tb : TE} {o e : Expr} {a p : Addr}
def uJoin (K : PySem.W.Frag) : V → List V → Hp → VK → Prop := fun x xs H Q => ∃ a p, ∃ ys : List Str, x = .str a ∧ xs = [.ref p] ∧ (SqL K H p (ys.map V.str) ∨ SqT K H p (ys.map V.str)) ∧
  (ys.map (·.length)).sum + ys.length * a.length ≤ 16777216 ∧ Q (.str (Txt.join a ys)) H
theorem pe_joinU (K : PySem.W.Frag) {apos pos : Pos} (ho : PE X o to) (he : PE X e te) (hs : starEach [e] X.env = [(false, eval e X.env)] := by rfl) (hbase : attributeBase o "join" X.env (eval o X.env) = eval o X.env := by rfl) (hline : (apos.endLine == pos.line) = true := by rfl) (hK : X.K = K := by rfl) :
    PE X (.Call (.Attribute o "join" apos) [e] [] pos) (tM1 (uJoin K) to te) := hK ▸ pe_join ho he hs hbase hline
def uM1 (r : V → List V → Hp → VK → Prop) (te : TE) (σ : St) (x : V) (H : Hp) (Q : VK) : Prop := (∃ a, x = .str a) ∧ te σ H fun y H2 => r x [y] H2 Q
theorem r_m1 {r : V → List V → Hp → VK → Prop} (q : to σ H fun x H1 => uM1 r te σ x H1 Q) : tM1 r to te σ H Q := q
theorem r_m1s {r : V → List V → Hp → VK → Prop} {z : Str} (q : te σ H fun y H2 => r (.str z) [y] H2 Q) : uM1 r te σ (.str z) H Q := ⟨⟨z, rfl⟩, q⟩
theorem r_join {z : Str} {ys : List Str} (h : SqL K H p (ys.map V.str)) (hz : (ys.map (·.length)).sum + ys.length * z.length ≤ 16777216) (q : Q (.str (Txt.join z ys)) H) : uJoin K (.str z) [.ref p] H Q := ⟨z, p, ys, rfl, rfl, .inl h, hz, q⟩
def uAddS : R2 := fun x y H Q => ∃ i j, x = .str i ∧ y = .str j ∧ i.length + j.length ≤ sizeLine ∧ Q (.str (i ++ j)) H
theorem o_adds : OpR X (binaryOp .Add) uAddS := op_add_str
theorem r_adds {i j : Str} (h : i.length + j.length ≤ sizeLine) (q : Q (.str (i ++ j)) H) : uAddS (.str i) (.str j) H Q := ⟨i, j, rfl, rfl, h, q⟩
theorem tl_inj {x y : Str} (h : tl x = tl y) : x = y := by
  have := congrArg (fun l => (⟨l.toArray⟩ : Str)) h
  rw [← mk_tl x, ← mk_tl y]
  exact this
theorem len_tl (x : Str) : x.length = (tl x).length := by simp [tl, Str.length]
theorem joinL_nil : ∀ ps : List (List Nat), joinL [] ps = ps.flatten
  | [] => rfl
  | [p] => by simp [joinL]
  | p :: q :: r => by
    show p ++ ([] ++ joinL [] (q :: r)) = _
    rw [joinL_nil (q :: r)]
    simp
theorem sum_lens {B : Nat} : ∀ {l : List Str}, (∀ c ∈ l, c.length ≤ B) → (l.map (·.length)).sum ≤ l.length * B
  | [], _ => by simp
  | c :: l, h => by
    have h1 := h c (List.mem_cons_self ..)
    have h2 := sum_lens fun d hd => h d (List.mem_cons_of_mem _ hd)
    simp only [List.map_cons, List.sum_cons, List.length_cons, Nat.add_mul, Nat.one_mul]
    omega
theorem tl_join0 (ys : List Str) : tl (Txt.join ("" : Str) ys) = (ys.map tl).flatten := by
  rw [join_eq, tl_join, show tl ("" : Str) = [] by decide +kernel, joinL_nil]
theorem dpAll_strs {K : PySem.W.Frag} {H : Hp} : ∀ {ws : List V} {zs : List Str}, DpAll K H ws (zs.map PyData.str) → ws = zs.map V.str
  | _, [], .nil => rfl
  | _, n :: ns, .cons h1 h2 => by rw [dp_str h1, dpAll_strs h2]; rfl
theorem dpAll_ofStrs (K : PySem.W.Frag) (H : Hp) : ∀ zs : List Str, DpAll K H (zs.map V.str) (zs.map PyData.str)
  | [] => .nil
  | n :: ns => .cons (.str n) (dpAll_ofStrs K H ns)
end
/-! ### range with a step -/
section
variable {X : Cx} {σ : St} {H : Hp} {tg a b c : Expr} {ta : TA}
def uRng3 (vs : List V) (H : Hp) (R : It → Hp → Prop) : Prop := ∃ (i j c : Int) (n : Nat), vs = [.int i, .int j, .int c] ∧ RgC i j c n ∧ R (Itc i c n) H
def iRngU (ta : TA) : TI := fun σ H R => ta σ H fun vs H1 => uRng3 vs H1 R
theorem pi_rangeU {p pos : Pos} (hg : Gl X "range") (hm : X.mg "range" = none) (ha : PA X [a, b, c] ta)
    (hs : starEach [a, b, c] X.env = (false, eval a X.env) :: starEach [b, c] X.env := by rfl) (hpl : (backTo pos (starEach [b, c] X.env)).any (·.1) = false := by rfl) :
    PI X tg (.Call (.Name "range" p) [a, b, c] [] pos) (iRngU ta) := pi_range3 hg hm ha hs hpl
theorem r_irngU {R : It → Hp → Prop} (q : ta σ H fun vs H1 => uRng3 vs H1 R) : iRngU ta σ H R := q
theorem r_rngdown {i j : Int} {R : It → Hp → Prop} (h : -1000000 ≤ i ∧ i ≤ 1000000 ∧ -1000000 ≤ j ∧ j ≤ 1000000) (q : R (Itc i (-1) (i - j).toNat) H) : uRng3 [.int i, .int j, .int (-1)] H R :=
  ⟨i, j, -1, _, rfl, RgC.neg (by omega) (by omega) (by omega) (by omega), q⟩
end
/-! ### shifts -/
def uShl : R2 := fun x y H Q => ∃ (i : Int) (k : Nat), x = .int i ∧ y = .int (k : Int) ∧ CShl i (k : Int) ∧ Q (.int (i * 2 ^ k)) H
def uShr : R2 := fun x y H Q => ∃ (i : Int) (k : Nat), x = .int i ∧ y = .int (k : Int) ∧ Q (.int (i / 2 ^ k)) H
theorem o_shl {X : Cx} : OpR X (binaryOp .LShift) uShl := op_shlN
theorem o_shr {X : Cx} : OpR X (binaryOp .RShift) uShr := op_shrN
theorem r_shl {i : Int} {k : Nat} {H : Hp} {Q : VK} (h : i.natAbs < 2 ^ 64 ∧ k ≤ 1000) (q : Q (.int (i * 2 ^ k)) H) : uShl (.int i) (.int (k : Int)) H Q := ⟨i, k, rfl, rfl, shl_ok h.1 (by omega), q⟩
theorem r_shl1 {k : Nat} {H : Hp} {Q : VK} (h : k ≤ 1000) (q : Q (.int (2 ^ k)) H) : uShl (.int 1) (.int (k : Int)) H Q := r_shl ⟨by decide, h⟩ (by rw [Int.one_mul]; exact q)
theorem r_shl2 {k : Nat} {H : Hp} {Q : VK} (h : k ≤ 1000) (q : Q (.int (2 ^ (k + 1))) H) : uShl (.int 2) (.int (k : Int)) H Q := r_shl ⟨by decide, h⟩ (by
  have e : (2 : Int) * 2 ^ k = 2 ^ (k + 1) := by rw [Int.pow_succ]; omega
  rw [e]; exact q)
theorem r_shr {i : Int} {k : Nat} {H : Hp} {Q : VK} (q : Q (.int (i / 2 ^ k)) H) : uShr (.int i) (.int (k : Int)) H Q := ⟨i, k, rfl, rfl, q⟩
/-! ### numbers -/
theorem two_pos (n : Nat) : (0 : Int) < 2 ^ n := Int.pow_pos (by decide)
theorem two_succ (n : Nat) : (2 : Int) ^ (n + 1) = 2 * 2 ^ n := by rw [Int.pow_succ]; omega
theorem div_is {x w i : Int} (hw : 0 < w) (h1 : i * w ≤ x) (h2 : x < i * w + w) : x / w = i := by
  have a : i ≤ x / w := (Int.le_ediv_iff_mul_le hw).mpr h1
  have b : x / w < i + 1 := (Int.ediv_lt_iff_lt_mul hw).mpr (by rw [Int.add_mul, Int.one_mul]; exact h2)
  omega
end Fp
/-! pairs of numbers, curves: plain lists; dicts by number -/
namespace Fp
open PySem PySem.Spec PyProof.Rows L2
abbrev Prs := List (Int × Int)
def pairP (p : Int × Int) : PyData := .tuple [.int p.1, .int p.2]
def prsD (l : Prs) : PyData := .tuple (l.map pairP)
theorem imm_pair (p : Int × Int) : imm (pairP p) = true := by simp [pairP, imm, immAll]
theorem imm_all (l : Prs) : immAll (l.map pairP) = true := immAll_map _ imm_pair l
theorem imm_prs (l : Prs) : imm (prsD l) = true := by
  unfold prsD
  simp only [imm]
  exact imm_all l
theorem shp_pair (p : Int × Int) : Shp 1 (pairP p) := Shp.t2 (.int _) (.int _)
theorem shp_prs (l : Prs) : Shp 2 (prsD l) := Shp.tupleM (n := 1) shp_pair
theorem shaped_prs (l : Prs) : SeqAt.shaped (prsD l) = true := (shp_prs l).ok
theorem dp_pair {K : PySem.W.Frag} {H : Hp} {v : V} {p : Int × Int} (h : Dp K H v (pairP p)) : ∃ a, v = .ref a ∧ SqT K H a [.int p.1, .int p.2] := dp_ints (ns := [p.1, p.2]) h
theorem dp_of_pair {K : PySem.W.Frag} {H : Hp} {a : Addr} {i j : Int} (h : SqT K H a [.int i, .int j]) : Dp K H (.ref a) (pairP (i, j)) := .tup h (dpAll_ints K H [i, j])
theorem eqv_pair (p q : Int × Int) : PyData.eqv (pairP p) (pairP q) = decide (p = q) := by
  simp only [pairP, PyData.eqv, PyData.eqvAll, Bool.and_true]
  rw [Bool.eq_iff_iff]
  simp [Prod.ext_iff]
theorem eqvAll_prs : ∀ l m : Prs, PyData.eqvAll (l.map pairP) (m.map pairP) = decide (l = m)
  | [], [] => by simp [PyData.eqvAll]
  | [], q :: m => by simp [PyData.eqvAll]
  | p :: l, [] => by simp [PyData.eqvAll]
  | p :: l, q :: m => by
    simp only [List.map_cons, PyData.eqvAll]
    rw [eqv_pair, eqvAll_prs l m, Bool.eq_iff_iff]
    simp
theorem eqv_prs (l m : Prs) : PyData.eqv (prsD l) (prsD m) = decide (l = m) := by
  unfold prsD
  rw [PyData.eqv]
  exact eqvAll_prs l m
/-! ### tables by number -/
def putP (l : Prs) (t h : Int) : Prs := if (l.any fun p => decide (p.1 = t)) = true then l.map (fun p => if p.1 = t then (p.1, h) else p) else l ++ [(t, h)]
def valP (l : Prs) (t : Int) : Option Int := (l.find? fun p => decide (p.1 = t)).map (·.2)
def mergeP (l more : Prs) : Prs := more.foldl (fun acc p => putP acc p.1 p.2) l
def inj (p : Int × Int) : Key × V := (Sum.inl p.1, .int p.2)
theorem any_inj (t : Int) : ∀ l : Prs, ((l.map inj).any fun kv => decide (kv.1 = Sum.inl t)) = l.any fun p => decide (p.1 = t)
  | [] => rfl
  | p :: l => by
    simp only [List.map_cons, List.any_cons, any_inj t l]
    congr 1
    rw [Bool.eq_iff_iff]
    simp [inj]
theorem put_inj (l : Prs) (t h : Int) : putK (l.map inj) (Sum.inl t) (.int h) = (putP l t h).map inj := by
  unfold putK putP
  rw [any_inj]
  split
  · rw [List.map_map, List.map_map]
    refine List.map_congr_left fun p _ => ?_
    show (if (inj p).1 = Sum.inl t then ((inj p).1, V.int h) else inj p) = inj (if p.1 = t then (p.1, h) else p)
    by_cases e : p.1 = t
    · rw [if_pos e, if_pos (by rw [← e]; rfl)]; rfl
    · rw [if_neg e, if_neg (by simpa [inj] using e)]
  · rw [List.map_append]; rfl
theorem merge_inj : ∀ (more l : Prs), mergeK (l.map inj) (more.map inj) = (mergeP l more).map inj
  | [], l => rfl
  | p :: r, l => by
    show mergeK (putK (l.map inj) (inj p).1 (inj p).2) (r.map inj) = (mergeP (putP l p.1 p.2) r).map inj
    rw [show putK (l.map inj) (inj p).1 (inj p).2 = (putP l p.1 p.2).map inj from put_inj l p.1 p.2]
    exact merge_inj r _
theorem val_inj (t : Int) : ∀ l : Prs, valV (l.map inj) (Sum.inl t) = (valP l t).map V.int
  | [] => rfl
  | p :: l => by
    by_cases e : p.1 = t
    · rw [List.map_cons, valV_pos (by rw [← e]; rfl)]
      simp [valP, List.find?_cons, e, inj]
    · rw [List.map_cons, valV_neg (by simpa [inj] using e), val_inj t l]
      simp [valP, List.find?_cons, e]
theorem valP_pos {p : Int × Int} {r : Prs} {k : Int} (e : p.1 = k) : valP (p :: r) k = some p.2 := by simp [valP, List.find?_cons, e]
theorem valP_neg {p : Int × Int} {r : Prs} {k : Int} (e : ¬ p.1 = k) : valP (p :: r) k = valP r k := by simp [valP, List.find?_cons, e]
theorem valP_iff {t h : Int} : ∀ {l : Prs}, (l.map (·.1)).Nodup → (valP l t = some h ↔ (t, h) ∈ l)
  | [], _ => by simp [valP]
  | p :: l, nd => by
    have nd2 := List.nodup_cons.mp nd
    by_cases e : p.1 = t
    · rw [valP_pos e]
      constructor
      · intro z
        have z := Option.some.inj z
        rw [List.mem_cons]
        left
        rw [← e, ← z]
      · intro z
        rcases List.mem_cons.mp z with z | z
        · rw [← z]
        · exact absurd (show p.1 ∈ l.map (·.1) by rw [e]; exact List.mem_map_of_mem (f := (·.1)) z) nd2.1
    · rw [valP_neg e, valP_iff nd2.2]
      constructor
      · exact fun z => List.mem_cons_of_mem _ z
      · intro z
        rcases List.mem_cons.mp z with z | z
        · exact absurd (by rw [← z]) e
        · exact z
theorem any_iff {l : Prs} {t : Int} : (l.any fun p => decide (p.1 = t)) = true ↔ t ∈ l.map (·.1) := by
  simp only [List.any_eq_true, decide_eq_true_eq, List.mem_map]
theorem keys_put (l : Prs) (t h : Int) : (putP l t h).map (·.1) = if t ∈ l.map (·.1) then l.map (·.1) else l.map (·.1) ++ [t] := by
  unfold putP
  by_cases e : t ∈ l.map (·.1)
  · rw [if_pos e, if_pos (any_iff.mpr e), List.map_map]
    refine List.map_congr_left fun p _ => ?_
    show (if p.1 = t then (p.1, h) else p).1 = p.1
    split <;> rfl
  · rw [if_neg e, if_neg (fun z => e (any_iff.mp z)), List.map_append]; rfl
theorem nd_put {l : Prs} (t h : Int) (nd : (l.map (·.1)).Nodup) : ((putP l t h).map (·.1)).Nodup := by
  rw [keys_put]
  split
  · exact nd
  · rename_i e
    rw [List.nodup_append]
    exact ⟨nd, by simp, fun a ha b hb => by simp at hb; subst hb; exact fun z => e (z ▸ ha)⟩
theorem nd_merge : ∀ (more l : Prs), (l.map (·.1)).Nodup → ((mergeP l more).map (·.1)).Nodup
  | [], l, nd => nd
  | p :: r, l, nd => nd_merge r _ (nd_put p.1 p.2 nd)
theorem mem_put {l : Prs} {t h : Int} {p : Int × Int} : p ∈ putP l t h ↔ (p = (t, h)) ∨ (p ∈ l ∧ p.1 ≠ t) := by
  unfold putP
  split
  · rename_i e
    obtain ⟨q, hq, e⟩ := List.any_eq_true.mp e
    have e : q.1 = t := of_decide_eq_true e
    rw [List.mem_map]
    constructor
    · rintro ⟨x, hx, rfl⟩
      by_cases z : x.1 = t
      · rw [if_pos z, z]; exact .inl rfl
      · rw [if_neg z]; exact .inr ⟨hx, z⟩
    · rintro (rfl | ⟨h1, h2⟩)
      · exact ⟨q, hq, by rw [if_pos e, e]⟩
      · exact ⟨p, h1, if_neg h2⟩
  · rename_i e
    rw [List.mem_append, List.mem_singleton]
    constructor
    · rintro (h1 | h1)
      · exact .inr ⟨h1, fun z => e (any_iff.mpr (z ▸ List.mem_map_of_mem h1))⟩
      · exact .inl h1
    · rintro (h1 | ⟨h1, _⟩)
      · exact .inr h1
      · exact .inl h1
/-- p is the last one of its time -/
def Last (l : Prs) (p : Int × Int) : Prop := p ∈ mergeP [] l
theorem merge_snoc (l : Prs) (q : Int × Int) : mergeP [] (l ++ [q]) = putP (mergeP [] l) q.1 q.2 := by
  unfold mergeP
  rw [List.foldl_append]
  rfl
theorem last_snoc {l : Prs} {q p : Int × Int} : Last (l ++ [q]) p ↔ p = q ∨ (Last l p ∧ p.1 ≠ q.1) := by
  unfold Last
  rw [merge_snoc, mem_put]
theorem mem_merge {p : Int × Int} : ∀ (more l : Prs), p ∈ mergeP l more → p ∈ l ∨ p ∈ more
  | [], l, h => .inl h
  | q :: r, l, h => by
    rcases mem_merge r _ h with h | h
    · rcases mem_put.mp h with h | h
      · exact .inr (h ▸ List.mem_cons_self ..)
      · exact .inl h.1
    · exact .inr (List.mem_cons_of_mem _ h)
theorem Last.mem {l : Prs} {p : Int × Int} (h : Last l p) : p ∈ l := by
  rcases mem_merge l [] h with h | h
  · simp at h
  · exact h
theorem len_put (l : Prs) (t h : Int) : (putP l t h).length ≤ l.length + 1 := by
  unfold putP
  split <;> simp
theorem len_merge : ∀ (more l : Prs), (mergeP l more).length ≤ l.length + more.length
  | [], l => Nat.le_refl _
  | p :: r, l => by
    have h1 := len_merge r (putP l p.1 p.2)
    have h2 := len_put l p.1 p.2
    show (mergeP (putP l p.1 p.2) r).length ≤ _
    simp only [List.length_cons]
    omega
/-- c is the curve of the samples l -/
structure IsC (l c : Prs) : Prop where
  up : c.Pairwise fun p q => p.1 < q.1
  mem : ∀ p, p ∈ c ↔ Last l p
  len0 : c.length = (mergeP [] l).length
theorem IsC.len {l c : Prs} (h : IsC l c) : c.length ≤ l.length := by
  rw [h.len0]
  have := len_merge l []
  simpa using this
theorem up_ext : ∀ {l l' : Prs}, (l.Pairwise fun p q => p.1 < q.1) → (l'.Pairwise fun p q => p.1 < q.1) → (∀ p, p ∈ l ↔ p ∈ l') → l = l'
  | [], [], _, _, _ => rfl
  | [], q :: r, _, _, h => by have := (h q).mpr (List.mem_cons_self ..); simp at this
  | p :: r, [], _, _, h => by have := (h p).mp (List.mem_cons_self ..); simp at this
  | p :: r, q :: r', h1, h2, h => by
    obtain ⟨a1, a2⟩ := List.pairwise_cons.mp h1
    obtain ⟨b1, b2⟩ := List.pairwise_cons.mp h2
    have e : p = q := by
      rcases List.mem_cons.mp ((h p).mp (List.mem_cons_self ..)) with z | z
      · exact z
      · rcases List.mem_cons.mp ((h q).mpr (List.mem_cons_self ..)) with y | y
        · exact y.symm
        · have := a1 q y; have := b1 p z; omega
    subst e
    congr 1
    refine up_ext a2 b2 fun x => ⟨fun hx => ?_, fun hx => ?_⟩
    · rcases List.mem_cons.mp ((h x).mp (List.mem_cons_of_mem _ hx)) with z | z
      · subst z; have := a1 _ hx; omega
      · exact z
    · rcases List.mem_cons.mp ((h x).mpr (List.mem_cons_of_mem _ hx)) with z | z
      · subst z; have := b1 _ hx; omega
      · exact z
theorem IsC.uniq {l c c' : Prs} (h : IsC l c) (h' : IsC l c') : c = c' := up_ext h.up h'.up fun p => (h.mem p).trans (h'.mem p).symm
/-- what dict and sorted make -/
def outOf (m : Prs) (ys : List Int) : Prs := ys.map fun t => (t, (valP m t).getD 0)
theorem isC_out {l : Prs} {ys : List Int} (hp : ys.Perm ((mergeP [] l).map (·.1))) (hs : ys.Pairwise (· ≤ ·)) : IsC l (outOf (mergeP [] l) ys) := by
  have nd := nd_merge l [] (by simp)
  have ndy : ys.Nodup := hp.nodup_iff.mpr nd
  refine ⟨?_, fun p => ?_, ?_⟩
  · unfold outOf
    rw [List.pairwise_map]
    refine List.Pairwise.imp₂ (fun a b h1 h2 => ?_) hs ndy
    show a < b
    have : a ≠ b := h2
    omega
  · unfold outOf Last
    rw [List.mem_map]
    constructor
    · rintro ⟨t, ht, rfl⟩
      obtain ⟨q, hq, e⟩ := List.mem_map.mp (hp.mem_iff.mp ht)
      have e2 : valP (mergeP [] l) t = some q.2 := (valP_iff nd).mpr (by rw [← e]; exact hq)
      rw [e2]
      rw [← e]
      exact hq
    · intro h
      refine ⟨p.1, hp.mem_iff.mpr (List.mem_map_of_mem h), ?_⟩
      have e2 : valP (mergeP [] l) p.1 = some p.2 := (valP_iff nd).mpr h
      rw [e2]
      rfl
  · unfold outOf
    rw [List.length_map, hp.length_eq, List.length_map]
/-- samples each of its own time, rising: their own curve -/
theorem last_nodup : ∀ {l : Prs} {p : Int × Int}, (l.map (·.1)).Nodup → (Last l p ↔ p ∈ l) := by
  intro l
  suffices h : ∀ n, ∀ l : Prs, l.length = n → ∀ p, (l.map (·.1)).Nodup → (Last l p ↔ p ∈ l) from fun {p} nd => h _ l rfl p nd
  intro n
  induction n with
  | zero =>
    intro l hl p _
    have : l = [] := List.length_eq_zero_iff.mp hl
    subst this
    simp [Last, mergeP]
  | succ n ih =>
    intro l hl p nd
    have hne : l ≠ [] := by intro z; subst z; simp at hl
    rw [← List.dropLast_concat_getLast hne] at nd ⊢
    rw [List.map_append, List.nodup_append] at nd
    rw [last_snoc, ih _ (by simp [hl]) p nd.1, List.mem_append, List.mem_singleton]
    constructor
    · rintro (h | h)
      · exact .inr h
      · exact .inl h.1
    · rintro (h | h)
      · exact .inr ⟨h, nd.2.2 _ (List.mem_map_of_mem h) _ (by simp)⟩
      · exact .inl h
theorem up_nodup {c : Prs} (h : c.Pairwise fun p q => p.1 < q.1) : (c.map (·.1)).Nodup := by
  unfold List.Nodup
  rw [List.pairwise_map]
  exact h.imp fun h => by omega
theorem keys_in {t : Int} : ∀ (more l : Prs), t ∈ l.map (·.1) ∨ t ∈ more.map (·.1) → t ∈ (mergeP l more).map (·.1)
  | [], l, h => by
    rcases h with h | h
    · exact h
    · simp at h
  | p :: r, l, h => by
    refine keys_in r (putP l p.1 p.2) ?_
    rw [keys_put]
    rcases h with h | h
    · left
      split
      · exact h
      · exact List.mem_append_left _ h
    · rw [List.map_cons, List.mem_cons] at h
      rcases h with h | h
      · left
        subst h
        split
        · assumption
        · exact List.mem_append_right _ (by simp)
      · exact .inr h
theorem nodup_of_len : ∀ n, ∀ l : Prs, l.length = n → (mergeP [] l).length = l.length → (l.map (·.1)).Nodup := by
  intro n
  induction n with
  | zero =>
    intro l hl _
    have : l = [] := List.length_eq_zero_iff.mp hl
    subst this
    exact List.Pairwise.nil
  | succ n ih =>
    intro l hl h
    have hne : l ≠ [] := by intro z; subst z; simp at hl
    rw [← List.dropLast_concat_getLast hne] at h ⊢
    have hd : l.dropLast.length = n := by simp [hl]
    generalize l.dropLast = d at *
    generalize l.getLast hne = q at *
    rw [merge_snoc] at h
    have e := congrArg List.length (keys_put (mergeP [] d) q.1 q.2)
    simp only [List.length_map] at e
    have hb := len_merge d []
    rw [h] at e
    simp only [List.length_append, List.length_cons, List.length_nil] at e hb
    by_cases hq : q.1 ∈ (mergeP [] d).map (·.1)
    · rw [if_pos hq, List.length_map] at e
      omega
    · rw [if_neg hq, List.length_append, List.length_map] at e
      simp only [List.length_cons, List.length_nil] at e
      rw [List.map_append, List.nodup_append]
      refine ⟨ih d hd (by omega), by simp, fun a ha b hb2 => ?_⟩
      simp at hb2
      subst hb2
      intro z
      subst z
      exact hq (keys_in d [] (.inr ha))
theorem IsC.again {l l' c c' : Prs} (h : IsC l c) (nd : (l.map (·.1)).Nodup) (h' : IsC l' c') (nd' : (l'.map (·.1)).Nodup) (hm : ∀ p, p ∈ l' ↔ p ∈ l) : c' = c :=
  up_ext h'.up h.up fun p => by rw [h'.mem, h.mem, last_nodup nd, last_nodup nd', hm]
theorem IsC.self {c c' : Prs} (hc : c.Pairwise fun p q => p.1 < q.1) (h : IsC c c') : c' = c := up_ext h.up hc fun p => by rw [h.mem, last_nodup (up_nodup hc)]
def prsLD (l : Prs) : PyData := .list (l.map pairP)
theorem shp_prsL (l : Prs) : Shp 2 (prsLD l) := Shp.listM (n := 1) shp_pair
theorem shaped_prsL (l : Prs) : SeqAt.shaped (prsLD l) = true := (shp_prsL l).ok
theorem eqv_prsL (l m : Prs) : PyData.eqv (prsLD l) (prsLD m) = decide (l = m) := by
  unfold prsLD
  rw [PyData.eqv]
  exact eqvAll_prs l m
theorem merge_take {l : Prs} {i : Nat} {p : Int × Int} (h : l[i]? = some p) : mergeP [] (l.take (i + 1)) = putP (mergeP [] (l.take i)) p.1 p.2 := by
  rw [take_snoc h, merge_snoc]
theorem dpAll_rev {K : PySem.W.Frag} {H : Hp} : ∀ {ws : List V} {ds : List PyData}, DpAll K H ws ds → DpAll K H ws.reverse ds.reverse
  | _, _, .nil => .nil
  | _, _, .cons h1 h2 => by
    rw [List.reverse_cons, List.reverse_cons]
    exact dpAll_snoc (dpAll_rev h2) h1
/-! ### dicts, step by step -/
section
variable {X : Cx} {K : PySem.W.Frag} {σ : St} {H H' : Hp} {Q : VK} {td ty tv te : TE} {nx bk ct : St → Hp → Prop} {rt : VK} {a : Addr} {kvs : List (Key × V)} {k : Key} {v x y : V}
def uDGet (x y : V) (H : Hp) (Q : VK) : Prop := ∃ a v, x = .ref a ∧ DGet H a y (some v) ∧ Q v H
theorem r_dget (q : td σ H fun x H1 => ty σ H1 fun y H2 => uDGet x y H2 Q) : tDGet td ty σ H Q := q
theorem r_dgeti {m : Prs} {t h : Int} (hd : H a = some (.dK (m.map inj))) (e : valP m t = some h) (q : Q (.int h) H) : uDGet (.ref a) (.int t) H Q := by
  refine ⟨a, .int h, rfl, ?_, q⟩
  have z := DGet.k (k := Sum.inl t) hd
  rw [val_inj, e] at z
  exact z
def uDPut (x y v : V) (H : Hp) (R : Hp → Prop) : Prop := ∃ a H4, x = .ref a ∧ DPut H a y v H4 ∧ R H4
theorem r_dput (q : tv σ H fun v H1 => td σ H1 fun x H2 => ty σ H2 fun y H3 => uDPut x y v H3 fun H4 => nx σ H4) : sDPut td ty tv ⟨nx, rt, bk, ct⟩ σ H := q
theorem r_dputi {m : Prs} {t h : Int} {R : Hp → Prop} (hd : H a = some (.dK (m.map inj))) (hl : m.length ≤ 100000) (q : ∀ H', Keep (At a) H H' → H' a = some (.dK ((putP m t h).map inj)) → R H') : uDPut (.ref a) (.int t) (.int h) H R := by
  refine ⟨a, _, rfl, DPut.k (k := Sum.inl t) hd (by rw [sizeLine_eq, List.length_map]; omega), q _ Keep.at_ ?_⟩
  rw [upd_same, put_inj]
theorem r_dnew (q : ∀ p H', H p = none → Same H H' → H' p = some (.dK []) → Q (.ref p) H') : tDNewK σ H Q := fun p hp => q p _ hp (Keep.same (Keep.new hp)) upd_same
def uDictP (K : PySem.W.Frag) : List V → Hp → VK → Prop := fun xs H Q => ∃ (a : Addr) (ps : List Addr) (kvs : List (Key × V)), xs = [.ref a] ∧ SqL K H a (ps.map V.ref) ∧ Paired (fun p kv => SqT K H p [kV kv.1, kv.2]) ps kvs ∧ ∀ p, H p = none → Q (.ref p) (upd H p (.dK (mergeK [] kvs)))
theorem c_dictP (hcalm : X.calm = true) : CallR X (.type "dict") (uDictP X.K) := call_dictP hcalm
theorem dp_pairs : ∀ {ws : List V} {l : Prs}, DpAll K H ws (l.map pairP) → ∃ ps : List Addr, ws = ps.map V.ref ∧ Paired (fun p kv => SqT K H p [kV kv.1, kv.2]) ps (l.map inj)
  | _, [], .nil => ⟨[], rfl, .nil⟩
  | _, p :: l, .cons h1 h2 => by
    obtain ⟨b, rfl, hb⟩ := dp_pair h1
    obtain ⟨ps, rfl, hp⟩ := dp_pairs h2
    exact ⟨b :: ps, rfl, .cons hb hp⟩
theorem r_dict {l : Prs} {ws : List V} (h : SqL K H a ws) (hd : DpAll K H ws (l.map pairP)) (q : ∀ p H', H p = none → Same H H' → H' p = some (.dK ((mergeP [] l).map inj)) → Q (.ref p) H') : uDictP K [.ref a] H Q := by
  obtain ⟨ps, rfl, hp⟩ := dp_pairs hd
  refine ⟨a, ps, l.map inj, rfl, h, hp, fun p hn => q p _ hn (Keep.same (Keep.new hn)) ?_⟩
  rw [upd_same]
  congr 2
  exact merge_inj l []
def uSortedD : List V → Hp → VK → Prop := fun xs H Q => ∃ (a : Addr) (kvs : List (Key × V)) (ks : List Int), xs = [.ref a] ∧ Rd H a (.dK kvs) ∧ kvs.map (·.1) = ks.map Sum.inl ∧ ks.length < 64 ∧
    ∀ (ys : List Int) (p : Addr), ys.Perm ks → ys.Pairwise (· ≤ ·) → H p = none → Q (.ref p) (upd H p (.lst (ys.map V.int)))
theorem c_sortedD (hcalm : X.calm = true) : CallR X (.builtin "sorted") uSortedD := call_sortedDI hcalm
theorem r_sortedD {m : Prs} (hd : H a = some (.dK (m.map inj))) (hl : m.length < 64) (q : ∀ (ys : List Int) p H', ys.Perm (m.map (·.1)) → ys.Pairwise (· ≤ ·) → H p = none → Same H H' → H' p = some (.lst (ys.map V.int)) → Q (.ref p) H') : uSortedD [.ref a] H Q :=
  ⟨a, m.map inj, m.map (·.1), rfl, .inl hd, by rw [List.map_map, List.map_map]; rfl, by simpa using hl, fun ys p h1 h2 h3 => q ys p _ h1 h2 h3 (Keep.same (Keep.new h3)) upd_same⟩
end
/-! ### parts of a curve -/
def partL (c : Prs) (b e : Int) : Prs := c.filter fun p => decide (b ≤ p.1) && decide (p.1 < e)
theorem partL_app {c : Prs} {a b d : Int} (hc : c.Pairwise fun p q => p.1 < q.1) (h1 : a ≤ b) (h2 : b ≤ d) : partL c a b ++ partL c b d = partL c a d := by
  induction c with
  | nil => rfl
  | cons p r ih =>
    obtain ⟨c1, c2⟩ := List.pairwise_cons.mp hc
    have ih := ih c2
    unfold partL at *
    by_cases h3 : p.1 < b
    · have e2 : (p :: r).filter (fun p => decide (b ≤ p.1) && decide (p.1 < d)) = r.filter (fun p => decide (b ≤ p.1) && decide (p.1 < d)) := List.filter_cons_of_neg (by simp; omega)
      rw [e2]
      by_cases h4 : a ≤ p.1
      · rw [List.filter_cons_of_pos (by simp; omega), List.filter_cons_of_pos (by simp; omega)]
        simp only [List.cons_append]
        rw [← ih]
      · rw [List.filter_cons_of_neg (by simp; omega), List.filter_cons_of_neg (by simp; omega)]
        exact ih
    · have e1 : r.filter (fun p => decide (a ≤ p.1) && decide (p.1 < b)) = [] := by
        rw [List.filter_eq_nil_iff]
        intro q hq
        have := c1 q hq
        simp
        omega
      rw [List.filter_cons_of_neg (by simp; omega), e1, List.nil_append]
      rw [e1, List.nil_append] at ih
      by_cases h4 : p.1 < d
      · rw [List.filter_cons_of_pos (by simp; omega), List.filter_cons_of_pos (by simp; omega), ih]
      · rw [List.filter_cons_of_neg (by simp; omega), List.filter_cons_of_neg (by simp; omega), ih]
theorem partL_self (c : Prs) (a b : Int) : partL (partL c a b) a b = partL c a b := by
  unfold partL
  rw [List.filter_filter]
  simp
theorem partL_len (c : Prs) (a b : Int) : (partL c a b).length ≤ c.length := List.length_filter_le _ _
/-! ### bounds -/
/-- numbers that the laws draw -/
def big : Int := 1000000000000000000000000000000000000000000000000000000000000
structure Bd (p : Int × Int) : Prop where
  t : -big ≤ p.1 ∧ p.1 ≤ big
  h : -big ≤ p.2 ∧ p.2 ≤ big
end Fp
namespace Lk45
open PySem PySem.Spec PyProof.Rows L2 Fp
open TL (tl tl_append)
/-! ### runs, lines, pictures -/
abbrev Run := Option (Int × Int)
def runD : Run → PyData
  | none => .none
  | some p => pairP p
theorem imm_run (r : Run) : imm (runD r) = true := by
  cases r with
  | none => rfl
  | some p => exact imm_pair p
def hit (r : Run) (row : Int) : Bool := match r with
  | none => false
  | some p => decide (p.1 ≤ row) && decide (row ≤ p.2)
def sgn (r : Run) (row : Int) : Nat := if hit r row = true then 35 else 46
def sgnS (r : Run) (row : Int) : Str := if hit r row = true then "#" else "."
theorem tl_sgn (r : Run) (row : Int) : tl (sgnS r row) = [sgn r row] := by
  unfold sgnS sgn
  split
  · decide +kernel
  · decide +kernel
def lineN (rs : List Run) (row : Int) : List Nat := rs.map fun r => sgn r row
def lineS (rs : List Run) (row : Int) : Str := ⟨(lineN rs row).toArray⟩
theorem tl_line (rs : List Run) (row : Int) : tl (lineS rs row) = lineN rs row := by simp [lineS, tl]
theorem len_line (rs : List Run) (row : Int) : (lineS rs row).length = rs.length := by rw [len_tl, tl_line]; simp [lineN]
theorem flat_one {α : Type} (f : α → Nat) : ∀ l : List α, (l.map fun c => [f c]).flatten = l.map f
  | [] => rfl
  | c :: l => by simp [flat_one f l]
theorem join_line (rs : List Run) (row : Int) : Txt.join ("" : Str) (rs.map fun r => sgnS r row) = lineS rs row := by
  apply tl_inj
  rw [tl_join0, tl_line, List.map_map]
  show (rs.map fun r => tl (sgnS r row)).flatten = _
  simp only [tl_sgn]
  exact flat_one _ rs
theorem line_snoc {rs : List Run} {i : Nat} {r : Run} {row : Int} (h : rs[i]? = some r) : lineS (rs.take (i + 1)) row = lineS (rs.take i) row ++ sgnS r row := by
  apply tl_inj
  rw [tl_append, tl_line, tl_line, tl_sgn, take_snoc h]
  unfold lineN
  rw [List.map_append]
  rfl
/-- the picture's first k rows, from above -/
def picN (rs : List Run) (rows : Int) (k : Nat) : List Nat := ((List.range k).map fun (i : Nat) => lineN rs (rows - 1 - (i : Int)) ++ [10]).flatten
def picS (rs : List Run) (rows : Int) (k : Nat) : Str := ⟨(picN rs rows k).toArray⟩
theorem tl_pic (rs : List Run) (rows : Int) (k : Nat) : tl (picS rs rows k) = picN rs rows k := by simp [picS, tl]
theorem pic_zero (rs : List Run) (rows : Int) : picS rs rows 0 = ("" : Str) := tl_inj (by rw [tl_pic, show tl ("" : Str) = [] by decide +kernel]; rfl)
theorem tl_nl : tl ("\n" : Str) = [10] := by decide +kernel
theorem pic_succ (rs : List Run) (rows : Int) (k : Nat) : picS rs rows (k + 1) = picS rs rows k ++ lineS rs (rows - 1 - (k : Int)) ++ ("\n" : Str) := by
  apply tl_inj
  rw [tl_append, tl_append, tl_pic, tl_pic, tl_line, tl_nl]
  unfold picN
  rw [List.range_succ, List.map_append, List.flatten_append]
  simp
theorem len_pic (rs : List Run) (rows : Int) : ∀ k, (picS rs rows k).length = k * (rs.length + 1)
  | 0 => by rw [pic_zero]; simp; decide +kernel
  | k + 1 => by
    have h : ("\n" : Str).length = 1 := by decide +kernel
    have e : ∀ x y : Str, (x ++ y).length = x.length + y.length := fun x y => by rw [len_tl, len_tl, len_tl, tl_append, List.length_append]
    rw [pic_succ, e, e, len_pic rs rows k, len_line, h, Nat.add_mul]
    omega
theorem join_pic (rs : List Run) (n : Nat) : Txt.join ("" : Str) (((List.range n).map fun (i : Nat) => lineS rs (i : Int)).reverse.map fun s => s ++ ("\n" : Str)) = picS rs (n : Int) n := by
  apply tl_inj
  rw [tl_join0, tl_pic]
  unfold picN
  congr 1
  rw [List.map_map, ← List.map_reverse, List.map_map]
  refine List.ext_getElem (by simp) fun i h1 h2 => ?_
  simp only [List.length_map, List.length_range] at h2
  simp only [List.getElem_map, List.getElem_reverse, List.getElem_range, List.length_range, Function.comp, tl_append, tl_line, tl_nl]
  congr 2
  omega
/-! steps by their head -/
local macro_rules | `(tactic| walk_at "s") => `(tactic| first
  | (with_reducible refine' r_seq ?_)
  | (with_reducible refine' r_cons ?_)
  | ((with_reducible refine' r_var ?hvv ?_); (case hvv => exact rfl))
  | (with_reducible refine' r_c ?_)
  | (with_reducible refine' r_nil ?_)
  | (with_reducible refine' r_op ?_)
  | (with_reducible refine' r_tup ?_)
  | (with_reducible refine' r_lst ?_)
  | (with_reducible refine' r_I0 ?_)
  | (with_reducible refine' r_asg ?_)
  | (with_reducible refine' r_fn ?_)
  | (with_reducible refine' r_fnS ?_)
  | (with_reducible refine' r_CB ?_)
  | (with_reducible refine' r_ret ?_)
  | (with_reducible refine' r_ifS ?_)
  | (with_reducible refine' r_test ?_)
  | (with_reducible refine' r_B ?_)
  | (with_reducible refine' r_bl ?_)
  | (with_reducible refine' r_and ?_)
  | (with_reducible refine' r_or ?_)
  | (with_reducible refine' r_not ?_)
  | (with_reducible refine' r_yes ?_)
  | (with_reducible refine' r_andV ?_)
  | (with_reducible refine' r_orV ?_)
  | (with_reducible refine' r_notV ?_)
  | (with_reducible refine' r_if ?_)
  | (with_reducible refine' r_chain ?_)
  | (with_reducible refine' r_eq_i ?_)
  | (with_reducible refine' r_ne_i ?_)
  | (with_reducible refine' r_un ?_)
  | (with_reducible refine' r_U ?_)
  | (with_reducible refine' r_int_i ?_)
  | (with_reducible refine' r_int_b ?_)
  | (with_reducible refine' r_abs ?_)
  | (with_reducible refine' r_max2 ?_)
  | (with_reducible refine' r_min2 ?_)
  | (with_reducible refine' r_isB ?_)
  | (with_reducible refine' r_notB ?_)
  | (with_reducible refine' r_isN_n ?_)
  | (with_reducible refine' r_isN_i ?_)
  | (with_reducible refine' r_isN_r ?_)
  | (with_reducible refine' r_isN_s ?_)
  | (with_reducible refine' r_notN_n ?_)
  | (with_reducible refine' r_notN_i ?_)
  | (with_reducible refine' r_notN_r ?_)
  | (with_reducible refine' r_notN_s ?_)
  | ((with_reducible refine' r_isN ?hvv ?_); (case hvv => exact rfl))
  | ((with_reducible refine' r_notN ?hvv ?_); (case hvv => exact rfl))
  | ((with_reducible refine' r_aug ?hvv ?_); (case hvv => exact rfl))
  | (with_reducible refine' r_ipI ?_)
  | (with_reducible refine' r_next ?_)
  | (with_reducible refine' r_par ?_)
  | (with_reducible refine' r_par2 ?_)
  | (with_reducible refine' r_drop ?_)
  | (with_reducible refine' r_gname ?_)
  | (with_reducible refine' r_asgG ?_)
  | (with_reducible refine' r_gsub ?_)
  | (with_reducible refine' r_gcons ?_)
  | (with_reducible refine' r_gnil ?_)
  | (with_reducible refine' r_retN ?_)
  | (with_reducible refine' r_for ?_)
  | (with_reducible refine' r_lc ?_)
  | (with_reducible refine' r_ilist ?_)
  | (with_reducible refine' r_itup ?_)
  | (with_reducible refine' r_irng1 ?_)
  | (with_reducible refine' r_irng2 ?_)
  | (with_reducible refine' r_izip ?_)
  | (with_reducible refine' r_sl ?_)
  | (with_reducible refine' r_nopart ?_)
  | (with_reducible refine' r_part ?_)
  | (with_reducible refine' r_parti ?_)
  | (with_reducible refine' r_bm ?_)
  | (with_reducible refine' r_m1 ?_)
  | (with_reducible refine' r_m1s ?_)
  | (with_reducible refine' r_irngU ?_)
  | (with_reducible refine' r_bm0 ?_)
  | (with_reducible refine' r_revL ?_)
  | (with_reducible refine' r_isi_ii ?_)
  | (with_reducible refine' r_isi_ib ?_)
  | (with_reducible refine' r_isi_it ?_)
  | (with_reducible refine' r_isi_is ?_)
  | (with_reducible refine' r_isi_ni ?_)
  | (with_reducible refine' r_isi_nt ?_)
  | (with_reducible refine' r_isi_bb ?_)
  | (with_reducible refine' r_isi_bi ?_)
  | (with_reducible refine' r_isi_ss ?_)
  | (with_reducible refine' r_isi_si ?_)
  | (with_reducible refine' r_isi_st ?_)
  | (with_reducible refine' r_brk ?_)
  | (with_reducible refine' r_cont ?_)
  | (with_reducible refine' i_T ?_)
  | (with_reducible refine' i_F ?_)
  | (with_reducible refine' i_NT ?_)
  | (with_reducible refine' i_NF ?_)
  | fail)
/-! sides -/
local macro_rules | `(tactic| walk_at "mul") => `(tactic| first
  | exact mul_r (by decide) (by decide)
  | exact mul_l (by decide) (by decide)
  | exact mul_r (by omega) (by omega)
  | exact mul_l (by omega) (by omega)
  | exact mul_b (n := 256) (m := 256) (by omega) (by omega)
  | fail)
local macro_rules | `(tactic| walk_at "div") => `(tactic| first
  | exact div_b (n := 64) (by decide) (by decide)
  | exact div_b (n := 64) (by omega) (by omega)
  | exact div_b (n := 256) (by omega) (by omega)
  | fail)
local macro_rules | `(tactic| walk_at "ix") => `(tactic| first
  | rfl
  | assumption
  | fail)
/-- what a tuple, a list at an address is: by what is known, the heaps between going on -/
local macro_rules | `(tactic| walk_at "kp") => `(tactic| first
  | assumption
  | exact Keep.of_same (by assumption)
  | exact Keep.refl _
  | (refine' Keep.trans ?hk1 ?hk2; (case hk2 => first | assumption | exact Keep.of_same (by assumption)); (case hk1 => walk_at "kp"))
  | fail)
local macro_rules | `(tactic| walk_at "sm") => `(tactic| first
  | assumption
  | exact Same.refl _
  | (refine' Same.trans ?hk1 ?hk2; (case hk2 => assumption); (case hk1 => walk_at "sm"))
  | fail)
local macro_rules | `(tactic| walk_at "lk") => `(tactic| first
  | assumption
  | (refine' same_app ?hk1 ?hk2; (case hk1 => assumption); (case hk2 => walk_at "lk"))
  | (refine' Keep.app ?hk1 ?hk2 ?hk3; (case hk1 => assumption); (case hk2 => walk_at "lk"); (case hk3 => walk_at "ne"))
  | fail)
local macro_rules | `(tactic| walk_at "sqt") => `(tactic| first
  | assumption
  | (refine' SqT.of ?hk1; (case hk1 => walk_at "lk"))
  | walk_at "st"
  | fail)
local macro_rules | `(tactic| walk_at "sql") => `(tactic| first
  | assumption
  | (refine' SqL.of ?hk1; (case hk1 => walk_at "lk"))
  | (refine' Same.seq ?hk1 ?hk2; (case hk1 => assumption); (case hk2 => walk_at "sql"))
  | (refine' scr_sql ?hk1 ?hk2; (case hk1 => assumption); (case hk2 => walk_at "te"))
  | fail)
local macro_rules | `(tactic| walk_at "i") => `(tactic| first
  | ((with_reducible refine' r_ix01 ?hva ?_); (case hva => walk_at "sql"); intro _ _)
  | ((with_reducible refine' r_gtup ?hva ?hvb ?_); (case hva => walk_at "sqt"); (case hvb => exact rfl))
  | ((with_reducible refine' r_glst ?hva ?hvb ?_); (case hva => walk_at "sql"); (case hvb => exact rfl))
  | ((with_reducible refine' r_new ?hvv ?_); (case hvv => exact sz_lit rfl); intro _ _ _ _ _)
  | ((with_reducible refine' r_I ?hvv ?_); (case hvv => first | (with_reducible show IntMulOk _ _; walk_at "mul") | (with_reducible show CDivW _ _; walk_at "div") | (with_reducible show (0 : Int) < _; first | omega | exact two_pos _) | decide))
  | ((with_reducible refine' r_ixl ?hva ?hvb ?_); (case hva => walk_at "sql"); (case hvb => walk_at "ix"))
  | ((with_reducible refine' r_ixt ?hva ?hvb ?_); (case hva => walk_at "sqt"); (case hvb => walk_at "ix"))
  | ((with_reducible refine' r_len_l ?hva ?hvb ?_); (case hva => walk_at "sql"); (case hvb => first | (simp only [List.length_cons, List.length_nil, List.length_map, Nat.reduceAdd, Nat.zero_add]; exact rfl) | exact rfl))
  | ((with_reducible refine' r_len_t ?hva ?hvb ?_); (case hva => walk_at "sqt"); (case hvb => first | (simp only [List.length_cons, List.length_nil, List.length_map, Nat.reduceAdd, Nat.zero_add]; exact rfl) | exact rfl))
  | ((with_reducible refine' r_isi_tt ?hva ?_); (case hva => walk_at "sqt"))
  | ((with_reducible refine' r_isi_ti ?hva ?_); (case hva => walk_at "sqt"))
  | ((with_reducible refine' r_sll ?hva ?_); (case hva => walk_at "sql"); intro _ _ _ _ _)
  | ((with_reducible refine' r_revl ?hva ?_); (case hva => walk_at "sql"); intro _ _ _ _ _)
  | ((with_reducible refine' r_sla ?hva ?_); (case hva => walk_at "sqt"); intro _ _ _ _)
  | ((with_reducible refine' r_cat ?hva ?hvb ?hvc ?_); (case hva => walk_at "lk"); (case hvb => walk_at "lk"); (case hvc => first | exact sz_lit rfl | (refine sz_le ?_; omega)); intro _ _ _ _ _)
  | ((with_reducible refine' r_catA ?hva ?hvb ?hvc ?_); (case hva => walk_at "sqt"); (case hvb => walk_at "sqt"); (case hvc => first | exact sz_lit rfl | (refine sz_le ?_; omega)); intro _ _ _ _)
  | ((with_reducible refine' r_tuple_l ?hva ?_); (case hva => walk_at "sql"); intro _ _ _ _ _)
  | ((with_reducible refine' r_tuple_t ?hva ?_); (case hva => walk_at "sqt"))
  | ((with_reducible refine' r_list_l ?hva ?_); (case hva => walk_at "sql"); intro _ _ _ _ _)
  | ((with_reducible refine' r_list_t ?hva ?_); (case hva => walk_at "sqt"); intro _ _ _ _ _)
  | ((with_reducible refine' r_shl1 ?hva ?_); (case hva => omega))
  | ((with_reducible refine' r_shl2 ?hva ?_); (case hva => omega))
  | ((with_reducible refine' r_shl ?hva ?_); (case hva => omega))
  | (with_reducible refine' r_shr ?_)
  | ((with_reducible refine' i_pos ?hvv ?_); (case hvv => first | decide | omega))
  | ((with_reducible refine' i_neg ?hvv ?_); (case hvv => first | decide | omega))
  | ((with_reducible refine' i_npos ?hvv ?_); (case hvv => first | decide | omega))
  | ((with_reducible refine' i_nneg ?hvv ?_); (case hvv => first | decide | omega))
  | ((with_reducible refine' r_rng1 ?hva ?hvb ?_); (case hva => omega); (case hvb => omega))
  | ((with_reducible refine' r_rng2 ?hva ?hvb ?hvc ?hvd ?_); (case hva => omega); (case hvb => omega); (case hvc => omega); (case hvd => omega))
  | ((with_reducible refine' r_wl ?hva ?_); (case hva => walk_at "sql"))
  | ((with_reducible refine' r_wt ?hva ?_); (case hva => walk_at "sqt"))
  | fail)
local macro_rules | `(tactic| walk_at "call") => `(tactic| fail)
local macro_rules | `(tactic| walk_at "a") => `(tactic| repeat' (first | walk_at "s" | walk_at "i" | walk_at "call" | fail))

def top (i : Nat) : Stmt := PySem.Challenge.pw_fourpoints_k45_pictures_of_dots.main.body.getD i (.Pass ⟨0, 0, 0, 0⟩)
abbrev s_sign_of : Stmt := top 1
abbrev s_dots_text : Stmt := top 2
abbrev s_law_cell : Stmt := top 4
abbrev s_law_purse : Stmt := top 5
abbrev s_law_draw : Stmt := top 6
abbrev s_law_many : Stmt := top 7
abbrev s_law_run : Stmt := top 8
abbrev s_law_line : Stmt := top 9
abbrev s_law : Stmt := top 10
theorem sc_sign_of : FnScope ["run", "row"] ["run", "row"] (defScope s_sign_of) := ⟨rfl, rfl, rfl, by decide +kernel, rfl, by decide +kernel, by decide +kernel⟩
theorem sc_dots_text : FnScope ["dots", "rows", "text", "row", "run"] ["dots", "rows"] (defScope s_dots_text) := ⟨rfl, rfl, rfl, by decide +kernel, rfl, by decide +kernel, by decide +kernel⟩
theorem sc_law_cell : FnScope ["_law_script", "_law_k"] ["_law_script", "_law_k"] (defScope s_law_cell) := ⟨rfl, rfl, rfl, by decide +kernel, rfl, by decide +kernel, by decide +kernel⟩
theorem sc_law_purse : FnScope ["_law_cell_here", "_law_k"] ["_law_cell_here", "_law_k"] (defScope s_law_purse) := ⟨rfl, rfl, rfl, by decide +kernel, rfl, by decide +kernel, by decide +kernel⟩
theorem sc_law_draw : FnScope ["_law_purse_here", "_law_many_here", "_law_digit"] ["_law_purse_here", "_law_many_here"] (defScope s_law_draw) := ⟨rfl, rfl, rfl, by decide +kernel, rfl, by decide +kernel, by decide +kernel⟩
theorem sc_law_many : FnScope ["_law_purse_here", "_law_few", "_law_most"] ["_law_purse_here", "_law_few", "_law_most"] (defScope s_law_many) := ⟨rfl, rfl, rfl, by decide +kernel, rfl, by decide +kernel, by decide +kernel⟩
theorem sc_law_run : FnScope ["_law_purse_here", "_law_rows", "_law_way", "_law_one", "_law_other"] ["_law_purse_here", "_law_rows"] (defScope s_law_run) := ⟨rfl, rfl, rfl, by decide +kernel, rfl, by decide +kernel, by decide +kernel⟩
theorem sc_law_line : FnScope ["_law_runs", "_law_row", "_law_line_here", "_law_run_here"] ["_law_runs", "_law_row"] (defScope s_law_line) := ⟨rfl, rfl, rfl, by decide +kernel, rfl, by decide +kernel, by decide +kernel⟩
theorem sc_law : FnScope ["_law_script", "_law_k", "_law_purse_here", "_law_rows", "_law_runs", "_law_lines", "_law_j", "_law_row", "_law_line_here"] ["_law_script"] (defScope s_law) := ⟨rfl, rfl, rfl, by decide +kernel, rfl, by decide +kernel, by decide +kernel⟩
/-! script[k] or 0 -/
def sp_nth (K : PySem.W.Frag) : Sp := fun vs H Q _ => ∃ (a : Addr) (ns : List Int) (k : Nat), vs = [.ref a, .int k] ∧ SqL K H a (ns.map V.int) ∧ Q (.int (ns.getD k 0)) H
theorem getD_map_int {ns : List Int} {k : Nat} (h : k < ns.length) : (ns.map V.int)[k]? = some (V.int (ns.getD k 0)) := by
  rw [List.getElem?_map, List.getElem?_eq_getElem h]
  simp [List.getD, h]
section
variable {P : Program} {w : World} {K : PySem.W.Frag} {mg : Str → Option Value} {base : Heap}
theorem ok_law_cell (B : Blt mg) (D : Def K mg "_law_cell" s_law_cell ["_law_script", "_law_k"]) :
    Fn P w K mg base 1 "_law_cell" ["_law_script", "_law_k"] (sp_nth K) := by
  refine D.ok sc_law_cell (fun vs H Q E h => ?_) (fun f cdv A outer s H vs Q E hr h => ?_)
  · obtain ⟨a, ns, k, rfl, hS, q⟩ := h
    rfl
  · obtain ⟨a, ns, k, rfl, hS, q⟩ := h
    refine ⟨_, (pss_one (ps_ret (pe_ifExp (pt_cmpR op_lt (pv 1) (pe_callB (crK K c_len) rfl B.len (by decide +kernel) (pa_cons (pv 0) pa_nil)) (nomark _)) (pe_ix (ixK K ix_seq) (pv 0) (pv 1) (fun _ _ => rfl)) pe_int))), ?_⟩
    refine r_start (σ' := [some (.ref a), some (.int k)]) rfl ?_
    walk_at "a"
    refine i_cases (fun hk => ?_) (fun hk => ?_)
    · walk_at "a"
      exact r_ixl hS (at_of rfl (getD_map_int (by omega))) q
    · walk_at "a"
      have e0 : ns.getD k 0 = 0 := by
        have h1 : ns.length ≤ k := by omega
        simp [List.getD, h1]
      rw [e0] at q
      exact q
end
theorem use_nth {K : PySem.W.Frag} {H : Hp} {Q : VK} {E : XK} {a : Addr} {ns : List Int} {z : Int} (h : SqL K H a (ns.map V.int)) (h0 : 0 ≤ z) (q : Q (.int (ns.getD z.toNat 0)) H) : sp_nth K [.ref a, .int z] H Q E :=
  ⟨a, ns, z.toNat, by rw [Int.toNat_of_nonneg h0], h, q⟩
local macro_rules | `(tactic| walk_at "call") => `(tactic| ((with_reducible refine' use_nth ?hva ?hvb ?_); (case hva => walk_at "sql"); (case hvb => omega)))

/-! the purse: a list of three numbers -/
structure Pot (H : Hp) (p : Addr) : Prop where
  ex : ∃ a b c : Int, H p = some (.lst [.int a, .int b, .int c]) ∧ 0 ≤ a ∧ 0 ≤ b ∧ 0 ≤ c ∧ c < 4294967296
theorem Pot.keep {H H' : Hp} {p : Addr} {F : Addr → Prop} (h : Pot H p) (k : Keep F H H') (n : ¬ F p) : Pot H' p := by
  obtain ⟨a, b, c, e, r⟩ := h.ex
  exact ⟨a, b, c, k p _ e n, r⟩
theorem Pot.same {H H' : Hp} {p : Addr} (h : Pot H p) (k : Same H H') : Pot H' p := by
  obtain ⟨a, b, c, e, r⟩ := h.ex
  exact ⟨a, b, c, k p _ e, r⟩
theorem Pot.text {H H' : Hp} {p : Addr} (h : Pot H p) (k : Keep (At p) H H') : TExt H H' := by
  obtain ⟨a, b, c, e, r⟩ := h.ex
  exact TExt.lst k e
theorem Pot.ne_new {H : Hp} {p q : Addr} (h : Pot H p) (hn : H q = none) : q ≠ p := by
  obtain ⟨a, b, c, e, r⟩ := h.ex
  exact fun z => by rw [z, e] at hn; cases hn
def sp_pot (K : PySem.W.Frag) : Sp := fun vs H Q _ => ∃ c k : Int, vs = [.int c, .int k] ∧ 0 ≤ k ∧ k ≤ 1000 ∧ ∀ (p : Addr) (H' : Hp), H p = none → Same H H' → Pot H' p → Q (.ref p) H'
def sp_take (K : PySem.W.Frag) : Sp := fun vs H Q _ => ∃ (p : Addr) (n : Int), vs = [.ref p, .int n] ∧ Pot H p ∧ 0 < n ∧ n ≤ 1000000000000000000000000000000000000000000000000000000000000000000000000000 ∧
  ∀ (r : Int) (H' : Hp), Keep (At p) H H' → Pot H' p → 0 ≤ r → r < n → Q (.int r) H'
section
variable {P : Program} {w : World} {K : PySem.W.Frag} {mg : Str → Option Value} {base : Heap}
theorem ok_law_purse (B : Blt mg) (D : Def K mg "_law_purse" s_law_purse ["_law_cell_here", "_law_k"]) :
    Fn P w K mg base 1 "_law_purse" ["_law_cell_here", "_law_k"] (sp_pot K) := by
  refine D.ok sc_law_purse (fun vs H Q E h => ?_) (fun f cdv A outer s H vs Q E hr h => ?_)
  · obtain ⟨c, k, rfl, k0, k1, q⟩ := h
    rfl
  · obtain ⟨c, k, rfl, k0, k1, q⟩ := h
    refine ⟨_, (pss_cons (ps_if (pt_cmpR op_ge (pv 0) (pe_powC (z := 1000000000000000000) (by decide +kernel) (by decide +kernel)) (nomark _))
      (pss_one (ps_ret (pe_lst (pa_cons (pv 0) (pa_cons pe_int (pa_cons (pe_op op_add (pe_op op_mulY pe_int (pv 1)) pe_int) pa_nil))))))
      pss_nil)
      (pss_one (ps_ret (pe_lst (pa_cons pe_int (pa_cons pe_int (pa_cons (pe_op op_mod (pe_op op_add (pe_op op_add (pe_op op_add (pe_op op_mulY (pe_op op_mod (pe_callB c_abs rfl B.abs (by decide +kernel) (pa_cons (pv 0) pa_nil)) (pe_powC (z := 10000000000000000000000000000000000000000) (by decide +kernel) (by decide +kernel))) pe_int) (pe_op op_mulY (pe_op op_mulY pe_int (pv 1)) (pv 1))) (pe_op op_mulY pe_int (pv 1))) pe_int) pe_int) pa_nil))))))), ?_⟩
    refine r_start (σ' := [some (.int c), some (.int k)]) rfl ?_
    walk_at "a"
    refine i_cases (fun h => ?_) (fun h => ?_)
    · walk_at "a"
      rename_i p H' hn h1 h2
      exact q p H' hn h1 ⟨_, _, _, h2, by omega, by omega, by omega, by omega⟩
    · walk_at "a"
      rename_i p H' hn h1 h2
      exact q p H' hn h1 ⟨_, _, _, h2, by omega, by omega, Int.emod_nonneg _ (by decide), by have := Int.emod_lt_of_pos ((if c < 0 then -c else c) % 10000000000000000000000000000000000000000 * 48271 + 10007 * k * k + 613 * k + 5) (show (0 : Int) < 2147483629 by decide); omega⟩
end
section
variable {P : Program} {w : World} {K : PySem.W.Frag} {mg : Str → Option Value} {base : Heap}
theorem ok_law_draw (B : Blt mg) (D : Def K mg "_law_draw" s_law_draw ["_law_purse_here", "_law_many_here"]) :
    Fn P w K mg base 1 "_law_draw" ["_law_purse_here", "_law_many_here"] (sp_take K) := by
  refine D.ok sc_law_draw (fun vs H Q E h => ?_) (fun f cdv A outer s H vs Q E hr h => ?_)
  · obtain ⟨p, n, rfl, hp, hn, hb, q⟩ := h
    rfl
  · obtain ⟨p, n, rfl, hp, hn, hb, q⟩ := h
    refine ⟨_, (pss_cons (ps_if (pt_cmpR op_gt (pe_ix (ixK K ix_seq) (pv 0) pe_int (fun _ _ => rfl)) pe_int (nomark _))
      (pss_cons (ps_set (i := 2) sc_law_draw.nd rfl (Or.inl rfl) (pe_op op_mod (pe_ix (ixK K ix_seq) (pv 0) pe_int (fun _ _ => rfl)) (pv 1)))
      (pss_cons (ps_asg (pe_op op_fdivW (pe_ix (ixK K ix_seq) (pv 0) pe_int (fun _ _ => rfl)) (pv 1)) (pg_sub (pv 0) pe_int set_list))
      (pss_one (ps_ret (pv 2)))))
      pss_nil)
      (pss_cons (ps_asg (pe_op op_add (pe_ix (ixK K ix_seq) (pv 0) pe_int (fun _ _ => rfl)) pe_int) (pg_sub (pv 0) pe_int set_list))
      (pss_cons (ps_asg (pe_op op_mod (pe_op op_add (pe_op op_mulY (pe_ix (ixK K ix_seq) (pv 0) pe_int (fun _ _ => rfl)) pe_int) (pe_op op_mulY pe_int (pe_ix (ixK K ix_seq) (pv 0) pe_int (fun _ _ => rfl)))) pe_int) (pg_sub (pv 0) pe_int set_list))
      (pss_one (ps_ret (pe_op op_mod (pe_op op_fdivW (pe_op op_mod (pe_op op_mulY (pe_ix (ixK K ix_seq) (pv 0) pe_int (fun _ _ => rfl)) (pe_ix (ixK K ix_seq) (pv 0) pe_int (fun _ _ => rfl))) pe_int) pe_int) (pv 1))))))), ?_⟩
    refine r_start (σ' := [some (.ref p), some (.int n), none]) rfl ?_
    obtain ⟨a, b, c, hp, ha, hb0, hc0, hc1⟩ := hp.ex
    walk_at "a"
    refine i_cases (fun hk => ?_) (fun hk => ?_)
    · walk_at "a"
      refine r_setl hp rfl fun H' h1 h2 => ?_
      walk_at "a"
      exact q _ H' h1 ⟨_, _, _, h2, Int.ediv_nonneg ha (by omega), hb0, hc0, hc1⟩ (Int.emod_nonneg _ (by omega)) (Int.emod_lt_of_pos _ hn)
    · walk_at "a"
      refine r_setl hp rfl fun H' h1 e2 => ?_
      have e2 : H' p = some (.lst [.int a, .int (b + 1), .int c]) := e2
      walk_at "a"
      refine r_setl e2 rfl fun H2 h3 e3 => ?_
      have e3 : H2 p = some (.lst [.int a, .int (b + 1), .int ((c * 39373 + 8191 * (b + 1)) % 2147483587)]) := e3
      generalize hc : (c * 39373 + 8191 * (b + 1)) % 2147483587 = d at e3
      have d0 : 0 ≤ d := by omega
      have d1 : d < 4294967296 := by omega
      clear hc
      walk_at "a"
      exact q _ H2 (h1.trans h3) ⟨_, _, _, e3, ha, by omega, d0, d1⟩ (Int.emod_nonneg _ (by omega)) (Int.emod_lt_of_pos _ hn)
end
theorem use_pot {K : PySem.W.Frag} {H : Hp} {Q : VK} {E : XK} {c k : Int} (h : 0 ≤ k ∧ k ≤ 1000) (q : ∀ (p : Addr) (H' : Hp), H p = none → Same H H' → Pot H' p → Q (.ref p) H') : sp_pot K [.int c, .int k] H Q E := ⟨c, k, rfl, h.1, h.2, q⟩
theorem use_take {K : PySem.W.Frag} {H : Hp} {Q : VK} {E : XK} {p : Addr} {n : Int} (h : Pot H p) (h0 : 0 < n) (h1 : n ≤ 1000000000000000000000000000000000000000000000000000000000000000000000000000) (q : ∀ (r : Int) (H' : Hp), Keep (At p) H H' → Pot H' p → 0 ≤ r → r < n → Q (.int r) H') : sp_take K [.ref p, .int n] H Q E :=
  ⟨p, n, rfl, h, h0, h1, q⟩
local macro_rules | `(tactic| walk_at "call") => `(tactic| ((with_reducible refine' use_take ?hva ?hvb ?hvc ?_); (case hva => walk_at "pot"); (case hvb => omega); (case hvc => omega); intro _ _ _ _ _ _))
local macro_rules | `(tactic| walk_at "call") => `(tactic| ((with_reducible refine' use_pot ?hva ?_); (case hva => omega); intro _ _ _ _ _))
local macro_rules | `(tactic| walk_at "pot") => `(tactic| first
  | assumption
  | (refine' Pot.same ?hk1 ?hk2; (case hk2 => assumption); (case hk1 => walk_at "pot"))
  | (refine' Pot.keep ?hk1 ?hk2 ?hk3; (case hk2 => assumption); (case hk1 => walk_at "pot"); (case hk3 => walk_at "ne"))
  | fail)
local macro_rules | `(tactic| walk_at "te") => `(tactic| first
  | assumption
  | exact TExt.refl _
  | exact TExt.of_same (by assumption)
  | (refine' Pot.text ?hk1 ?hk2; (case hk2 => assumption); (case hk1 => assumption))
  | (refine' TExt.trans ?hk1 ?hk2; (case hk2 => first | exact TExt.of_same (by assumption) | (refine' Pot.text ?hk3 ?hk4; (case hk4 => assumption); (case hk3 => walk_at "pot"))); (case hk1 => walk_at "te"))
  | fail)
/-- a tuple through the heaps -/
local macro_rules | `(tactic| walk_at "st") => `(tactic| first
  | assumption
  | exact SqT.of (by assumption)
  | (refine' SqT.text ?hk1 ?hk2; (case hk1 => first | exact TExt.of_same (by assumption) | (refine' Pot.text ?hk3 ?hk4; (case hk4 => assumption); (case hk3 => walk_at "pot"))); (case hk2 => walk_at "st"))
  | fail)
local macro_rules | `(tactic| walk_at "ne") => `(tactic| first
  | assumption
  | exact Ne.symm (by assumption)
  | (refine' Pot.ne_new ?hk1 ?hk2; (case hk2 => assumption); (case hk1 => walk_at "pot"))
  | fail)
/-! the law's promise -/
def sp_law (K : PySem.W.Frag) : Sp := fun vs H Q _ => ∃ a ns, vs = [.ref a] ∧ Scr K H a ns ∧ ns.length ≤ 63 ∧ ∀ H', Q (.bl true) H'
theorem sp_law_top {K : PySem.W.Frag} {H : Hp} {a : Addr} {ns : List Int} {E : XK} (hl : ns.length ≤ 63) (hb : ∀ z ∈ ns, Builtin.Int.intBits z ≤ 1048576) (hO : Only H) (hS : SqL K H a (ns.map V.int)) : sp_law K [.ref a] H (fun v _ => v = .bl true) E :=
  ⟨a, ns, rfl, Scr.of hO hS, hl, fun _ => rfl⟩
/-- a drawn number -/
def sp_drawn (lo hi : Int) (K : PySem.W.Frag) : Sp := fun vs H Q _ => ∃ p, vs = [.ref p] ∧ Pot H p ∧ ∀ (z : Int) (H' : Hp), Keep (At p) H H' → Pot H' p → lo ≤ z → z ≤ hi → Q (.int z) H'
theorem use_drawn {lo hi : Int} {K : PySem.W.Frag} {H : Hp} {Q : VK} {E : XK} {p : Addr} (h : Pot H p) (q : ∀ (z : Int) (H' : Hp), Keep (At p) H H' → Pot H' p → lo ≤ z → z ≤ hi → Q (.int z) H') : sp_drawn lo hi K [.ref p] H Q E := ⟨p, rfl, h, q⟩
local macro_rules | `(tactic| walk_at "call") => `(tactic| ((with_reducible refine' use_drawn ?hva ?_); (case hva => walk_at "pot"); intro _ _ _ _ _ _))
/-- a comprehension over range(n) that draws from the pot -/
theorem lc_pot {σ : L2.St} {H : Hp} {Q : VK} {n : Nat} {lo : Int} {p : Addr} {te : TE} {j : Nat} (hp : Pot H p) (hn : n ≤ 16777216) (R : Hp → Nat → V → Prop) (hR : ∀ H H' i y, TExt H H' → R H i y → R H' i y)
    (hs : ∀ (i : Nat) H2 (S : VK), i < n → Keep (At p) H H2 → Pot H2 p → (∀ y H3, Keep (At p) H2 H3 → Pot H3 p → R H3 i y → S y H3) → te ((wipe σ [j]).set j (some (.int (lo + i)))) H2 S)
    (q : ∀ D H' ys, H D = none → Keep (At p) H H' → Pot H' p → H' D = some (.lst ys) → Paired (R H') (List.range n) ys → Q (.ref D) H') : LcW (Itr lo n) (gName j) tYes te [j] σ H Q :=
  lc_rngK (fun H => Pot H p) hp (fun D hD => hp.ne_new hD) (fun H1 H2 h e => by obtain ⟨a, b, c, z, r⟩ := h.ex; exact ⟨a, b, c, by rw [e]; exact z, r⟩) (fun H1 H2 h k => h.text k) hn R hR hs q

/-! ### sign_of, dots_text -/
def sp_sign (K : PySem.W.Frag) : Sp := fun vs H Q _ => ∃ (v : V) (r : Run) (row : Int), vs = [v, .int row] ∧ Dp K H v (runD r) ∧ Q (.str (sgnS r row)) H
section
variable {P : Program} {w : World} {K : PySem.W.Frag} {mg : Str → Option Value} {base : Heap}
theorem ok_sign_of (B : Blt mg) (D : Def K mg "sign_of" s_sign_of ["run", "row"]) :
    Fn P w K mg base 1 "sign_of" ["run", "row"] (sp_sign K) := by
  refine D.ok sc_sign_of (fun vs H Q E h => ?_) (fun f cdv A outer s H vs Q E hr h => ?_)
  · obtain ⟨v, r, row, rfl, hv, q⟩ := h
    rfl
  · obtain ⟨v, r, row, rfl, hv, q⟩ := h
    refine ⟨_, (pss_cons (ps_if (PW.pt (pw_and (pt_cmpR o_notN (pv 0) pe_non (nomark _)) (pw_and1 (pt_chain op_le op_le (pe_ix (ixK K ix_seq) (pv 0) pe_int (fun _ _ => rfl)) (pv 1) (pe_ix (ixK K ix_seq) (pv 0) pe_int (fun _ _ => rfl))))))
      (pss_one (ps_ret pe_str))
      pss_nil)
      (pss_one (ps_ret pe_str))), ?_⟩
    refine r_start (σ' := [some (v), some (.int row)]) rfl ?_
    cases r with
    | none =>
      cases dp_non hv
      walk_at "a"
      exact q
    | some p =>
      obtain ⟨a, rfl, ha⟩ := dp_pair hv
      have q : Q (.str (if (decide (p.1 ≤ row) && decide (row ≤ p.2)) = true then "#" else ".")) H := q
      walk_at "a"
      refine i_cases (fun h1 => ?_) (fun h1 => ?_)
      · rw [decide_eq_true h1, Bool.true_and] at q
        walk_at "a"
        refine i_cases (fun h2 => ?_) (fun h2 => ?_)
        · rw [decide_eq_true h2] at q
          walk_at "a"
          exact q
        · rw [decide_eq_false h2] at q
          walk_at "a"
          exact q
      · rw [decide_eq_false h1, Bool.false_and] at q
        walk_at "a"
        exact q
end
theorem use_sign {K : PySem.W.Frag} {H : Hp} {Q : VK} {E : XK} {v : V} {r : Run} {row : Int} (h : Dp K H v (runD r)) (q : Q (.str (sgnS r row)) H) : sp_sign K [v, .int row] H Q E := ⟨v, r, row, rfl, h, q⟩
def runsD (rs : List Run) : PyData := .tuple (rs.map runD)
def sp_dots_text (K : PySem.W.Frag) : Sp := fun vs H Q _ => ∃ (v : V) (rs : List Run) (n : Nat), vs = [v, .int (n : Int)] ∧ Dp K H v (runsD rs) ∧ rs.length ≤ 1000 ∧ n ≤ 1000 ∧ ∀ H', Same H H' → Q (.str (picS rs n n)) H'
theorem sum_ones {α : Type} (f : α → Str) (h : ∀ c, (f c).length = 1) : ∀ l : List α, ((l.map f).map (·.length)).sum = l.length
  | [] => rfl
  | c :: l => by simp only [List.map_cons, List.sum_cons, h, sum_ones f h l, List.length_cons]; omega
theorem len_sgn (r : Run) (row : Int) : (sgnS r row).length = 1 := by rw [len_tl, tl_sgn]; rfl
section
variable {P : Program} {w : World} {K : PySem.W.Frag} {mg : Str → Option Value} {base : Heap}
theorem ok_dots_text (B : Blt mg) (D : Def K mg "dots_text" s_dots_text ["dots", "rows"]) (G_sign_of : Fn P w K mg base 1 "sign_of" ["run", "row"] (sp_sign K)) :
    Fn P w K mg base 2 "dots_text" ["dots", "rows"] (sp_dots_text K) := by
  refine D.ok sc_dots_text (fun vs H Q E h => ?_) (fun f cdv A outer s H vs Q E hr h => ?_)
  · obtain ⟨v, rs, n, rfl, hv, hr1, hn, q⟩ := h
    rfl
  · obtain ⟨v, rs, n, rfl, hv, hr1, hn, q⟩ := h
    refine ⟨_, (pss_cons (ps_set (i := 2) sc_dots_text.nd rfl (Or.inl rfl) pe_str)
      (pss_cons (ps_for PassesOwn.never rfl (pi_rangeU rfl B.range (pa_cons (pe_op op_sub (pv 1) pe_int) (pa_cons (pe_un un_neg pe_int) (pa_cons (pe_un un_neg pe_int) pa_nil)))) (pg_name (i := 3) sc_dots_text.nd rfl (Or.inr rfl))
      (pss_one (ps_set (i := 2) sc_dots_text.nd rfl (Or.inl rfl) (pe_op o_adds (pe_op o_adds (pv 2) (pe_joinU K pe_str (pe_lc (own := [("run", 4)]) (g := gName 4) (tt := tYes) rfl sc_dots_text.nd (piK_tup K (pv 0)) (blkOk_by (N := ["dots", "rows", "text", "row", "run"]) (sc := defScope s_dots_text) (by decide +kernel)) (fun _ _ _ _ _ => (pg_name (i := 4) sc_dots_text.nd rfl (Or.inl rfl))) (fun _ _ _ _ _ => pts_nil) (fun _ _ _ _ _ => (pe_fn G_sign_of hr (pa_cons (pv 4) (pa_cons (pv 3) pa_nil))))))) pe_str))))
      (pss_one (ps_ret (pv 2))))), ?_⟩
    refine r_start (σ' := [some (v), some (.int (n : Int)), none, none, none]) rfl ?_
    obtain ⟨a, ws, rfl, ha, hw⟩ := dp_tup hv
    walk_at "a"
    refine r_rngdown (by omega) ?_
    have en : (((n : Int) - 1) - (-1)).toNat = n := by omega
    rw [en]
    refine for_wk wk_rngC (fun i σ H' => (∃ v1 v2 : Option V, σ = [some (.ref a), some (.int (n : Int)), some (.str (picS rs n i)), v1, v2]) ∧ Same H H') ⟨⟨none, none, by rw [pic_zero]; rfl⟩, Same.refl _⟩ (fun _ _ _ _ _ => trivial) ?_ ?_
    · rintro i x σ H1 H1' hi ⟨⟨v1, v2, rfl⟩, s1⟩ ⟨rfl, rfl⟩
      have er : (n : Int) - 1 + (i : Int) * (-1) = n - 1 - i := by omega
      rw [er]
      walk_at "a"
      refine lc_tupD (SqT.text (TExt.of_same s1) ha) (DpAll.same s1 _ _ hw) (by omega) (fun _ => true) (fun r => .str (sgnS r (n - 1 - i))) (fun _ => rfl) (fun c x H2 S N hc s2 hx k1 k2 => ?_) (fun D H2 ys hD s2 e2 p2 => ?_)
      · refine r_gname ⟨wipe_one, ?_⟩
        walk_at "a"
        exact use_sign hx (k1 rfl _ _ (Same.refl _) (.str _))
      · rw [Fp.filter_all, show (rs.map fun r => PyData.str (sgnS r (n - 1 - i))) = (rs.map fun r => sgnS r (n - 1 - i)).map PyData.str by rw [List.map_map]; rfl] at p2
        have e := dpAll_strs p2
        subst e
        refine r_join (SqL.of e2) (by rw [sum_ones _ (fun c => len_sgn c _), List.length_map, show ("" : Str).length = 0 by decide +kernel]; omega) ?_
        rw [join_line]
        have l1 := len_pic rs n i
        have l2 := len_line rs (n - 1 - i)
        have l3 : i * (rs.length + 1) ≤ 1000 * 1001 := Nat.mul_le_mul (by omega) (by omega)
        have l4 : ("\n" : Str).length = 1 := by decide +kernel
        have e : ∀ x y : Str, (x ++ y).length = x.length + y.length := fun x y => by rw [len_tl, len_tl, len_tl, tl_append, List.length_append]
        refine r_adds (by rw [sizeLine_eq]; omega) ?_
        walk_at "a"
        refine r_adds (by rw [sizeLine_eq, e]; omega) ?_
        rw [← pic_succ]
        exact ⟨⟨_, _, rfl⟩, s1.trans s2⟩
    · rintro σ H1 ⟨⟨v1, v2, rfl⟩, s1⟩
      walk_at "a"
      exact q _ s1
end
theorem use_dots_text {K : PySem.W.Frag} {H : Hp} {Q : VK} {E : XK} {v : V} {rs : List Run} {n : Nat} (h : Dp K H v (runsD rs)) (hr : rs.length ≤ 1000) (hn : n ≤ 1000) (q : ∀ H', Same H H' → Q (.str (picS rs n n)) H') : sp_dots_text K [v, .int (n : Int)] H Q E := ⟨v, rs, n, rfl, h, hr, hn, q⟩
/-! ### the law's -/
def sp_many (K : PySem.W.Frag) : Sp := fun vs H Q _ => ∃ (p : Addr) (f m : Int), vs = [.ref p, .int f, .int m] ∧ Pot H p ∧ 0 < f ∧ f ≤ m ∧ m ≤ 1000 ∧ ∀ (z : Int) (H' : Hp), Keep (At p) H H' → Pot H' p → 0 ≤ z → z ≤ m → Q (.int z) H'
section
variable {P : Program} {w : World} {K : PySem.W.Frag} {mg : Str → Option Value} {base : Heap}
theorem ok_law_many (B : Blt mg) (D : Def K mg "_law_many" s_law_many ["_law_purse_here", "_law_few", "_law_most"]) (G_law_draw : Fn P w K mg base 1 "_law_draw" ["_law_purse_here", "_law_many_here"] (sp_take K)) :
    Fn P w K mg base 2 "_law_many" ["_law_purse_here", "_law_few", "_law_most"] (sp_many K) := by
  refine D.ok sc_law_many (fun vs H Q E h => ?_) (fun f cdv A outer s H vs Q E hr h => ?_)
  · obtain ⟨p, f, m, rfl, hp, f0, fm, m1, q⟩ := h
    rfl
  · obtain ⟨p, f, m, rfl, hp, f0, fm, m1, q⟩ := h
    refine ⟨_, (pss_cons (ps_if (pt_cmpR (opK K (o_eq hr.units)) (pe_fn G_law_draw hr (pa_cons (pv 0) (pa_cons pe_int pa_nil))) pe_int (nomark _))
      (pss_one (ps_ret (pe_fn G_law_draw hr (pa_cons (pv 0) (pa_cons (pe_op op_add (pv 2) pe_int) pa_nil)))))
      pss_nil)
      (pss_one (ps_ret (pe_fn G_law_draw hr (pa_cons (pv 0) (pa_cons (pv 1) pa_nil)))))), ?_⟩
    refine r_start (σ' := [some (.ref p), some (.int f), some (.int m)]) rfl ?_
    walk_at "a"
    refine i_cases (fun h => ?_) (fun h => ?_)
    · walk_at "a"
      exact q _ _ (by walk_at "kp") (by walk_at "pot") (by omega) (by omega)
    · walk_at "a"
      exact q _ _ (by walk_at "kp") (by walk_at "pot") (by omega) (by omega)
end
theorem use_many {K : PySem.W.Frag} {H : Hp} {Q : VK} {E : XK} {p : Addr} {f m : Int} (hp : Pot H p) (h : 0 < f ∧ f ≤ m ∧ m ≤ 1000) (q : ∀ (z : Int) (H' : Hp), Keep (At p) H H' → Pot H' p → 0 ≤ z → z ≤ m → Q (.int z) H') : sp_many K [.ref p, .int f, .int m] H Q E := ⟨p, f, m, rfl, hp, h.1, h.2.1, h.2.2, q⟩
local macro_rules | `(tactic| walk_at "call") => `(tactic| ((with_reducible refine' use_many ?hva ?hvb ?_); (case hva => walk_at "pot"); (case hvb => omega); intro _ _ _ _ _ _))
def sp_run (K : PySem.W.Frag) : Sp := fun vs H Q _ => ∃ (p : Addr) (n : Int), vs = [.ref p, .int n] ∧ Pot H p ∧ 0 < n ∧ n ≤ 1000 ∧ ∀ (v : V) (r : Run) (H' : Hp), Keep (At p) H H' → Pot H' p → Dp K H' v (runD r) → Q v H'
section
variable {P : Program} {w : World} {K : PySem.W.Frag} {mg : Str → Option Value} {base : Heap}
theorem ok_law_run (B : Blt mg) (D : Def K mg "_law_run" s_law_run ["_law_purse_here", "_law_rows"]) (G_law_draw : Fn P w K mg base 1 "_law_draw" ["_law_purse_here", "_law_many_here"] (sp_take K)) :
    Fn P w K mg base 2 "_law_run" ["_law_purse_here", "_law_rows"] (sp_run K) := by
  refine D.ok sc_law_run (fun vs H Q E h => ?_) (fun f cdv A outer s H vs Q E hr h => ?_)
  · obtain ⟨p, n, rfl, hp, n0, n1, q⟩ := h
    rfl
  · obtain ⟨p, n, rfl, hp, n0, n1, q⟩ := h
    refine ⟨_, (pss_cons (ps_set (i := 2) sc_law_run.nd rfl (Or.inl rfl) (pe_fn G_law_draw hr (pa_cons (pv 0) (pa_cons pe_int pa_nil))))
      (pss_cons (ps_if (pt_cmpR (opK K (o_eq hr.units)) (pv 2) pe_int (nomark _))
      (pss_one (ps_ret pe_non))
      pss_nil)
      (pss_cons (ps_set (i := 3) sc_law_run.nd rfl (Or.inl rfl) (pe_ix (ixK K ix_seq) (pe_lst (pa_cons pe_int (pa_cons (pe_op op_sub (pv 1) pe_int) (pa_cons (pe_fn G_law_draw hr (pa_cons (pv 0) (pa_cons (pv 1) pa_nil))) (pa_cons (pe_fn G_law_draw hr (pa_cons (pv 0) (pa_cons (pv 1) pa_nil))) pa_nil))))) (pe_op op_sub (pv 2) pe_int) (fun _ _ => rfl)))
      (pss_cons (ps_set (i := 4) sc_law_run.nd rfl (Or.inl rfl) (pe_ifExp (pt_cmpR op_gt (pe_fn G_law_draw hr (pa_cons (pv 0) (pa_cons pe_int pa_nil))) pe_int (nomark _)) (pe_fn G_law_draw hr (pa_cons (pv 0) (pa_cons (pv 1) pa_nil))) (pv 3)))
      (pss_one (ps_ret (pe_tup (pa_cons (pe_callB (c_min2 rfl) rfl B.min (by decide +kernel) (pa_cons (pv 3) (pa_cons (pv 4) pa_nil))) (pa_cons (pe_callB (c_max2 rfl) rfl B.max (by decide +kernel) (pa_cons (pv 3) (pa_cons (pv 4) pa_nil))) pa_nil))))))))), ?_⟩
    refine r_start (σ' := [some (.ref p), some (.int n), none, none, none]) rfl ?_
    walk_at "a"
    refine i_cases (fun h => ?_) (fun h => ?_)
    · walk_at "a"
      exact q .non none _ (by walk_at "kp") (by walk_at "pot") .non
    walk_at "a"
    rename_i w1 H1 k1 p1 w10 w11 x H2 k2 p2 x0 x1 y H3 k3 p3 y0 y1 l H4 n4 s4 e4
    obtain ⟨o, ho⟩ : ∃ o : Int, atI [V.int 0, V.int (n - 1), V.int x, V.int y] (w1 - 1) = some (.int o) := by
      obtain rfl | rfl | rfl | rfl : w1 = 1 ∨ w1 = 2 ∨ w1 = 3 ∨ w1 = 4 := by omega
      · exact ⟨_, rfl⟩
      · exact ⟨_, rfl⟩
      · exact ⟨_, rfl⟩
      · exact ⟨_, rfl⟩
    refine r_ixl (SqL.of e4) ho ?_
    walk_at "a"
    refine i_cases (fun h2 => ?_) (fun h2 => ?_)
    · walk_at "a"
      exact q _ (some (_, _)) _ (by walk_at "kp") (by walk_at "pot") (dp_of_pair (SqT.of (by assumption)))
    · walk_at "a"
      exact q _ (some (_, _)) _ (by walk_at "kp") (by walk_at "pot") (dp_of_pair (SqT.of (by assumption)))
end
theorem use_run {K : PySem.W.Frag} {H : Hp} {Q : VK} {E : XK} {p : Addr} {n : Int} (hp : Pot H p) (h : 0 < n ∧ n ≤ 1000) (q : ∀ (v : V) (r : Run) (H' : Hp), Keep (At p) H H' → Pot H' p → Dp K H' v (runD r) → Q v H') : sp_run K [.ref p, .int n] H Q E := ⟨p, n, rfl, hp, h.1, h.2, q⟩
def sp_line (K : PySem.W.Frag) : Sp := fun vs H Q _ => ∃ (v : V) (rs : List Run) (row : Int), vs = [v, .int row] ∧ Dp K H v (runsD rs) ∧ rs.length ≤ 1000 ∧ Q (.str (lineS rs row)) H
section
variable {P : Program} {w : World} {K : PySem.W.Frag} {mg : Str → Option Value} {base : Heap}
theorem ok_law_line (B : Blt mg) (D : Def K mg "_law_line" s_law_line ["_law_runs", "_law_row"]) :
    Fn P w K mg base 1 "_law_line" ["_law_runs", "_law_row"] (sp_line K) := by
  refine D.ok sc_law_line (fun vs H Q E h => ?_) (fun f cdv A outer s H vs Q E hr h => ?_)
  · obtain ⟨v, rs, row, rfl, hv, hr1, q⟩ := h
    rfl
  · obtain ⟨v, rs, row, rfl, hv, hr1, q⟩ := h
    refine ⟨_, (pss_cons (ps_set (i := 2) sc_law_line.nd rfl (Or.inl rfl) pe_str)
      (pss_cons (ps_for PassesOwn.never rfl (piK_tup K (pv 0)) (pg_name (i := 3) sc_law_line.nd rfl (Or.inl rfl))
      (pss_one (ps_set (i := 2) sc_law_line.nd rfl (Or.inl rfl) (pe_op o_adds (pv 2) (pe_ifExp (PW.pt (pw_or (pt_cmpR o_isN (pv 3) pe_non (nomark _)) (pw_or (pt_cmpR op_lt (pv 1) (pe_ix (ixK K ix_seq) (pv 3) pe_int (fun _ _ => rfl)) (nomark _)) (pw_or1 (pt_cmpR op_lt (pe_ix (ixK K ix_seq) (pv 3) pe_int (fun _ _ => rfl)) (pv 1) (nomark _)))))) pe_str pe_str)))))
      (pss_one (ps_ret (pv 2))))), ?_⟩
    refine r_start (σ' := [some (v), some (.int row), none, none]) rfl ?_
    obtain ⟨a, ws, rfl, ha, hw⟩ := dp_tup hv
    have hwl : ws.length = rs.length := by rw [dpAll_len hw, List.length_map]
    walk_at "a"
    refine for_wk wk_tup (fun i σ H' => (∃ v1 : Option V, σ = [some (.ref a), some (.int row), some (.str (lineS (rs.take i) row)), v1]) ∧ H' = H) ⟨⟨_, rfl⟩, rfl⟩ (fun i σ H' _ p => by rw [p.2]; exact ha) ?_ ?_
    · rintro i x σ H1 H1' hi ⟨⟨v1, rfl⟩, rfl⟩ ⟨rfl, hx⟩
      obtain ⟨r, hr, hd⟩ := dpAll_map_at hw hx
      have ll := len_line (rs.take i) row
      have l2 : (rs.take i).length ≤ rs.length := by simp; omega
      have fin : uAddS (.str (lineS (rs.take i) row)) (.str (sgnS r row)) H1' fun v H1 => (∃ v1, [some (V.ref a), some (V.int row), some v, some x] = [some (.ref a), some (.int row), some (.str (lineS (rs.take (i + 1)) row)), v1]) ∧ H1 = H1' := by
        refine r_adds (by rw [sizeLine_eq, len_sgn]; omega) ?_
        rw [← line_snoc hr]
        exact ⟨⟨_, rfl⟩, rfl⟩
      unfold sgnS at fin
      cases r with
      | none =>
        cases dp_non hd
        walk_at "a"
        exact fin
      | some p =>
        obtain ⟨px, rfl, hpx⟩ := dp_pair hd
        have fin : uAddS (.str (lineS (rs.take i) row)) (.str (if (decide (p.1 ≤ row) && decide (row ≤ p.2)) = true then "#" else ".")) H1' fun v H1 => (∃ v1, [some (V.ref a), some (V.int row), some v, some (V.ref px)] = [some (.ref a), some (.int row), some (.str (lineS (rs.take (i + 1)) row)), v1]) ∧ H1 = H1' := fin
        walk_at "a"
        refine i_cases (fun h1 => ?_) (fun h1 => ?_)
        · rw [decide_eq_false (show ¬ p.1 ≤ row by omega), Bool.false_and] at fin
          walk_at "a"
          exact fin
        · rw [decide_eq_true (show p.1 ≤ row by omega), Bool.true_and] at fin
          walk_at "a"
          refine i_cases (fun h2 => ?_) (fun h2 => ?_)
          · rw [decide_eq_false (show ¬ row ≤ p.2 by omega)] at fin
            walk_at "a"
            exact fin
          · rw [decide_eq_true (show row ≤ p.2 by omega)] at fin
            walk_at "a"
            exact fin
    · rintro σ H1 ⟨⟨v1, rfl⟩, rfl⟩
      rw [List.take_of_length_le (by omega)]
      walk_at "a"
      exact q
end
theorem use_line {K : PySem.W.Frag} {H : Hp} {Q : VK} {E : XK} {v : V} {rs : List Run} {row : Int} (h : Dp K H v (runsD rs)) (hr : rs.length ≤ 1000) (q : Q (.str (lineS rs row)) H) : sp_line K [v, .int row] H Q E := ⟨v, rs, row, rfl, h, hr, q⟩
section
variable {P : Program} {w : World} {K : PySem.W.Frag} {mg : Str → Option Value} {base : Heap}
theorem ok_law {f : Addr} {fd : FuncData} (B : Blt mg) (F : Fun K "law" "law" s_law f fd) (G_law_purse : Fn P w K mg base 1 "_law_purse" ["_law_cell_here", "_law_k"] (sp_pot K)) (G_law_cell : Fn P w K mg base 1 "_law_cell" ["_law_script", "_law_k"] (sp_nth K)) (G_law_many : Fn P w K mg base 2 "_law_many" ["_law_purse_here", "_law_few", "_law_most"] (sp_many K)) (G_law_line : Fn P w K mg base 1 "_law_line" ["_law_runs", "_law_row"] (sp_line K)) (G_dots_text : Fn P w K mg base 2 "dots_text" ["dots", "rows"] (sp_dots_text K)) (G_law_run : Fn P w K mg base 2 "_law_run" ["_law_purse_here", "_law_rows"] (sp_run K)) :
    FnOk P w K mg base (L2.CX P w) 3 f fd ["_law_script"] (sp_law K) := by
  refine fn_up (F.ok sc_law (fun vs H Q E h => ?_) (fun cdv A outer s H vs Q E hr h => ?_))
  · obtain ⟨a, ns, rfl, hS, hl, q⟩ := h
    rfl
  · obtain ⟨a, ns, rfl, hS, hl, q⟩ := h
    refine ⟨_, (pss_cons (ps_for PassesOwn.never rfl (pi_range1 rfl B.range (pa_cons (pe_callB (c_max2 rfl) rfl B.max (by decide +kernel) (pa_cons pe_int (pa_cons (pe_callB (c_min2 rfl) rfl B.min (by decide +kernel) (pa_cons (pe_callB (crK K c_len) rfl B.len (by decide +kernel) (pa_cons (pv 0) pa_nil)) (pa_cons pe_int pa_nil))) pa_nil))) pa_nil)) (pg_name (i := 1) sc_law.nd rfl (Or.inl rfl))
      (pss_cons (ps_set (i := 2) sc_law.nd rfl (Or.inr rfl) (pe_fn G_law_purse hr (pa_cons (pe_fn G_law_cell hr (pa_cons (pv 0) (pa_cons (pv 1) pa_nil))) (pa_cons (pv 1) pa_nil))))
      (pss_cons (ps_set (i := 3) sc_law.nd rfl (Or.inr rfl) (pe_op op_add pe_int (pe_fn G_law_many hr (pa_cons (pv 2) (pa_cons pe_int (pa_cons pe_int pa_nil))))))
      (pss_cons (ps_set (i := 4) sc_law.nd rfl (Or.inr rfl) (pe_callTy (crK K c_tuple) rfl B.tuple (by decide +kernel) (pa_cons (pe_lc (own := [("_law_j", 6)]) (g := gName 6) (tt := tYes) rfl sc_law.nd (pi_range1 rfl B.range (pa_cons (pe_op op_add pe_int (pe_fn G_law_many hr (pa_cons (pv 2) (pa_cons pe_int (pa_cons pe_int pa_nil))))) pa_nil)) (blkOk_by (N := ["_law_script", "_law_k", "_law_purse_here", "_law_rows", "_law_runs", "_law_lines", "_law_j", "_law_row", "_law_line_here"]) (sc := defScope s_law) (by decide +kernel)) (fun _ _ _ _ _ => (pg_name (i := 6) sc_law.nd rfl (Or.inl rfl))) (fun _ _ _ _ _ => pts_nil) (fun _ _ _ _ _ => (pe_fn G_law_run hr (pa_cons (pv 2) (pa_cons (pv 3) pa_nil))))) pa_nil)))
      (pss_cons (ps_setLc (i := 5) (own := [("_law_row", 7)]) (g := gName 7) (tt := tYes) rfl sc_law.nd rfl rfl (sw_true rfl rfl rfl (by decide +kernel)) (pi_range1 rfl B.range (pa_cons (pv 3) pa_nil)) (blkOk_by (N := ["_law_script", "_law_k", "_law_purse_here", "_law_rows", "_law_runs", "_law_lines", "_law_j", "_law_row", "_law_line_here"]) (sc := defScope s_law) (by decide +kernel)) (fun _ _ _ _ _ => (pg_name (i := 7) sc_law.nd rfl (Or.inl rfl))) (fun _ _ _ _ _ => pts_nil) (fun _ _ _ _ _ => (pe_fn G_law_line hr (pa_cons (pv 4) (pa_cons (pv 7) pa_nil)))))
      (pss_one (ps_if (pt_cmpR (opK K (o_ne hr.units)) (pe_fn G_dots_text hr (pa_cons (pv 4) (pa_cons (pv 3) pa_nil))) (pe_joinU K pe_str (pe_lc (own := [("_law_line_here", 8)]) (g := gName 8) (tt := tYes) rfl sc_law.nd (piK_list K (peK_revL K (pv 5))) (blkOk_by (N := ["_law_script", "_law_k", "_law_purse_here", "_law_rows", "_law_runs", "_law_lines", "_law_j", "_law_row", "_law_line_here"]) (sc := defScope s_law) (by decide +kernel)) (fun _ _ _ _ _ => (pg_name (i := 8) sc_law.nd rfl (Or.inl rfl))) (fun _ _ _ _ _ => pts_nil) (fun _ _ _ _ _ => (pe_op o_adds (pv 8) pe_str)))) (nomark _))
      (pss_one (ps_ret pe_bl))
      pss_nil)))))))
      (pss_one (ps_ret pe_bl))), ?_⟩
    refine r_start (σ' := [some (.ref a), none, none, none, none, none, none, none, none]) rfl ?_
    have hS0 := hS.1
    walk_at "a"
    refine for_wk wk_rng (fun i σ H' => (∃ v1 v2 v3 v4 v5 v6 v7 v8 : Option V, σ = [some (.ref a), v1, v2, v3, v4, v5, v6, v7, v8]) ∧ TExt H H') ⟨⟨_, _, _, _, _, _, _, _, rfl⟩, TExt.refl _⟩ (fun _ _ _ _ _ => trivial) ?_ ?_
    · rintro i x σ H1 H1' hi ⟨⟨v1, v2, v3, v4, v5, v6, v7, v8, rfl⟩, t1⟩ ⟨rfl, rfl⟩
      have hS1 := (hS.text t1).1
      walk_at "a"
      rename_i p2 H2 n2 s2 hp2 m1 H3 k3 hp3 m10 m11 m2 H4 k4 hp4 m20 m21
      obtain ⟨n1, rfl⟩ := Int.eq_ofNat_of_zero_le m10
      have er : (1 : Int) + ((n1 : Nat) : Int) = ((n1 + 1 : Nat) : Int) := by omega
      rw [er]
      refine lc_pot hp4 (by omega) (fun H _ y => ∃ r, Dp K H y (runD r) ∧ True) (fun H H' _ y e h => by obtain ⟨r, d, _⟩ := h; exact ⟨r, Dp.text e _ _ (imm_run r) d, trivial⟩) (fun j H5 S hj k5 hp5 kk => ?_) (fun D H5 ys hD k5 hp5 e5 r5 => ?_)
      · walk_at "a"
        exact use_run hp5 (by omega) fun v r H6 k6 hp6 d6 => kk _ _ k6 hp6 ⟨r, d6, trivial⟩
      obtain ⟨rs, d5, hrs⟩ := paired_ex r5
      have hrl : rs.length ≤ 1000 := by
        rw [← hrs.length, List.length_range]
        omega
      walk_at "a"
      rename_i p6 H6 n6 s6 e6
      have d6 : Dp K H6 (.ref p6) (runsD rs) := .tup (SqT.of e6) (DpAll.same s6 _ _ d5)
      refine lc_rngD (K := K) (by omega) (fun _ => true) (fun (k : Nat) => PyData.str (lineS rs (k : Int))) (fun c => rfl) (fun k H7 S N hk s7 k1 k2 => ?_) (fun D7 H7 ys7 hD7 s7 e7 p7 => ?_)
      · refine r_gname ⟨wipe_one, ?_⟩
        rw [Int.zero_add (k : Int)]
        walk_at "a"
        exact use_line (Dp.same s7 _ _ d6) hrl (k1 rfl _ _ (Same.refl _) (.str _))
      have en : (((n1 + 1 : Nat) : Int)).toNat = n1 + 1 := by omega
      rw [Fp.filter_all, en, show ((List.range (n1 + 1)).map fun (k : Nat) => PyData.str (lineS rs (k : Int))) = ((List.range (n1 + 1)).map fun (k : Nat) => lineS rs (k : Int)).map PyData.str by rw [List.map_map]; rfl] at p7
      have ey := dpAll_strs p7
      subst ey
      walk_at "a"
      refine use_dots_text (Dp.same s7 _ _ d6) hrl (by omega) fun H8 s8 => ?_
      walk_at "a"
      rename_i p9 H9 n9 s9 e9
      rw [← List.map_reverse] at e9
      refine lc_lstD (K := K) (as := ((List.range (n1 + 1)).map fun (k : Nat) => lineS rs (k : Int)).reverse) (fa := PyData.str) (SqL.of e9) (dpAll_ofStrs K _ _) (by simp; omega) (fun _ => true) (fun z => PyData.str (z ++ ("\n" : Str))) (fun _ => rfl) (fun c x H10 S N hc s10 hx k1 k2 => ?_) (fun D10 H10 ys10 hD10 s10 e10 p10 => ?_)
      · cases dp_str hx
        have lc : c.length ≤ 1000 := by
          rw [List.mem_reverse] at hc
          obtain ⟨k, _, rfl⟩ := List.mem_map.mp hc
          rw [len_line]
          exact hrl
        refine r_gname ⟨wipe_one, ?_⟩
        walk_at "a"
        refine r_adds (by rw [sizeLine_eq, show ("\n" : Str).length = 1 by decide +kernel]; omega) ?_
        exact k1 rfl _ _ (Same.refl _) (.str _)
      rw [Fp.filter_all, show (((List.range (n1 + 1)).map fun (k : Nat) => lineS rs (k : Int)).reverse.map fun z => PyData.str (z ++ ("\n" : Str))) = ((((List.range (n1 + 1)).map fun (k : Nat) => lineS rs (k : Int)).reverse.map fun z => z ++ ("\n" : Str))).map PyData.str by rw [List.map_map]; rfl] at p10
      have ey := dpAll_strs p10
      subst ey
      walk_at "a"
      refine r_join (SqL.of e10) ?_ ?_
      · have hz : ("" : Str).length = 0 := by decide +kernel
        have hB := sum_lens (B := 1001) (l := ((List.range (n1 + 1)).map fun (k : Nat) => lineS rs (k : Int)).reverse.map fun z => z ++ ("\n" : Str)) fun c hc => by
          obtain ⟨d, hd, rfl⟩ := List.mem_map.mp hc
          rw [List.mem_reverse] at hd
          obtain ⟨k, _, rfl⟩ := List.mem_map.mp hd
          rw [len_tl, tl_append, List.length_append, ← len_tl, ← len_tl, len_line, show ("\n" : Str).length = 1 by decide +kernel]
          omega
        have hll : (((List.range (n1 + 1)).map fun (k : Nat) => lineS rs (k : Int)).reverse.map fun z => z ++ ("\n" : Str)).length = n1 + 1 := by simp
        rw [hll] at hB ⊢
        rw [hz]
        omega
      rw [join_pic]
      refine r_ne_s ?_
      rw [decide_eq_true rfl]
      walk_at "a"
      refine ⟨⟨_, _, _, _, _, _, _, _, rfl⟩, ?_⟩
      have t5 : TExt H1' H5 := by walk_at "te"
      exact (t1.trans t5).trans (TExt.of_same ((((s6.trans s7).trans s8).trans s9).trans s10))
    · rintro σ H1 ⟨⟨v1, v2, v3, v4, v5, v6, v7, v8, rfl⟩, t1⟩
      walk_at "a"
      exact q _
end
theorem all_mk {l : PySem.W.OpenLaw} {w : World} {K : PySem.W.Frag} {h : Heap} {mg : Str → Option Value} {fa : Addr} (X : K.In h) (G : h.Ns mainGlobals mg) (hfa : mg "law" = some (.ref fa))
    {od_sign_of an_sign_of : Option Addr} {sl_sign_of : Array (Option Value)} {f_sign_of : Addr} {oc_sign_of kV_sign_of dc_sign_of pm_sign_of cd_sign_of ct_sign_of : Value}
    (a_sign_of : PySem.W.nsIn K mainGlobals "sign_of" = some (some (.ref f_sign_of)))
    (l_sign_of : K.lookup f_sign_of = some ⟨oc_sign_of, od_sign_of, .func (PySem.W.fnOf "sign_of" "sign_of" (defArgs s_sign_of) (defBody s_sign_of) (defScope s_sign_of) .none kV_sign_of dc_sign_of pm_sign_of an_sign_of cd_sign_of ct_sign_of), sl_sign_of⟩)
    (c_sign_of : PySem.W.codeIn K cd_sign_of "sign_of" = true) (k_sign_of : PySem.W.keepIn K (.ref f_sign_of) = true)
    {od_dots_text an_dots_text : Option Addr} {sl_dots_text : Array (Option Value)} {f_dots_text : Addr} {oc_dots_text kV_dots_text dc_dots_text pm_dots_text cd_dots_text ct_dots_text : Value}
    (a_dots_text : PySem.W.nsIn K mainGlobals "dots_text" = some (some (.ref f_dots_text)))
    (l_dots_text : K.lookup f_dots_text = some ⟨oc_dots_text, od_dots_text, .func (PySem.W.fnOf "dots_text" "dots_text" (defArgs s_dots_text) (defBody s_dots_text) (defScope s_dots_text) .none kV_dots_text dc_dots_text pm_dots_text an_dots_text cd_dots_text ct_dots_text), sl_dots_text⟩)
    (c_dots_text : PySem.W.codeIn K cd_dots_text "dots_text" = true) (k_dots_text : PySem.W.keepIn K (.ref f_dots_text) = true)
    {od_law_cell an_law_cell : Option Addr} {sl_law_cell : Array (Option Value)} {f_law_cell : Addr} {oc_law_cell kV_law_cell dc_law_cell pm_law_cell cd_law_cell ct_law_cell : Value}
    (a_law_cell : PySem.W.nsIn K mainGlobals "_law_cell" = some (some (.ref f_law_cell)))
    (l_law_cell : K.lookup f_law_cell = some ⟨oc_law_cell, od_law_cell, .func (PySem.W.fnOf "_law_cell" "_law_cell" (defArgs s_law_cell) (defBody s_law_cell) (defScope s_law_cell) .none kV_law_cell dc_law_cell pm_law_cell an_law_cell cd_law_cell ct_law_cell), sl_law_cell⟩)
    (c_law_cell : PySem.W.codeIn K cd_law_cell "_law_cell" = true) (k_law_cell : PySem.W.keepIn K (.ref f_law_cell) = true)
    {od_law_purse an_law_purse : Option Addr} {sl_law_purse : Array (Option Value)} {f_law_purse : Addr} {oc_law_purse kV_law_purse dc_law_purse pm_law_purse cd_law_purse ct_law_purse : Value}
    (a_law_purse : PySem.W.nsIn K mainGlobals "_law_purse" = some (some (.ref f_law_purse)))
    (l_law_purse : K.lookup f_law_purse = some ⟨oc_law_purse, od_law_purse, .func (PySem.W.fnOf "_law_purse" "_law_purse" (defArgs s_law_purse) (defBody s_law_purse) (defScope s_law_purse) .none kV_law_purse dc_law_purse pm_law_purse an_law_purse cd_law_purse ct_law_purse), sl_law_purse⟩)
    (c_law_purse : PySem.W.codeIn K cd_law_purse "_law_purse" = true) (k_law_purse : PySem.W.keepIn K (.ref f_law_purse) = true)
    {od_law_draw an_law_draw : Option Addr} {sl_law_draw : Array (Option Value)} {f_law_draw : Addr} {oc_law_draw kV_law_draw dc_law_draw pm_law_draw cd_law_draw ct_law_draw : Value}
    (a_law_draw : PySem.W.nsIn K mainGlobals "_law_draw" = some (some (.ref f_law_draw)))
    (l_law_draw : K.lookup f_law_draw = some ⟨oc_law_draw, od_law_draw, .func (PySem.W.fnOf "_law_draw" "_law_draw" (defArgs s_law_draw) (defBody s_law_draw) (defScope s_law_draw) .none kV_law_draw dc_law_draw pm_law_draw an_law_draw cd_law_draw ct_law_draw), sl_law_draw⟩)
    (c_law_draw : PySem.W.codeIn K cd_law_draw "_law_draw" = true) (k_law_draw : PySem.W.keepIn K (.ref f_law_draw) = true)
    {od_law_many an_law_many : Option Addr} {sl_law_many : Array (Option Value)} {f_law_many : Addr} {oc_law_many kV_law_many dc_law_many pm_law_many cd_law_many ct_law_many : Value}
    (a_law_many : PySem.W.nsIn K mainGlobals "_law_many" = some (some (.ref f_law_many)))
    (l_law_many : K.lookup f_law_many = some ⟨oc_law_many, od_law_many, .func (PySem.W.fnOf "_law_many" "_law_many" (defArgs s_law_many) (defBody s_law_many) (defScope s_law_many) .none kV_law_many dc_law_many pm_law_many an_law_many cd_law_many ct_law_many), sl_law_many⟩)
    (c_law_many : PySem.W.codeIn K cd_law_many "_law_many" = true) (k_law_many : PySem.W.keepIn K (.ref f_law_many) = true)
    {od_law_run an_law_run : Option Addr} {sl_law_run : Array (Option Value)} {f_law_run : Addr} {oc_law_run kV_law_run dc_law_run pm_law_run cd_law_run ct_law_run : Value}
    (a_law_run : PySem.W.nsIn K mainGlobals "_law_run" = some (some (.ref f_law_run)))
    (l_law_run : K.lookup f_law_run = some ⟨oc_law_run, od_law_run, .func (PySem.W.fnOf "_law_run" "_law_run" (defArgs s_law_run) (defBody s_law_run) (defScope s_law_run) .none kV_law_run dc_law_run pm_law_run an_law_run cd_law_run ct_law_run), sl_law_run⟩)
    (c_law_run : PySem.W.codeIn K cd_law_run "_law_run" = true) (k_law_run : PySem.W.keepIn K (.ref f_law_run) = true)
    {od_law_line an_law_line : Option Addr} {sl_law_line : Array (Option Value)} {f_law_line : Addr} {oc_law_line kV_law_line dc_law_line pm_law_line cd_law_line ct_law_line : Value}
    (a_law_line : PySem.W.nsIn K mainGlobals "_law_line" = some (some (.ref f_law_line)))
    (l_law_line : K.lookup f_law_line = some ⟨oc_law_line, od_law_line, .func (PySem.W.fnOf "_law_line" "_law_line" (defArgs s_law_line) (defBody s_law_line) (defScope s_law_line) .none kV_law_line dc_law_line pm_law_line an_law_line cd_law_line ct_law_line), sl_law_line⟩)
    (c_law_line : PySem.W.codeIn K cd_law_line "_law_line" = true) (k_law_line : PySem.W.keepIn K (.ref f_law_line) = true)
    {od_law an_law : Option Addr} {sl_law : Array (Option Value)} {f_law : Addr} {oc_law kV_law dc_law pm_law cd_law ct_law : Value}
    (a_law : PySem.W.nsIn K mainGlobals "law" = some (some (.ref f_law)))
    (l_law : K.lookup f_law = some ⟨oc_law, od_law, .func (PySem.W.fnOf "law" "law" (defArgs s_law) (defBody s_law) (defScope s_law) .none kV_law dc_law pm_law an_law cd_law ct_law), sl_law⟩)
    (c_law : PySem.W.codeIn K cd_law "law" = true) (k_law : PySem.W.keepIn K (.ref f_law) = true)
    (z_isinstance : PySem.W.nsIn K mainGlobals "isinstance" = some none)
    (z_len : PySem.W.nsIn K mainGlobals "len" = some none)
    (z_range : PySem.W.nsIn K mainGlobals "range" = some none)
    (z_int : PySem.W.nsIn K mainGlobals "int" = some none)
    (z_bool : PySem.W.nsIn K mainGlobals "bool" = some none)
    (z_str : PySem.W.nsIn K mainGlobals "str" = some none)
    (z_tuple : PySem.W.nsIn K mainGlobals "tuple" = some none)
    (z_list : PySem.W.nsIn K mainGlobals "list" = some none)
    (z_set : PySem.W.nsIn K mainGlobals "set" = some none)
    (z_dict : PySem.W.nsIn K mainGlobals "dict" = some none)
    (z_abs : PySem.W.nsIn K mainGlobals "abs" = some none)
    (z_all : PySem.W.nsIn K mainGlobals "all" = some none)
    (z_any : PySem.W.nsIn K mainGlobals "any" = some none)
    (z_max : PySem.W.nsIn K mainGlobals "max" = some none)
    (z_min : PySem.W.nsIn K mainGlobals "min" = some none)
    (z_sum : PySem.W.nsIn K mainGlobals "sum" = some none)
    (z_sorted : PySem.W.nsIn K mainGlobals "sorted" = some none)
    (z_zip : PySem.W.nsIn K mainGlobals "zip" = some none)
    (z_divmod : PySem.W.nsIn K mainGlobals "divmod" = some none)
    (z_repr : PySem.W.nsIn K mainGlobals "repr" = some none)
    (z_reversed : PySem.W.nsIn K mainGlobals "reversed" = some none)
    (z_ValueError : PySem.W.nsIn K mainGlobals "ValueError" = some none)
    : ∃ fd : FuncData, (∀ (s : Shared) (v : Value), BindsTo s fd ⟨[v], []⟩ [("_law_script", v)]) ∧ ∀ base : Heap, K.In base → base.Ns mainGlobals mg → FnOk l.prog w K mg base (L2.CX l.prog w) 3 fa fd ["_law_script"] (sp_law K) := by
  have e := hfa.symm.trans (PySem.W.mg_of X G a_law)
  cases e
  have B : Blt mg := ⟨PySem.W.mg_none_of X G z_isinstance, PySem.W.mg_none_of X G z_len, PySem.W.mg_none_of X G z_range, PySem.W.mg_none_of X G z_int, PySem.W.mg_none_of X G z_bool, PySem.W.mg_none_of X G z_str, PySem.W.mg_none_of X G z_tuple, PySem.W.mg_none_of X G z_list, PySem.W.mg_none_of X G z_set, PySem.W.mg_none_of X G z_dict, PySem.W.mg_none_of X G z_abs, PySem.W.mg_none_of X G z_all, PySem.W.mg_none_of X G z_any, PySem.W.mg_none_of X G z_max, PySem.W.mg_none_of X G z_min, PySem.W.mg_none_of X G z_sum, PySem.W.mg_none_of X G z_sorted, PySem.W.mg_none_of X G z_zip, PySem.W.mg_none_of X G z_divmod, PySem.W.mg_none_of X G z_repr, PySem.W.mg_none_of X G z_reversed, PySem.W.mg_none_of X G z_ValueError⟩
  have F_sign_of := fun_mk (st := s_sign_of) l_sign_of c_sign_of k_sign_of
  have D_sign_of : Def K mg "sign_of" s_sign_of ["run", "row"] := def_mk F_sign_of (PySem.W.mg_of X G a_sign_of) (F_sign_of.binds (ps := ["run", "row"]) fun _ _ _ _ _ _ us hl => match us, hl with | [_, _], _ => rfl)
  have F_dots_text := fun_mk (st := s_dots_text) l_dots_text c_dots_text k_dots_text
  have D_dots_text : Def K mg "dots_text" s_dots_text ["dots", "rows"] := def_mk F_dots_text (PySem.W.mg_of X G a_dots_text) (F_dots_text.binds (ps := ["dots", "rows"]) fun _ _ _ _ _ _ us hl => match us, hl with | [_, _], _ => rfl)
  have F_law_cell := fun_mk (st := s_law_cell) l_law_cell c_law_cell k_law_cell
  have D_law_cell : Def K mg "_law_cell" s_law_cell ["_law_script", "_law_k"] := def_mk F_law_cell (PySem.W.mg_of X G a_law_cell) (F_law_cell.binds (ps := ["_law_script", "_law_k"]) fun _ _ _ _ _ _ us hl => match us, hl with | [_, _], _ => rfl)
  have F_law_purse := fun_mk (st := s_law_purse) l_law_purse c_law_purse k_law_purse
  have D_law_purse : Def K mg "_law_purse" s_law_purse ["_law_cell_here", "_law_k"] := def_mk F_law_purse (PySem.W.mg_of X G a_law_purse) (F_law_purse.binds (ps := ["_law_cell_here", "_law_k"]) fun _ _ _ _ _ _ us hl => match us, hl with | [_, _], _ => rfl)
  have F_law_draw := fun_mk (st := s_law_draw) l_law_draw c_law_draw k_law_draw
  have D_law_draw : Def K mg "_law_draw" s_law_draw ["_law_purse_here", "_law_many_here"] := def_mk F_law_draw (PySem.W.mg_of X G a_law_draw) (F_law_draw.binds (ps := ["_law_purse_here", "_law_many_here"]) fun _ _ _ _ _ _ us hl => match us, hl with | [_, _], _ => rfl)
  have F_law_many := fun_mk (st := s_law_many) l_law_many c_law_many k_law_many
  have D_law_many : Def K mg "_law_many" s_law_many ["_law_purse_here", "_law_few", "_law_most"] := def_mk F_law_many (PySem.W.mg_of X G a_law_many) (F_law_many.binds (ps := ["_law_purse_here", "_law_few", "_law_most"]) fun _ _ _ _ _ _ us hl => match us, hl with | [_, _, _], _ => rfl)
  have F_law_run := fun_mk (st := s_law_run) l_law_run c_law_run k_law_run
  have D_law_run : Def K mg "_law_run" s_law_run ["_law_purse_here", "_law_rows"] := def_mk F_law_run (PySem.W.mg_of X G a_law_run) (F_law_run.binds (ps := ["_law_purse_here", "_law_rows"]) fun _ _ _ _ _ _ us hl => match us, hl with | [_, _], _ => rfl)
  have F_law_line := fun_mk (st := s_law_line) l_law_line c_law_line k_law_line
  have D_law_line : Def K mg "_law_line" s_law_line ["_law_runs", "_law_row"] := def_mk F_law_line (PySem.W.mg_of X G a_law_line) (F_law_line.binds (ps := ["_law_runs", "_law_row"]) fun _ _ _ _ _ _ us hl => match us, hl with | [_, _], _ => rfl)
  have F_law := fun_mk (st := s_law) l_law c_law k_law
  have D_law : Def K mg "law" s_law ["_law_script"] := def_mk F_law (PySem.W.mg_of X G a_law) (F_law.binds (ps := ["_law_script"]) fun _ _ _ _ _ _ us hl => match us, hl with | [_], _ => rfl)
  refine ⟨PySem.W.fnOf "law" "law" (defArgs s_law) (defBody s_law) (defScope s_law) .none kV_law dc_law pm_law an_law cd_law ct_law, fun s v => .of_eq rfl, fun base _ _ => ?_⟩
  have G_law_cell := fun base => ok_law_cell (P := l.prog) (w := w) (base := base) B D_law_cell
  have G_law_purse := fun base => ok_law_purse (P := l.prog) (w := w) (base := base) B D_law_purse
  have G_law_draw := fun base => ok_law_draw (P := l.prog) (w := w) (base := base) B D_law_draw
  have G_sign_of := fun base => ok_sign_of (P := l.prog) (w := w) (base := base) B D_sign_of
  have G_dots_text := fun base => ok_dots_text (P := l.prog) (w := w) (base := base) B D_dots_text (G_sign_of base)
  have G_law_many := fun base => ok_law_many (P := l.prog) (w := w) (base := base) B D_law_many (G_law_draw base)
  have G_law_run := fun base => ok_law_run (P := l.prog) (w := w) (base := base) B D_law_run (G_law_draw base)
  have G_law_line := fun base => ok_law_line (P := l.prog) (w := w) (base := base) B D_law_line
  exact ok_law B F_law (G_law_purse base) (G_law_cell base) (G_law_many base) (G_law_line base) (G_dots_text base) (G_law_run base)

open PySem.W in
theorem walk {l : PySem.W.OpenLaw} {q : Program} {loose : List Str} {XP : (Str → Option Value) → Heap → Prop} {YP : World → Heap → Prop} {d : DefRec} {K : Params → PySem.W.Frag} (hn : l.most = some 63) (hdf : d.params.defaults = [])
    (hY : ∀ (w : World) (h : Heap), YP w h → (K w.params).In h)
    (F : ∀ (w : World) (mg : Str → Option Value) (fa : Addr) (h : Heap), (K w.params).In h → h.Ns mainGlobals mg → mg d.name = some (.ref fa) →
      ∃ fd : FuncData, (∀ (s : Shared) (u : Value), BindsTo s fd ⟨[u], []⟩ [("_law_script", u)]) ∧ ∀ base : Heap, (K w.params).In base → base.Ns mainGlobals mg → FnOk l.prog w (K w.params) mg base (L2.CX l.prog w) 3 fa fd ["_law_script"] (sp_law (K w.params))) :
    PySem.W.WalkO q loose XP YP l.row.toRowW d [] (fun f vs => PySem.call f vs) :=
  L2.walk_ofB (n := 63) (k := 3) (x := "_law_script") (CX := fun w => L2.CX l.prog w) (sp := fun w => sp_law (K w.params)) hn (by decide) hdf ⟨rfl, by decide, by decide⟩ hY F (fun _ H a ns hl hb hO hS => sp_law_top hl hb hO hS)
    fun _ _ _ _ _ z => cx_none z
end Lk45
open PySem PySem.W PyProof.Rows
set_option maxRecDepth 100000 in
set_option maxHeartbeats 0 in
theorem PySem.Challenge.cw_fourpoints_k45_pictures_of_dots_holds : PySem.Challenge.rw_fourpoints_k45_pictures_of_dots.Holds := by
  w_on; o_law; k_head; (case hw => w_witness2)
  k_fill
  refine Lk45.walk (l := PySem.Challenge.rw_fourpoints_k45_pictures_of_dots) rfl rfl (fun w h Y => PySem.W.kIn_of Y) ?F
  case F =>
    intro w mg fa h KX G hmg
    refine' Lk45.all_mk KX G hmg ?a_sign_of ?l_sign_of ?c_sign_of ?k_sign_of ?a_dots_text ?l_dots_text ?c_dots_text ?k_dots_text ?a_law_cell ?l_law_cell ?c_law_cell ?k_law_cell ?a_law_purse ?l_law_purse ?c_law_purse ?k_law_purse ?a_law_draw ?l_law_draw ?c_law_draw ?k_law_draw ?a_law_many ?l_law_many ?c_law_many ?k_law_many ?a_law_run ?l_law_run ?c_law_run ?k_law_run ?a_law_line ?l_law_line ?c_law_line ?k_law_line ?a_law ?l_law ?c_law ?k_law ?z_isinstance ?z_len ?z_range ?z_int ?z_bool ?z_str ?z_tuple ?z_list ?z_set ?z_dict ?z_abs ?z_all ?z_any ?z_max ?z_min ?z_sum ?z_sorted ?z_zip ?z_divmod ?z_repr ?z_reversed ?z_ValueError
    (case a_sign_of => k_is)
    (case l_sign_of => k_is)
    (case c_sign_of => k_is)
    (case k_sign_of => k_is)
    (case a_dots_text => k_is)
    (case l_dots_text => k_is)
    (case c_dots_text => k_is)
    (case k_dots_text => k_is)
    (case a_law_cell => k_is)
    (case l_law_cell => k_is)
    (case c_law_cell => k_is)
    (case k_law_cell => k_is)
    (case a_law_purse => k_is)
    (case l_law_purse => k_is)
    (case c_law_purse => k_is)
    (case k_law_purse => k_is)
    (case a_law_draw => k_is)
    (case l_law_draw => k_is)
    (case c_law_draw => k_is)
    (case k_law_draw => k_is)
    (case a_law_many => k_is)
    (case l_law_many => k_is)
    (case c_law_many => k_is)
    (case k_law_many => k_is)
    (case a_law_run => k_is)
    (case l_law_run => k_is)
    (case c_law_run => k_is)
    (case k_law_run => k_is)
    (case a_law_line => k_is)
    (case l_law_line => k_is)
    (case c_law_line => k_is)
    (case k_law_line => k_is)
    (case a_law => k_is)
    (case l_law => k_is)
    (case c_law => k_is)
    (case k_law => k_is)
    (case z_isinstance => k_is)
    (case z_len => k_is)
    (case z_range => k_is)
    (case z_int => k_is)
    (case z_bool => k_is)
    (case z_str => k_is)
    (case z_tuple => k_is)
    (case z_list => k_is)
    (case z_set => k_is)
    (case z_dict => k_is)
    (case z_abs => k_is)
    (case z_all => k_is)
    (case z_any => k_is)
    (case z_max => k_is)
    (case z_min => k_is)
    (case z_sum => k_is)
    (case z_sorted => k_is)
    (case z_zip => k_is)
    (case z_divmod => k_is)
    (case z_repr => k_is)
    (case z_reversed => k_is)
    (case z_ValueError => k_is)
