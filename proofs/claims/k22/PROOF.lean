import PyProof.Rows.All
import Wide.All
import OpenK.AllK
import Wide.FinOn
import HandS.ForMost
import HandS.ForExc
import HandS.Wide
import HandS.EndBits
import HandS.IsInst
import HandS.TupLe
import HandS.TupAny
import HandS.Zip
import HandS.Flow
import HandS.Evl
import HandS.RevRange
import HandS.WideBits
import PySem.Challenge.RW_fourpoints_k22_steps
set_option Elab.async false
set_option linter.all false
set_option maxRecDepth 100000
set_option maxHeartbeats 4000000
/-! my own base over HandS: defs of the text, heaps that keep, readings taken step by step -/
namespace Fp
open PySem PySem.Spec PyProof.Rows L2
abbrev St := L2.St

/-! ### defs -/
/-- a def of the top that stands at the module's name x -/
structure Def (K : PySem.W.Frag) (mg : Str → Option Value) (x : Str) (st : Stmt) (ps : List Str) : Prop where
  ex : ∃ f fd, Fun K x x st f fd ∧ mg x = some (.ref f) ∧ Binds K fd ps []
/-- .. and its promise -/
structure Fn (P : Program) (w : World) (K : PySem.W.Frag) (mg : Str → Option Value) (base : Heap) (k : Nat) (x : Str) (ps : List Str) (sp : Sp) : Prop where
  ex : ∃ f fd, mg x = some (.ref f) ∧ PySem.W.keepIn K (.ref f) = true ∧ Binds K fd ps [] ∧ FnOk P w K mg base (L2.CX P w) k f fd ps sp

section
variable {P : Program} {w : World} {K : PySem.W.Frag} {mg : Str → Option Value} {base : Heap}
theorem fn_up {k : Nat} {f : Addr} {fd : FuncData} {ps : List Str} {sp : Sp} (F : FnOk P w K mg base CX0 k f fd ps sp) : FnOk P w K mg base (L2.CX P w) k f fd ps sp :=
  ⟨F.len, fun A outer s H args us vs Q E hr he hb hv hs => codeAny_mono (F.run A outer s H args us vs Q E hr he hb hv hs) fun r s' hq => by
    cases r with
    | error e => exact False.elim hq
    | ok fl => cases fl <;> exact hq⟩
/-- a def that lets nothing out -/
theorem Def.ok {x : Str} {st : Stmt} {N ps : List Str} {k : Nat} {sp : Sp} (D : Def K mg x st ps) (S : FnScope N ps (defScope st)) (len : ∀ vs H Q E, sp vs H Q E → vs.length = ps.length)
    (hbody : ∀ (f : Addr) (cdv : Value) (A : Around) (outer : List Env) (s : Shared) (H : Hp) (vs : List V) (Q : VK) (E : XK), Room k (A.deeper (envOfC x (defScope st) s.heap.objs.size f cdv)) → sp vs H Q E →
      ∃ t, PSs (cxOf CX0 P w K mg base N x (defScope st) f cdv A outer s H E).nox (defBody st) t ∧ t { nx := fun _ H' => Q .non H', rt := Q } (start N vs) H) : Fn P w K mg base (k + 1) x ps sp := by
  obtain ⟨f, fd, F, hm, hb⟩ := D.ex
  exact ⟨f, fd, hm, F.kp, hb, fn_up (F.ok S len (hbody f))⟩
/-- a def that may raise -/
theorem Def.okX {x : Str} {st : Stmt} {N ps : List Str} {k : Nat} {sp : Sp} (D : Def K mg x st ps) (S : FnScope N ps (defScope st)) (len : ∀ vs H Q E, sp vs H Q E → vs.length = ps.length)
    (hbody : ∀ (f : Addr) (cdv : Value) (A : Around) (outer : List Env) (s : Shared) (H : Hp) (vs : List V) (Q : VK) (E : XK), Room k (A.deeper (envOfC x (defScope st) s.heap.objs.size f cdv)) → sp vs H Q E →
      ∃ t, PSs (cxOf (L2.CX P w) P w K mg base N x (defScope st) f cdv A outer s H E) (defBody st) t ∧ t { nx := fun _ H' => Q .non H', rt := Q } (start N vs) H) : Fn P w K mg base (k + 1) x ps sp := by
  obtain ⟨f, fd, F, hm, hb⟩ := D.ex
  exact ⟨f, fd, hm, F.kp, hb, F.okX S len (hbody f)⟩
theorem def_mk {x : Str} {st : Stmt} {f : Addr} {fd : FuncData} {ps : List Str} (F : Fun K x x st f fd) (hm : mg x = some (.ref f)) (hb : Binds K fd ps []) : Def K mg x st ps := ⟨f, fd, F, hm, hb⟩
theorem Fn.up {k j : Nat} {x : Str} {ps : List Str} {sp : Sp} (F : Fn P w K mg base k x ps sp) (h : k ≤ j) : Fn P w K mg base j x ps sp := by
  obtain ⟨f, fd, a, b, c, d⟩ := F.ex
  exact ⟨f, fd, a, b, c, d.mono h⟩
theorem Fn.imp {k : Nat} {x : Str} {ps : List Str} {sp sp' : Sp} (F : Fn P w K mg base k x ps sp) (h : ∀ vs H Q E, sp' vs H Q E → sp vs H Q E) : Fn P w K mg base k x ps sp' := by
  obtain ⟨f, fd, a, b, c, d⟩ := F.ex
  exact ⟨f, fd, a, b, c, d.imp h⟩
end

/-! ### a call of such a def, where nothing is let out -/
def tFn (sp : Sp) (E : XK) (t : TA) : TE := fun σ H Q => t σ H fun vs H1 => sp vs H1 Q E
section
variable {X : Cx} {k j : Nat} {ps : List Str} {sp : Sp} {E : XK} {x : Str} {p pos : Pos} {e : Expr} {es : List Expr} {t : TA}
theorem pe_fnE (F : Fn X.prog X.w X.K X.mg X.base k x ps sp) (hr : Room j X.A) (hk : k ≤ j) (hg : Gl X x) (hx : Passes (L2.CX X.prog X.w) X E) (ha : PA X (e :: es) t)
    (hdb : (x == ("__debug__" : Str)) = false := by decide) (he : starEach (e :: es) X.env = (false, eval e X.env) :: starEach es X.env := by rfl) (hpl : (backTo pos (starEach es X.env)).any (·.1) = false := by rfl) :
    PE X (.Call (.Name x p) (e :: es) [] pos) (tFn sp E t) := by
  obtain ⟨f, fd, hm, hkp, hb, G⟩ := F.ex
  have h := pe_call (dvs := []) (p := p) (pos := pos) (G.mono hk) hr hg hm hkp hb .nil hx ha hdb he hpl
  have e1 : tCall sp [] E t = tFn sp E t := by
    funext σ H Q
    show t σ H (fun vs H1 => sp (vs ++ []) H1 Q E) = t σ H (fun vs H1 => sp vs H1 Q E)
    simp only [List.append_nil]
  rw [e1] at h
  exact h
theorem pe_fn0E (F : Fn X.prog X.w X.K X.mg X.base k x ps sp) (hr : Room j X.A) (hk : k ≤ j) (hg : Gl X x) (hx : Passes (L2.CX X.prog X.w) X E)
    (hdb : (x == ("__debug__" : Str)) = false := by decide) :
    PE X (.Call (.Name x p) [] [] pos) (tFn sp E tNil) := by
  obtain ⟨f, fd, hm, hkp, hb, G⟩ := F.ex
  exact pe_call0 (dvs := []) (p := p) (pos := pos) (G.mono hk) hr hg hm hkp hb .nil hx hdb
theorem pe_fn (F : Fn X.prog X.w X.K X.mg X.base k x ps sp) (hr : Room j X.A) (ha : PA X (e :: es) t) (hk : k ≤ j := by decide) (hg : Gl X x := by rfl)
    (hdb : (x == ("__debug__" : Str)) = false := by decide) (he : starEach (e :: es) X.env = (false, eval e X.env) :: starEach es X.env := by rfl) (hpl : (backTo pos (starEach es X.env)).any (·.1) = false := by rfl) :
    PE X (.Call (.Name x p) (e :: es) [] pos) (tFn sp E0 t) := pe_fnE F hr hk hg passL ha hdb he hpl
theorem pe_fn0 (F : Fn X.prog X.w X.K X.mg X.base k x ps sp) (hr : Room j X.A) (hk : k ≤ j := by decide) (hg : Gl X x := by rfl)
    (hdb : (x == ("__debug__" : Str)) = false := by decide) : PE X (.Call (.Name x p) [] [] pos) (tFn sp E0 tNil) := pe_fn0E F hr hk hg passL hdb
/-- f(..) whose exceptions are wished for at the slots (within a try, or out of this def) -/
def tFnS (sp : Sp) (E : St → XK) (t : TA) : TE := fun σ H Q => t σ H fun vs H1 => sp vs H1 Q (E σ)
theorem pe_fnS {E : St → XK} (F : Fn X.prog X.w X.K X.mg X.base k x ps sp) (hr : Room j X.A) (hk : k ≤ j) (hg : Gl X x) (hx : ∀ σ, PassesAt (L2.CX X.prog X.w) X σ (E σ)) (ha : PA X (e :: es) t)
    (hdb : (x == ("__debug__" : Str)) = false := by decide) (he : starEach (e :: es) X.env = (false, eval e X.env) :: starEach es X.env := by rfl) (hpl : (backTo pos (starEach es X.env)).any (·.1) = false := by rfl) :
    PE X (.Call (.Name x p) (e :: es) [] pos) (tFnS sp E t) := by
  obtain ⟨f, fd, hm, hkp, hb, G⟩ := F.ex
  exact pe_callS (p := p) (pos := pos) (G.mono hk) hr hg hm hkp hb hx ha hdb he hpl
end

/-! ### what of the built-ins no name of the module hides -/
structure Blt (mg : Str → Option Value) : Prop where
  isinstance : mg "isinstance" = none
  len : mg "len" = none
  range : mg "range" = none
  int : mg "int" = none
  bool : mg "bool" = none
  str : mg "str" = none
  tuple : mg "tuple" = none
  list : mg "list" = none
  set : mg "set" = none
  dict : mg "dict" = none
  abs : mg "abs" = none
  all : mg "all" = none
  any : mg "any" = none
  max : mg "max" = none
  min : mg "min" = none
  sum : mg "sum" = none
  sorted : mg "sorted" = none
  zip : mg "zip" = none
  divmod : mg "divmod" = none
  repr : mg "repr" = none
  reversed : mg "reversed" = none
  ValueError : mg "ValueError" = none

/-! ### heaps: all stays but what F names -/
def Keep (F : Addr → Prop) (H H' : Hp) : Prop := ∀ b o, H b = some o → ¬ F b → H' b = some o
abbrev No : Addr → Prop := fun _ => False
abbrev At (p : Addr) : Addr → Prop := fun b => b = p
theorem Keep.refl {F : Addr → Prop} (H : Hp) : Keep F H H := fun _ _ h _ => h
theorem Keep.trans {F : Addr → Prop} {H H1 H2 : Hp} (a : Keep F H H1) (b : Keep F H1 H2) : Keep F H H2 := fun c o h n => b c o (a c o h n) n
theorem Keep.mono {F G : Addr → Prop} {H H' : Hp} (a : Keep F H H') (h : ∀ b, F b → G b) : Keep G H H' := fun c o e n => a c o e fun z => n (h c z)
theorem Keep.of_same {F : Addr → Prop} {H H' : Hp} (a : Same H H') : Keep F H H' := fun c o e _ => a c o e
theorem Keep.same {H H' : Hp} (a : Keep No H H') : Same H H' := fun c o e => a c o e fun z => z
theorem Keep.new {F : Addr → Prop} {H : Hp} {p : Addr} {o : HO} (h : H p = none) : Keep F H (upd H p o) := fun b u e _ => by rw [upd_ne (ne_of_none e h)]; exact e
theorem Keep.at_ {H : Hp} {p : Addr} {o : HO} : Keep (At p) H (upd H p o) := fun b u e n => by rw [upd_ne n]; exact e
/-- what was free at the start may change -/
theorem Keep.free {F : Addr → Prop} {H H' : Hp} {p : Addr} {o : HO} (a : Keep F H H') (h : H p = none) : Keep F H (upd H' p o) := fun b u e n => by
  rw [upd_ne (ne_of_none e h)]; exact a b u e n
theorem Keep.put {F : Addr → Prop} {H H' : Hp} {p : Addr} {o : HO} (a : Keep F H H') (h : F p) : Keep F H (upd H' p o) := fun b u e n => by
  rw [upd_ne fun z => n (by rw [z]; exact h)]; exact a b u e n
theorem Keep.back {F : Addr → Prop} {H H' : Hp} (a : Keep F H H') {p : Addr} (h : H' p = none) (n : ¬ F p) : H p = none := by
  cases q : H p with
  | none => rfl
  | some o => rw [a p o q n] at h; cases h
theorem Keep.app {F : Addr → Prop} {H H' : Hp} {a : Addr} {o : HO} (k : Keep F H H') (e : H a = some o) (n : ¬ F a) : H' a = some o := k a o e n
theorem same_app {H H' : Hp} {a : Addr} {o : HO} (k : Same H H') (e : H a = some o) : H' a = some o := k a o e
/-- the tuples, and what is locked, stay, whatever else is done -/
structure TExt (H H' : Hp) : Prop where
  t : ∀ a xs, Rd H a (.tup xs) → Rd H' a (.tup xs)
  f : ∀ a o u, H a = some (.frz o u) → H' a = some (.frz o u)
theorem Keep.text {F : Addr → Prop} {H H' : Hp} (a : Keep F H H') (h : ∀ b, F b → Mut (H b)) : TExt H H' := by
  have nt : ∀ b xs, H b = some (.tup xs) → ¬ F b := fun b xs e z => by have m := h b z; rw [e] at m; exact m
  have nf : ∀ b o u, H b = some (.frz o u) → ¬ F b := fun b o u e z => by have m := h b z; rw [e] at m; exact m
  refine ⟨fun b xs r => ?_, fun b o u e => a b _ e (nf b o u e)⟩
  rcases r with r | ⟨o, r⟩
  · exact .inl (a b _ r (nt b xs r))
  · exact .inr ⟨o, a b _ r (nf b o _ r)⟩
theorem TExt.refl (H : Hp) : TExt H H := ⟨fun _ _ h => h, fun _ _ _ h => h⟩
theorem TExt.trans {H H1 H2 : Hp} (a : TExt H H1) (b : TExt H1 H2) : TExt H H2 := ⟨fun c xs h => b.t c xs (a.t c xs h), fun c o u h => b.f c o u (a.f c o u h)⟩
theorem TExt.of_same {H H' : Hp} (a : Same H H') : TExt H H' := ⟨fun b xs r => by
  rcases r with r | ⟨o, r⟩
  · exact .inl (a b _ r)
  · exact .inr ⟨o, a b _ r⟩, fun b o u e => a b _ e⟩
theorem TExt.lst {H H' : Hp} {p : Addr} {ys : List V} (k : Keep (At p) H H') (h : H p = some (.lst ys)) : TExt H H' := k.text fun b e => by rw [show b = p from e, h]; trivial
theorem SqT.text {K : PySem.W.Frag} {H H' : Hp} {a : Addr} {xs : List V} (e : TExt H H') (h : SqT K H a xs) : SqT K H' a xs := by
  rcases h with h | h
  · exact .inl (e.t a xs h)
  · exact .inr h
/-- the script: locked, or written -/
def Scr (K : PySem.W.Frag) (H : Hp) (a : Addr) (ns : List Int) : Prop := SqL K H a (ns.map V.int) ∧ ∀ H', TExt H H' → SqL K H' a (ns.map V.int)
theorem Scr.text {K : PySem.W.Frag} {H H' : Hp} {a : Addr} {ns : List Int} (h : Scr K H a ns) (e : TExt H H') : Scr K H' a ns := ⟨h.2 H' e, fun H2 e2 => h.2 H2 (e.trans e2)⟩
theorem Scr.of {K : PySem.W.Frag} {H : Hp} {a : Addr} {ns : List Int} (hO : Only H) (h : SqL K H a (ns.map V.int)) : Scr K H a ns := by
  refine ⟨h, fun H' e => ?_⟩
  rcases h with (h | ⟨o, h⟩) | h
  · rcases hO a with z | ⟨o, xs, z⟩
    · rw [z] at h; cases h
    · rw [z] at h; cases h
  · exact .inl (.inr ⟨o, e.f a o _ h⟩)
  · exact .inr h

/-! ### data: as L2.Dp tells; data without lists stays where tuples stay -/
mutual
def imm : PyData → Bool
  | .list _ => false
  | .dict _ => false
  | .tuple xs => immAll xs
  | _ => true
def immAll : List PyData → Bool
  | [] => true
  | x :: xs => imm x && immAll xs
end
section
variable {K : PySem.W.Frag} {H H' : Hp}
mutual
theorem Dp.text (e : TExt H H') : ∀ (d : PyData) (v : V), imm d = true → Dp K H v d → Dp K H' v d
  | .none, _, _, h => by cases h; exact .non
  | .bool b, _, _, h => by cases h; exact .bl b
  | .int i, _, _, h => by cases h; exact .int i
  | .str x, _, _, h => by cases h; exact .str x
  | .list _, _, hi, _ => by simp [imm] at hi
  | .dict _, _, hi, _ => by simp [imm] at hi
  | .tuple ds, _, hi, h => by
    cases h with
    | tup hs ha => exact .tup (SqT.text e hs) (DpAll.text e ds _ (by simpa [imm] using hi) ha)
theorem DpAll.text (e : TExt H H') : ∀ (ds : List PyData) (vs : List V), immAll ds = true → DpAll K H vs ds → DpAll K H' vs ds
  | [], _, _, h => by cases h; exact .nil
  | d :: ds, _, hi, h => by
    have hi2 : imm d = true ∧ immAll ds = true := by simpa [immAll] using hi
    cases h with
    | cons h1 h2 => exact .cons (Dp.text e d _ hi2.1 h1) (DpAll.text e ds _ hi2.2 h2)
end
mutual
theorem Dp.same (e : Same H H') : ∀ (d : PyData) (v : V), Dp K H v d → Dp K H' v d
  | .none, _, h => by cases h; exact .non
  | .bool b, _, h => by cases h; exact .bl b
  | .int i, _, h => by cases h; exact .int i
  | .str x, _, h => by cases h; exact .str x
  | .list ds, _, h => by
    cases h with
    | lst hs ha => exact .lst (e.seq hs) (DpAll.same e ds _ ha)
  | .dict _, _, h => by cases h
  | .tuple ds, _, h => by
    cases h with
    | tup hs ha => exact .tup (SqT.text (TExt.of_same e) hs) (DpAll.same e ds _ ha)
theorem DpAll.same (e : Same H H') : ∀ (ds : List PyData) (vs : List V), DpAll K H vs ds → DpAll K H' vs ds
  | [], _, h => by cases h; exact .nil
  | d :: ds, _, h => by
    cases h with
    | cons h1 h2 => exact .cons (Dp.same e d _ h1) (DpAll.same e ds _ h2)
end
end
theorem immAll_map {α : Type} (f : α → PyData) (h : ∀ x, imm (f x) = true) : ∀ xs : List α, immAll (xs.map f) = true
  | [] => rfl
  | x :: xs => by simp [immAll, h x, immAll_map f h xs]

/-! ### readings, one step each: what is left is what follows -/
section
variable {K : PySem.W.Frag} {σ : St} {H : Hp} {Q : VK} {v x y : V} {ta tb tc te : TE} {r : R2} {t : TA} {tt uu : TT} {tu tw : TS} {nx bk ct : St → Hp → Prop} {rt : VK} {A B : Prop}
theorem r_var {i : Nat} (h : σ[i]? = some (some v)) (q : Q v H) : tVar i σ H Q := ⟨v, h, q⟩
theorem r_c (q : Q v H) : tC v σ H Q := q
theorem r_op (q : ta σ H fun x H1 => tb σ H1 fun y H2 => r x y H2 Q) : tOp r ta tb σ H Q := q
theorem r_un {u : V → Hp → VK → Prop} (q : ta σ H fun x H1 => u x H1 Q) : tUn u ta σ H Q := q
theorem r_I0 {g : Int → Int → V} {i j : Int} (q : Q (g i j) H) : rI0 g (.int i) (.int j) H Q := ⟨i, j, rfl, rfl, q⟩
theorem r_I {C : Int → Int → Prop} {g : Int → Int → V} {i j : Int} (hc : C i j) (q : Q (g i j) H) : rI C g (.int i) (.int j) H Q := ⟨i, j, rfl, rfl, hc, q⟩
theorem r_U {g : Int → V} {i : Int} (q : Q (g i) H) : rU g (.int i) H Q := ⟨i, rfl, q⟩
theorem r_eqi {i j : Int} (q : Q (.bl (decide (i = j))) H) : rEq (.int i) (.int j) H Q := ⟨rfl, by
  have e : decide (V.int i = V.int j) = decide (i = j) := by rw [Bool.eq_iff_iff]; simp
  rw [e]; exact q⟩
theorem r_nei {i j : Int} (q : Q (.bl (!decide (i = j))) H) : rNe (.int i) (.int j) H Q := ⟨rfl, by
  have e : decide (V.int i = V.int j) = decide (i = j) := by rw [Bool.eq_iff_iff]; simp
  rw [e]; exact q⟩
theorem r_cons {tr : TA} {Q : List V → Hp → Prop} (q : te σ H fun x H1 => tr σ H1 fun xs H2 => Q (x :: xs) H2) : tCons te tr σ H Q := q
theorem r_nil {Q : List V → Hp → Prop} (q : Q [] H) : tNil σ H Q := q
theorem r_fn {sp : Sp} {E : XK} (q : t σ H fun vs H1 => sp vs H1 Q E) : tFn sp E t σ H Q := q
theorem r_fnS {sp : Sp} {E : St → XK} (q : t σ H fun vs H1 => sp vs H1 Q (E σ)) : tFnS sp E t σ H Q := q
theorem r_CB {u : List V → Hp → VK → Prop} (q : t σ H fun vs H1 => u vs H1 Q) : tCB u t σ H Q := q
/-- a new object -/
def uNew (o : HO) (n : Nat) (H : Hp) (Q : VK) : Prop := n ≤ sizeLine ∧ ∀ p, H p = none → Q (.ref p) (upd H p o)
theorem r_tup (q : t σ H fun xs H1 => uNew (.tup xs) xs.length H1 Q) : tTup t σ H Q := q
theorem r_lst (q : t σ H fun xs H1 => uNew (.lst xs) xs.length H1 Q) : tLst t σ H Q := q
theorem r_new {o : HO} {n : Nat} (hn : n ≤ sizeLine) (q : ∀ p H', H p = none → Same H H' → H' p = some o → Q (.ref p) H') : uNew o n H Q :=
  ⟨hn, fun p hp => q p _ hp (Keep.same (Keep.new hp)) upd_same⟩
theorem sz_lit {n : Nat} (h : Nat.ble n 100000 = true) : n ≤ sizeLine := by
  rw [sizeLine_eq]
  exact Nat.le_trans (Nat.le_of_ble_eq_true h) (by decide)
theorem sz_le {n : Nat} (h : n ≤ 16777216) : n ≤ sizeLine := by rw [sizeLine_eq]; exact h
/-! rules with K by name -/
section
variable {X : Cx}
theorem opK (K : PySem.W.Frag) {f : Value → Value → Sem Value} {r : PySem.W.Frag → R2} (h : OpR X f (r X.K)) (hK : X.K = K := by rfl) : OpR X f (r K) := hK ▸ h
theorem ixK (K : PySem.W.Frag) {r : PySem.W.Frag → R2} (h : IxR X (r X.K)) (hK : X.K = K := by rfl) : IxR X (r K) := hK ▸ h
theorem slK (K : PySem.W.Frag) {r : PySem.W.Frag → V → Option Int → Option Int → Hp → VK → Prop} (h : SlR X (r X.K)) (hK : X.K = K := by rfl) : SlR X (r K) := hK ▸ h
theorem crK (K : PySem.W.Frag) {f : Value} {r : PySem.W.Frag → List V → Hp → VK → Prop} (h : CallR X f (r X.K)) (hK : X.K = K := by rfl) : CallR X f (r K) := hK ▸ h
variable {o e l tg value : Expr} {es : List Expr} {to te tl tv : TE} {t : TA} {ts : TGs} {name f : Str} {apos cpos pos pos' tpos : Pos} {T id : String} {r : V → List V → Hp → VK → Prop} {n k : Nat}
theorem piK_list (K : PySem.W.Frag) (hl : PE X l tl) (hK : X.K = K := by rfl) : PI X tg l (iList K tl) := hK ▸ pi_list hl
theorem piK_tup (K : PySem.W.Frag) (hl : PE X l tl) (hK : X.K = K := by rfl) : PI X tg l (iTup K tl) := hK ▸ pi_tup hl
theorem piK_zip (K : PySem.W.Frag) {e2 : Expr} {kk : Nat} {elts : List Expr} {p : Pos} (hm : X.mg "zip" = none) (ha : PA X [e, e2] t) (hg : Gl X "zip" := by rfl)
    (hs : starEach [e, e2] X.env = (false, eval e X.env) :: starEach [e2] X.env := by rfl) (hpl : (backTo pos (starEach [e2] X.env)).any (·.1) = false := by rfl) (hK : X.K = K := by rfl) :
    PI X (.Tuple elts kk tpos) (.Call (.Name "zip" p) [e, e2] [] pos) (RZ.iZipA K t) := hK ▸ RZ.pi_zipA hg hm ha hs hpl
theorem pgK_tup (K : PySem.W.Frag) (hc : X.calm = true) (h : PGs X es ts) (hn : (assignEach es X.env).length = n := by rfl) (hst : (assignEach es X.env).findIdx? (·.1) = none := by rfl) (hK : X.K = K := by rfl) : PG X (.Tuple es k pos) (gTup K n ts) := hK ▸ pg_tup hc h hn hst
theorem peK_fld (K : PySem.W.Frag) (he : PE X e te) (hb : attributeBase e f X.env (eval e X.env) = eval e X.env := by rfl) (hK : X.K = K := by rfl) : PE X (.Attribute e f pos) (tFld K te f) := hK ▸ pe_fld he hb
theorem peK_bm0 (K : PySem.W.Frag) (pa : PlainAttrs T) (slot : Slot T name id) (hty : typeOf (.builtin id) = pure (.type "method_descriptor")) (hm : MtR X id r) (ho : PE X o to)
    (hbase : attributeBase o name X.env (eval o X.env) = eval o X.env := by rfl) (hline : (apos.endLine == cpos.line) = true := by rfl) (hK : X.K = K := by rfl) : PE X (.Call (.Attribute o name apos) [] [] cpos) (tBM0 K T r to) := hK ▸ pe_bm0 pa slot hty hm ho hbase hline
theorem peK_bm (K : PySem.W.Frag) (pa : PlainAttrs T) (slot : Slot T name id) (hty : typeOf (.builtin id) = pure (.type "method_descriptor")) (hm : MtR X id r) (ho : PE X o to) (ha : PA X (e :: es) t)
    (hbase : attributeBase o name X.env (eval o X.env) = eval o X.env := by rfl)
    (hfew : ((backTo cpos (starEach (e :: es) X.env)).all (fun x => !x.1) && (backToKw cpos (keywordEach [] X.env)).all (fun x => x.1.isSome)
      && decide ((e :: es).length + ([] : List Keyword).length + (if ([] : List Keyword).isEmpty then 0 else 1) < 30)) = true := by rfl)
    (hline : (apos.endLine == cpos.line) = true := by rfl) (hs : starEach (e :: es) X.env = (false, eval e X.env) :: starEach es X.env := by rfl) (hplain : (backTo cpos (starEach es X.env)).any (·.1) = false := by rfl) (hK : X.K = K := by rfl) :
    PE X (.Call (.Attribute o name apos) (e :: es) [] cpos) (tBM K T r to t) := hK ▸ pe_bm pa slot hty hm ho ha hbase hfew hline hs hplain
theorem psK_fld (K : PySem.W.Frag) (ha : PE X o to) (hv : PE X value tv) (hs : swapsWith value (some (.Attribute o f pos')) pos.line X.env = pure false := by rfl) (hK : X.K = K := by rfl) : PS X (.Assign [.Attribute o f pos'] value pos) (sFld K to tv f) := hK ▸ ps_fld ha hv hs
theorem psK_fldaug (K : PySem.W.Frag) {op : Operator} {rd : V → V → Hp → VK → Prop} (ha : PE X o to) (hv : PE X value tv) (hop : InOp X op rd) (hK : X.K = K := by rfl) : PS X (.AugAssign (.Attribute o f tpos) op value pos) (sFldAug K to tv rd f) := hK ▸ ps_fldaug ha hv hop
end
/-! tests -/
theorem r_test {Q : Bool → Hp → Prop} (q : te σ H fun x H' => ∃ k, x = .bl k ∧ Q k H') : tTest te σ H Q := q
theorem r_B {Q : Bool → Hp → Prop} (q : te σ H fun x H' => ∃ k, x = .bl k ∧ Q k H') : tB te σ H Q := q
theorem r_bl {b : Bool} {Q : Bool → Prop} (q : Q b) : ∃ k, V.bl b = .bl k ∧ Q k := ⟨b, rfl, q⟩
theorem r_and {Q : Bool → Hp → Prop} (q : tt σ H fun c H1 => if c = true then uu σ H1 Q else Q false H1) : tAnd tt uu σ H Q := q
theorem r_or {Q : Bool → Hp → Prop} (q : tt σ H fun c H1 => if c = true then Q true H1 else uu σ H1 Q) : tOr tt uu σ H Q := q
theorem r_not {Q : Bool → Hp → Prop} (q : tt σ H fun c H1 => Q (!c) H1) : tNot tt σ H Q := q
theorem r_andV (q : ta σ H fun x H1 => ∃ c, x = .bl c ∧ if c = true then tb σ H1 Q else Q (.bl false) H1) : tAndV ta tb σ H Q := q
theorem r_orV (q : ta σ H fun x H1 => ∃ c, x = .bl c ∧ if c = true then Q (.bl true) H1 else tb σ H1 Q) : tOrV ta tb σ H Q := q
theorem r_notV (q : ta σ H fun x H1 => ∃ c, x = .bl c ∧ Q (.bl (!c)) H1) : tNotV ta σ H Q := q
theorem r_if (q : tt σ H fun c H1 => if c = true then ta σ H1 Q else tb σ H1 Q) : tIf tt ta tb σ H Q := q
theorem r_chain {r' : R2} (q : ta σ H fun x H1 => tb σ H1 fun y H2 => r x y H2 fun z H3 => ∃ k, z = .bl k ∧ (if k = true then tc σ H3 fun w' H4 => r' y w' H4 Q else Q (.bl false) H3)) : tChain r r' ta tb tc σ H Q := q
theorem i_T (q : A) : if true = true then A else B := by rw [if_pos rfl]; exact q
theorem i_F (q : B) : if false = true then A else B := by rw [if_neg Bool.false_ne_true]; exact q
theorem i_NT (q : B) : if (!true) = true then A else B := by rw [if_neg (by decide)]; exact q
theorem i_NF (q : A) : if (!false) = true then A else B := by rw [if_pos (by decide)]; exact q
theorem i_pos {c : Prop} [Decidable c] (h : c) (q : A) : if decide c = true then A else B := by rw [if_pos (decide_eq_true h)]; exact q
theorem i_neg {c : Prop} [Decidable c] (h : ¬ c) (q : B) : if decide c = true then A else B := by rw [if_neg (by simpa using h)]; exact q
theorem i_npos {c : Prop} [Decidable c] (h : ¬ c) (q : A) : if (!decide c) = true then A else B := by rw [if_pos (by simpa using h)]; exact q
theorem i_nneg {c : Prop} [Decidable c] (h : c) (q : B) : if (!decide c) = true then A else B := by rw [if_neg (by simpa using h)]; exact q
theorem i_cases {c : Prop} [Decidable c] (p : c → A) (n : ¬ c → B) : if decide c = true then A else B := by
  by_cases h : c
  · exact i_pos h (p h)
  · exact i_neg h (n h)
theorem i_ncases {c : Prop} [Decidable c] (p : ¬ c → A) (n : c → B) : if (!decide c) = true then A else B := by
  by_cases h : c
  · exact i_nneg h (n h)
  · exact i_npos h (p h)
theorem i_bool {b : Bool} (p : b = true → A) (n : b = false → B) : if b = true then A else B := by
  cases b with
  | true => exact i_T (p rfl)
  | false => exact i_F (n rfl)
/-! statements -/
theorem r_next (q : nx σ H) : tNext ⟨nx, rt, bk, ct⟩ σ H := q
theorem r_brk (q : bk σ H) : tBreak ⟨nx, rt, bk, ct⟩ σ H := q
theorem r_cont (q : ct σ H) : tCont ⟨nx, rt, bk, ct⟩ σ H := q
theorem r_seq (q : tu ⟨tw ⟨nx, rt, bk, ct⟩, rt, bk, ct⟩ σ H) : tSeq tu tw ⟨nx, rt, bk, ct⟩ σ H := q
theorem r_asg {i : Nat} (q : te σ H fun v H1 => nx (σ.set i (some v)) H1) : tAsg te (gName i) ⟨nx, rt, bk, ct⟩ σ H := q
theorem r_asgG {g : TG} (q : te σ H fun v H1 => g v σ H1 nx) : tAsg te g ⟨nx, rt, bk, ct⟩ σ H := q
theorem r_drop (q : te σ H fun _ H1 => nx σ H1) : tDrop te ⟨nx, rt, bk, ct⟩ σ H := q
theorem r_ret (q : te σ H rt) : tRet te ⟨nx, rt, bk, ct⟩ σ H := q
theorem r_retN (q : rt .non H) : tRetN ⟨nx, rt, bk, ct⟩ σ H := q
theorem r_ifS (q : tt σ H fun b H1 => if b = true then tu ⟨nx, rt, bk, ct⟩ σ H1 else tw ⟨nx, rt, bk, ct⟩ σ H1) : tIfS tt tu tw ⟨nx, rt, bk, ct⟩ σ H := q
theorem r_start {tu : TS} {D : Ends} {N : List Str} {vs : List V} {σ' : St} (e : start N vs = σ') (q : tu D σ' H) : tu D (start N vs) H := by rw [e]; exact q
theorem r_set {i : Nat} {σ' : St} {P : St → Prop} (e : σ.set i (some v) = σ') (q : P σ') : P (σ.set i (some v)) := by rw [e]; exact q
end

/-! ### numbers of any size -/
theorem intBits_small {i : Int} {n : Nat} (h : i.natAbs < 2 ^ n) : Builtin.Int.intBits i ≤ n := by
  unfold Builtin.Int.intBits
  split
  · omega
  · rename_i h0
    have h1 : i.natAbs ≠ 0 := by simpa using h0
    have := (Nat.log2_lt h1).mpr h
    omega
theorem mul_l {i j : Int} (h1 : -(2 ^ 64) < i) (h2 : i < 2 ^ 64) : IntMulOk i j := .of_left (intBits_le_64 h1 h2)
theorem mul_r {i j : Int} (h1 : -(2 ^ 64) < j) (h2 : j < 2 ^ 64) : IntMulOk i j := .of_right (intBits_le_64 h1 h2)
theorem mul_b {i j : Int} {n m : Nat} (h1 : i.natAbs < 2 ^ n) (h2 : j.natAbs < 2 ^ m) (hn : n ≤ 1048576 := by decide) (hm : m ≤ 1048576 := by decide) : IntMulOk i j :=
  .of_bits (Nat.le_trans (intBits_small h1) (Nat.le_trans hn (by decide))) (Nat.le_trans (intBits_small h2) (Nat.le_trans hm (by decide)))
theorem div_b {i j : Int} {n : Nat} (h0 : 0 < j) (h : j.natAbs < 2 ^ n) (hn : n ≤ 9000 := by decide) (h1 : 0 < n := by decide) : CDivW i j := wide_div h0 h h1 hn
section
variable {X : Cx}
theorem op_mulY : OpR X (binaryOp .Mult) (rI IntMulOk fun i j => .int (i * j)) := opI fun _ _ _ _ _ _ _ hc q => mul_int q hc
theorem pe_powC {i j z : Int} {a b : Nat} {p1 p2 pos : Pos} (h : 0 ≤ j ∧ j ≤ 1000000 ∧ i.natAbs < 2 ^ 64) (e : i ^ j.toNat = z) :
    PE X (.BinOp (.Constant (.int i) a p1) .Pow (.Constant (.int j) b p2) pos) (tC (.int z)) := by
  have h1 : PE X (.BinOp (.Constant (.int i) a p1) .Pow (.Constant (.int j) b p2) pos) (tOp (rI CPow fun i j => .int (i ^ j.toNat)) (tC (.int i)) (tC (.int j))) := pe_op op_pow pe_int pe_int
  exact ⟨fun pins s σ H Q I q => h1.run pins s σ H Q I ⟨i, j, rfl, rfl, h, by
    show Q (.int (i ^ j.toNat)) H
    rw [e]; exact q⟩⟩
/-! ### built-ins by names of mine, that steps may see them -/
def uInt1 : List V → Hp → VK → Prop := fun xs H Q => (∃ i, xs = [.int i] ∧ Q (.int i) H) ∨ ∃ k, xs = [.bl k] ∧ Q (.int (if k then 1 else 0)) H
theorem c_int1 : CallR X (.type "int") uInt1 := call_int1
def uLen (K : PySem.W.Frag) : List V → Hp → VK → Prop := fun xs H Q => ∃ x n, xs = [x] ∧ LenV K x H n ∧ Q (.int n) H
theorem c_len : CallR X (.builtin "len") (uLen X.K) := call_len
def uAbs : List V → Hp → VK → Prop := fun xs H Q => ∃ i, xs = [.int i] ∧ Q (.int (if i < 0 then -i else i)) H
theorem c_abs : CallR X (.builtin "abs") uAbs := call_abs
def uMax2 : List V → Hp → VK → Prop := fun xs H Q => ∃ i j, xs = [.int i, .int j] ∧ Q (.int (if j > i then j else i)) H
theorem c_max2 (hc : X.calm = true) : CallR X (.builtin "max") uMax2 := call_max2 hc
def uMin2 : List V → Hp → VK → Prop := fun xs H Q => ∃ i j, xs = [.int i, .int j] ∧ Q (.int (if j < i then j else i)) H
theorem c_min2 (hc : X.calm = true) : CallR X (.builtin "min") uMin2 := call_min2 hc
def uStr : List V → Hp → VK → Prop := fun xs H Q => ∃ i, xs = [.int i] ∧ i.natAbs.log2 < 1920 ∧ Q (.str (toString i)) H
theorem c_str : CallR X (.type "str") uStr := call_str_int
def uTuple (K : PySem.W.Frag) : List V → Hp → VK → Prop := fun xs H Q => ∃ p ys, xs = [.ref p] ∧ ((SqL K H p ys ∧ ∀ l, H l = none → Q (.ref l) (upd H l (.tup ys))) ∨ (SqT K H p ys ∧ Q (.ref p) H))
theorem c_tuple : CallR X (.type "tuple") (uTuple X.K) := call_tuple_of
def uList (K : PySem.W.Frag) : List V → Hp → VK → Prop := fun xs H Q => ∃ p ys, xs = [.ref p] ∧ (SqL K H p ys ∨ SqT K H p ys) ∧ ∀ l, H l = none → Q (.ref l) (upd H l (.lst ys))
theorem c_list : CallR X (.type "list") (uList X.K) := call_list_of
def uIsB : R2 := fun x y H Q => ∃ a b, x = .bl a ∧ y = .bl b ∧ Q (.bl (decide (a = b))) H
theorem o_isB : OpR X (compareOp .Is) uIsB := op_is_bl
def uNotB : R2 := fun x y H Q => ∃ a b, x = .bl a ∧ y = .bl b ∧ Q (.bl (!decide (a = b))) H
theorem o_notB : OpR X (compareOp .IsNot) uNotB := op_isnot_bl
def uIsN : R2 := fun x y H Q => y = .non ∧ Q (.bl (decide (x = .non))) H
theorem o_isN : OpR X (compareOp .Is) uIsN := op_isN
def uNotN : R2 := fun x y H Q => y = .non ∧ Q (.bl (!decide (x = .non))) H
theorem o_notN : OpR X (compareOp .IsNot) uNotN := op_notN
/-- == of anything: scalars, data -/
def uEq (K : PySem.W.Frag) : R2 := fun x y H Q => rEq x y H Q ∨ rEqD K x y H Q
theorem o_eq (hu : X.A.units + 64 < cLine) : OpR X (compareOp .Eq) (uEq X.K) := op_eq.or (op_eqD hu)
def uNe (K : PySem.W.Frag) : R2 := fun x y H Q => rNe x y H Q ∨ rNeD K x y H Q
theorem o_ne (hu : X.A.units + 64 < cLine) : OpR X (compareOp .NotEq) (uNe X.K) := op_ne.or (op_neD hu)
end
section
variable {K : PySem.W.Frag} {σ : St} {H : Hp} {Q : VK} {v x y : V} {i j : Int} {a p : Addr} {xs : List V}
theorem r_int_i (q : Q (.int i) H) : uInt1 [.int i] H Q := .inl ⟨i, rfl, q⟩
theorem r_int_b {k : Bool} (q : Q (.int (if k = true then 1 else 0)) H) : uInt1 [.bl k] H Q := .inr ⟨k, rfl, q⟩
theorem r_len_l {n : Nat} (h : SqL K H a xs) (e : xs.length = n) (q : Q (.int n) H) : uLen K [.ref a] H Q := ⟨_, _, rfl, .inl ⟨xs, h, e.symm⟩, q⟩
theorem r_len_t {n : Nat} (h : SqT K H a xs) (e : xs.length = n) (q : Q (.int n) H) : uLen K [.ref a] H Q := ⟨_, _, rfl, .inr ⟨xs, h, e.symm⟩, q⟩
theorem r_len_s {z : Str} (h : z.length ≤ sizeLine) (q : Q (.int z.length) H) : uLen K [.str z] H Q := ⟨_, _, rfl, ⟨h, rfl⟩, q⟩
theorem r_abs (q : Q (.int (if i < 0 then -i else i)) H) : uAbs [.int i] H Q := ⟨i, rfl, q⟩
theorem r_max2 (q : Q (.int (if j > i then j else i)) H) : uMax2 [.int i, .int j] H Q := ⟨i, j, rfl, q⟩
theorem r_min2 (q : Q (.int (if j < i then j else i)) H) : uMin2 [.int i, .int j] H Q := ⟨i, j, rfl, q⟩
theorem r_tuple_l (h : SqL K H p xs) (q : ∀ l H', H l = none → Same H H' → H' l = some (.tup xs) → Q (.ref l) H') : uTuple K [.ref p] H Q := ⟨p, xs, rfl, .inl ⟨h, fun l hl => q l _ hl (Keep.same (Keep.new hl)) upd_same⟩⟩
theorem r_tuple_t (h : SqT K H p xs) (q : Q (.ref p) H) : uTuple K [.ref p] H Q := ⟨p, xs, rfl, .inr ⟨h, q⟩⟩
theorem r_list_l (h : SqL K H p xs) (q : ∀ l H', H l = none → Same H H' → H' l = some (.lst xs) → Q (.ref l) H') : uList K [.ref p] H Q := ⟨p, xs, rfl, .inl h, fun l hl => q l _ hl (Keep.same (Keep.new hl)) upd_same⟩
theorem r_list_t (h : SqT K H p xs) (q : ∀ l H', H l = none → Same H H' → H' l = some (.lst xs) → Q (.ref l) H') : uList K [.ref p] H Q := ⟨p, xs, rfl, .inr h, fun l hl => q l _ hl (Keep.same (Keep.new hl)) upd_same⟩
theorem r_isB {b c : Bool} (q : Q (.bl (decide (b = c))) H) : uIsB (.bl b) (.bl c) H Q := ⟨b, c, rfl, rfl, q⟩
theorem r_notB {b c : Bool} (q : Q (.bl (!decide (b = c))) H) : uNotB (.bl b) (.bl c) H Q := ⟨b, c, rfl, rfl, q⟩
theorem r_isN_n (q : Q (.bl true) H) : uIsN .non .non H Q := ⟨rfl, q⟩
theorem r_isN_i (q : Q (.bl false) H) : uIsN (.int i) .non H Q := ⟨rfl, q⟩
theorem r_isN_r (q : Q (.bl false) H) : uIsN (.ref a) .non H Q := ⟨rfl, q⟩
theorem r_isN_s {z : Str} (q : Q (.bl false) H) : uIsN (.str z) .non H Q := ⟨rfl, q⟩
theorem r_notN_n (q : Q (.bl false) H) : uNotN .non .non H Q := ⟨rfl, q⟩
theorem r_notN_i (q : Q (.bl true) H) : uNotN (.int i) .non H Q := ⟨rfl, q⟩
theorem r_notN_r (q : Q (.bl true) H) : uNotN (.ref a) .non H Q := ⟨rfl, q⟩
theorem r_notN_s {z : Str} (q : Q (.bl true) H) : uNotN (.str z) .non H Q := ⟨rfl, q⟩
theorem r_isN {k : Bool} (e : decide (x = V.non) = k) (q : Q (.bl k) H) : uIsN x .non H Q := ⟨rfl, by rw [e]; exact q⟩
theorem r_notN {k : Bool} (e : (!decide (x = V.non)) = k) (q : Q (.bl k) H) : uNotN x .non H Q := ⟨rfl, by rw [e]; exact q⟩
theorem r_eq_i (q : Q (.bl (decide (i = j))) H) : uEq K (.int i) (.int j) H Q := .inl (r_eqi q)
theorem r_ne_i (q : Q (.bl (!decide (i = j))) H) : uNe K (.int i) (.int j) H Q := .inl (r_nei q)
theorem r_eq_s {s t : Str} (q : Q (.bl (decide (s = t))) H) : uEq K (.str s) (.str t) H Q := .inl ⟨rfl, by
  have e : decide (V.str s = V.str t) = decide (s = t) := by rw [Bool.eq_iff_iff]; simp
  rw [e]; exact q⟩
theorem r_ne_s {s t : Str} (q : Q (.bl (!decide (s = t))) H) : uNe K (.str s) (.str t) H Q := .inl ⟨rfl, by
  have e : decide (V.str s = V.str t) = decide (s = t) := by rw [Bool.eq_iff_iff]; simp
  rw [e]; exact q⟩
theorem r_eq_d {d e : PyData} (hd : Dp K H x d) (he : Dp K H y e) (s1 : SeqAt.shaped d = true) (s2 : SeqAt.shaped e = true) (q : Q (.bl (PyData.eqv d e)) H) : uEq K x y H Q := .inr ⟨d, e, hd, he, s1, s2, q⟩
theorem r_ne_d {d e : PyData} (hd : Dp K H x d) (he : Dp K H y e) (s1 : SeqAt.shaped d = true) (s2 : SeqAt.shaped e = true) (q : Q (.bl (!PyData.eqv d e)) H) : uNe K x y H Q := .inr ⟨d, e, hd, he, s1, s2, q⟩
theorem r_ixl (h : SqL K H p xs) (e : atI xs i = some v) (q : Q v H) : rIx K (.ref p) (.int i) H Q := .inl ⟨p, xs, i, v, rfl, rfl, h, e, q⟩
theorem r_ixt (h : SqT K H p xs) (e : atI xs i = some v) (q : Q v H) : rIx K (.ref p) (.int i) H Q := .inr (.inl ⟨p, xs, i, v, rfl, rfl, h, e, q⟩)
theorem r_ixs {z : Str} {c : Nat} (h : z.length ≤ sizeLine) (e : atI z.cps.toList i = some c) (q : Q (.str ⟨#[c]⟩) H) : rIx K (.str z) (.int i) H Q := .inr (.inr ⟨z, i, c, rfl, rfl, h, e, q⟩)
theorem r_gsub {to ti : TE} {t : TSet} {R : St → Hp → Prop} (q : to σ H fun o H1 => ti σ H1 fun i H2 => t o i v H2 fun H3 => R σ H3) : gSub to ti t v σ H R := q
theorem r_gname {i : Nat} {R : St → Hp → Prop} (q : R (σ.set i (some v)) H) : gName i v σ H R := q
theorem r_setl {R : Hp → Prop} {j : Nat} (h : H p = some (.lst xs)) (e : ixN xs.length i = some j) (q : ∀ H', Keep (At p) H H' → H' p = some (.lst (xs.set j v)) → R H') : rSetL (.ref p) (.int i) v H R := ⟨p, xs, i, j, rfl, rfl, h, e, q _ Keep.at_ upd_same⟩
theorem r_gtup {n : Nat} {t : TGs} {R : St → Hp → Prop} (h : SqT K H a xs) (e : xs.length = n) (q : t xs σ H R) : gTup K n t (.ref a) σ H R := ⟨a, xs, rfl, h, e, q⟩
theorem r_gcons {t : TG} {u : TGs} {vs : List V} {R : St → Hp → Prop} (q : t v σ H fun σ' H' => u vs σ' H' R) : gCons t u (v :: vs) σ H R := ⟨v, vs, rfl, q⟩
theorem r_gnil {R : St → Hp → Prop} (q : R σ H) : gNil [] σ H R := ⟨rfl, q⟩
theorem r_all {bs : List Bool} (h : SqL K H a (bs.map V.bl)) (q : Q (.bl (bs.all id)) H) : rAll K [.ref a] H Q := ⟨a, bs, rfl, h, q⟩
theorem r_allT (h : SqL K H a xs) (hx : ∀ v ∈ xs, v = V.bl true) (q : Q (.bl true) H) : rAll K [.ref a] H Q := by
  have e : xs = (xs.map fun _ => true).map V.bl := by
    rw [List.map_map]
    have : xs = xs.map id := by simp
    rw [this]
    simp only [List.map_map]
    exact List.map_congr_left fun v hv => hx v hv
  have e2 : (xs.map fun _ => true).all id = true := by simp
  refine r_all (bs := xs.map fun _ => true) (by rw [← e]; exact h) ?_
  rw [e2]
  exact q
theorem r_any {bs : List Bool} (h : SqL K H a (bs.map V.bl)) (q : Q (.bl (bs.any id)) H) : rAny K [.ref a] H Q := ⟨a, bs, rfl, h, q⟩
/-! isinstance -/
def tyN : PyData → String
  | .none => "NoneType"
  | .bool _ => "bool"
  | .int _ => "int"
  | .str _ => "str"
  | .list _ => "list"
  | .tuple _ => "tuple"
  | .dict _ => "dict"
def isK (n t : String) : Bool := n == t || (t == "bool" && n == "int")
def isT (n : String) (d : PyData) : Bool := isK n (tyN d)
def tyD (d : PyData) : Value := .type (tyN d)
theorem kit_tab {t n : String} (ht : t = "NoneType" ∨ t = "bool" ∨ t = "int" ∨ t = "str" ∨ t = "list" ∨ t = "tuple" ∨ t = "dict") (hn : n = "int" ∨ n = "bool" ∨ n = "tuple" ∨ n = "str" ∨ n = "list") : kitB t n = some (isK n t) := by
  rcases ht with rfl | rfl | rfl | rfl | rfl | rfl | rfl <;> rcases hn with rfl | rfl | rfl | rfl | rfl <;> decide +kernel
theorem dp_ty {d : PyData} (h : Dp K H v d) : TyX K H v (tyD d) := by
  cases h with
  | non => exact .base .non
  | bl b => exact .base (.bl b)
  | int i => exact .base (.int i)
  | str s => exact .base (.str s)
  | lst hs _ =>
    rcases hs with (hs | ⟨o, hs⟩) | ⟨o, its, n, hk, hc, _⟩
    · exact .base (.lst hs)
    · exact .base (.frz hs)
    · exact .kList hk hc
  | tup hs _ =>
    rcases hs with (hs | ⟨o, hs⟩) | ⟨o, its, n, hk, hc, _⟩
    · exact .base (.tup hs)
    · exact .fTuple hs
    · exact .kTuple hk hc
theorem r_isi {d : PyData} {n : String} (h : Dp K H v d) (hn : n = "int" ∨ n = "bool" ∨ n = "tuple" ∨ n = "str" ∨ n = "list") (q : Q (.bl (isT n d)) H) : rIsi K [v, .ty n] H Q := by
  refine ⟨v, .ty n, tyD d, .type n, isT n d, rfl, .ty n, dp_ty h, ?_, q⟩
  refine kit_ty (kit_tab ?_ hn)
  cases d <;> simp [tyN]
end

section
variable {K : PySem.W.Frag} {H : Hp} {Q : VK} {a : Addr} {xs : List V} {i : Int} {b : Bool} {z : Str}
theorem r_isi_ii (q : Q (.bl true) H) : rIsi K [.int i, .ty "int"] H Q := r_isi (n := "int") (.int i) (by decide) q
theorem r_isi_ib (q : Q (.bl false) H) : rIsi K [.int i, .ty "bool"] H Q := r_isi (n := "bool") (.int i) (by decide) q
theorem r_isi_it (q : Q (.bl false) H) : rIsi K [.int i, .ty "tuple"] H Q := r_isi (n := "tuple") (.int i) (by decide) q
theorem r_isi_is (q : Q (.bl false) H) : rIsi K [.int i, .ty "str"] H Q := r_isi (n := "str") (.int i) (by decide) q
theorem r_isi_ni (q : Q (.bl false) H) : rIsi K [.non, .ty "int"] H Q := r_isi (n := "int") .non (by decide) q
theorem r_isi_nt (q : Q (.bl false) H) : rIsi K [.non, .ty "tuple"] H Q := r_isi (n := "tuple") .non (by decide) q
theorem r_isi_bb (q : Q (.bl true) H) : rIsi K [.bl b, .ty "bool"] H Q := r_isi (n := "bool") (.bl b) (by decide) q
theorem r_isi_bi (q : Q (.bl true) H) : rIsi K [.bl b, .ty "int"] H Q := r_isi (n := "int") (.bl b) (by decide) q
theorem r_isi_ss (q : Q (.bl true) H) : rIsi K [.str z, .ty "str"] H Q := r_isi (n := "str") (.str z) (by decide) q
theorem r_isi_si (q : Q (.bl false) H) : rIsi K [.str z, .ty "int"] H Q := r_isi (n := "int") (.str z) (by decide) q
theorem r_isi_st (q : Q (.bl false) H) : rIsi K [.str z, .ty "tuple"] H Q := r_isi (n := "tuple") (.str z) (by decide) q
theorem tyX_tup (h : SqT K H a xs) : TyX K H (.ref a) (.type "tuple") := by
  rcases h with (hs | ⟨o, hs⟩) | ⟨o, its, n, hk, hc, _⟩
  · exact .base (.tup hs)
  · exact .fTuple hs
  · exact .kTuple hk hc
theorem tyX_lst (h : SqL K H a xs) : TyX K H (.ref a) (.type "list") := by
  rcases h with (hs | ⟨o, hs⟩) | ⟨o, its, n, hk, hc, _⟩
  · exact .base (.lst hs)
  · exact .base (.frz hs)
  · exact .kList hk hc
theorem r_isi_tt (h : SqT K H a xs) (q : Q (.bl true) H) : rIsi K [.ref a, .ty "tuple"] H Q := ⟨_, _, _, _, true, rfl, .ty "tuple", tyX_tup h, kit_ty (kit_tab (by decide) (by decide)), q⟩
theorem r_isi_ti (h : SqT K H a xs) (q : Q (.bl false) H) : rIsi K [.ref a, .ty "int"] H Q := ⟨_, _, _, _, false, rfl, .ty "int", tyX_tup h, kit_ty (kit_tab (by decide) (by decide)), q⟩
end
/-! ### walks: how many turns, what each turn yields -/
structure Wk (J : It) (n : Nat) (src : Hp → Prop) (item : Nat → Hp → V → Hp → Prop) : Prop where
  go : ∀ i H, src H → i < n → J.go i H
  stop : ∀ i H, src H → n ≤ i → J.stop i H
  yld : ∀ i H x H', src H → J.yld i H x H' → item i H x H'
section
variable {K : PySem.W.Frag} {a b : Addr} {xs ys : List V}
theorem wk_list : Wk (Itl K a) xs.length (fun H => SqL K H a xs) (fun i H x H' => H' = H ∧ xs[i]? = some x) where
  go := fun i H h hi => ⟨xs, xs[i], h, by simp [hi]⟩
  stop := fun i H h hi => ⟨xs, h, hi⟩
  yld := fun i H x H' h y => by obtain ⟨e, y⟩ := y; exact ⟨e, y xs h⟩
theorem wk_tup : Wk (Itt K a) xs.length (fun H => SqT K H a xs) (fun i H x H' => H' = H ∧ xs[i]? = some x) where
  go := fun i H h hi => ⟨xs, xs[i], h, by simp [hi]⟩
  stop := fun i H h hi => ⟨xs, h, hi⟩
  yld := fun i H x H' h y => by obtain ⟨e, y⟩ := y; exact ⟨e, y xs h⟩
theorem wk_rng {lo : Int} {n : Nat} : Wk (Itr lo n) n (fun _ => True) (fun i H x H' => H' = H ∧ x = .int (lo + i)) where
  go := fun i H _ hi => hi
  stop := fun i H _ hi => hi
  yld := fun i H x H' _ y => y
theorem wk_rngC {lo c : Int} {n : Nat} : Wk (Itc lo c n) n (fun _ => True) (fun i H x H' => H' = H ∧ x = .int (lo + (i : Nat) * c)) where
  go := fun i H _ hi => hi
  stop := fun i H _ hi => hi
  yld := fun i H x H' _ y => y
theorem wk_zipL : Wk (Itz K a b) (min xs.length ys.length) (fun H => SqL K H a xs ∧ SqL K H b ys) (fun i H v H' => ∃ T x y, v = .ref T ∧ H T = none ∧ H' = upd H T (.tup [x, y]) ∧ xs[i]? = some x ∧ ys[i]? = some y) where
  go := fun i H h hi => ⟨xs, ys, xs[i]'(by omega), ys[i]'(by omega), h.1, h.2, by simp, by simp⟩
  stop := fun i H h hi => ⟨xs, ys, h.1, h.2, by omega⟩
  yld := fun i H v H' h y => by
    obtain ⟨T, x, z, e1, e2, e3, e4, e5⟩ := y
    exact ⟨T, x, z, e1, e2, e3, e4 xs h.1, e5 ys h.2⟩
theorem wk_zipT : Wk (RZ.ItzT K a b) (min xs.length ys.length) (fun H => SqT K H a xs ∧ SqT K H b ys) (fun i H v H' => ∃ T x y, v = .ref T ∧ H T = none ∧ H' = upd H T (.tup [x, y]) ∧ xs[i]? = some x ∧ ys[i]? = some y) where
  go := fun i H h hi => ⟨xs, ys, xs[i]'(by omega), ys[i]'(by omega), h.1, h.2, by simp, by simp⟩
  stop := fun i H h hi => ⟨xs, ys, h.1, h.2, by omega⟩
  yld := fun i H v H' h y => by
    obtain ⟨T, x, z, e1, e2, e3, e4, e5⟩ := y
    exact ⟨T, x, z, e1, e2, e3, e4 xs h.1, e5 ys h.2⟩
end
/-- what a for asks once it is known what it walks -/
def ForW (J : It) (g : TG) (tb : TS) : TS := fun D σ H => ∃ W : Nat → Nat → St → Hp → Prop, (∃ m, W 0 m σ H) ∧ ∀ i m σ H, W i m σ H →
  (J.stop i H ∧ D.nx σ H) ∨ (J.go i H ∧ ∃ N : St → Hp → Prop, (∀ σ' H', N σ' H' → ∃ m', m' < m ∧ W (i + 1) m' σ' H') ∧ ∀ x H', J.yld i H x H' → g x σ H' fun σ2 H2 => tb { D with nx := N, ct := N, bk := D.nx } σ2 H2)
def LcW (J : It) (g : TG) (tt : TT) (te : TE) (vs : List Nat) : TE := fun σ H1 Q => ∀ D, H1 D = none → ∃ W : Nat → Nat → Hp → Prop, (∃ m, W 0 m (upd H1 D (.lst []))) ∧ ∀ i m H, W i m H →
  (J.stop i H ∧ Q (.ref D) H) ∨ (J.go i H ∧ ∃ Nx : Hp → Prop, (∀ H', Nx H' → ∃ m', m' < m ∧ W (i + 1) m' H') ∧ ∀ x H', J.yld i H x H' → g x (wipe σ vs) H' fun σ2 H2 => wipe σ2 vs = wipe σ vs ∧ tt σ2 H2 fun b H3 =>
    if b = true then te σ2 H3 fun y H4 => ∃ acc, H4 D = some (.lst acc) ∧ acc.length < sizeLine ∧ Nx (upd H4 D (.lst (acc ++ [y]))) else Nx H3)
section
variable {K : PySem.W.Frag} {σ : St} {H : Hp} {Q : VK} {ta tl te : TE} {tt : TT} {tb : TS} {g : TG} {wi : TI} {nx bk ct : St → Hp → Prop} {rt : VK} {vs : List Nat} {J : It} {n : Nat} {src : Hp → Prop} {item : Nat → Hp → V → Hp → Prop} {a b : Addr} {xs ys : List V}
theorem r_for (q : wi σ H fun J H1 => ForW J g tb ⟨nx, rt, bk, ct⟩ σ H1) : tFor wi g tb ⟨nx, rt, bk, ct⟩ σ H := q
theorem r_lc (q : wi σ H fun J H1 => LcW J g tt te vs σ H1 Q) : tLc wi g tt te vs σ H Q := q
/-- a list or a tuple that is walked -/
def uWalk (K : PySem.W.Frag) (x : V) (H : Hp) (R : It → Hp → Prop) (l : Bool) : Prop := ∃ a, x = .ref a ∧ (if l = true then (∃ xs, SqL K H a xs) ∧ R (Itl K a) H else (∃ xs, SqT K H a xs) ∧ R (Itt K a) H)
theorem r_ilist {R : It → Hp → Prop} (q : tl σ H fun x H1 => uWalk K x H1 R true) : iList K tl σ H R := by
  have e : (fun (x : V) (H1 : Hp) => uWalk K x H1 R true) = fun x H1 => ∃ a, x = .ref a ∧ (∃ xs, SqL K H1 a xs) ∧ R (Itl K a) H1 := by
    funext x H1
    simp [uWalk]
  rw [e] at q
  exact q
theorem r_itup {R : It → Hp → Prop} (q : tl σ H fun x H1 => uWalk K x H1 R false) : iTup K tl σ H R := by
  have e : (fun (x : V) (H1 : Hp) => uWalk K x H1 R false) = fun x H1 => ∃ a, x = .ref a ∧ (∃ xs, SqT K H1 a xs) ∧ R (Itt K a) H1 := by
    funext x H1
    simp [uWalk]
  rw [e] at q
  exact q
theorem r_wl {R : It → Hp → Prop} (h : SqL K H a xs) (q : R (Itl K a) H) : uWalk K (.ref a) H R true := ⟨a, rfl, by rw [if_pos rfl]; exact ⟨⟨xs, h⟩, q⟩⟩
theorem r_wt {R : It → Hp → Prop} (h : SqT K H a xs) (q : R (Itt K a) H) : uWalk K (.ref a) H R false := ⟨a, rfl, by rw [if_neg (by decide)]; exact ⟨⟨xs, h⟩, q⟩⟩
def uRng1 (vs : List V) (H : Hp) (R : It → Hp → Prop) : Prop := ∃ j : Int, vs = [.int j] ∧ -(2 ^ 62) ≤ j ∧ j < 2 ^ 62 ∧ R (Itr 0 j.toNat) H
def uRng2 (vs : List V) (H : Hp) (R : It → Hp → Prop) : Prop := ∃ i j : Int, vs = [.int i, .int j] ∧ (-(2 ^ 62) ≤ i ∧ i < 2 ^ 62 ∧ -(2 ^ 62) ≤ j ∧ j < 2 ^ 62) ∧ R (Itr i (j - i).toNat) H
theorem r_irng1 {t : TA} {R : It → Hp → Prop} (q : t σ H fun vs H1 => uRng1 vs H1 R) : iRng1 t σ H R := q
theorem r_irng2 {t : TA} {R : It → Hp → Prop} (q : t σ H fun vs H1 => uRng2 vs H1 R) : iRng2 t σ H R := q
theorem r_rng1 {j : Int} {R : It → Hp → Prop} (h1 : -(2 ^ 62) ≤ j) (h2 : j < 2 ^ 62) (q : R (Itr 0 j.toNat) H) : uRng1 [.int j] H R := ⟨j, rfl, h1, h2, q⟩
theorem r_rng2 {i j : Int} {R : It → Hp → Prop} (h1 : -(2 ^ 62) ≤ i) (h2 : i < 2 ^ 62) (h3 : -(2 ^ 62) ≤ j) (h4 : j < 2 ^ 62) (q : R (Itr i (j - i).toNat) H) : uRng2 [.int i, .int j] H R := ⟨i, j, rfl, ⟨h1, h2, h3, h4⟩, q⟩
def uZip (K : PySem.W.Frag) (vs : List V) (H : Hp) (R : It → Hp → Prop) : Prop := ∃ a b xs ys, vs = [.ref a, .ref b] ∧ ((SqL K H a xs ∧ SqL K H b ys ∧ R (Itz K a b) H) ∨ (SqT K H a xs ∧ SqT K H b ys ∧ R (RZ.ItzT K a b) H))
theorem r_izip {t : TA} {R : It → Hp → Prop} (q : t σ H fun vs H1 => uZip K vs H1 R) : RZ.iZipA K t σ H R := q
theorem r_zipL {R : It → Hp → Prop} (h1 : SqL K H a xs) (h2 : SqL K H b ys) (q : R (Itz K a b) H) : uZip K [.ref a, .ref b] H R := ⟨a, b, xs, ys, rfl, .inl ⟨h1, h2, q⟩⟩
theorem r_zipT {R : It → Hp → Prop} (h1 : SqT K H a xs) (h2 : SqT K H b ys) (q : R (RZ.ItzT K a b) H) : uZip K [.ref a, .ref b] H R := ⟨a, b, xs, ys, rfl, .inr ⟨h1, h2, q⟩⟩

/-- a for by its invariant -/
theorem for_wk (w : Wk J n src item) (Pv : Nat → St → Hp → Prop) (h0 : Pv 0 σ H) (hsrc : ∀ i σ H, i ≤ n → Pv i σ H → src H)
    (hs : ∀ i x σ H H', i < n → Pv i σ H → item i H x H' → g x σ H' fun σ2 H2 => tb ⟨Pv (i + 1), rt, nx, Pv (i + 1)⟩ σ2 H2) (hd : ∀ σ H, Pv n σ H → nx σ H) :
    ForW J g tb ⟨nx, rt, bk, ct⟩ σ H := by
  refine ⟨fun i m σ H => m = n - i ∧ i ≤ n ∧ Pv i σ H, ⟨n, by simp, Nat.zero_le _, h0⟩, ?_⟩
  rintro i m σ H ⟨rfl, hi, p⟩
  have q := hsrc i σ H hi p
  by_cases hlt : i < n
  · refine .inr ⟨w.go i H q hlt, Pv (i + 1), fun σ' H' p' => ⟨n - (i + 1), by omega, rfl, hlt, p'⟩, fun x H' y => ?_⟩
    exact hs i x σ H H' hlt p (w.yld i H x H' q y)
  · have e : i = n := by omega
    subst e
    exact .inl ⟨w.stop i H q (Nat.le_refl _), hd σ H p⟩
theorem lc_wk (w : Wk J n src item) (Pv : Addr → Nat → Hp → Prop) (h0 : ∀ D, H D = none → Pv D 0 (upd H D (.lst []))) (hsrc : ∀ D i H, i ≤ n → Pv D i H → src H)
    (hs : ∀ D i x H2 H', H D = none → i < n → Pv D i H2 → item i H2 x H' → g x (wipe σ vs) H' fun σ2 H2 => wipe σ2 vs = wipe σ vs ∧ tt σ2 H2 fun b H3 =>
      if b = true then te σ2 H3 fun y H4 => ∃ acc, H4 D = some (.lst acc) ∧ acc.length < sizeLine ∧ Pv D (i + 1) (upd H4 D (.lst (acc ++ [y]))) else Pv D (i + 1) H3)
    (hd : ∀ D H', H D = none → Pv D n H' → Q (.ref D) H') : LcW J g tt te vs σ H Q := by
  intro D hD
  refine ⟨fun i m H => m = n - i ∧ i ≤ n ∧ Pv D i H, ⟨n, by simp, Nat.zero_le _, h0 D hD⟩, ?_⟩
  rintro i m H2 ⟨rfl, hi, p⟩
  have q := hsrc D i H2 hi p
  by_cases hlt : i < n
  · refine .inr ⟨w.go i H2 q hlt, Pv D (i + 1), fun H' p' => ⟨n - (i + 1), by omega, rfl, hlt, p'⟩, fun x H' y => ?_⟩
    exact hs D i x H2 H' hD hlt p (w.yld i H2 x H' q y)
  · have e : i = n := by omega
    subst e
    exact .inl ⟨w.stop i H2 q (Nat.le_refl _), hd D H2 hD p⟩
theorem wipe_one {j : Nat} {x : V} : wipe ((wipe σ [j]).set j (some x)) [j] = wipe σ [j] := by
  simp [wipe, List.set_set]
theorem take_snoc {α : Type} : ∀ {l : List α} {i : Nat} {x : α}, l[i]? = some x → l.take (i + 1) = l.take i ++ [x]
  | [], i, x, h => by simp at h
  | a :: l, 0, x, h => by
    have e : a = x := Option.some.inj h
    subst e; rfl
  | a :: l, i + 1, x, h => by
    have ih := take_snoc (l := l) (i := i) (x := x) h
    show a :: l.take (i + 1) = a :: l.take i ++ [x]
    rw [ih]; rfl
/-- a comprehension over one name whose element and test are pure: known values -/
theorem lc_pure {j : Nat} (w : Wk J xs.length src (fun i H x H' => H' = H ∧ xs[i]? = some x)) (hsrc : ∀ H', Same H H' → src H') (hn : xs.length ≤ 16777216) (f : V → Bool) (v : V → V)
    (ht : ∀ x H2 (R : Bool → Hp → Prop), x ∈ xs → Same H H2 → (∀ H3, Same H2 H3 → R (f x) H3) → tt ((wipe σ [j]).set j (some x)) H2 R)
    (he : ∀ x H2 (R : VK), x ∈ xs → f x = true → Same H H2 → (∀ H3, Same H2 H3 → R (v x) H3) → te ((wipe σ [j]).set j (some x)) H2 R)
    (q : ∀ D H', H D = none → Same H H' → H' D = some (.lst ((xs.filter f).map v)) → Q (.ref D) H') : LcW J (gName j) tt te [j] σ H Q := by
  refine lc_wk w (fun D i H' => H D = none ∧ Same H H' ∧ H' D = some (.lst (((xs.take i).filter f).map v))) (fun D hD => ⟨hD, fun b o e => by rw [upd_ne (ne_of_none e hD)]; exact e, by simp [upd_same]⟩)
    (fun D i H' _ p => hsrc H' p.2.1) ?_ (fun D H' hD p => q D H' hD p.2.1 (by have := p.2.2; rw [List.take_length] at this; exact this))
  rintro D i x H2 H' hD hi ⟨p1, p2, p3⟩ ⟨rfl, hx⟩
  have hm : x ∈ xs := List.mem_of_getElem? hx
  show wipe ((wipe σ [j]).set j (some x)) [j] = wipe σ [j] ∧ tt ((wipe σ [j]).set j (some x)) H' _
  refine ⟨wipe_one, ht x H' _ hm p2 fun H3 e3 => ?_⟩
  have t3 := take_snoc hx
  have hl : ((xs.take i).filter f).length ≤ i := Nat.le_trans (List.length_filter_le _ _) (by simp; omega)
  cases hf : f x with
  | true =>
    refine i_T (he x H3 _ hm hf (p2.trans e3) fun H4 e4 => ⟨_, e4 _ _ (e3 _ _ p3), by rw [List.length_map, sizeLine_eq]; omega, hD, fun b o e => ?_, ?_⟩)
    · rw [upd_ne (ne_of_none e hD)]; exact e4 _ _ (e3 _ _ (p2 _ _ e))
    · rw [upd_same, t3, List.filter_append, List.map_append]
      simp [hf]
  | false =>
    refine i_F ⟨hD, p2.trans e3, ?_⟩
    rw [t3, List.filter_append, List.map_append]
    simp [hf]
    exact e3 _ _ p3
/-- .. whose elements are told by a relation that stays where tuples stay -/
theorem lc_rel {j : Nat} (w : Wk J xs.length src (fun i H x H' => H' = H ∧ xs[i]? = some x)) (hsrc : ∀ H', Same H H' → src H') (hn : xs.length ≤ 16777216) (f : V → Bool) (R : Hp → V → V → Prop) (hR : ∀ H H' x y, TExt H H' → R H x y → R H' x y)
    (ht : ∀ x H2 (S : Bool → Hp → Prop), x ∈ xs → Same H H2 → (∀ H3, Same H2 H3 → S (f x) H3) → tt ((wipe σ [j]).set j (some x)) H2 S)
    (he : ∀ x H2 (S : VK), x ∈ xs → f x = true → Same H H2 → (∀ y H3, Same H2 H3 → R H3 x y → S y H3) → te ((wipe σ [j]).set j (some x)) H2 S)
    (q : ∀ D H' ys, H D = none → Same H H' → H' D = some (.lst ys) → Paired (R H') (xs.filter f) ys → Q (.ref D) H') : LcW J (gName j) tt te [j] σ H Q := by
  refine lc_wk w (fun D i H' => H D = none ∧ Same H H' ∧ ∃ ys, H' D = some (.lst ys) ∧ Paired (R H') ((xs.take i).filter f) ys) (fun D hD => ⟨hD, fun b o e => by rw [upd_ne (ne_of_none e hD)]; exact e, [], by simp [upd_same], by simpa using Paired.nil⟩)
    (fun D i H' _ p => hsrc H' p.2.1) ?_ (fun D H' hD p => by obtain ⟨p1, p2, ys, p3, p4⟩ := p; rw [List.take_length] at p4; exact q D H' ys hD p2 p3 p4)
  rintro D i x H2 H' hD hi ⟨p1, p2, ys, p3, p4⟩ ⟨rfl, hx⟩
  have hm : x ∈ xs := List.mem_of_getElem? hx
  show wipe ((wipe σ [j]).set j (some x)) [j] = wipe σ [j] ∧ tt ((wipe σ [j]).set j (some x)) H' _
  refine ⟨wipe_one, ht x H' _ hm p2 fun H3 e3 => ?_⟩
  have t3 := take_snoc hx
  have hl : ((xs.take i).filter f).length ≤ i := Nat.le_trans (List.length_filter_le _ _) (by simp; omega)
  have hl2 := p4.length
  cases hf : f x with
  | true =>
    refine i_T (he x H3 _ hm hf (p2.trans e3) fun y H4 e4 hy => ⟨ys, e4 _ _ (e3 _ _ p3), by rw [sizeLine_eq]; omega, hD, fun b o e => ?_, ys ++ [y], upd_same, ?_⟩)
    · rw [upd_ne (ne_of_none e hD)]; exact e4 _ _ (e3 _ _ (p2 _ _ e))
    · have te2 : TExt H4 (upd H4 D (.lst (ys ++ [y]))) := TExt.lst Keep.at_ (e4 _ _ (e3 _ _ p3))
      rw [t3, List.filter_append]
      simp only [List.filter_cons, hf, List.filter_nil, if_true]
      exact (Paired.mapP p4 fun u z r => hR _ _ _ _ ((TExt.of_same (e3.trans e4)).trans te2) r).snoc (hR _ _ _ _ te2 hy)
  | false =>
    refine i_F ⟨hD, p2.trans e3, ys, e3 _ _ p3, ?_⟩
    rw [t3, List.filter_append]
    simp [hf]
    exact Paired.mapP p4 fun u z r => hR _ _ _ _ (TExt.of_same e3) r
theorem filter_all {α : Type} (l : List α) : l.filter (fun _ => true) = l := List.filter_eq_self.mpr (by simp)
theorem lc_map {j : Nat} (w : Wk J xs.length src (fun i H x H' => H' = H ∧ xs[i]? = some x)) (hsrc : ∀ H', Same H H' → src H') (hn : xs.length ≤ 16777216) (v : V → V)
    (he : ∀ x H2 (R : VK), x ∈ xs → Same H H2 → (∀ H3, Same H2 H3 → R (v x) H3) → te ((wipe σ [j]).set j (some x)) H2 R)
    (q : ∀ D H', H D = none → Same H H' → H' D = some (.lst (xs.map v)) → Q (.ref D) H') : LcW J (gName j) tYes te [j] σ H Q :=
  lc_pure w hsrc hn (fun _ => true) v (fun x H2 R _ _ k => k H2 (Same.refl H2)) (fun x H2 R hx _ e k => he x H2 R hx e k) (fun D H' hD e hl => q D H' hD e (by rw [filter_all] at hl; exact hl))
theorem lc_mapR {j : Nat} (w : Wk J xs.length src (fun i H x H' => H' = H ∧ xs[i]? = some x)) (hsrc : ∀ H', Same H H' → src H') (hn : xs.length ≤ 16777216) (R : Hp → V → V → Prop) (hR : ∀ H H' x y, TExt H H' → R H x y → R H' x y)
    (he : ∀ x H2 (S : VK), x ∈ xs → Same H H2 → (∀ y H3, Same H2 H3 → R H3 x y → S y H3) → te ((wipe σ [j]).set j (some x)) H2 S)
    (q : ∀ D H' ys, H D = none → Same H H' → H' D = some (.lst ys) → Paired (R H') xs ys → Q (.ref D) H') : LcW J (gName j) tYes te [j] σ H Q :=
  lc_rel w hsrc hn (fun _ => true) R hR (fun x H2 S _ _ k => k H2 (Same.refl H2)) (fun x H2 S hx _ e k => he x H2 S hx e k) (fun D H' ys hD e hl hp => q D H' ys hD e hl (by rw [filter_all] at hp; exact hp))
end
/-! ### more steps -/
section
variable {K : PySem.W.Frag} {H H' : Hp} {Q : VK} {p q a b : Addr} {F : Addr → Prop} {xs ys : List V} {σ : St} {te : TE} {tl th : TO} {lo hi : Option Int} {v : V}
theorem r_sl {r : V → Option Int → Option Int → Hp → VK → Prop} (q : te σ H fun x H1 => tl σ H1 fun l H2 => th σ H2 fun u H3 => r x l u H3 Q) : tSl r te tl th σ H Q := q
theorem r_nopart {R : Option Int → Hp → Prop} (q : R none H) : tNoPart σ H R := q
def uPart (x : V) (H : Hp) (R : Option Int → Hp → Prop) : Prop := ∃ i, x = .int i ∧ R (some i) H
theorem r_part {R : Option Int → Hp → Prop} (q : te σ H fun x H1 => uPart x H1 R) : tPart te σ H R := q
theorem r_parti {i : Int} {R : Option Int → Hp → Prop} (q : R (some i) H) : uPart (.int i) H R := ⟨i, rfl, q⟩
theorem r_sll (h : SqL K H a xs) (q : ∀ p H', H p = none → Same H H' → H' p = some (.lst (cutV xs lo hi)) → Q (.ref p) H') : rSlL K (.ref a) lo hi H Q :=
  ⟨a, xs, rfl, h, fun p hp => q p _ hp (Keep.same (Keep.new hp)) upd_same⟩
theorem r_sla (h : SqT K H a xs) (q : ∀ p H', Same H H' → SqT K H' p (cutV xs lo hi) → Q (.ref p) H') : rSlA K (.ref a) lo hi H Q := by
  refine ⟨a, xs, rfl, h, fun e => q a H (Same.refl H) ?_, fun _ p hp => q p _ (Keep.same (Keep.new hp)) (SqT.of upd_same)⟩
  unfold cutV
  rw [e.1, e.2]
  simpa using h
theorem r_cat (h1 : H a = some (.lst xs)) (h2 : H b = some (.lst ys)) (hz : xs.length + ys.length ≤ sizeLine) (q : ∀ p H', H p = none → Same H H' → H' p = some (.lst (xs ++ ys)) → Q (.ref p) H') : rCat (.ref a) (.ref b) H Q :=
  ⟨a, b, xs, ys, rfl, rfl, h1, h2, hz, fun p hp => q p _ hp (Keep.same (Keep.new hp)) upd_same⟩
theorem r_catA (h1 : SqT K H a xs) (h2 : SqT K H b ys) (hz : xs.length + ys.length ≤ sizeLine) (q : ∀ p H', Same H H' → SqT K H' p (xs ++ ys) → Q (.ref p) H') : rCatA K (.ref a) (.ref b) H Q := by
  refine ⟨a, b, xs, ys, rfl, rfl, h1, h2, hz, fun e => ?_, fun _ e => ?_, fun _ _ p hp => q p _ (Keep.same (Keep.new hp)) (SqT.of upd_same)⟩
  · subst e
    exact q b H (Same.refl H) (by simpa using h2)
  · subst e
    exact q a H (Same.refl H) (by simpa using h1)
def uBM (K : PySem.W.Frag) (T : String) (r : V → List V → Hp → VK → Prop) (t : TA) (σ : St) (x : V) (H : Hp) (Q : VK) : Prop := tyV K T x H ∧ t σ H fun xs H2 => r x xs H2 Q
theorem r_bm {T : String} {r : V → List V → Hp → VK → Prop} {t : TA} (q : te σ H fun x H1 => uBM K T r t σ x H1 Q) : tBM K T r te t σ H Q := q
def uBM0 (K : PySem.W.Frag) (T : String) (r : V → List V → Hp → VK → Prop) (x : V) (H : Hp) (Q : VK) : Prop := tyV K T x H ∧ r x [] H Q
theorem r_bm0 {T : String} {r : V → List V → Hp → VK → Prop} (q : te σ H fun x H1 => uBM0 K T r x H1 Q) : tBM0 K T r te σ H Q := q
theorem r_bml {r : V → List V → Hp → VK → Prop} {t : TA} (h : SqL K H a xs) (q : t σ H fun vs H2 => r (.ref a) vs H2 Q) : uBM K "list" r t σ (.ref a) H Q := ⟨.inl ⟨rfl, _, h⟩, q⟩
theorem r_bm0l {r : V → List V → Hp → VK → Prop} (h : SqL K H a xs) (q : r (.ref a) [] H Q) : uBM0 K "list" r (.ref a) H Q := ⟨.inl ⟨rfl, _, h⟩, q⟩
theorem r_append (h : H a = some (.lst xs)) (hz : xs.length < sizeLine) (q : ∀ H', Keep (At a) H H' → H' a = some (.lst (xs ++ [v])) → Q .non H') : rAppend (.ref a) [v] H Q := ⟨a, xs, v, rfl, rfl, h, hz, q _ Keep.at_ upd_same⟩
theorem r_extend (h : H a = some (.lst xs)) (h2 : H b = some (.lst ys)) (hz : xs.length + ys.length ≤ sizeLine) (q : ∀ H', Keep (At a) H H' → H' a = some (.lst (xs ++ ys)) → Q .non H') : rExtend (.ref a) [.ref b] H Q := ⟨a, b, xs, ys, rfl, rfl, h, h2, hz, q _ Keep.at_ upd_same⟩
theorem dpAll_ints (K : PySem.W.Frag) (H : Hp) : ∀ ns : List Int, DpAll K H (ns.map V.int) (ns.map PyData.int)
  | [] => .nil
  | n :: ns => .cons (.int n) (dpAll_ints K H ns)
theorem dpAll_len {K : PySem.W.Frag} {H : Hp} : ∀ {vs : List V} {ds : List PyData}, DpAll K H vs ds → vs.length = ds.length
  | _, _, .nil => rfl
  | _, _, .cons _ h => by simp [dpAll_len h]
theorem dpAll_get {K : PySem.W.Frag} {H : Hp} : ∀ {vs : List V} {ds : List PyData}, DpAll K H vs ds → ∀ x ∈ vs, ∃ d, Dp K H x d
  | _, _, .cons h1 h2, x, hx => by
    rcases List.mem_cons.mp hx with rfl | hx
    · exact ⟨_, h1⟩
    · exact dpAll_get h2 x hx
theorem r_ix01 {x y : Int} {b : Bool} (h : SqL K H p [.int x, .int y]) (q : ∀ z, (z = x ∧ b = false) ∨ (z = y ∧ b = true) → Q (.int z) H) : rIx K (.ref p) (.int (if b = true then 1 else 0)) H Q := by
  cases b with
  | true => exact r_ixl h rfl (q y (.inr ⟨rfl, rfl⟩))
  | false => exact r_ixl h rfl (q x (.inl ⟨rfl, rfl⟩))
theorem SqL.keep (h : SqL K H a xs) (k : Keep F H H') (n : ¬ F a) : SqL K H' a xs := by
  rcases h with (h | ⟨o, h⟩) | h
  · exact .inl (.inl (k a _ h n))
  · exact .inl (.inr ⟨o, k a _ h n⟩)
  · exact .inr h
end
theorem cx_none {P : Program} {w : World} {H : Hp} {s : Shared} {e : Value} {s' : Shared} (h : L2.CX P w [] H s (fun _ _ _ => False) e s') : False := by
  obtain ⟨_, _, _, _, _, _, _, _, _, _, _, _, z⟩ := h
  exact z.elim
/-! ### exceptions of the program's own: classes over ValueError without a body -/
def bmV : List Value := [.type "ValueError", .type "Exception", .type "BaseException", .type "object"]
structure Exc (K : PySem.W.Frag) (mg : Str → Option Value) (x : Str) (C : Addr) : Prop where
  g : mg x = some (.ref C)
  ex : PySem.W.excIn K C bmV "ValueError.__new__" = true
  kp : PySem.W.keepIn K (.ref C) = true
  bs : PySem.W.subIn K (.ref C) (.type "BaseException") = some true
  ty : PySem.W.typeIn K (.ref C) = some (.type "type")
section
variable {X : Cx} {k j : Nat} {ps : List Str} {sp : Sp} {E : XK} {x : Str} {p pos : Pos} {e : Expr} {es : List Expr} {t : TA} {C : Addr}
/-- raise X('..') -/
theorem ps_rs {W : WX} {m : Str} {jj : Nat} {p2 pos2 : Pos} (T : Exc X.K X.mg x C) (tk : Takes X W) (hc : X.calm = true := by rfl) (hg : Gl X x := by rfl) (hdb : (x == ("__debug__" : Str)) = false := by decide) :
    PS X (.Raise (some (.Call (.Name x p) [.Constant (.str m) jj p2] [] pos)) none pos2) (fun _ σ H => W (.ref C) none σ H) :=
  ps_raise hc tk (pmk_own PySem.F.excBase_ValueError T.ex T.g T.kp (raises_own T.bs T.ty) hg hdb)
/-- a call whose exception leaves this def -/
theorem pe_fnX (F : Fn X.prog X.w X.K X.mg X.base k x ps sp) (hr : Room j X.A) (tk : Takes X (fun cls d _ H => E cls d H)) (ha : PA X (e :: es) t) (hk : k ≤ j := by decide) (hg : Gl X x := by rfl)
    (hdb : (x == ("__debug__" : Str)) = false := by decide) (he : starEach (e :: es) X.env = (false, eval e X.env) :: starEach es X.env := by rfl) (hpl : (backTo pos (starEach es X.env)).any (·.1) = false := by rfl) :
    PE X (.Call (.Name x p) (e :: es) [] pos) (tFn sp E t) := pe_fnE F hr hk hg (passes_call tk fun _ _ _ _ h => h) ha hdb he hpl
end
theorem eqv_same {d : PyData} (h : SeqAt.shaped d = true) : PyData.eqv d d = true := SeqAt.eqv_refl d (SeqAt.canLay_of_shaped h)
/-- a statement, then the rest, with a word between -/
theorem r_cut {σ : St} {H : Hp} {tu tw : TS} {nx bk ct : St → Hp → Prop} {rt : VK} (Mid : St → Hp → Prop) (h : tu ⟨Mid, rt, bk, ct⟩ σ H) (k : ∀ σ' H', Mid σ' H' → tw ⟨nx, rt, bk, ct⟩ σ' H') : Evl.tCut tu tw ⟨nx, rt, bk, ct⟩ σ H := ⟨Mid, h, k⟩
/-! ### numbers -/
theorem div_is {x w i : Int} (hw : 0 < w) (h1 : i * w ≤ x) (h2 : x < i * w + w) : x / w = i := by
  have a : i ≤ x / w := (Int.le_ediv_iff_mul_le hw).mpr h1
  have b : x / w < i + 1 := (Int.ediv_lt_iff_lt_mul hw).mpr (by rw [Int.add_mul, Int.one_mul]; exact h2)
  omega
end Fp
namespace Lk22
open PySem PySem.Spec PyProof.Rows L2 Fp
/-! steps by their head -/
local macro_rules | `(tactic| walk_at "s") => `(tactic| first
  | (with_reducible refine' r_seq ?_)
  | (with_reducible refine' r_cons ?_)
  | ((with_reducible refine' r_var ?hvv ?_); (case hvv => exact rfl))
  | (with_reducible refine' r_c ?_)
  | (with_reducible refine' r_nil ?_)
  | (with_reducible refine' r_op ?_)
  | (with_reducible refine' r_tup ?_)
  | (with_reducible refine' r_lst ?_)
  | (with_reducible refine' r_I0 ?_)
  | (with_reducible refine' r_asg ?_)
  | (with_reducible refine' r_fn ?_)
  | (with_reducible refine' r_fnS ?_)
  | (with_reducible refine' r_CB ?_)
  | (with_reducible refine' r_ret ?_)
  | (with_reducible refine' r_ifS ?_)
  | (with_reducible refine' r_test ?_)
  | (with_reducible refine' r_B ?_)
  | (with_reducible refine' r_bl ?_)
  | (with_reducible refine' r_and ?_)
  | (with_reducible refine' r_or ?_)
  | (with_reducible refine' r_not ?_)
  | (with_reducible refine' r_andV ?_)
  | (with_reducible refine' r_orV ?_)
  | (with_reducible refine' r_notV ?_)
  | (with_reducible refine' r_if ?_)
  | (with_reducible refine' r_chain ?_)
  | (with_reducible refine' r_eq_i ?_)
  | (with_reducible refine' r_ne_i ?_)
  | (with_reducible refine' r_un ?_)
  | (with_reducible refine' r_U ?_)
  | (with_reducible refine' r_int_i ?_)
  | (with_reducible refine' r_int_b ?_)
  | (with_reducible refine' r_abs ?_)
  | (with_reducible refine' r_max2 ?_)
  | (with_reducible refine' r_min2 ?_)
  | (with_reducible refine' r_isB ?_)
  | (with_reducible refine' r_notB ?_)
  | (with_reducible refine' r_isN_n ?_)
  | (with_reducible refine' r_isN_i ?_)
  | (with_reducible refine' r_isN_r ?_)
  | (with_reducible refine' r_isN_s ?_)
  | (with_reducible refine' r_notN_n ?_)
  | (with_reducible refine' r_notN_i ?_)
  | (with_reducible refine' r_notN_r ?_)
  | (with_reducible refine' r_notN_s ?_)
  | ((with_reducible refine' r_isN ?hvv ?_); (case hvv => exact rfl))
  | ((with_reducible refine' r_notN ?hvv ?_); (case hvv => exact rfl))
  | (with_reducible refine' r_next ?_)
  | (with_reducible refine' r_drop ?_)
  | (with_reducible refine' r_gname ?_)
  | (with_reducible refine' r_asgG ?_)
  | (with_reducible refine' r_gsub ?_)
  | (with_reducible refine' r_gcons ?_)
  | (with_reducible refine' r_gnil ?_)
  | (with_reducible refine' r_retN ?_)
  | (with_reducible refine' r_for ?_)
  | (with_reducible refine' r_lc ?_)
  | (with_reducible refine' r_ilist ?_)
  | (with_reducible refine' r_itup ?_)
  | (with_reducible refine' r_irng1 ?_)
  | (with_reducible refine' r_irng2 ?_)
  | (with_reducible refine' r_izip ?_)
  | (with_reducible refine' r_sl ?_)
  | (with_reducible refine' r_nopart ?_)
  | (with_reducible refine' r_part ?_)
  | (with_reducible refine' r_parti ?_)
  | (with_reducible refine' r_bm ?_)
  | (with_reducible refine' r_bm0 ?_)
  | (with_reducible refine' r_isi_ii ?_)
  | (with_reducible refine' r_isi_ib ?_)
  | (with_reducible refine' r_isi_it ?_)
  | (with_reducible refine' r_isi_is ?_)
  | (with_reducible refine' r_isi_ni ?_)
  | (with_reducible refine' r_isi_nt ?_)
  | (with_reducible refine' r_isi_bb ?_)
  | (with_reducible refine' r_isi_bi ?_)
  | (with_reducible refine' r_isi_ss ?_)
  | (with_reducible refine' r_isi_si ?_)
  | (with_reducible refine' r_isi_st ?_)
  | (with_reducible refine' r_brk ?_)
  | (with_reducible refine' r_cont ?_)
  | (with_reducible refine' i_T ?_)
  | (with_reducible refine' i_F ?_)
  | (with_reducible refine' i_NT ?_)
  | (with_reducible refine' i_NF ?_)
  | fail)
/-! sides -/
local macro_rules | `(tactic| walk_at "mul") => `(tactic| first
  | exact mul_r (by decide) (by decide)
  | exact mul_l (by decide) (by decide)
  | exact mul_r (by omega) (by omega)
  | exact mul_l (by omega) (by omega)
  | exact mul_b (n := 256) (m := 256) (by omega) (by omega)
  | fail)
local macro_rules | `(tactic| walk_at "div") => `(tactic| first
  | exact div_b (n := 64) (by decide) (by decide)
  | exact div_b (n := 64) (by omega) (by omega)
  | exact div_b (n := 256) (by omega) (by omega)
  | fail)
local macro_rules | `(tactic| walk_at "ix") => `(tactic| first
  | rfl
  | assumption
  | fail)
/-- what a tuple, a list at an address is: by what is known, the heaps between going on -/
local macro_rules | `(tactic| walk_at "kp") => `(tactic| first
  | assumption
  | exact Keep.of_same (by assumption)
  | exact Keep.refl _
  | (refine' Keep.trans ?hk1 ?hk2; (case hk2 => first | assumption | exact Keep.of_same (by assumption)); (case hk1 => walk_at "kp"))
  | fail)
local macro_rules | `(tactic| walk_at "sm") => `(tactic| first
  | assumption
  | exact Same.refl _
  | (refine' Same.trans ?hk1 ?hk2; (case hk2 => assumption); (case hk1 => walk_at "sm"))
  | fail)
local macro_rules | `(tactic| walk_at "lk") => `(tactic| first
  | assumption
  | (refine' same_app ?hk1 ?hk2; (case hk1 => assumption); (case hk2 => walk_at "lk"))
  | (refine' Keep.app ?hk1 ?hk2 ?hk3; (case hk1 => assumption); (case hk2 => walk_at "lk"); (case hk3 => walk_at "ne"))
  | fail)
local macro_rules | `(tactic| walk_at "sqt") => `(tactic| first
  | assumption
  | (refine' SqT.of ?hk1; (case hk1 => walk_at "lk"))
  | walk_at "st"
  | fail)
local macro_rules | `(tactic| walk_at "sql") => `(tactic| first
  | assumption
  | (refine' SqL.of ?hk1; (case hk1 => walk_at "lk"))
  | fail)
local macro_rules | `(tactic| walk_at "i") => `(tactic| first
  | ((with_reducible refine' r_ix01 ?hva ?_); (case hva => walk_at "sql"); intro _ _)
  | ((with_reducible refine' r_gtup ?hva ?hvb ?_); (case hva => walk_at "sqt"); (case hvb => exact rfl))
  | ((with_reducible refine' r_new ?hvv ?_); (case hvv => exact sz_lit rfl); intro _ _ _ _ _)
  | ((with_reducible refine' r_I ?hvv ?_); (case hvv => first | (with_reducible show IntMulOk _ _; walk_at "mul") | (with_reducible show CDivW _ _; walk_at "div") | (with_reducible show (0 : Int) < _; omega) | decide))
  | ((with_reducible refine' r_ixl ?hva ?hvb ?_); (case hva => walk_at "sql"); (case hvb => walk_at "ix"))
  | ((with_reducible refine' r_ixt ?hva ?hvb ?_); (case hva => walk_at "sqt"); (case hvb => walk_at "ix"))
  | ((with_reducible refine' r_len_l ?hva ?hvb ?_); (case hva => walk_at "sql"); (case hvb => first | (simp only [List.length_cons, List.length_nil, List.length_map, Nat.reduceAdd, Nat.zero_add]; exact rfl) | exact rfl))
  | ((with_reducible refine' r_len_t ?hva ?hvb ?_); (case hva => walk_at "sqt"); (case hvb => first | (simp only [List.length_cons, List.length_nil, List.length_map, Nat.reduceAdd, Nat.zero_add]; exact rfl) | exact rfl))
  | ((with_reducible refine' r_isi_tt ?hva ?_); (case hva => walk_at "sqt"))
  | ((with_reducible refine' r_isi_ti ?hva ?_); (case hva => walk_at "sqt"))
  | ((with_reducible refine' r_sll ?hva ?_); (case hva => walk_at "sql"); intro _ _ _ _ _)
  | ((with_reducible refine' r_sla ?hva ?_); (case hva => walk_at "sqt"); intro _ _ _ _)
  | ((with_reducible refine' r_cat ?hva ?hvb ?hvc ?_); (case hva => walk_at "lk"); (case hvb => walk_at "lk"); (case hvc => first | exact sz_lit rfl | (refine sz_le ?_; omega)); intro _ _ _ _ _)
  | ((with_reducible refine' r_catA ?hva ?hvb ?hvc ?_); (case hva => walk_at "sqt"); (case hvb => walk_at "sqt"); (case hvc => first | exact sz_lit rfl | (refine sz_le ?_; omega)); intro _ _ _ _)
  | ((with_reducible refine' r_tuple_l ?hva ?_); (case hva => walk_at "sql"); intro _ _ _ _ _)
  | ((with_reducible refine' r_tuple_t ?hva ?_); (case hva => walk_at "sqt"))
  | ((with_reducible refine' r_list_l ?hva ?_); (case hva => walk_at "sql"); intro _ _ _ _ _)
  | ((with_reducible refine' r_list_t ?hva ?_); (case hva => walk_at "sqt"); intro _ _ _ _ _)
  | ((with_reducible refine' i_pos ?hvv ?_); (case hvv => first | decide | omega))
  | ((with_reducible refine' i_neg ?hvv ?_); (case hvv => first | decide | omega))
  | ((with_reducible refine' i_npos ?hvv ?_); (case hvv => first | decide | omega))
  | ((with_reducible refine' i_nneg ?hvv ?_); (case hvv => first | decide | omega))
  | ((with_reducible refine' r_rng1 ?hva ?hvb ?_); (case hva => omega); (case hvb => omega))
  | ((with_reducible refine' r_rng2 ?hva ?hvb ?hvc ?hvd ?_); (case hva => omega); (case hvb => omega); (case hvc => omega); (case hvd => omega))
  | ((with_reducible refine' r_wl ?hva ?_); (case hva => walk_at "sql"))
  | ((with_reducible refine' r_wt ?hva ?_); (case hva => walk_at "sqt"))
  | fail)
local macro_rules | `(tactic| walk_at "call") => `(tactic| fail)
local macro_rules | `(tactic| walk_at "a") => `(tactic| repeat' (first | walk_at "s" | walk_at "i" | walk_at "call" | fail))

def top (i : Nat) : Stmt := PySem.Challenge.pw_fourpoints_k22_steps.main.body.getD i (.Pass ⟨0, 0, 0, 0⟩)
abbrev s_moved : Stmt := top 4
abbrev s_widened : Stmt := top 5
abbrev s_narrowed : Stmt := top 6
abbrev s_with_columns : Stmt := top 7
abbrev s_law_nth : Stmt := top 9
abbrev s_law_pot : Stmt := top 10
abbrev s_law_take : Stmt := top 11
abbrev s_law_far : Stmt := top 12
abbrev s_law_same : Stmt := top 13
abbrev s_law_step_right : Stmt := top 14
abbrev s_law_behind : Stmt := top 15
abbrev s_law : Stmt := top 16
theorem sc_moved : FnScope ["window", "c", "begin", "wide", "many"] ["window", "c"] (defScope s_moved) := ⟨rfl, rfl, rfl, by decide +kernel, rfl, by decide +kernel, by decide +kernel⟩
theorem sc_widened : FnScope ["window", "begin", "wide", "many"] ["window"] (defScope s_widened) := ⟨rfl, rfl, rfl, by decide +kernel, rfl, by decide +kernel, by decide +kernel⟩
theorem sc_narrowed : FnScope ["window", "begin", "wide", "many"] ["window"] (defScope s_narrowed) := ⟨rfl, rfl, rfl, by decide +kernel, rfl, by decide +kernel, by decide +kernel⟩
theorem sc_with_columns : FnScope ["window", "n", "begin", "wide", "many"] ["window", "n"] (defScope s_with_columns) := ⟨rfl, rfl, rfl, by decide +kernel, rfl, by decide +kernel, by decide +kernel⟩
theorem sc_law_nth : FnScope ["_law_script", "_law_k"] ["_law_script", "_law_k"] (defScope s_law_nth) := ⟨rfl, rfl, rfl, by decide +kernel, rfl, by decide +kernel, by decide +kernel⟩
theorem sc_law_pot : FnScope ["_law_cell"] ["_law_cell"] (defScope s_law_pot) := ⟨rfl, rfl, rfl, by decide +kernel, rfl, by decide +kernel, by decide +kernel⟩
theorem sc_law_take : FnScope ["_law_pot_here", "_law_many", "_law_digit"] ["_law_pot_here", "_law_many"] (defScope s_law_take) := ⟨rfl, rfl, rfl, by decide +kernel, rfl, by decide +kernel, by decide +kernel⟩
theorem sc_law_far : FnScope ["_law_pot_here", "_law_most"] ["_law_pot_here", "_law_most"] (defScope s_law_far) := ⟨rfl, rfl, rfl, by decide +kernel, rfl, by decide +kernel, by decide +kernel⟩
theorem sc_law_same : FnScope ["_law_told", "_law_due", "_law_part"] ["_law_told", "_law_due"] (defScope s_law_same) := ⟨rfl, rfl, rfl, by decide +kernel, rfl, by decide +kernel, by decide +kernel⟩
theorem sc_law_step_right : FnScope ["_law_window", "_law_way", "_law_c", "_law_n", "_law_begin", "_law_wide", "_law_many"] ["_law_window", "_law_way", "_law_c", "_law_n"] (defScope s_law_step_right) := ⟨rfl, rfl, rfl, by decide +kernel, rfl, by decide +kernel, by decide +kernel⟩
theorem sc_law_behind : FnScope ["_law_window", "_law_way", "_law_c", "_law_n", "_law_begin", "_law_wide", "_law_many"] ["_law_window", "_law_way", "_law_c", "_law_n"] (defScope s_law_behind) := ⟨rfl, rfl, rfl, by decide +kernel, rfl, by decide +kernel, by decide +kernel⟩
theorem sc_law : FnScope ["_law_script", "_law_pot_here", "_law_begin", "_law_wide", "_law_window", "_law_place", "_law_other", "_law_way", "_law_c", "_law_n"] ["_law_script"] (defScope s_law) := ⟨rfl, rfl, rfl, by decide +kernel, rfl, by decide +kernel, by decide +kernel⟩
/-! script[k] or 0 -/
def sp_nth (K : PySem.W.Frag) : Sp := fun vs H Q _ => ∃ (a : Addr) (ns : List Int) (k : Nat), vs = [.ref a, .int k] ∧ SqL K H a (ns.map V.int) ∧ Q (.int (ns.getD k 0)) H
theorem getD_map_int {ns : List Int} {k : Nat} (h : k < ns.length) : (ns.map V.int)[k]? = some (V.int (ns.getD k 0)) := by
  rw [List.getElem?_map, List.getElem?_eq_getElem h]
  simp [List.getD, h]
section
variable {P : Program} {w : World} {K : PySem.W.Frag} {mg : Str → Option Value} {base : Heap}
theorem ok_law_nth (B : Blt mg) (D : Def K mg "_law_nth" s_law_nth ["_law_script", "_law_k"]) :
    Fn P w K mg base 1 "_law_nth" ["_law_script", "_law_k"] (sp_nth K) := by
  refine D.ok sc_law_nth (fun vs H Q E h => ?_) (fun f cdv A outer s H vs Q E hr h => ?_)
  · obtain ⟨a, ns, k, rfl, hS, q⟩ := h
    rfl
  · obtain ⟨a, ns, k, rfl, hS, q⟩ := h
    refine ⟨_, (pss_one (ps_ret (pe_ifExp (pt_cmpR op_lt (pv 1) (pe_callB (crK K c_len) rfl B.len (by decide +kernel) (pa_cons (pv 0) pa_nil)) (nomark _)) (pe_ix (ixK K ix_seq) (pv 0) (pv 1) (fun _ _ => rfl)) pe_int))), ?_⟩
    refine r_start (σ' := [some (.ref a), some (.int k)]) rfl ?_
    walk_at "a"
    refine i_cases (fun hk => ?_) (fun hk => ?_)
    · walk_at "a"
      exact r_ixl hS (at_of rfl (getD_map_int (by omega))) q
    · walk_at "a"
      have e0 : ns.getD k 0 = 0 := by
        have h1 : ns.length ≤ k := by omega
        simp [List.getD, h1]
      rw [e0] at q
      exact q
end
theorem use_nth {K : PySem.W.Frag} {H : Hp} {Q : VK} {E : XK} {a : Addr} {ns : List Int} {z : Int} (h : SqL K H a (ns.map V.int)) (h0 : 0 ≤ z) (q : Q (.int (ns.getD z.toNat 0)) H) : sp_nth K [.ref a, .int z] H Q E :=
  ⟨a, ns, z.toNat, by rw [Int.toNat_of_nonneg h0], h, q⟩
local macro_rules | `(tactic| walk_at "call") => `(tactic| ((with_reducible refine' use_nth ?hva ?hvb ?_); (case hva => walk_at "sql"); (case hvb => omega)))

/-! the pot: a list of two numbers -/
structure Pot (H : Hp) (p : Addr) : Prop where
  ex : ∃ a b : Int, H p = some (.lst [.int a, .int b]) ∧ 0 ≤ a ∧ 0 ≤ b ∧ b < 4294967296
theorem Pot.keep {H H' : Hp} {p : Addr} {F : Addr → Prop} (h : Pot H p) (k : Keep F H H') (n : ¬ F p) : Pot H' p := by
  obtain ⟨a, b, e, r⟩ := h.ex
  exact ⟨a, b, k p _ e n, r⟩
theorem Pot.same {H H' : Hp} {p : Addr} (h : Pot H p) (k : Same H H') : Pot H' p := by
  obtain ⟨a, b, e, r⟩ := h.ex
  exact ⟨a, b, k p _ e, r⟩
theorem Pot.text {H H' : Hp} {p : Addr} (h : Pot H p) (k : Keep (At p) H H') : TExt H H' := by
  obtain ⟨a, b, e, r⟩ := h.ex
  exact TExt.lst k e
theorem Pot.ne_new {H : Hp} {p q : Addr} (h : Pot H p) (hn : H q = none) : q ≠ p := by
  obtain ⟨a, b, e, r⟩ := h.ex
  exact fun z => by rw [z, e] at hn; cases hn
def sp_pot (K : PySem.W.Frag) : Sp := fun vs H Q _ => ∃ c : Int, vs = [.int c] ∧ ∀ (p : Addr) (H' : Hp), H p = none → Same H H' → Pot H' p → Q (.ref p) H'
def sp_take (K : PySem.W.Frag) : Sp := fun vs H Q _ => ∃ (p : Addr) (n : Int), vs = [.ref p, .int n] ∧ Pot H p ∧ 0 < n ∧ n ≤ 1000000000000000000000000000000000000000000000000000000000000000000000000000 ∧
  ∀ (r : Int) (H' : Hp), Keep (At p) H H' → Pot H' p → 0 ≤ r → r < n → Q (.int r) H'
section
variable {P : Program} {w : World} {K : PySem.W.Frag} {mg : Str → Option Value} {base : Heap}
theorem ok_law_pot (B : Blt mg) (D : Def K mg "_law_pot" s_law_pot ["_law_cell"]) :
    Fn P w K mg base 1 "_law_pot" ["_law_cell"] (sp_pot K) := by
  refine D.ok sc_law_pot (fun vs H Q E h => ?_) (fun f cdv A outer s H vs Q E hr h => ?_)
  · obtain ⟨c, rfl, q⟩ := h
    rfl
  · obtain ⟨c, rfl, q⟩ := h
    refine ⟨_, (pss_one (ps_ret (pe_lst (pa_cons (pe_op op_mulY (pv 0) (pe_callTy c_int1 rfl B.int (by decide +kernel) (pa_cons (pe_cmpR op_ge (pv 0) (pe_powC (z := 1000000000000000000) (by decide +kernel) (by decide +kernel)) (nomark _)) pa_nil))) (pa_cons (pe_op op_mod (pe_op op_add (pe_op op_mulY (pv 0) pe_int) pe_int) pe_int) pa_nil))))), ?_⟩
    refine r_start (σ' := [some (.int c)]) rfl ?_
    walk_at "a"
    rename_i p H' hn h1 h2
    refine q p H' hn h1 ⟨_, _, h2, ?_, ?_, ?_⟩
    · split
      · rename_i h3
        have h4 := of_decide_eq_true h3
        omega
      · omega
    · omega
    · omega
end
section
variable {P : Program} {w : World} {K : PySem.W.Frag} {mg : Str → Option Value} {base : Heap}
theorem ok_law_take (B : Blt mg) (D : Def K mg "_law_take" s_law_take ["_law_pot_here", "_law_many"]) :
    Fn P w K mg base 1 "_law_take" ["_law_pot_here", "_law_many"] (sp_take K) := by
  refine D.ok sc_law_take (fun vs H Q E h => ?_) (fun f cdv A outer s H vs Q E hr h => ?_)
  · obtain ⟨p, n, rfl, hp, hn, hb, q⟩ := h
    rfl
  · obtain ⟨p, n, rfl, hp, hn, hb, q⟩ := h
    refine ⟨_, (pss_cons (ps_if (pt_cmpR op_gt (pe_ix (ixK K ix_seq) (pv 0) pe_int (fun _ _ => rfl)) pe_int (nomark _))
      (pss_cons (ps_set (i := 2) sc_law_take.nd rfl (Or.inl rfl) (pe_op op_mod (pe_ix (ixK K ix_seq) (pv 0) pe_int (fun _ _ => rfl)) (pv 1)))
      (pss_cons (ps_asg (pe_op op_fdivW (pe_ix (ixK K ix_seq) (pv 0) pe_int (fun _ _ => rfl)) (pv 1)) (pg_sub (pv 0) pe_int set_list))
      (pss_one (ps_ret (pv 2)))))
      pss_nil)
      (pss_cons (ps_asg (pe_op op_mod (pe_op op_add (pe_op op_mulY (pe_ix (ixK K ix_seq) (pv 0) pe_int (fun _ _ => rfl)) pe_int) pe_int) pe_int) (pg_sub (pv 0) pe_int set_list))
      (pss_one (ps_ret (pe_op op_mod (pe_op op_fdivW (pe_op op_mod (pe_op op_mulY (pe_ix (ixK K ix_seq) (pv 0) pe_int (fun _ _ => rfl)) (pe_ix (ixK K ix_seq) (pv 0) pe_int (fun _ _ => rfl))) pe_int) pe_int) (pv 1)))))), ?_⟩
    refine r_start (σ' := [some (.ref p), some (.int n), none]) rfl ?_
    obtain ⟨a, b, hp, ha, hb0, hb1⟩ := hp.ex
    walk_at "a"
    refine i_cases (fun hk => ?_) (fun hk => ?_)
    · walk_at "a"
      refine r_setl hp rfl fun H' h1 h2 => ?_
      walk_at "a"
      exact q _ H' h1 ⟨_, _, h2, Int.ediv_nonneg ha (by omega), hb0, hb1⟩ (Int.emod_nonneg _ (by omega)) (Int.emod_lt_of_pos _ hn)
    · walk_at "a"
      refine r_setl hp rfl fun H' h1 e2 => ?_
      have e2 : H' p = some (.lst [.int a, .int ((b * 39373 + 4001) % 2147483587)]) := e2
      generalize hc : (b * 39373 + 4001) % 2147483587 = c at e2
      have c0 : 0 ≤ c := by omega
      have c1 : c < 4294967296 := by omega
      clear hc
      walk_at "a"
      exact q _ H' h1 ⟨_, _, e2, ha, c0, c1⟩ (Int.emod_nonneg _ (by omega)) (Int.emod_lt_of_pos _ hn)
end
theorem use_pot {K : PySem.W.Frag} {H : Hp} {Q : VK} {E : XK} {c : Int} (q : ∀ (p : Addr) (H' : Hp), H p = none → Same H H' → Pot H' p → Q (.ref p) H') : sp_pot K [.int c] H Q E := ⟨c, rfl, q⟩
theorem use_take {K : PySem.W.Frag} {H : Hp} {Q : VK} {E : XK} {p : Addr} {n : Int} (h : Pot H p) (h0 : 0 < n) (h1 : n ≤ 1000000000000000000000000000000000000000000000000000000000000000000000000000) (q : ∀ (r : Int) (H' : Hp), Keep (At p) H H' → Pot H' p → 0 ≤ r → r < n → Q (.int r) H') : sp_take K [.ref p, .int n] H Q E :=
  ⟨p, n, rfl, h, h0, h1, q⟩
local macro_rules | `(tactic| walk_at "call") => `(tactic| ((with_reducible refine' use_take ?hva ?hvb ?hvc ?_); (case hva => walk_at "pot"); (case hvb => omega); (case hvc => omega); intro _ _ _ _ _ _))
local macro_rules | `(tactic| walk_at "call") => `(tactic| ((with_reducible refine' use_pot ?_); intro _ _ _ _ _))
local macro_rules | `(tactic| walk_at "pot") => `(tactic| first
  | assumption
  | (refine' Pot.same ?hk1 ?hk2; (case hk2 => assumption); (case hk1 => walk_at "pot"))
  | (refine' Pot.keep ?hk1 ?hk2 ?hk3; (case hk2 => assumption); (case hk1 => walk_at "pot"); (case hk3 => walk_at "ne"))
  | fail)
local macro_rules | `(tactic| walk_at "te") => `(tactic| first
  | assumption
  | exact TExt.refl _
  | exact TExt.of_same (by assumption)
  | (refine' Pot.text ?hk1 ?hk2; (case hk2 => assumption); (case hk1 => assumption))
  | (refine' TExt.trans ?hk1 ?hk2; (case hk2 => first | exact TExt.of_same (by assumption) | (refine' Pot.text ?hk3 ?hk4; (case hk4 => assumption); (case hk3 => walk_at "pot"))); (case hk1 => walk_at "te"))
  | fail)
/-- a tuple through the heaps -/
local macro_rules | `(tactic| walk_at "st") => `(tactic| first
  | assumption
  | exact SqT.of (by assumption)
  | (refine' SqT.text ?hk1 ?hk2; (case hk1 => first | exact TExt.of_same (by assumption) | (refine' Pot.text ?hk3 ?hk4; (case hk4 => assumption); (case hk3 => walk_at "pot"))); (case hk2 => walk_at "st"))
  | fail)
local macro_rules | `(tactic| walk_at "ne") => `(tactic| first
  | assumption
  | exact Ne.symm (by assumption)
  | (refine' Pot.ne_new ?hk1 ?hk2; (case hk2 => assumption); (case hk1 => walk_at "pot"))
  | fail)
/-! the law's promise -/
def sp_law (K : PySem.W.Frag) : Sp := fun vs H Q _ => ∃ a ns, vs = [.ref a] ∧ Scr K H a ns ∧ ns.length ≤ 63 ∧ ∀ H', Q (.bl true) H'
theorem sp_law_top {K : PySem.W.Frag} {H : Hp} {a : Addr} {ns : List Int} {E : XK} (hl : ns.length ≤ 63) (hb : ∀ z ∈ ns, Builtin.Int.intBits z ≤ 1048576) (hO : Only H) (hS : SqL K H a (ns.map V.int)) : sp_law K [.ref a] H (fun v _ => v = .bl true) E :=
  ⟨a, ns, rfl, Scr.of hO hS, hl, fun _ => rfl⟩
/-- a drawn number -/
def sp_drawn (lo hi : Int) (K : PySem.W.Frag) : Sp := fun vs H Q _ => ∃ p, vs = [.ref p] ∧ Pot H p ∧ ∀ (z : Int) (H' : Hp), Keep (At p) H H' → Pot H' p → lo ≤ z → z ≤ hi → Q (.int z) H'
theorem use_drawn {lo hi : Int} {K : PySem.W.Frag} {H : Hp} {Q : VK} {E : XK} {p : Addr} (h : Pot H p) (q : ∀ (z : Int) (H' : Hp), Keep (At p) H H' → Pot H' p → lo ≤ z → z ≤ hi → Q (.int z) H') : sp_drawn lo hi K [.ref p] H Q E := ⟨p, rfl, h, q⟩
local macro_rules | `(tactic| walk_at "call") => `(tactic| ((with_reducible refine' use_drawn ?hva ?_); (case hva => walk_at "pot"); intro _ _ _ _ _ _))

/-! ### steps of windows -/
def sp_moved (K : PySem.W.Frag) : Sp := fun vs H Q _ => ∃ (a : Addr) (b w m c : Int), vs = [.ref a, .int c] ∧ SqT K H a [.int b, .int w, .int m] ∧ IntMulOk c w ∧ ∀ (p : Addr) (H' : Hp), Same H H' → H' p = some (.tup [.int (b + c * w), .int w, .int m]) → Q (.ref p) H'
def sp_widened (K : PySem.W.Frag) : Sp := fun vs H Q _ => ∃ (a : Addr) (b w m : Int), vs = [.ref a] ∧ SqT K H a [.int b, .int w, .int m] ∧ ∀ (p : Addr) (H' : Hp), Same H H' → H' p = some (.tup [.int b, .int (2 * w), .int m]) → Q (.ref p) H'
def sp_narrowed (K : PySem.W.Frag) (C : Addr) : Sp := fun vs H Q E => ∃ (a : Addr) (b w m : Int), vs = [.ref a] ∧ SqT K H a [.int b, .int w, .int m] ∧
  (w % 2 = 0 → ∀ (p : Addr) (H' : Hp), Same H H' → H' p = some (.tup [.int b, .int (w / 2), .int m]) → Q (.ref p) H') ∧ (¬ w % 2 = 0 → E (.ref C) none H)
def sp_with_columns (K : PySem.W.Frag) : Sp := fun vs H Q _ => ∃ (a : Addr) (b w m n : Int), vs = [.ref a, .int n] ∧ SqT K H a [.int b, .int w, .int m] ∧ ∀ (p : Addr) (H' : Hp), Same H H' → H' p = some (.tup [.int b, .int w, .int n]) → Q (.ref p) H'
section
variable {P : Program} {w : World} {K : PySem.W.Frag} {mg : Str → Option Value} {base : Heap}
theorem ok_moved (B : Blt mg) (D : Def K mg "moved" s_moved ["window", "c"]) :
    Fn P w K mg base 1 "moved" ["window", "c"] (sp_moved K) := by
  refine D.ok sc_moved (fun vs H Q E h => ?_) (fun f cdv A outer s H vs Q E hr h => ?_)
  · obtain ⟨a, b, w', m, c, rfl, hw, hc, q⟩ := h
    rfl
  · obtain ⟨a, b, w', m, c, rfl, hw, hc, q⟩ := h
    refine ⟨_, (pss_cons (ps_asg (pv 0) (pgK_tup K (n := 3) rfl (pgs_cons (pg_name (i := 2) sc_moved.nd rfl (Or.inl rfl)) (pgs_cons (pg_name (i := 3) sc_moved.nd rfl (Or.inl rfl)) (pgs_cons (pg_name (i := 4) sc_moved.nd rfl (Or.inl rfl)) pgs_nil)))))
      (pss_one (ps_ret (pe_tup (pa_cons (pe_op op_add (pv 2) (pe_op op_mulY (pv 1) (pv 3))) (pa_cons (pv 3) (pa_cons (pv 4) pa_nil))))))), ?_⟩
    refine r_start (σ' := [some (.ref a), some (.int c), none, none, none]) rfl ?_
    walk_at "a"
    refine r_I hc ?_
    walk_at "a"
    exact q _ _ (by assumption) (by assumption)
end
section
variable {P : Program} {w : World} {K : PySem.W.Frag} {mg : Str → Option Value} {base : Heap}
theorem ok_widened (B : Blt mg) (D : Def K mg "widened" s_widened ["window"]) :
    Fn P w K mg base 1 "widened" ["window"] (sp_widened K) := by
  refine D.ok sc_widened (fun vs H Q E h => ?_) (fun f cdv A outer s H vs Q E hr h => ?_)
  · obtain ⟨a, b, w', m, rfl, hw, q⟩ := h
    rfl
  · obtain ⟨a, b, w', m, rfl, hw, q⟩ := h
    refine ⟨_, (pss_cons (ps_asg (pv 0) (pgK_tup K (n := 3) rfl (pgs_cons (pg_name (i := 1) sc_widened.nd rfl (Or.inl rfl)) (pgs_cons (pg_name (i := 2) sc_widened.nd rfl (Or.inl rfl)) (pgs_cons (pg_name (i := 3) sc_widened.nd rfl (Or.inl rfl)) pgs_nil)))))
      (pss_one (ps_ret (pe_tup (pa_cons (pv 1) (pa_cons (pe_op op_mulY pe_int (pv 2)) (pa_cons (pv 3) pa_nil))))))), ?_⟩
    refine r_start (σ' := [some (.ref a), none, none, none]) rfl ?_
    walk_at "a"
    exact q _ _ (by assumption) (by assumption)
end
section
variable {P : Program} {w : World} {K : PySem.W.Frag} {mg : Str → Option Value} {base : Heap}
theorem ok_narrowed (B : Blt mg) (D : Def K mg "narrowed" s_narrowed ["window"]) {E_NotHalf : Addr} (X_NotHalf : Exc K mg "NotHalf" E_NotHalf) :
    Fn P w K mg base 1 "narrowed" ["window"] (sp_narrowed K E_NotHalf) := by
  refine D.okX sc_narrowed (fun vs H Q E h => ?_) (fun f cdv A outer s H vs Q E hr h => ?_)
  · obtain ⟨a, b, w', m, rfl, hw, q, e⟩ := h
    rfl
  · obtain ⟨a, b, w', m, rfl, hw, q, e⟩ := h
    refine ⟨_, (pss_cons (ps_asg (pv 0) (pgK_tup K (n := 3) rfl (pgs_cons (pg_name (i := 1) sc_narrowed.nd rfl (Or.inl rfl)) (pgs_cons (pg_name (i := 2) sc_narrowed.nd rfl (Or.inl rfl)) (pgs_cons (pg_name (i := 3) sc_narrowed.nd rfl (Or.inl rfl)) pgs_nil)))))
      (pss_cons (ps_if (pt_cmpR (opK K (o_ne hr.units)) (pe_op op_mod (pv 2) pe_int) pe_int (nomark _))
      (pss_one (ps_rs X_NotHalf (takes_of rfl rfl rfl rfl)))
      pss_nil)
      (pss_one (ps_ret (pe_tup (pa_cons (pv 1) (pa_cons (pe_op op_fdivW (pv 2) pe_int) (pa_cons (pv 3) pa_nil)))))))), ?_⟩
    refine r_start (σ' := [some (.ref a), none, none, none]) rfl ?_
    walk_at "a"
    refine i_ncases (fun h => ?_) (fun h => ?_)
    · walk_at "a"
      exact e h
    · walk_at "a"
      exact q h _ _ (by assumption) (by assumption)
end
section
variable {P : Program} {w : World} {K : PySem.W.Frag} {mg : Str → Option Value} {base : Heap}
theorem ok_with_columns (B : Blt mg) (D : Def K mg "with_columns" s_with_columns ["window", "n"]) :
    Fn P w K mg base 1 "with_columns" ["window", "n"] (sp_with_columns K) := by
  refine D.ok sc_with_columns (fun vs H Q E h => ?_) (fun f cdv A outer s H vs Q E hr h => ?_)
  · obtain ⟨a, b, w', m, n, rfl, hw, q⟩ := h
    rfl
  · obtain ⟨a, b, w', m, n, rfl, hw, q⟩ := h
    refine ⟨_, (pss_cons (ps_asg (pv 0) (pgK_tup K (n := 3) rfl (pgs_cons (pg_name (i := 2) sc_with_columns.nd rfl (Or.inl rfl)) (pgs_cons (pg_name (i := 3) sc_with_columns.nd rfl (Or.inl rfl)) (pgs_cons (pg_name (i := 4) sc_with_columns.nd rfl (Or.inl rfl)) pgs_nil)))))
      (pss_one (ps_ret (pe_tup (pa_cons (pv 2) (pa_cons (pv 3) (pa_cons (pv 1) pa_nil))))))), ?_⟩
    refine r_start (σ' := [some (.ref a), some (.int n), none, none, none]) rfl ?_
    walk_at "a"
    exact q _ _ (by assumption) (by assumption)
end
section
variable {K : PySem.W.Frag} {H : Hp} {Q : VK} {E : XK} {a C : Addr} {b w m c n : Int}
theorem use_moved (hw : SqT K H a [.int b, .int w, .int m]) (hc : IntMulOk c w) (q : ∀ (p : Addr) (H' : Hp), Same H H' → H' p = some (.tup [.int (b + c * w), .int w, .int m]) → Q (.ref p) H') : sp_moved K [.ref a, .int c] H Q E := ⟨a, b, w, m, c, rfl, hw, hc, q⟩
theorem use_widened (hw : SqT K H a [.int b, .int w, .int m]) (q : ∀ (p : Addr) (H' : Hp), Same H H' → H' p = some (.tup [.int b, .int (2 * w), .int m]) → Q (.ref p) H') : sp_widened K [.ref a] H Q E := ⟨a, b, w, m, rfl, hw, q⟩
theorem use_narrowed (hw : SqT K H a [.int b, .int w, .int m]) (h : w % 2 = 0) (q : ∀ (p : Addr) (H' : Hp), Same H H' → H' p = some (.tup [.int b, .int (w / 2), .int m]) → Q (.ref p) H') : sp_narrowed K C [.ref a] H Q E := ⟨a, b, w, m, rfl, hw, fun _ => q, fun n => absurd h n⟩
theorem use_with_columns (hw : SqT K H a [.int b, .int w, .int m]) (q : ∀ (p : Addr) (H' : Hp), Same H H' → H' p = some (.tup [.int b, .int w, .int n]) → Q (.ref p) H') : sp_with_columns K [.ref a, .int n] H Q E := ⟨a, b, w, m, n, rfl, hw, q⟩
end
local macro_rules | `(tactic| walk_at "call") => `(tactic| ((with_reducible refine' use_moved ?hva ?hvb ?_); (case hva => walk_at "sqt"); (case hvb => walk_at "mul"); intro _ _ _ _))
local macro_rules | `(tactic| walk_at "call") => `(tactic| ((with_reducible refine' use_widened ?hva ?_); (case hva => walk_at "sqt"); intro _ _ _ _))
local macro_rules | `(tactic| walk_at "call") => `(tactic| ((with_reducible refine' use_narrowed ?hva ?hvb ?_); (case hva => walk_at "sqt"); (case hvb => omega); intro _ _ _ _))
local macro_rules | `(tactic| walk_at "call") => `(tactic| ((with_reducible refine' use_with_columns ?hva ?_); (case hva => walk_at "sqt"); intro _ _ _ _))

def sp_far (K : PySem.W.Frag) : Sp := fun vs H Q _ => ∃ (p : Addr) (n : Int), vs = [.ref p, .int n] ∧ Pot H p ∧ 0 < n ∧ n ≤ 100000000000000000000000000000000000000000000000000 ∧ ∀ (z : Int) (H' : Hp), Keep (At p) H H' → Pot H' p → -20 - n ≤ z → z ≤ 20 + n → Q (.int z) H'
section
variable {P : Program} {w : World} {K : PySem.W.Frag} {mg : Str → Option Value} {base : Heap}
theorem ok_law_far (B : Blt mg) (D : Def K mg "_law_far" s_law_far ["_law_pot_here", "_law_most"]) (G_law_take : Fn P w K mg base 1 "_law_take" ["_law_pot_here", "_law_many"] (sp_take K)) :
    Fn P w K mg base 2 "_law_far" ["_law_pot_here", "_law_most"] (sp_far K) := by
  refine D.ok sc_law_far (fun vs H Q E h => ?_) (fun f cdv A outer s H vs Q E hr h => ?_)
  · obtain ⟨p, n, rfl, hp, n0, n1, q⟩ := h
    rfl
  · obtain ⟨p, n, rfl, hp, n0, n1, q⟩ := h
    refine ⟨_, (pss_cons (ps_if (pt_cmpR op_gt (pe_fn G_law_take hr (pa_cons (pv 0) (pa_cons pe_int pa_nil))) pe_int (nomark _))
      (pss_one (ps_ret (pe_op op_sub (pe_fn G_law_take hr (pa_cons (pv 0) (pa_cons pe_int pa_nil))) pe_int)))
      pss_nil)
      (pss_one (ps_ret (pe_op op_sub (pe_fn G_law_take hr (pa_cons (pv 0) (pa_cons (pe_op op_mulY pe_int (pv 1)) pa_nil))) (pv 1))))), ?_⟩
    refine r_start (σ' := [some (.ref p), some (.int n)]) rfl ?_
    walk_at "a"
    refine i_cases (fun h => ?_) (fun h => ?_)
    · walk_at "a"
      exact q _ _ (by walk_at "kp") (by walk_at "pot") (by omega) (by omega)
    · walk_at "a"
      exact q _ _ (by walk_at "kp") (by walk_at "pot") (by omega) (by omega)
end
theorem use_far {K : PySem.W.Frag} {H : Hp} {Q : VK} {E : XK} {p : Addr} {n : Int} (h : Pot H p) (h0 : 0 < n) (h1 : n ≤ 100000000000000000000000000000000000000000000000000) (q : ∀ (z : Int) (H' : Hp), Keep (At p) H H' → Pot H' p → -20 - n ≤ z → z ≤ 20 + n → Q (.int z) H') : sp_far K [.ref p, .int n] H Q E := ⟨p, n, rfl, h, h0, h1, q⟩
local macro_rules | `(tactic| walk_at "call") => `(tactic| ((with_reducible refine' use_far ?hva ?hvb ?hvc ?_); (case hva => walk_at "pot"); (case hvb => omega); (case hvc => omega); intro _ _ _ _ _ _))
def sp_same (K : PySem.W.Frag) : Sp := fun vs H Q _ => ∃ (a b : Addr) (x y z : Int), vs = [.ref a, .ref b] ∧ SqT K H a [.int x, .int y, .int z] ∧ SqT K H b [.int x, .int y, .int z] ∧ ∀ H', Same H H' → Q (.bl true) H'
section
variable {P : Program} {w : World} {K : PySem.W.Frag} {mg : Str → Option Value} {base : Heap}
theorem ok_law_same (B : Blt mg) (D : Def K mg "_law_same" s_law_same ["_law_told", "_law_due"]) :
    Fn P w K mg base 1 "_law_same" ["_law_told", "_law_due"] (sp_same K) := by
  refine D.ok sc_law_same (fun vs H Q E h => ?_) (fun f cdv A outer s H vs Q E hr h => ?_)
  · obtain ⟨a, b, x, y, z, rfl, ha, hb, q⟩ := h
    rfl
  · obtain ⟨a, b, x, y, z, rfl, ha, hb, q⟩ := h
    refine ⟨_, (pss_cons (ps_if (PW.pt (pw_or (pt_not (pt_val (pe_callB (crK K call_isi) rfl B.isinstance (by decide +kernel) (pa_cons (pv 0) (pa_cons (pe_bltn (v := .ty "tuple") rfl B.tuple (by decide +kernel) rfl) pa_nil))))) (pw_or1 (pt_cmpR (opK K (o_ne hr.units)) (pe_callB (crK K c_len) rfl B.len (by decide +kernel) (pa_cons (pv 0) pa_nil)) pe_int (nomark _)))))
      (pss_one (ps_ret pe_bl))
      pss_nil)
      (pss_one (ps_ret (pe_and (pe_callB (crK K (cr_all rfl)) rfl B.all (by decide +kernel) (pa_cons (pe_lc (own := [("_law_part", 2)]) (g := gName 2) (tt := tYes) rfl sc_law_same.nd (piK_tup K (pv 0)) (blkOk_by (N := ["_law_told", "_law_due", "_law_part"]) (sc := defScope s_law_same) (by decide +kernel)) (fun _ _ _ _ _ => (pg_name (i := 2) sc_law_same.nd rfl (Or.inl rfl))) (fun _ _ _ _ _ => pts_nil) (fun _ _ _ _ _ => (pe_and (pe_callB (crK K call_isi) rfl B.isinstance (by decide +kernel) (pa_cons (pv 2) (pa_cons (pe_bltn (v := .ty "int") rfl B.int (by decide +kernel) rfl) pa_nil))) (pe_one (pe_not (pe_callB (crK K call_isi) rfl B.isinstance (by decide +kernel) (pa_cons (pv 2) (pa_cons (pe_bltn (v := .ty "bool") rfl B.bool (by decide +kernel) rfl) pa_nil)))))))) pa_nil)) (pe_one (pe_cmpR (opK K (o_eq hr.units)) (pv 0) (pv 1) (nomark _))))))), ?_⟩
    refine r_start (σ' := [some (.ref a), some (.ref b), none]) rfl ?_
    walk_at "a"
    refine lc_map wk_tup (fun H' e => SqT.text (TExt.of_same e) ha) (by simp) (fun _ => .bl true) (fun v H3 R hx s3 kk => ?_) (fun Dl H3 hD s3 e3 => ?_)
    · obtain ⟨t, rfl⟩ : ∃ t, v = .int t := by
        simp at hx
        rcases hx with rfl | rfl | rfl <;> exact ⟨_, rfl⟩
      walk_at "a"
      exact kk _ (Same.refl _)
    · walk_at "a"
      refine r_allT (SqL.of e3) (by simp) ?_
      walk_at "a"
      refine r_eq_d (d := .tuple [.int x, .int y, .int z]) (e := .tuple [.int x, .int y, .int z]) (.tup (SqT.text (TExt.of_same s3) ha) (dpAll_ints K _ [x, y, z])) (.tup (SqT.text (TExt.of_same s3) hb) (dpAll_ints K _ [x, y, z])) rfl rfl ?_
      rw [eqv_same rfl]
      exact q _ s3
end
theorem use_same {K : PySem.W.Frag} {H : Hp} {Q : VK} {E : XK} {a b : Addr} {x y z : Int} (ha : SqT K H a [.int x, .int y, .int z]) (hb : SqT K H b [.int x, .int y, .int z]) (q : ∀ H', Same H H' → Q (.bl true) H') : sp_same K [.ref a, .ref b] H Q E := ⟨a, b, x, y, z, rfl, ha, hb, q⟩
local macro_rules | `(tactic| walk_at "call") => `(tactic| ((with_reducible refine' use_same ?hva ?hvb ?_); (case hva => walk_at "sqt"); (case hvb => walk_at "sqt"); intro _ _))
/-- what a way makes of a window -/
def stepB (b w way c : Int) : Int := if way = 0 then b + c * w else b
def stepW (w way : Int) : Int := if way = 1 then 2 * w else if way = 2 then w / 2 else w
def stepM (m way n : Int) : Int := if way = 0 ∨ way = 1 ∨ way = 2 then m else n
def sp_step (K : PySem.W.Frag) : Sp := fun vs H Q _ => ∃ (a : Addr) (b w m way c n : Int), vs = [.ref a, .int way, .int c, .int n] ∧ SqT K H a [.int b, .int w, .int m] ∧ (way = 2 → w % 2 = 0) ∧ IntMulOk c w ∧ ∀ H', Same H H' → Q (.bl true) H'
section
variable {P : Program} {w : World} {K : PySem.W.Frag} {mg : Str → Option Value} {base : Heap}
theorem ok_law_step_right (B : Blt mg) (D : Def K mg "_law_step_right" s_law_step_right ["_law_window", "_law_way", "_law_c", "_law_n"]) (G_law_same : Fn P w K mg base 1 "_law_same" ["_law_told", "_law_due"] (sp_same K)) (G_with_columns : Fn P w K mg base 1 "with_columns" ["window", "n"] (sp_with_columns K)) (G_moved : Fn P w K mg base 1 "moved" ["window", "c"] (sp_moved K)) (G_widened : Fn P w K mg base 1 "widened" ["window"] (sp_widened K)) (G_narrowed : Fn P w K mg base 1 "narrowed" ["window"] (sp_narrowed K E_NotHalf)) :
    Fn P w K mg base 2 "_law_step_right" ["_law_window", "_law_way", "_law_c", "_law_n"] (sp_step K) := by
  refine D.ok sc_law_step_right (fun vs H Q E h => ?_) (fun f cdv A outer s H vs Q E hr h => ?_)
  · obtain ⟨a, b, w', m, way, c, n, rfl, hw, he, hc, q⟩ := h
    rfl
  · obtain ⟨a, b, w', m, way, c, n, rfl, hw, he, hc, q⟩ := h
    refine ⟨_, (pss_cons (ps_asg (pv 0) (pgK_tup K (n := 3) rfl (pgs_cons (pg_name (i := 4) sc_law_step_right.nd rfl (Or.inl rfl)) (pgs_cons (pg_name (i := 5) sc_law_step_right.nd rfl (Or.inl rfl)) (pgs_cons (pg_name (i := 6) sc_law_step_right.nd rfl (Or.inl rfl)) pgs_nil)))))
      (pss_cons (ps_if (pt_cmpR (opK K (o_eq hr.units)) (pv 1) pe_int (nomark _))
      (pss_one (ps_ret (pe_fn G_law_same hr (pa_cons (pe_fn G_moved hr (pa_cons (pv 0) (pa_cons (pv 2) pa_nil))) (pa_cons (pe_tup (pa_cons (pe_op op_add (pv 4) (pe_op op_mulY (pv 2) (pv 5))) (pa_cons (pv 5) (pa_cons (pv 6) pa_nil)))) pa_nil)))))
      pss_nil)
      (pss_cons (ps_if (pt_cmpR (opK K (o_eq hr.units)) (pv 1) pe_int (nomark _))
      (pss_one (ps_ret (pe_fn G_law_same hr (pa_cons (pe_fn G_widened hr (pa_cons (pv 0) pa_nil)) (pa_cons (pe_tup (pa_cons (pv 4) (pa_cons (pe_op op_add (pv 5) (pv 5)) (pa_cons (pv 6) pa_nil)))) pa_nil)))))
      pss_nil)
      (pss_cons (ps_if (pt_cmpR (opK K (o_eq hr.units)) (pv 1) pe_int (nomark _))
      (pss_one (ps_ret (pe_fn G_law_same hr (pa_cons (pe_fn G_narrowed hr (pa_cons (pv 0) pa_nil)) (pa_cons (pe_tup (pa_cons (pv 4) (pa_cons (pe_op op_fdivW (pv 5) pe_int) (pa_cons (pv 6) pa_nil)))) pa_nil)))))
      pss_nil)
      (pss_one (ps_ret (pe_fn G_law_same hr (pa_cons (pe_fn G_with_columns hr (pa_cons (pv 0) (pa_cons (pv 3) pa_nil))) (pa_cons (pe_tup (pa_cons (pv 4) (pa_cons (pv 5) (pa_cons (pv 3) pa_nil)))) pa_nil))))))))), ?_⟩
    refine r_start (σ' := [some (.ref a), some (.int way), some (.int c), some (.int n), none, none, none]) rfl ?_
    walk_at "a"
    refine i_cases (fun h => ?_) (fun h => ?_)
    · walk_at "a"
      refine use_moved hw hc (fun p H' s e => ?_)
      walk_at "a"
      refine r_I hc ?_
      walk_at "a"
      exact q _ (by walk_at "sm")
    walk_at "a"
    refine i_cases (fun h => ?_) (fun h => ?_)
    · walk_at "a"
      rename_i p1 H1 s1 e1 p2 H2 n2 s2 e2
      have e : w' + w' = 2 * w' := by omega
      rw [e] at e2
      walk_at "a"
      exact q _ (by walk_at "sm")
    walk_at "a"
    refine i_cases (fun h => ?_) (fun h => ?_)
    · walk_at "a"
      exact q _ (by walk_at "sm")
    walk_at "a"
    exact q _ (by walk_at "sm")
end
theorem use_step {K : PySem.W.Frag} {H : Hp} {Q : VK} {E : XK} {a : Addr} {b w m way c n : Int} (hw : SqT K H a [.int b, .int w, .int m]) (he : way = 2 → w % 2 = 0) (hc : IntMulOk c w) (q : ∀ H', Same H H' → Q (.bl true) H') : sp_step K [.ref a, .int way, .int c, .int n] H Q E := ⟨a, b, w, m, way, c, n, rfl, hw, he, hc, q⟩
def sp_behind (K : PySem.W.Frag) : Sp := fun vs H Q _ => ∃ (a : Addr) (b w m way c n : Int), vs = [.ref a, .int way, .int c, .int n] ∧ SqT K H a [.int b, .int w, .int m] ∧ IntMulOk c w ∧ ∀ p H', Same H H' → H' p = some (.tup [.int (stepB b w way c), .int (stepW w way), .int (stepM m way n)]) → Q (.ref p) H'
section
variable {P : Program} {w : World} {K : PySem.W.Frag} {mg : Str → Option Value} {base : Heap}
theorem ok_law_behind (B : Blt mg) (D : Def K mg "_law_behind" s_law_behind ["_law_window", "_law_way", "_law_c", "_law_n"]) :
    Fn P w K mg base 1 "_law_behind" ["_law_window", "_law_way", "_law_c", "_law_n"] (sp_behind K) := by
  refine D.ok sc_law_behind (fun vs H Q E h => ?_) (fun f cdv A outer s H vs Q E hr h => ?_)
  · obtain ⟨a, b, w', m, way, c, n, rfl, hw, hc, q⟩ := h
    rfl
  · obtain ⟨a, b, w', m, way, c, n, rfl, hw, hc, q⟩ := h
    refine ⟨_, (pss_cons (ps_asg (pv 0) (pgK_tup K (n := 3) rfl (pgs_cons (pg_name (i := 4) sc_law_behind.nd rfl (Or.inl rfl)) (pgs_cons (pg_name (i := 5) sc_law_behind.nd rfl (Or.inl rfl)) (pgs_cons (pg_name (i := 6) sc_law_behind.nd rfl (Or.inl rfl)) pgs_nil)))))
      (pss_cons (ps_if (pt_cmpR (opK K (o_eq hr.units)) (pv 1) pe_int (nomark _))
      (pss_one (ps_ret (pe_tup (pa_cons (pe_op op_add (pv 4) (pe_op op_mulY (pv 2) (pv 5))) (pa_cons (pv 5) (pa_cons (pv 6) pa_nil))))))
      pss_nil)
      (pss_cons (ps_if (pt_cmpR (opK K (o_eq hr.units)) (pv 1) pe_int (nomark _))
      (pss_one (ps_ret (pe_tup (pa_cons (pv 4) (pa_cons (pe_op op_mulY pe_int (pv 5)) (pa_cons (pv 6) pa_nil))))))
      pss_nil)
      (pss_cons (ps_if (pt_cmpR (opK K (o_eq hr.units)) (pv 1) pe_int (nomark _))
      (pss_one (ps_ret (pe_tup (pa_cons (pv 4) (pa_cons (pe_op op_fdivW (pv 5) pe_int) (pa_cons (pv 6) pa_nil))))))
      pss_nil)
      (pss_one (ps_ret (pe_tup (pa_cons (pv 4) (pa_cons (pv 5) (pa_cons (pv 3) pa_nil)))))))))), ?_⟩
    refine r_start (σ' := [some (.ref a), some (.int way), some (.int c), some (.int n), none, none, none]) rfl ?_
    walk_at "a"
    refine i_cases (fun h => ?_) (fun h => ?_)
    · walk_at "a"
      refine r_I hc ?_
      walk_at "a"
      refine q _ _ (by walk_at "sm") ?_
      subst h
      assumption
    walk_at "a"
    refine i_cases (fun h => ?_) (fun h => ?_)
    · walk_at "a"
      refine q _ _ (by walk_at "sm") ?_
      subst h
      assumption
    walk_at "a"
    refine i_cases (fun h => ?_) (fun h => ?_)
    · walk_at "a"
      refine q _ _ (by walk_at "sm") ?_
      subst h
      assumption
    walk_at "a"
    refine q _ _ (by walk_at "sm") ?_
    rename_i h0 h1 _ _ _ _ _
    simp only [stepB, stepW, stepM, if_neg h0, if_neg h1, if_neg h]
    rw [if_neg (by omega)]
    assumption
end
theorem use_behind {K : PySem.W.Frag} {H : Hp} {Q : VK} {E : XK} {a : Addr} {b w m way c n : Int} (hw : SqT K H a [.int b, .int w, .int m]) (hc : IntMulOk c w) (q : ∀ p H', Same H H' → H' p = some (.tup [.int (stepB b w way c), .int (stepW w way), .int (stepM m way n)]) → Q (.ref p) H') : sp_behind K [.ref a, .int way, .int c, .int n] H Q E := ⟨a, b, w, m, way, c, n, rfl, hw, hc, q⟩
theorem pow_up {w : Int} {i j : Nat} (h : w < 2 ^ i) (hij : i ≤ j) : w < 2 ^ j := by
  have : (2 : Int) ^ i ≤ 2 ^ j := by exact_mod_cast Nat.pow_le_pow_right (by decide) hij
  omega
theorem step_w {w way : Int} {i : Nat} (h0 : 0 ≤ w) (h : w < 2 ^ i) : 0 ≤ stepW w way ∧ stepW w way < 2 ^ (i + 1) := by
  have e : (2 : Int) ^ (i + 1) = 2 * 2 ^ i := by rw [Int.pow_succ]; omega
  unfold stepW
  split
  · omega
  · split <;> omega
section
variable {P : Program} {w : World} {K : PySem.W.Frag} {mg : Str → Option Value} {base : Heap}
theorem ok_law {f : Addr} {fd : FuncData} (B : Blt mg) (F : Fun K "law" "law" s_law f fd) (G_law_pot : Fn P w K mg base 1 "_law_pot" ["_law_cell"] (sp_pot K)) (G_law_far : Fn P w K mg base 2 "_law_far" ["_law_pot_here", "_law_most"] (sp_far K)) (G_law_nth : Fn P w K mg base 1 "_law_nth" ["_law_script", "_law_k"] (sp_nth K)) (G_law_take : Fn P w K mg base 1 "_law_take" ["_law_pot_here", "_law_many"] (sp_take K)) (G_law_behind : Fn P w K mg base 1 "_law_behind" ["_law_window", "_law_way", "_law_c", "_law_n"] (sp_behind K)) (G_law_step_right : Fn P w K mg base 2 "_law_step_right" ["_law_window", "_law_way", "_law_c", "_law_n"] (sp_step K)) (G_law_same : Fn P w K mg base 1 "_law_same" ["_law_told", "_law_due"] (sp_same K)) (G_narrowed : Fn P w K mg base 1 "narrowed" ["window"] (sp_narrowed K E_NotHalf)) (G_moved : Fn P w K mg base 1 "moved" ["window", "c"] (sp_moved K)) (G_widened : Fn P w K mg base 1 "widened" ["window"] (sp_widened K)) :
    FnOk P w K mg base (L2.CX P w) 3 f fd ["_law_script"] (sp_law K) := by
  refine fn_up (F.ok sc_law (fun vs H Q E h => ?_) (fun cdv A outer s H vs Q E hr h => ?_))
  · obtain ⟨a, ns, rfl, hS, hl, q⟩ := h
    rfl
  · obtain ⟨a, ns, rfl, hS, hl, q⟩ := h
    refine ⟨_, (pss_cons (ps_set (i := 1) sc_law.nd rfl (Or.inl rfl) (pe_fn G_law_pot hr (pa_cons (pe_fn G_law_nth hr (pa_cons (pv 0) (pa_cons pe_int pa_nil))) pa_nil)))
      (pss_cons (ps_set (i := 2) sc_law.nd rfl (Or.inl rfl) (pe_fn G_law_far hr (pa_cons (pv 1) (pa_cons (pe_powC (z := 100000000000000000000000000000000000000000000000000) (by decide +kernel) (by decide +kernel)) pa_nil))))
      (pss_cons (ps_set (i := 3) sc_law.nd rfl (Or.inl rfl) (pe_ix (ixK K ix_seq) (pe_lst (pa_cons (pe_op op_add pe_int (pe_fn G_law_take hr (pa_cons (pv 1) (pa_cons pe_int pa_nil)))) (pa_cons (pe_op op_add pe_int (pe_fn G_law_take hr (pa_cons (pv 1) (pa_cons (pe_powC (z := 100000000000000000000) (by decide +kernel) (by decide +kernel)) pa_nil)))) pa_nil))) (pe_callTy c_int1 rfl B.int (by decide +kernel) (pa_cons (pe_cmpR (opK K (o_eq hr.units)) (pe_fn G_law_take hr (pa_cons (pv 1) (pa_cons pe_int pa_nil))) pe_int (nomark _)) pa_nil)) (fun _ _ => rfl)))
      (pss_cons (ps_set (i := 4) sc_law.nd rfl (Or.inl rfl) (pe_tup (pa_cons (pv 2) (pa_cons (pv 3) (pa_cons (pe_op op_add pe_int (pe_fn G_law_take hr (pa_cons (pv 1) (pa_cons pe_int pa_nil)))) pa_nil)))))
      (pss_cons (ps_for PassesOwn.never rfl (pi_range2 rfl B.range (pa_cons pe_int (pa_cons (pe_callB (c_max2 rfl) rfl B.max (by decide +kernel) (pa_cons pe_int (pa_cons (pe_callB (c_min2 rfl) rfl B.min (by decide +kernel) (pa_cons pe_int (pa_cons (pe_callB (crK K c_len) rfl B.len (by decide +kernel) (pa_cons (pv 0) pa_nil)) pa_nil))) pa_nil))) pa_nil))) (pg_name (i := 5) sc_law.nd rfl (Or.inl rfl))
      (pss_cons (ps_set (i := 6) sc_law.nd rfl (Or.inl rfl) (pe_fn G_law_pot hr (pa_cons (pe_op op_add (pe_fn G_law_nth hr (pa_cons (pv 0) (pa_cons (pv 5) pa_nil))) (pe_op op_mulY (pe_op op_mulY pe_int (pv 5)) (pe_callTy c_int1 rfl B.int (by decide +kernel) (pa_cons (pe_cmpR op_lt (pe_callB c_abs rfl B.abs (by decide +kernel) (pa_cons (pe_fn G_law_nth hr (pa_cons (pv 0) (pa_cons (pv 5) pa_nil))) pa_nil)) (pe_powC (z := 1000000000000000000) (by decide +kernel) (by decide +kernel)) (nomark _)) pa_nil)))) pa_nil)))
      (pss_cons (ps_set (i := 7) sc_law.nd rfl (Or.inl rfl) (pe_fn G_law_take hr (pa_cons (pv 6) (pa_cons pe_int pa_nil))))
      (pss_cons (ps_set (i := 8) sc_law.nd rfl (Or.inl rfl) (pe_fn G_law_far hr (pa_cons (pv 6) (pa_cons (pe_powC (z := 100000000000000000000) (by decide +kernel) (by decide +kernel)) pa_nil))))
      (pss_cons (ps_set (i := 9) sc_law.nd rfl (Or.inl rfl) (pe_op op_add pe_int (pe_fn G_law_take hr (pa_cons (pv 6) (pa_cons pe_int pa_nil)))))
      (Evl.pss_cut (ps_if (PW.pt (pw_and (pt_cmpR (opK K (o_eq hr.units)) (pv 7) pe_int (nomark _)) (pw_and1 (pt_cmpR (opK K (o_eq hr.units)) (pe_op op_mod (pe_ix (ixK K ix_seq) (pv 4) pe_int (fun _ _ => rfl)) pe_int) pe_int (nomark _)))))
      (pss_one (ps_set (i := 7) sc_law.nd rfl (Or.inl rfl) pe_int))
      pss_nil)
      (pss_cons (ps_if (PW.pt (pw_or (pt_not (pt_val (pe_fn G_law_step_right hr (pa_cons (pv 4) (pa_cons (pv 7) (pa_cons (pv 8) (pa_cons (pv 9) pa_nil))))))) (pw_or1 (pt_not (pt_val (pe_fn G_law_step_right hr (pa_cons (pv 4) (pa_cons (pv 7) (pa_cons (pv 8) (pa_cons (pv 9) pa_nil))))))))))
      (pss_one (ps_ret pe_bl))
      pss_nil)
      (pss_cons (ps_set (i := 4) sc_law.nd rfl (Or.inl rfl) (pe_fn G_law_behind hr (pa_cons (pv 4) (pa_cons (pv 7) (pa_cons (pv 8) (pa_cons (pv 9) pa_nil))))))
      (pss_one (ps_if (PW.pt (pw_or (pt_not (pt_val (pe_fn G_law_same hr (pa_cons (pe_fn G_narrowed hr (pa_cons (pe_fn G_widened hr (pa_cons (pv 4) pa_nil)) pa_nil)) (pa_cons (pv 4) pa_nil))))) (pw_or1 (pt_not (pt_val (pe_fn G_law_same hr (pa_cons (pe_fn G_moved hr (pa_cons (pe_fn G_moved hr (pa_cons (pv 4) (pa_cons (pv 8) pa_nil))) (pa_cons (pe_un un_neg (pv 8)) pa_nil))) (pa_cons (pv 4) pa_nil))))))))
      (pss_one (ps_ret pe_bl))
      pss_nil))))))))))
      (pss_one (ps_ret pe_bl))))))), ?_⟩
    refine r_start (σ' := [some (.ref a), none, none, none, none, none, none, none, none, none]) rfl ?_
    have hS0 := hS.1
    walk_at "a"
    rename_i p1 H1 n1 s1 hp1 bb H2 k2 p2 b0 b1 r1 H3 k3 p3 r10 r11 r2 H4 k4 p4 r20 r21 l5 H5 n5 s5 e5 r6 H6 k6 p6 r60 r61 z hz r7 H7 k7 p7 r70 r71 wn H8 n8 s8 e8
    have te8 : TExt H H8 := by walk_at "te"
    have hS8 := (hS.text te8).1
    have hz8 : z < (2 : Int) ^ (68 + 0) := by
      have e : (2 : Int) ^ (68 + 0) = 295147905179352825856 := by decide
      rw [e]
      omega
    walk_at "a"
    refine for_wk wk_rng (fun i σ H' => ∃ wn b w m, (∃ v1 v2 v3 v4 v5 v6 v7 v8 : Option V, σ = [some (.ref a), v1, v2, v3, some (.ref wn), v4, v5, v6, v7, v8]) ∧ TExt H H' ∧ H' wn = some (.tup [.int b, .int w, .int m]) ∧ 0 ≤ w ∧ w < 2 ^ (68 + i))
      ⟨_, _, _, _, ⟨_, _, _, _, _, _, _, _, rfl⟩, te8, e8, by omega, hz8⟩ (fun _ _ _ _ _ => trivial) ?_ ?_
    · rintro i x σ H9 H9' hi ⟨wn, b, w, m, ⟨v1, v2, v3, v4, v5, v6, v7, v8, rfl⟩, te9, e9, w0, w1⟩ ⟨rfl, rfl⟩
      have hS9 := (hS.text te9).1
      have w2 : w < 2 ^ 90 := pow_up w1 (by omega)
      walk_at "a"
      rename_i po Ho no so ho way Hw kw pw w00 w01 c Hc kc pc c0 c1 rn Hn kn pn rn0 rn1
      have hwn : SqT K Hn wn [.int b, .int w, .int m] := by
        have h1 : SqT K H9' wn [.int b, .int w, .int m] := SqT.of e9
        walk_at "st"
      have hc : IntMulOk c w := mul_b (n := 256) (m := 256) (by omega) (by omega)
      have hc2 : IntMulOk (-c) w := mul_b (n := 256) (m := 256) (by omega) (by omega)
      refine r_cut (fun σ' H' => H' = Hn ∧ ∃ way', σ' = [some (.ref a), v1, v2, v3, some (.ref wn), some (.int (1 + (i : Int))), some (.ref po), some (.int way'), some (.int c), some (.int (1 + rn))] ∧ (way' = 2 → w % 2 = 0)) ?_ ?_
      · walk_at "a"
        refine i_cases (fun h => ?_) (fun h => ?_)
        · walk_at "a"
          refine i_cases (fun h2 => ?_) (fun h2 => ?_)
          · walk_at "a"
            exact ⟨rfl, 1, rfl, by omega⟩
          · walk_at "a"
            exact ⟨rfl, _, rfl, by omega⟩
        · walk_at "a"
          exact ⟨rfl, _, rfl, by omega⟩
      · rintro σ' H' ⟨rfl, way', rfl, he⟩
        walk_at "a"
        refine use_step hwn he hc (fun H10 s10 => ?_)
        have hwn10 := SqT.text (TExt.of_same s10) hwn
        walk_at "a"
        refine use_step hwn10 he hc (fun H11 s11 => ?_)
        have hwn11 := SqT.text (TExt.of_same s11) hwn10
        walk_at "a"
        refine use_behind hwn11 hc (fun q12 H12 s12 e12 => ?_)
        obtain ⟨w3, w4⟩ := step_w (way := way') w0 w1
        have w5 : stepW w way' < 2 ^ 100 := pow_up w4 (by omega)
        have hc3 : IntMulOk c (stepW w way') := mul_b (n := 256) (m := 256) (by omega) (by omega)
        have hc4 : IntMulOk (-c) (stepW w way') := mul_b (n := 256) (m := 256) (by omega) (by omega)
        generalize stepB b w way' c = b', stepW w way' = w', stepM m way' (1 + rn) = m' at *
        walk_at "a"
        rename_i p13 H13 s13 e13 p14 H14 s14 e14
        have e2 : 2 * w' / 2 = w' := by omega
        rw [e2] at e14
        walk_at "a"
        rename_i H14b s14b p15 H15 s15 e15 p16 H16 s16 e16
        have e3 : b' + c * w' + -c * w' = b' := by rw [Int.neg_mul]; omega
        rw [e3] at e16
        walk_at "a"
        rename_i H17 s17
        refine ⟨q12, b', w', m', ⟨_, _, _, _, _, _, _, _, rfl⟩, ?_, ?_, w3, ?_⟩
        · walk_at "te"
        · walk_at "lk"
        · rw [Nat.add_assoc] at w4
          exact w4
    · rintro σ H9 ⟨wn, b, w, m, ⟨v1, v2, v3, v4, v5, v6, v7, v8, rfl⟩, te9, e9, w0, w1⟩
      walk_at "a"
      exact q _
end
theorem all_mk {l : PySem.W.OpenLaw} {w : World} {K : PySem.W.Frag} {h : Heap} {mg : Str → Option Value} {fa : Addr} (X : K.In h) (G : h.Ns mainGlobals mg) (hfa : mg "law" = some (.ref fa))
    {od_moved an_moved : Option Addr} {sl_moved : Array (Option Value)} {f_moved : Addr} {oc_moved kV_moved dc_moved pm_moved cd_moved ct_moved : Value}
    (a_moved : PySem.W.nsIn K mainGlobals "moved" = some (some (.ref f_moved)))
    (l_moved : K.lookup f_moved = some ⟨oc_moved, od_moved, .func (PySem.W.fnOf "moved" "moved" (defArgs s_moved) (defBody s_moved) (defScope s_moved) .none kV_moved dc_moved pm_moved an_moved cd_moved ct_moved), sl_moved⟩)
    (c_moved : PySem.W.codeIn K cd_moved "moved" = true) (k_moved : PySem.W.keepIn K (.ref f_moved) = true)
    {od_widened an_widened : Option Addr} {sl_widened : Array (Option Value)} {f_widened : Addr} {oc_widened kV_widened dc_widened pm_widened cd_widened ct_widened : Value}
    (a_widened : PySem.W.nsIn K mainGlobals "widened" = some (some (.ref f_widened)))
    (l_widened : K.lookup f_widened = some ⟨oc_widened, od_widened, .func (PySem.W.fnOf "widened" "widened" (defArgs s_widened) (defBody s_widened) (defScope s_widened) .none kV_widened dc_widened pm_widened an_widened cd_widened ct_widened), sl_widened⟩)
    (c_widened : PySem.W.codeIn K cd_widened "widened" = true) (k_widened : PySem.W.keepIn K (.ref f_widened) = true)
    {od_narrowed an_narrowed : Option Addr} {sl_narrowed : Array (Option Value)} {f_narrowed : Addr} {oc_narrowed kV_narrowed dc_narrowed pm_narrowed cd_narrowed ct_narrowed : Value}
    (a_narrowed : PySem.W.nsIn K mainGlobals "narrowed" = some (some (.ref f_narrowed)))
    (l_narrowed : K.lookup f_narrowed = some ⟨oc_narrowed, od_narrowed, .func (PySem.W.fnOf "narrowed" "narrowed" (defArgs s_narrowed) (defBody s_narrowed) (defScope s_narrowed) .none kV_narrowed dc_narrowed pm_narrowed an_narrowed cd_narrowed ct_narrowed), sl_narrowed⟩)
    (c_narrowed : PySem.W.codeIn K cd_narrowed "narrowed" = true) (k_narrowed : PySem.W.keepIn K (.ref f_narrowed) = true)
    {od_with_columns an_with_columns : Option Addr} {sl_with_columns : Array (Option Value)} {f_with_columns : Addr} {oc_with_columns kV_with_columns dc_with_columns pm_with_columns cd_with_columns ct_with_columns : Value}
    (a_with_columns : PySem.W.nsIn K mainGlobals "with_columns" = some (some (.ref f_with_columns)))
    (l_with_columns : K.lookup f_with_columns = some ⟨oc_with_columns, od_with_columns, .func (PySem.W.fnOf "with_columns" "with_columns" (defArgs s_with_columns) (defBody s_with_columns) (defScope s_with_columns) .none kV_with_columns dc_with_columns pm_with_columns an_with_columns cd_with_columns ct_with_columns), sl_with_columns⟩)
    (c_with_columns : PySem.W.codeIn K cd_with_columns "with_columns" = true) (k_with_columns : PySem.W.keepIn K (.ref f_with_columns) = true)
    {od_law_nth an_law_nth : Option Addr} {sl_law_nth : Array (Option Value)} {f_law_nth : Addr} {oc_law_nth kV_law_nth dc_law_nth pm_law_nth cd_law_nth ct_law_nth : Value}
    (a_law_nth : PySem.W.nsIn K mainGlobals "_law_nth" = some (some (.ref f_law_nth)))
    (l_law_nth : K.lookup f_law_nth = some ⟨oc_law_nth, od_law_nth, .func (PySem.W.fnOf "_law_nth" "_law_nth" (defArgs s_law_nth) (defBody s_law_nth) (defScope s_law_nth) .none kV_law_nth dc_law_nth pm_law_nth an_law_nth cd_law_nth ct_law_nth), sl_law_nth⟩)
    (c_law_nth : PySem.W.codeIn K cd_law_nth "_law_nth" = true) (k_law_nth : PySem.W.keepIn K (.ref f_law_nth) = true)
    {od_law_pot an_law_pot : Option Addr} {sl_law_pot : Array (Option Value)} {f_law_pot : Addr} {oc_law_pot kV_law_pot dc_law_pot pm_law_pot cd_law_pot ct_law_pot : Value}
    (a_law_pot : PySem.W.nsIn K mainGlobals "_law_pot" = some (some (.ref f_law_pot)))
    (l_law_pot : K.lookup f_law_pot = some ⟨oc_law_pot, od_law_pot, .func (PySem.W.fnOf "_law_pot" "_law_pot" (defArgs s_law_pot) (defBody s_law_pot) (defScope s_law_pot) .none kV_law_pot dc_law_pot pm_law_pot an_law_pot cd_law_pot ct_law_pot), sl_law_pot⟩)
    (c_law_pot : PySem.W.codeIn K cd_law_pot "_law_pot" = true) (k_law_pot : PySem.W.keepIn K (.ref f_law_pot) = true)
    {od_law_take an_law_take : Option Addr} {sl_law_take : Array (Option Value)} {f_law_take : Addr} {oc_law_take kV_law_take dc_law_take pm_law_take cd_law_take ct_law_take : Value}
    (a_law_take : PySem.W.nsIn K mainGlobals "_law_take" = some (some (.ref f_law_take)))
    (l_law_take : K.lookup f_law_take = some ⟨oc_law_take, od_law_take, .func (PySem.W.fnOf "_law_take" "_law_take" (defArgs s_law_take) (defBody s_law_take) (defScope s_law_take) .none kV_law_take dc_law_take pm_law_take an_law_take cd_law_take ct_law_take), sl_law_take⟩)
    (c_law_take : PySem.W.codeIn K cd_law_take "_law_take" = true) (k_law_take : PySem.W.keepIn K (.ref f_law_take) = true)
    {od_law_far an_law_far : Option Addr} {sl_law_far : Array (Option Value)} {f_law_far : Addr} {oc_law_far kV_law_far dc_law_far pm_law_far cd_law_far ct_law_far : Value}
    (a_law_far : PySem.W.nsIn K mainGlobals "_law_far" = some (some (.ref f_law_far)))
    (l_law_far : K.lookup f_law_far = some ⟨oc_law_far, od_law_far, .func (PySem.W.fnOf "_law_far" "_law_far" (defArgs s_law_far) (defBody s_law_far) (defScope s_law_far) .none kV_law_far dc_law_far pm_law_far an_law_far cd_law_far ct_law_far), sl_law_far⟩)
    (c_law_far : PySem.W.codeIn K cd_law_far "_law_far" = true) (k_law_far : PySem.W.keepIn K (.ref f_law_far) = true)
    {od_law_same an_law_same : Option Addr} {sl_law_same : Array (Option Value)} {f_law_same : Addr} {oc_law_same kV_law_same dc_law_same pm_law_same cd_law_same ct_law_same : Value}
    (a_law_same : PySem.W.nsIn K mainGlobals "_law_same" = some (some (.ref f_law_same)))
    (l_law_same : K.lookup f_law_same = some ⟨oc_law_same, od_law_same, .func (PySem.W.fnOf "_law_same" "_law_same" (defArgs s_law_same) (defBody s_law_same) (defScope s_law_same) .none kV_law_same dc_law_same pm_law_same an_law_same cd_law_same ct_law_same), sl_law_same⟩)
    (c_law_same : PySem.W.codeIn K cd_law_same "_law_same" = true) (k_law_same : PySem.W.keepIn K (.ref f_law_same) = true)
    {od_law_step_right an_law_step_right : Option Addr} {sl_law_step_right : Array (Option Value)} {f_law_step_right : Addr} {oc_law_step_right kV_law_step_right dc_law_step_right pm_law_step_right cd_law_step_right ct_law_step_right : Value}
    (a_law_step_right : PySem.W.nsIn K mainGlobals "_law_step_right" = some (some (.ref f_law_step_right)))
    (l_law_step_right : K.lookup f_law_step_right = some ⟨oc_law_step_right, od_law_step_right, .func (PySem.W.fnOf "_law_step_right" "_law_step_right" (defArgs s_law_step_right) (defBody s_law_step_right) (defScope s_law_step_right) .none kV_law_step_right dc_law_step_right pm_law_step_right an_law_step_right cd_law_step_right ct_law_step_right), sl_law_step_right⟩)
    (c_law_step_right : PySem.W.codeIn K cd_law_step_right "_law_step_right" = true) (k_law_step_right : PySem.W.keepIn K (.ref f_law_step_right) = true)
    {od_law_behind an_law_behind : Option Addr} {sl_law_behind : Array (Option Value)} {f_law_behind : Addr} {oc_law_behind kV_law_behind dc_law_behind pm_law_behind cd_law_behind ct_law_behind : Value}
    (a_law_behind : PySem.W.nsIn K mainGlobals "_law_behind" = some (some (.ref f_law_behind)))
    (l_law_behind : K.lookup f_law_behind = some ⟨oc_law_behind, od_law_behind, .func (PySem.W.fnOf "_law_behind" "_law_behind" (defArgs s_law_behind) (defBody s_law_behind) (defScope s_law_behind) .none kV_law_behind dc_law_behind pm_law_behind an_law_behind cd_law_behind ct_law_behind), sl_law_behind⟩)
    (c_law_behind : PySem.W.codeIn K cd_law_behind "_law_behind" = true) (k_law_behind : PySem.W.keepIn K (.ref f_law_behind) = true)
    {od_law an_law : Option Addr} {sl_law : Array (Option Value)} {f_law : Addr} {oc_law kV_law dc_law pm_law cd_law ct_law : Value}
    (a_law : PySem.W.nsIn K mainGlobals "law" = some (some (.ref f_law)))
    (l_law : K.lookup f_law = some ⟨oc_law, od_law, .func (PySem.W.fnOf "law" "law" (defArgs s_law) (defBody s_law) (defScope s_law) .none kV_law dc_law pm_law an_law cd_law ct_law), sl_law⟩)
    (c_law : PySem.W.codeIn K cd_law "law" = true) (k_law : PySem.W.keepIn K (.ref f_law) = true)
    (z_isinstance : PySem.W.nsIn K mainGlobals "isinstance" = some none)
    (z_len : PySem.W.nsIn K mainGlobals "len" = some none)
    (z_range : PySem.W.nsIn K mainGlobals "range" = some none)
    (z_int : PySem.W.nsIn K mainGlobals "int" = some none)
    (z_bool : PySem.W.nsIn K mainGlobals "bool" = some none)
    (z_str : PySem.W.nsIn K mainGlobals "str" = some none)
    (z_tuple : PySem.W.nsIn K mainGlobals "tuple" = some none)
    (z_list : PySem.W.nsIn K mainGlobals "list" = some none)
    (z_set : PySem.W.nsIn K mainGlobals "set" = some none)
    (z_dict : PySem.W.nsIn K mainGlobals "dict" = some none)
    (z_abs : PySem.W.nsIn K mainGlobals "abs" = some none)
    (z_all : PySem.W.nsIn K mainGlobals "all" = some none)
    (z_any : PySem.W.nsIn K mainGlobals "any" = some none)
    (z_max : PySem.W.nsIn K mainGlobals "max" = some none)
    (z_min : PySem.W.nsIn K mainGlobals "min" = some none)
    (z_sum : PySem.W.nsIn K mainGlobals "sum" = some none)
    (z_sorted : PySem.W.nsIn K mainGlobals "sorted" = some none)
    (z_zip : PySem.W.nsIn K mainGlobals "zip" = some none)
    (z_divmod : PySem.W.nsIn K mainGlobals "divmod" = some none)
    (z_repr : PySem.W.nsIn K mainGlobals "repr" = some none)
    (z_reversed : PySem.W.nsIn K mainGlobals "reversed" = some none)
    (z_ValueError : PySem.W.nsIn K mainGlobals "ValueError" = some none)
    {E_FourPointsError : Addr} (xg_FourPointsError : PySem.W.nsIn K mainGlobals "FourPointsError" = some (some (.ref E_FourPointsError))) (xe_FourPointsError : PySem.W.excIn K E_FourPointsError bmV "ValueError.__new__" = true) (xk_FourPointsError : PySem.W.keepIn K (.ref E_FourPointsError) = true) (xb_FourPointsError : PySem.W.subIn K (.ref E_FourPointsError) (.type "BaseException") = some true) (xt_FourPointsError : PySem.W.typeIn K (.ref E_FourPointsError) = some (.type "type"))
    {E_NotHalf : Addr} (xg_NotHalf : PySem.W.nsIn K mainGlobals "NotHalf" = some (some (.ref E_NotHalf))) (xe_NotHalf : PySem.W.excIn K E_NotHalf bmV "ValueError.__new__" = true) (xk_NotHalf : PySem.W.keepIn K (.ref E_NotHalf) = true) (xb_NotHalf : PySem.W.subIn K (.ref E_NotHalf) (.type "BaseException") = some true) (xt_NotHalf : PySem.W.typeIn K (.ref E_NotHalf) = some (.type "type"))
    : ∃ fd : FuncData, (∀ (s : Shared) (v : Value), BindsTo s fd ⟨[v], []⟩ [("_law_script", v)]) ∧ ∀ base : Heap, K.In base → base.Ns mainGlobals mg → FnOk l.prog w K mg base (L2.CX l.prog w) 3 fa fd ["_law_script"] (sp_law K) := by
  have e := hfa.symm.trans (PySem.W.mg_of X G a_law)
  cases e
  have B : Blt mg := ⟨PySem.W.mg_none_of X G z_isinstance, PySem.W.mg_none_of X G z_len, PySem.W.mg_none_of X G z_range, PySem.W.mg_none_of X G z_int, PySem.W.mg_none_of X G z_bool, PySem.W.mg_none_of X G z_str, PySem.W.mg_none_of X G z_tuple, PySem.W.mg_none_of X G z_list, PySem.W.mg_none_of X G z_set, PySem.W.mg_none_of X G z_dict, PySem.W.mg_none_of X G z_abs, PySem.W.mg_none_of X G z_all, PySem.W.mg_none_of X G z_any, PySem.W.mg_none_of X G z_max, PySem.W.mg_none_of X G z_min, PySem.W.mg_none_of X G z_sum, PySem.W.mg_none_of X G z_sorted, PySem.W.mg_none_of X G z_zip, PySem.W.mg_none_of X G z_divmod, PySem.W.mg_none_of X G z_repr, PySem.W.mg_none_of X G z_reversed, PySem.W.mg_none_of X G z_ValueError⟩
  have F_moved := fun_mk (st := s_moved) l_moved c_moved k_moved
  have D_moved : Def K mg "moved" s_moved ["window", "c"] := def_mk F_moved (PySem.W.mg_of X G a_moved) (F_moved.binds (ps := ["window", "c"]) fun _ _ _ _ _ _ us hl => match us, hl with | [_, _], _ => rfl)
  have F_widened := fun_mk (st := s_widened) l_widened c_widened k_widened
  have D_widened : Def K mg "widened" s_widened ["window"] := def_mk F_widened (PySem.W.mg_of X G a_widened) (F_widened.binds (ps := ["window"]) fun _ _ _ _ _ _ us hl => match us, hl with | [_], _ => rfl)
  have F_narrowed := fun_mk (st := s_narrowed) l_narrowed c_narrowed k_narrowed
  have D_narrowed : Def K mg "narrowed" s_narrowed ["window"] := def_mk F_narrowed (PySem.W.mg_of X G a_narrowed) (F_narrowed.binds (ps := ["window"]) fun _ _ _ _ _ _ us hl => match us, hl with | [_], _ => rfl)
  have F_with_columns := fun_mk (st := s_with_columns) l_with_columns c_with_columns k_with_columns
  have D_with_columns : Def K mg "with_columns" s_with_columns ["window", "n"] := def_mk F_with_columns (PySem.W.mg_of X G a_with_columns) (F_with_columns.binds (ps := ["window", "n"]) fun _ _ _ _ _ _ us hl => match us, hl with | [_, _], _ => rfl)
  have F_law_nth := fun_mk (st := s_law_nth) l_law_nth c_law_nth k_law_nth
  have D_law_nth : Def K mg "_law_nth" s_law_nth ["_law_script", "_law_k"] := def_mk F_law_nth (PySem.W.mg_of X G a_law_nth) (F_law_nth.binds (ps := ["_law_script", "_law_k"]) fun _ _ _ _ _ _ us hl => match us, hl with | [_, _], _ => rfl)
  have F_law_pot := fun_mk (st := s_law_pot) l_law_pot c_law_pot k_law_pot
  have D_law_pot : Def K mg "_law_pot" s_law_pot ["_law_cell"] := def_mk F_law_pot (PySem.W.mg_of X G a_law_pot) (F_law_pot.binds (ps := ["_law_cell"]) fun _ _ _ _ _ _ us hl => match us, hl with | [_], _ => rfl)
  have F_law_take := fun_mk (st := s_law_take) l_law_take c_law_take k_law_take
  have D_law_take : Def K mg "_law_take" s_law_take ["_law_pot_here", "_law_many"] := def_mk F_law_take (PySem.W.mg_of X G a_law_take) (F_law_take.binds (ps := ["_law_pot_here", "_law_many"]) fun _ _ _ _ _ _ us hl => match us, hl with | [_, _], _ => rfl)
  have F_law_far := fun_mk (st := s_law_far) l_law_far c_law_far k_law_far
  have D_law_far : Def K mg "_law_far" s_law_far ["_law_pot_here", "_law_most"] := def_mk F_law_far (PySem.W.mg_of X G a_law_far) (F_law_far.binds (ps := ["_law_pot_here", "_law_most"]) fun _ _ _ _ _ _ us hl => match us, hl with | [_, _], _ => rfl)
  have F_law_same := fun_mk (st := s_law_same) l_law_same c_law_same k_law_same
  have D_law_same : Def K mg "_law_same" s_law_same ["_law_told", "_law_due"] := def_mk F_law_same (PySem.W.mg_of X G a_law_same) (F_law_same.binds (ps := ["_law_told", "_law_due"]) fun _ _ _ _ _ _ us hl => match us, hl with | [_, _], _ => rfl)
  have F_law_step_right := fun_mk (st := s_law_step_right) l_law_step_right c_law_step_right k_law_step_right
  have D_law_step_right : Def K mg "_law_step_right" s_law_step_right ["_law_window", "_law_way", "_law_c", "_law_n"] := def_mk F_law_step_right (PySem.W.mg_of X G a_law_step_right) (F_law_step_right.binds (ps := ["_law_window", "_law_way", "_law_c", "_law_n"]) fun _ _ _ _ _ _ us hl => match us, hl with | [_, _, _, _], _ => rfl)
  have F_law_behind := fun_mk (st := s_law_behind) l_law_behind c_law_behind k_law_behind
  have D_law_behind : Def K mg "_law_behind" s_law_behind ["_law_window", "_law_way", "_law_c", "_law_n"] := def_mk F_law_behind (PySem.W.mg_of X G a_law_behind) (F_law_behind.binds (ps := ["_law_window", "_law_way", "_law_c", "_law_n"]) fun _ _ _ _ _ _ us hl => match us, hl with | [_, _, _, _], _ => rfl)
  have F_law := fun_mk (st := s_law) l_law c_law k_law
  have D_law : Def K mg "law" s_law ["_law_script"] := def_mk F_law (PySem.W.mg_of X G a_law) (F_law.binds (ps := ["_law_script"]) fun _ _ _ _ _ _ us hl => match us, hl with | [_], _ => rfl)
  have X_FourPointsError : Exc K mg "FourPointsError" E_FourPointsError := ⟨PySem.W.mg_of X G xg_FourPointsError, xe_FourPointsError, xk_FourPointsError, xb_FourPointsError, xt_FourPointsError⟩
  have X_NotHalf : Exc K mg "NotHalf" E_NotHalf := ⟨PySem.W.mg_of X G xg_NotHalf, xe_NotHalf, xk_NotHalf, xb_NotHalf, xt_NotHalf⟩
  refine ⟨PySem.W.fnOf "law" "law" (defArgs s_law) (defBody s_law) (defScope s_law) .none kV_law dc_law pm_law an_law cd_law ct_law, fun s v => .of_eq rfl, fun base _ _ => ?_⟩
  have G_law_nth := fun base => ok_law_nth (P := l.prog) (w := w) (base := base) B D_law_nth
  have G_law_pot := fun base => ok_law_pot (P := l.prog) (w := w) (base := base) B D_law_pot
  have G_law_take := fun base => ok_law_take (P := l.prog) (w := w) (base := base) B D_law_take
  have G_moved := fun base => ok_moved (P := l.prog) (w := w) (base := base) B D_moved
  have G_widened := fun base => ok_widened (P := l.prog) (w := w) (base := base) B D_widened
  have G_narrowed := fun base => ok_narrowed (P := l.prog) (w := w) (base := base) B D_narrowed X_NotHalf
  have G_with_columns := fun base => ok_with_columns (P := l.prog) (w := w) (base := base) B D_with_columns
  have G_law_far := fun base => ok_law_far (P := l.prog) (w := w) (base := base) B D_law_far (G_law_take base)
  have G_law_same := fun base => ok_law_same (P := l.prog) (w := w) (base := base) B D_law_same
  have G_law_step_right := fun base => ok_law_step_right (P := l.prog) (w := w) (base := base) B D_law_step_right (G_law_same base) (G_with_columns base) (G_moved base) (G_widened base) (G_narrowed base)
  have G_law_behind := fun base => ok_law_behind (P := l.prog) (w := w) (base := base) B D_law_behind
  exact ok_law B F_law (G_law_pot base) (G_law_far base) (G_law_nth base) (G_law_take base) (G_law_behind base) (G_law_step_right base) (G_law_same base) (G_narrowed base) (G_moved base) (G_widened base)

open PySem.W in
theorem walk {l : PySem.W.OpenLaw} {q : Program} {loose : List Str} {XP : (Str → Option Value) → Heap → Prop} {YP : World → Heap → Prop} {d : DefRec} {K : Params → PySem.W.Frag} (hn : l.most = some 63) (hdf : d.params.defaults = [])
    (hY : ∀ (w : World) (h : Heap), YP w h → (K w.params).In h)
    (F : ∀ (w : World) (mg : Str → Option Value) (fa : Addr) (h : Heap), (K w.params).In h → h.Ns mainGlobals mg → mg d.name = some (.ref fa) →
      ∃ fd : FuncData, (∀ (s : Shared) (u : Value), BindsTo s fd ⟨[u], []⟩ [("_law_script", u)]) ∧ ∀ base : Heap, (K w.params).In base → base.Ns mainGlobals mg → FnOk l.prog w (K w.params) mg base (L2.CX l.prog w) 3 fa fd ["_law_script"] (sp_law (K w.params))) :
    PySem.W.WalkO q loose XP YP l.row.toRowW d [] (fun f vs => PySem.call f vs) :=
  L2.walk_ofB (n := 63) (k := 3) (x := "_law_script") (CX := fun w => L2.CX l.prog w) (sp := fun w => sp_law (K w.params)) hn (by decide) hdf ⟨rfl, by decide, by decide⟩ hY F (fun _ H a ns hl hb hO hS => sp_law_top hl hb hO hS)
    fun _ _ _ _ _ z => cx_none z
end Lk22
open PySem PySem.W PyProof.Rows
set_option maxRecDepth 100000 in
set_option maxHeartbeats 0 in
theorem PySem.Challenge.cw_fourpoints_k22_steps_holds : PySem.Challenge.rw_fourpoints_k22_steps.Holds := by
  w_on; o_law; k_head; (case hw => w_witness2)
  k_fill
  refine Lk22.walk (l := PySem.Challenge.rw_fourpoints_k22_steps) rfl rfl (fun w h Y => PySem.W.kIn_of Y) ?F
  case F =>
    intro w mg fa h KX G hmg
    refine' Lk22.all_mk KX G hmg ?a_moved ?l_moved ?c_moved ?k_moved ?a_widened ?l_widened ?c_widened ?k_widened ?a_narrowed ?l_narrowed ?c_narrowed ?k_narrowed ?a_with_columns ?l_with_columns ?c_with_columns ?k_with_columns ?a_law_nth ?l_law_nth ?c_law_nth ?k_law_nth ?a_law_pot ?l_law_pot ?c_law_pot ?k_law_pot ?a_law_take ?l_law_take ?c_law_take ?k_law_take ?a_law_far ?l_law_far ?c_law_far ?k_law_far ?a_law_same ?l_law_same ?c_law_same ?k_law_same ?a_law_step_right ?l_law_step_right ?c_law_step_right ?k_law_step_right ?a_law_behind ?l_law_behind ?c_law_behind ?k_law_behind ?a_law ?l_law ?c_law ?k_law ?z_isinstance ?z_len ?z_range ?z_int ?z_bool ?z_str ?z_tuple ?z_list ?z_set ?z_dict ?z_abs ?z_all ?z_any ?z_max ?z_min ?z_sum ?z_sorted ?z_zip ?z_divmod ?z_repr ?z_reversed ?z_ValueError ?xg_FourPointsError ?xe_FourPointsError ?xk_FourPointsError ?xb_FourPointsError ?xt_FourPointsError ?xg_NotHalf ?xe_NotHalf ?xk_NotHalf ?xb_NotHalf ?xt_NotHalf
    (case a_moved => k_is)
    (case l_moved => k_is)
    (case c_moved => k_is)
    (case k_moved => k_is)
    (case a_widened => k_is)
    (case l_widened => k_is)
    (case c_widened => k_is)
    (case k_widened => k_is)
    (case a_narrowed => k_is)
    (case l_narrowed => k_is)
    (case c_narrowed => k_is)
    (case k_narrowed => k_is)
    (case a_with_columns => k_is)
    (case l_with_columns => k_is)
    (case c_with_columns => k_is)
    (case k_with_columns => k_is)
    (case a_law_nth => k_is)
    (case l_law_nth => k_is)
    (case c_law_nth => k_is)
    (case k_law_nth => k_is)
    (case a_law_pot => k_is)
    (case l_law_pot => k_is)
    (case c_law_pot => k_is)
    (case k_law_pot => k_is)
    (case a_law_take => k_is)
    (case l_law_take => k_is)
    (case c_law_take => k_is)
    (case k_law_take => k_is)
    (case a_law_far => k_is)
    (case l_law_far => k_is)
    (case c_law_far => k_is)
    (case k_law_far => k_is)
    (case a_law_same => k_is)
    (case l_law_same => k_is)
    (case c_law_same => k_is)
    (case k_law_same => k_is)
    (case a_law_step_right => k_is)
    (case l_law_step_right => k_is)
    (case c_law_step_right => k_is)
    (case k_law_step_right => k_is)
    (case a_law_behind => k_is)
    (case l_law_behind => k_is)
    (case c_law_behind => k_is)
    (case k_law_behind => k_is)
    (case a_law => k_is)
    (case l_law => k_is)
    (case c_law => k_is)
    (case k_law => k_is)
    (case z_isinstance => k_is)
    (case z_len => k_is)
    (case z_range => k_is)
    (case z_int => k_is)
    (case z_bool => k_is)
    (case z_str => k_is)
    (case z_tuple => k_is)
    (case z_list => k_is)
    (case z_set => k_is)
    (case z_dict => k_is)
    (case z_abs => k_is)
    (case z_all => k_is)
    (case z_any => k_is)
    (case z_max => k_is)
    (case z_min => k_is)
    (case z_sum => k_is)
    (case z_sorted => k_is)
    (case z_zip => k_is)
    (case z_divmod => k_is)
    (case z_repr => k_is)
    (case z_reversed => k_is)
    (case z_ValueError => k_is)
    (case xg_FourPointsError => k_is)
    (case xe_FourPointsError => k_exc)
    (case xk_FourPointsError => k_is)
    (case xb_FourPointsError => k_is)
    (case xt_FourPointsError => k_is)
    (case xg_NotHalf => k_is)
    (case xe_NotHalf => k_exc)
    (case xk_NotHalf => k_is)
    (case xb_NotHalf => k_is)
    (case xt_NotHalf => k_is)
