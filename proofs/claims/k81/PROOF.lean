import PyProof.Rows.All
import Wide.All
import OpenK.AllK
import Wide.FinOn
import HandS.ForMost
import HandS.ForExc
import HandS.Wide
import HandS.EndBits
import HandS.IsInst
import HandS.TupLe
import HandS.TupAny
import HandS.Zip
import HandS.Flow
import HandS.Evl
import HandS.RevRange
import HandS.WideBits
import HandS.TryOnly
import HandS.Style
import HandS.SortInts
import HandS.More
import PyProof.CallFns
import HandS.Defaults
import HandS.MakeKw
import HandS.MakeKwOnly
import HandS.DictTup
import HandS.TupMul
import HandS.SortRule
import HandS.Finally
import HandS.ExcIs
import HandS.WordsExc
import HandS.DictEq
import HandS.Rev
import HandS.HotCalls
import KE.KDictPairs
import HandS.SetKeys
import HandS.TupSets
import PyProof.StrOps2
import KE.IntTextLaws
import PySem.Challenge.RW_fourpoints_k81_stores_by_names
set_option Elab.async false
set_option linter.all false
set_option maxRecDepth 100000
set_option maxHeartbeats 4000000
/-! my own base over HandS: defs of the text, heaps that keep, readings taken step by step -/
namespace Fp
open PySem PySem.Spec PyProof.Rows L2
abbrev St := L2.St

/-! ### defs -/
/-- a def of the top that stands at the module's name x -/
structure Def (K : PySem.W.Frag) (mg : Str → Option Value) (x : Str) (st : Stmt) (ps : List Str) : Prop where
  ex : ∃ f fd, Fun K x x st f fd ∧ mg x = some (.ref f) ∧ Binds K fd ps []
/-- .. and its promise -/
structure Fn (P : Program) (w : World) (K : PySem.W.Frag) (mg : Str → Option Value) (base : Heap) (k : Nat) (x : Str) (ps : List Str) (sp : Sp) : Prop where
  ex : ∃ f fd, mg x = some (.ref f) ∧ PySem.W.keepIn K (.ref f) = true ∧ Binds K fd ps [] ∧ FnOk P w K mg base (L2.CX P w) k f fd ps sp

section
variable {P : Program} {w : World} {K : PySem.W.Frag} {mg : Str → Option Value} {base : Heap}
theorem fn_up {k : Nat} {f : Addr} {fd : FuncData} {ps : List Str} {sp : Sp} (F : FnOk P w K mg base CX0 k f fd ps sp) : FnOk P w K mg base (L2.CX P w) k f fd ps sp :=
  ⟨F.len, fun A outer s H args us vs Q E hr he hb hv hs => codeAny_mono (F.run A outer s H args us vs Q E hr he hb hv hs) fun r s' hq => by
    cases r with
    | error e => exact False.elim hq
    | ok fl => cases fl <;> exact hq⟩
/-- a def that lets nothing out -/
theorem Def.ok {x : Str} {st : Stmt} {N ps : List Str} {k : Nat} {sp : Sp} (D : Def K mg x st ps) (S : FnScope N ps (defScope st)) (len : ∀ vs H Q E, sp vs H Q E → vs.length = ps.length)
    (hbody : ∀ (f : Addr) (cdv : Value) (A : Around) (outer : List Env) (s : Shared) (H : Hp) (vs : List V) (Q : VK) (E : XK), Room k (A.deeper (envOfC x (defScope st) s.heap.objs.size f cdv)) → sp vs H Q E →
      ∃ t, PSs (cxOf CX0 P w K mg base N x (defScope st) f cdv A outer s H E).nox (defBody st) t ∧ t { nx := fun _ H' => Q .non H', rt := Q } (start N vs) H) : Fn P w K mg base (k + 1) x ps sp := by
  obtain ⟨f, fd, F, hm, hb⟩ := D.ex
  exact ⟨f, fd, hm, F.kp, hb, fn_up (F.ok S len (hbody f))⟩
/-- a def that may raise -/
theorem Def.okX {x : Str} {st : Stmt} {N ps : List Str} {k : Nat} {sp : Sp} (D : Def K mg x st ps) (S : FnScope N ps (defScope st)) (len : ∀ vs H Q E, sp vs H Q E → vs.length = ps.length)
    (hbody : ∀ (f : Addr) (cdv : Value) (A : Around) (outer : List Env) (s : Shared) (H : Hp) (vs : List V) (Q : VK) (E : XK), Room k (A.deeper (envOfC x (defScope st) s.heap.objs.size f cdv)) → sp vs H Q E →
      ∃ t, PSs (cxOf (L2.CX P w) P w K mg base N x (defScope st) f cdv A outer s H E) (defBody st) t ∧ t { nx := fun _ H' => Q .non H', rt := Q } (start N vs) H) : Fn P w K mg base (k + 1) x ps sp := by
  obtain ⟨f, fd, F, hm, hb⟩ := D.ex
  exact ⟨f, fd, hm, F.kp, hb, F.okX S len (hbody f)⟩
theorem def_mk {x : Str} {st : Stmt} {f : Addr} {fd : FuncData} {ps : List Str} (F : Fun K x x st f fd) (hm : mg x = some (.ref f)) (hb : Binds K fd ps []) : Def K mg x st ps := ⟨f, fd, F, hm, hb⟩
theorem Fn.up {k j : Nat} {x : Str} {ps : List Str} {sp : Sp} (F : Fn P w K mg base k x ps sp) (h : k ≤ j) : Fn P w K mg base j x ps sp := by
  obtain ⟨f, fd, a, b, c, d⟩ := F.ex
  exact ⟨f, fd, a, b, c, d.mono h⟩
theorem Fn.imp {k : Nat} {x : Str} {ps : List Str} {sp sp' : Sp} (F : Fn P w K mg base k x ps sp) (h : ∀ vs H Q E, sp' vs H Q E → sp vs H Q E) : Fn P w K mg base k x ps sp' := by
  obtain ⟨f, fd, a, b, c, d⟩ := F.ex
  exact ⟨f, fd, a, b, c, d.imp h⟩
end

/-! ### a call of such a def, where nothing is let out -/
def tFn (sp : Sp) (E : XK) (t : TA) : TE := fun σ H Q => t σ H fun vs H1 => sp vs H1 Q E
section
variable {X : Cx} {k j : Nat} {ps : List Str} {sp : Sp} {E : XK} {x : Str} {p pos : Pos} {e : Expr} {es : List Expr} {t : TA}
theorem pe_fnE (F : Fn X.prog X.w X.K X.mg X.base k x ps sp) (hr : Room j X.A) (hk : k ≤ j) (hg : Gl X x) (hx : Passes (L2.CX X.prog X.w) X E) (ha : PA X (e :: es) t)
    (hdb : (x == ("__debug__" : Str)) = false := by decide) (he : starEach (e :: es) X.env = (false, eval e X.env) :: starEach es X.env := by rfl) (hpl : (backTo pos (starEach es X.env)).any (·.1) = false := by rfl) :
    PE X (.Call (.Name x p) (e :: es) [] pos) (tFn sp E t) := by
  obtain ⟨f, fd, hm, hkp, hb, G⟩ := F.ex
  have h := pe_call (dvs := []) (p := p) (pos := pos) (G.mono hk) hr hg hm hkp hb .nil hx ha hdb he hpl
  have e1 : tCall sp [] E t = tFn sp E t := by
    funext σ H Q
    show t σ H (fun vs H1 => sp (vs ++ []) H1 Q E) = t σ H (fun vs H1 => sp vs H1 Q E)
    simp only [List.append_nil]
  rw [e1] at h
  exact h
theorem pe_fn0E (F : Fn X.prog X.w X.K X.mg X.base k x ps sp) (hr : Room j X.A) (hk : k ≤ j) (hg : Gl X x) (hx : Passes (L2.CX X.prog X.w) X E)
    (hdb : (x == ("__debug__" : Str)) = false := by decide) :
    PE X (.Call (.Name x p) [] [] pos) (tFn sp E tNil) := by
  obtain ⟨f, fd, hm, hkp, hb, G⟩ := F.ex
  exact pe_call0 (dvs := []) (p := p) (pos := pos) (G.mono hk) hr hg hm hkp hb .nil hx hdb
theorem pe_fn (F : Fn X.prog X.w X.K X.mg X.base k x ps sp) (hr : Room j X.A) (ha : PA X (e :: es) t) (hk : k ≤ j := by decide) (hg : Gl X x := by rfl)
    (hdb : (x == ("__debug__" : Str)) = false := by decide) (he : starEach (e :: es) X.env = (false, eval e X.env) :: starEach es X.env := by rfl) (hpl : (backTo pos (starEach es X.env)).any (·.1) = false := by rfl) :
    PE X (.Call (.Name x p) (e :: es) [] pos) (tFn sp E0 t) := pe_fnE F hr hk hg passL ha hdb he hpl
theorem pe_fn0 (F : Fn X.prog X.w X.K X.mg X.base k x ps sp) (hr : Room j X.A) (hk : k ≤ j := by decide) (hg : Gl X x := by rfl)
    (hdb : (x == ("__debug__" : Str)) = false := by decide) : PE X (.Call (.Name x p) [] [] pos) (tFn sp E0 tNil) := pe_fn0E F hr hk hg passL hdb
/-- f(..) whose exceptions are wished for at the slots (within a try, or out of this def) -/
def tFnS (sp : Sp) (E : St → XK) (t : TA) : TE := fun σ H Q => t σ H fun vs H1 => sp vs H1 Q (E σ)
theorem pe_fnS {E : St → XK} (F : Fn X.prog X.w X.K X.mg X.base k x ps sp) (hr : Room j X.A) (hk : k ≤ j) (hg : Gl X x) (hx : ∀ σ, PassesAt (L2.CX X.prog X.w) X σ (E σ)) (ha : PA X (e :: es) t)
    (hdb : (x == ("__debug__" : Str)) = false := by decide) (he : starEach (e :: es) X.env = (false, eval e X.env) :: starEach es X.env := by rfl) (hpl : (backTo pos (starEach es X.env)).any (·.1) = false := by rfl) :
    PE X (.Call (.Name x p) (e :: es) [] pos) (tFnS sp E t) := by
  obtain ⟨f, fd, hm, hkp, hb, G⟩ := F.ex
  exact pe_callS (p := p) (pos := pos) (G.mono hk) hr hg hm hkp hb hx ha hdb he hpl
end

/-! ### what of the built-ins no name of the module hides -/
structure Blt (mg : Str → Option Value) : Prop where
  isinstance : mg "isinstance" = none
  len : mg "len" = none
  range : mg "range" = none
  int : mg "int" = none
  bool : mg "bool" = none
  str : mg "str" = none
  tuple : mg "tuple" = none
  list : mg "list" = none
  set : mg "set" = none
  dict : mg "dict" = none
  abs : mg "abs" = none
  all : mg "all" = none
  any : mg "any" = none
  max : mg "max" = none
  min : mg "min" = none
  sum : mg "sum" = none
  sorted : mg "sorted" = none
  zip : mg "zip" = none
  divmod : mg "divmod" = none
  repr : mg "repr" = none
  reversed : mg "reversed" = none
  ValueError : mg "ValueError" = none

/-! ### heaps: all stays but what F names -/
def Keep (F : Addr → Prop) (H H' : Hp) : Prop := ∀ b o, H b = some o → ¬ F b → H' b = some o
abbrev No : Addr → Prop := fun _ => False
abbrev At (p : Addr) : Addr → Prop := fun b => b = p
theorem Keep.refl {F : Addr → Prop} (H : Hp) : Keep F H H := fun _ _ h _ => h
theorem Keep.trans {F : Addr → Prop} {H H1 H2 : Hp} (a : Keep F H H1) (b : Keep F H1 H2) : Keep F H H2 := fun c o h n => b c o (a c o h n) n
theorem Keep.mono {F G : Addr → Prop} {H H' : Hp} (a : Keep F H H') (h : ∀ b, F b → G b) : Keep G H H' := fun c o e n => a c o e fun z => n (h c z)
theorem Keep.of_same {F : Addr → Prop} {H H' : Hp} (a : Same H H') : Keep F H H' := fun c o e _ => a c o e
theorem Keep.same {H H' : Hp} (a : Keep No H H') : Same H H' := fun c o e => a c o e fun z => z
theorem Keep.new {F : Addr → Prop} {H : Hp} {p : Addr} {o : HO} (h : H p = none) : Keep F H (upd H p o) := fun b u e _ => by rw [upd_ne (ne_of_none e h)]; exact e
theorem Keep.at_ {H : Hp} {p : Addr} {o : HO} : Keep (At p) H (upd H p o) := fun b u e n => by rw [upd_ne n]; exact e
/-- what was free at the start may change -/
theorem Keep.free {F : Addr → Prop} {H H' : Hp} {p : Addr} {o : HO} (a : Keep F H H') (h : H p = none) : Keep F H (upd H' p o) := fun b u e n => by
  rw [upd_ne (ne_of_none e h)]; exact a b u e n
theorem Keep.put {F : Addr → Prop} {H H' : Hp} {p : Addr} {o : HO} (a : Keep F H H') (h : F p) : Keep F H (upd H' p o) := fun b u e n => by
  rw [upd_ne fun z => n (by rw [z]; exact h)]; exact a b u e n
theorem Keep.back {F : Addr → Prop} {H H' : Hp} (a : Keep F H H') {p : Addr} (h : H' p = none) (n : ¬ F p) : H p = none := by
  cases q : H p with
  | none => rfl
  | some o => rw [a p o q n] at h; cases h
theorem Keep.app {F : Addr → Prop} {H H' : Hp} {a : Addr} {o : HO} (k : Keep F H H') (e : H a = some o) (n : ¬ F a) : H' a = some o := k a o e n
theorem same_app {H H' : Hp} {a : Addr} {o : HO} (k : Same H H') (e : H a = some o) : H' a = some o := k a o e
/-- the tuples, and what is locked, stay, whatever else is done -/
structure TExt (H H' : Hp) : Prop where
  t : ∀ a xs, Rd H a (.tup xs) → Rd H' a (.tup xs)
  f : ∀ a o u, H a = some (.frz o u) → H' a = some (.frz o u)
theorem Keep.text {F : Addr → Prop} {H H' : Hp} (a : Keep F H H') (h : ∀ b, F b → Mut (H b)) : TExt H H' := by
  have nt : ∀ b xs, H b = some (.tup xs) → ¬ F b := fun b xs e z => by have m := h b z; rw [e] at m; exact m
  have nf : ∀ b o u, H b = some (.frz o u) → ¬ F b := fun b o u e z => by have m := h b z; rw [e] at m; exact m
  refine ⟨fun b xs r => ?_, fun b o u e => a b _ e (nf b o u e)⟩
  rcases r with r | ⟨o, r⟩
  · exact .inl (a b _ r (nt b xs r))
  · exact .inr ⟨o, a b _ r (nf b o _ r)⟩
theorem TExt.refl (H : Hp) : TExt H H := ⟨fun _ _ h => h, fun _ _ _ h => h⟩
theorem TExt.trans {H H1 H2 : Hp} (a : TExt H H1) (b : TExt H1 H2) : TExt H H2 := ⟨fun c xs h => b.t c xs (a.t c xs h), fun c o u h => b.f c o u (a.f c o u h)⟩
theorem TExt.of_same {H H' : Hp} (a : Same H H') : TExt H H' := ⟨fun b xs r => by
  rcases r with r | ⟨o, r⟩
  · exact .inl (a b _ r)
  · exact .inr ⟨o, a b _ r⟩, fun b o u e => a b _ e⟩
theorem TExt.lst {H H' : Hp} {p : Addr} {ys : List V} (k : Keep (At p) H H') (h : H p = some (.lst ys)) : TExt H H' := k.text fun b e => by rw [show b = p from e, h]; trivial
theorem SqT.text {K : PySem.W.Frag} {H H' : Hp} {a : Addr} {xs : List V} (e : TExt H H') (h : SqT K H a xs) : SqT K H' a xs := by
  rcases h with h | h
  · exact .inl (e.t a xs h)
  · exact .inr h
/-- the script: locked, or written -/
def Scr (K : PySem.W.Frag) (H : Hp) (a : Addr) (ns : List Int) : Prop := SqL K H a (ns.map V.int) ∧ ∀ H', TExt H H' → SqL K H' a (ns.map V.int)
theorem Scr.text {K : PySem.W.Frag} {H H' : Hp} {a : Addr} {ns : List Int} (h : Scr K H a ns) (e : TExt H H') : Scr K H' a ns := ⟨h.2 H' e, fun H2 e2 => h.2 H2 (e.trans e2)⟩
theorem scr_sql {K : PySem.W.Frag} {H H' : Hp} {a : Addr} {ns : List Int} (h : Scr K H a ns) (e : TExt H H') : SqL K H' a (ns.map V.int) := h.2 H' e
theorem Scr.of {K : PySem.W.Frag} {H : Hp} {a : Addr} {ns : List Int} (hO : Only H) (h : SqL K H a (ns.map V.int)) : Scr K H a ns := by
  refine ⟨h, fun H' e => ?_⟩
  rcases h with (h | ⟨o, h⟩) | h
  · rcases hO a with z | ⟨o, xs, z⟩
    · rw [z] at h; cases h
    · rw [z] at h; cases h
  · exact .inl (.inr ⟨o, e.f a o _ h⟩)
  · exact .inr h

/-! ### data: as L2.Dp tells; data without lists stays where tuples stay -/
mutual
def imm : PyData → Bool
  | .list _ => false
  | .dict _ => false
  | .tuple xs => immAll xs
  | _ => true
def immAll : List PyData → Bool
  | [] => true
  | x :: xs => imm x && immAll xs
end
section
variable {K : PySem.W.Frag} {H H' : Hp}
mutual
theorem Dp.text (e : TExt H H') : ∀ (d : PyData) (v : V), imm d = true → Dp K H v d → Dp K H' v d
  | .none, _, _, h => by cases h; exact .non
  | .bool b, _, _, h => by cases h; exact .bl b
  | .int i, _, _, h => by cases h; exact .int i
  | .str x, _, _, h => by cases h; exact .str x
  | .list _, _, hi, _ => by simp [imm] at hi
  | .dict _, _, hi, _ => by simp [imm] at hi
  | .tuple ds, _, hi, h => by
    cases h with
    | tup hs ha => exact .tup (SqT.text e hs) (DpAll.text e ds _ (by simpa [imm] using hi) ha)
theorem DpAll.text (e : TExt H H') : ∀ (ds : List PyData) (vs : List V), immAll ds = true → DpAll K H vs ds → DpAll K H' vs ds
  | [], _, _, h => by cases h; exact .nil
  | d :: ds, _, hi, h => by
    have hi2 : imm d = true ∧ immAll ds = true := by simpa [immAll] using hi
    cases h with
    | cons h1 h2 => exact .cons (Dp.text e d _ hi2.1 h1) (DpAll.text e ds _ hi2.2 h2)
end
mutual
theorem Dp.same (e : Same H H') : ∀ (d : PyData) (v : V), Dp K H v d → Dp K H' v d
  | .none, _, h => by cases h; exact .non
  | .bool b, _, h => by cases h; exact .bl b
  | .int i, _, h => by cases h; exact .int i
  | .str x, _, h => by cases h; exact .str x
  | .list ds, _, h => by
    cases h with
    | lst hs ha => exact .lst (e.seq hs) (DpAll.same e ds _ ha)
  | .dict _, _, h => by cases h
  | .tuple ds, _, h => by
    cases h with
    | tup hs ha => exact .tup (SqT.text (TExt.of_same e) hs) (DpAll.same e ds _ ha)
theorem DpAll.same (e : Same H H') : ∀ (ds : List PyData) (vs : List V), DpAll K H vs ds → DpAll K H' vs ds
  | [], _, h => by cases h; exact .nil
  | d :: ds, _, h => by
    cases h with
    | cons h1 h2 => exact .cons (Dp.same e d _ h1) (DpAll.same e ds _ h2)
end
end
theorem immAll_map {α : Type} (f : α → PyData) (h : ∀ x, imm (f x) = true) : ∀ xs : List α, immAll (xs.map f) = true
  | [] => rfl
  | x :: xs => by simp [immAll, h x, immAll_map f h xs]

/-! ### readings, one step each: what is left is what follows -/
section
variable {K : PySem.W.Frag} {σ : St} {H : Hp} {Q : VK} {v x y : V} {ta tb tc te : TE} {r : R2} {t : TA} {tt uu : TT} {tu tw : TS} {nx bk ct : St → Hp → Prop} {rt : VK} {A B : Prop}
theorem r_var {i : Nat} (h : σ[i]? = some (some v)) (q : Q v H) : tVar i σ H Q := ⟨v, h, q⟩
theorem r_c (q : Q v H) : tC v σ H Q := q
theorem r_op (q : ta σ H fun x H1 => tb σ H1 fun y H2 => r x y H2 Q) : tOp r ta tb σ H Q := q
theorem r_un {u : V → Hp → VK → Prop} (q : ta σ H fun x H1 => u x H1 Q) : tUn u ta σ H Q := q
theorem r_I0 {g : Int → Int → V} {i j : Int} (q : Q (g i j) H) : rI0 g (.int i) (.int j) H Q := ⟨i, j, rfl, rfl, q⟩
theorem r_I {C : Int → Int → Prop} {g : Int → Int → V} {i j : Int} (hc : C i j) (q : Q (g i j) H) : rI C g (.int i) (.int j) H Q := ⟨i, j, rfl, rfl, hc, q⟩
theorem r_U {g : Int → V} {i : Int} (q : Q (g i) H) : rU g (.int i) H Q := ⟨i, rfl, q⟩
theorem r_eqi {i j : Int} (q : Q (.bl (decide (i = j))) H) : rEq (.int i) (.int j) H Q := ⟨rfl, by
  have e : decide (V.int i = V.int j) = decide (i = j) := by rw [Bool.eq_iff_iff]; simp
  rw [e]; exact q⟩
theorem r_nei {i j : Int} (q : Q (.bl (!decide (i = j))) H) : rNe (.int i) (.int j) H Q := ⟨rfl, by
  have e : decide (V.int i = V.int j) = decide (i = j) := by rw [Bool.eq_iff_iff]; simp
  rw [e]; exact q⟩
theorem r_cons {tr : TA} {Q : List V → Hp → Prop} (q : te σ H fun x H1 => tr σ H1 fun xs H2 => Q (x :: xs) H2) : tCons te tr σ H Q := q
theorem r_nil {Q : List V → Hp → Prop} (q : Q [] H) : tNil σ H Q := q
theorem r_fn {sp : Sp} {E : XK} (q : t σ H fun vs H1 => sp vs H1 Q E) : tFn sp E t σ H Q := q
theorem r_fnS {sp : Sp} {E : St → XK} (q : t σ H fun vs H1 => sp vs H1 Q (E σ)) : tFnS sp E t σ H Q := q
theorem r_CB {u : List V → Hp → VK → Prop} (q : t σ H fun vs H1 => u vs H1 Q) : tCB u t σ H Q := q
/-- a new object -/
def uNew (o : HO) (n : Nat) (H : Hp) (Q : VK) : Prop := n ≤ sizeLine ∧ ∀ p, H p = none → Q (.ref p) (upd H p o)
theorem r_tup (q : t σ H fun xs H1 => uNew (.tup xs) xs.length H1 Q) : tTup t σ H Q := q
theorem r_lst (q : t σ H fun xs H1 => uNew (.lst xs) xs.length H1 Q) : tLst t σ H Q := q
theorem r_new {o : HO} {n : Nat} (hn : n ≤ sizeLine) (q : ∀ p H', H p = none → Same H H' → H' p = some o → Q (.ref p) H') : uNew o n H Q :=
  ⟨hn, fun p hp => q p _ hp (Keep.same (Keep.new hp)) upd_same⟩
theorem sz_lit {n : Nat} (h : Nat.ble n 100000 = true) : n ≤ sizeLine := by
  rw [sizeLine_eq]
  exact Nat.le_trans (Nat.le_of_ble_eq_true h) (by decide)
theorem sz_le {n : Nat} (h : n ≤ 16777216) : n ≤ sizeLine := by rw [sizeLine_eq]; exact h
/-! rules with K by name -/
section
variable {X : Cx}
theorem opK (K : PySem.W.Frag) {f : Value → Value → Sem Value} {r : PySem.W.Frag → R2} (h : OpR X f (r X.K)) (hK : X.K = K := by rfl) : OpR X f (r K) := hK ▸ h
theorem ixK (K : PySem.W.Frag) {r : PySem.W.Frag → R2} (h : IxR X (r X.K)) (hK : X.K = K := by rfl) : IxR X (r K) := hK ▸ h
theorem slK (K : PySem.W.Frag) {r : PySem.W.Frag → V → Option Int → Option Int → Hp → VK → Prop} (h : SlR X (r X.K)) (hK : X.K = K := by rfl) : SlR X (r K) := hK ▸ h
theorem crK (K : PySem.W.Frag) {f : Value} {r : PySem.W.Frag → List V → Hp → VK → Prop} (h : CallR X f (r X.K)) (hK : X.K = K := by rfl) : CallR X f (r K) := hK ▸ h
variable {o e l tg value : Expr} {es : List Expr} {to te tl tv : TE} {t : TA} {ts : TGs} {name f : Str} {apos cpos pos pos' tpos : Pos} {T id : String} {r : V → List V → Hp → VK → Prop} {n k : Nat}
theorem piK_list (K : PySem.W.Frag) (hl : PE X l tl) (hK : X.K = K := by rfl) : PI X tg l (iList K tl) := hK ▸ pi_list hl
theorem piK_tup (K : PySem.W.Frag) (hl : PE X l tl) (hK : X.K = K := by rfl) : PI X tg l (iTup K tl) := hK ▸ pi_tup hl
/-- what is walked is a list or a tuple -/
def iSeq (K : PySem.W.Frag) (tl : TE) : TI := fun σ H R => iList K tl σ H R ∨ iTup K tl σ H R
theorem piK_seq (K : PySem.W.Frag) (hl : PE X l tl) (hK : X.K = K := by rfl) : PI X tg l (iSeq K tl) := by
  subst hK
  exact ⟨fun pins s σ H R I h => h.elim ((pi_list hl).run pins s σ H R I) ((pi_tup hl).run pins s σ H R I)⟩
theorem peK_revL (K : PySem.W.Frag) {kk : Nat} {p1 p2 p3 : Pos} (he : PE X e te) (hK : X.K = K := by rfl) : PE X (.Subscript e (.Slice none none (some (.UnaryOp .USub (.Constant (.int 1) kk p1) p2)) p3) pos) (tRevL K te) := hK ▸ pe_revL he
theorem piK_zip (K : PySem.W.Frag) {e2 : Expr} {kk : Nat} {elts : List Expr} {p : Pos} (hm : X.mg "zip" = none) (ha : PA X [e, e2] t) (hg : Gl X "zip" := by rfl)
    (hs : starEach [e, e2] X.env = (false, eval e X.env) :: starEach [e2] X.env := by rfl) (hpl : (backTo pos (starEach [e2] X.env)).any (·.1) = false := by rfl) (hK : X.K = K := by rfl) :
    PI X (.Tuple elts kk tpos) (.Call (.Name "zip" p) [e, e2] [] pos) (RZ.iZipA K t) := hK ▸ RZ.pi_zipA hg hm ha hs hpl
theorem pgK_tup (K : PySem.W.Frag) (hc : X.calm = true) (h : PGs X es ts) (hn : (assignEach es X.env).length = n := by rfl) (hst : (assignEach es X.env).findIdx? (·.1) = none := by rfl) (hK : X.K = K := by rfl) : PG X (.Tuple es k pos) (gTup K n ts) := hK ▸ pg_tup hc h hn hst
theorem pgK_lst (K : PySem.W.Frag) (hc : X.calm = true) (h : PGs X es ts) (hn : (assignEach es X.env).length = n := by rfl) (hst : (assignEach es X.env).findIdx? (·.1) = none := by rfl) (hK : X.K = K := by rfl) : PG X (.Tuple es k pos) (gLst K n ts) := hK ▸ pg_lst hc h hn hst
theorem peK_fld (K : PySem.W.Frag) (he : PE X e te) (hb : attributeBase e f X.env (eval e X.env) = eval e X.env := by rfl) (hK : X.K = K := by rfl) : PE X (.Attribute e f pos) (tFld K te f) := hK ▸ pe_fld he hb
theorem peK_bm0 (K : PySem.W.Frag) (pa : PlainAttrs T) (slot : Slot T name id) (hty : typeOf (.builtin id) = pure (.type "method_descriptor")) (hm : MtR X id r) (ho : PE X o to)
    (hbase : attributeBase o name X.env (eval o X.env) = eval o X.env := by rfl) (hline : (apos.endLine == cpos.line) = true := by rfl) (hK : X.K = K := by rfl) : PE X (.Call (.Attribute o name apos) [] [] cpos) (tBM0 K T r to) := hK ▸ pe_bm0 pa slot hty hm ho hbase hline
theorem peK_bm (K : PySem.W.Frag) (pa : PlainAttrs T) (slot : Slot T name id) (hty : typeOf (.builtin id) = pure (.type "method_descriptor")) (hm : MtR X id r) (ho : PE X o to) (ha : PA X (e :: es) t)
    (hbase : attributeBase o name X.env (eval o X.env) = eval o X.env := by rfl)
    (hfew : ((backTo cpos (starEach (e :: es) X.env)).all (fun x => !x.1) && (backToKw cpos (keywordEach [] X.env)).all (fun x => x.1.isSome)
      && decide ((e :: es).length + ([] : List Keyword).length + (if ([] : List Keyword).isEmpty then 0 else 1) < 30)) = true := by rfl)
    (hline : (apos.endLine == cpos.line) = true := by rfl) (hs : starEach (e :: es) X.env = (false, eval e X.env) :: starEach es X.env := by rfl) (hplain : (backTo cpos (starEach es X.env)).any (·.1) = false := by rfl) (hK : X.K = K := by rfl) :
    PE X (.Call (.Attribute o name apos) (e :: es) [] cpos) (tBM K T r to t) := hK ▸ pe_bm pa slot hty hm ho ha hbase hfew hline hs hplain
theorem psK_fld (K : PySem.W.Frag) (ha : PE X o to) (hv : PE X value tv) (hs : swapsWith value (some (.Attribute o f pos')) pos.line X.env = pure false := by rfl) (hK : X.K = K := by rfl) : PS X (.Assign [.Attribute o f pos'] value pos) (sFld K to tv f) := hK ▸ ps_fld ha hv hs
theorem psK_fldaug (K : PySem.W.Frag) {op : Operator} {rd : V → V → Hp → VK → Prop} (ha : PE X o to) (hv : PE X value tv) (hop : InOp X op rd) (hK : X.K = K := by rfl) : PS X (.AugAssign (.Attribute o f tpos) op value pos) (sFldAug K to tv rd f) := hK ▸ ps_fldaug ha hv hop
end
/-! tests -/
theorem r_test {Q : Bool → Hp → Prop} (q : te σ H fun x H' => ∃ k, x = .bl k ∧ Q k H') : tTest te σ H Q := q
theorem r_B {Q : Bool → Hp → Prop} (q : te σ H fun x H' => ∃ k, x = .bl k ∧ Q k H') : tB te σ H Q := q
theorem r_bl {b : Bool} {Q : Bool → Prop} (q : Q b) : ∃ k, V.bl b = .bl k ∧ Q k := ⟨b, rfl, q⟩
theorem r_and {Q : Bool → Hp → Prop} (q : tt σ H fun c H1 => if c = true then uu σ H1 Q else Q false H1) : tAnd tt uu σ H Q := q
theorem r_or {Q : Bool → Hp → Prop} (q : tt σ H fun c H1 => if c = true then Q true H1 else uu σ H1 Q) : tOr tt uu σ H Q := q
theorem r_yes {Q : Bool → Hp → Prop} (q : Q true H) : tYes σ H Q := q
theorem r_not {Q : Bool → Hp → Prop} (q : tt σ H fun c H1 => Q (!c) H1) : tNot tt σ H Q := q
theorem r_andV (q : ta σ H fun x H1 => ∃ c, x = .bl c ∧ if c = true then tb σ H1 Q else Q (.bl false) H1) : tAndV ta tb σ H Q := q
theorem r_orV (q : ta σ H fun x H1 => ∃ c, x = .bl c ∧ if c = true then Q (.bl true) H1 else tb σ H1 Q) : tOrV ta tb σ H Q := q
theorem r_notV (q : ta σ H fun x H1 => ∃ c, x = .bl c ∧ Q (.bl (!c)) H1) : tNotV ta σ H Q := q
theorem r_if (q : tt σ H fun c H1 => if c = true then ta σ H1 Q else tb σ H1 Q) : tIf tt ta tb σ H Q := q
theorem r_chain {r' : R2} (q : ta σ H fun x H1 => tb σ H1 fun y H2 => r x y H2 fun z H3 => ∃ k, z = .bl k ∧ (if k = true then tc σ H3 fun w' H4 => r' y w' H4 Q else Q (.bl false) H3)) : tChain r r' ta tb tc σ H Q := q
theorem i_T (q : A) : if true = true then A else B := by rw [if_pos rfl]; exact q
theorem i_F (q : B) : if false = true then A else B := by rw [if_neg Bool.false_ne_true]; exact q
theorem i_NT (q : B) : if (!true) = true then A else B := by rw [if_neg (by decide)]; exact q
theorem i_NF (q : A) : if (!false) = true then A else B := by rw [if_pos (by decide)]; exact q
theorem i_pos {c : Prop} [Decidable c] (h : c) (q : A) : if decide c = true then A else B := by rw [if_pos (decide_eq_true h)]; exact q
theorem i_neg {c : Prop} [Decidable c] (h : ¬ c) (q : B) : if decide c = true then A else B := by rw [if_neg (by simpa using h)]; exact q
theorem i_npos {c : Prop} [Decidable c] (h : ¬ c) (q : A) : if (!decide c) = true then A else B := by rw [if_pos (by simpa using h)]; exact q
theorem i_nneg {c : Prop} [Decidable c] (h : c) (q : B) : if (!decide c) = true then A else B := by rw [if_neg (by simpa using h)]; exact q
theorem i_cases {c : Prop} [Decidable c] (p : c → A) (n : ¬ c → B) : if decide c = true then A else B := by
  by_cases h : c
  · exact i_pos h (p h)
  · exact i_neg h (n h)
theorem i_ncases {c : Prop} [Decidable c] (p : ¬ c → A) (n : c → B) : if (!decide c) = true then A else B := by
  by_cases h : c
  · exact i_nneg h (n h)
  · exact i_npos h (p h)
theorem i_bool {b : Bool} (p : b = true → A) (n : b = false → B) : if b = true then A else B := by
  cases b with
  | true => exact i_T (p rfl)
  | false => exact i_F (n rfl)
/-- two at once -/
def uPar (i j : Nat) (vs : List V) (σ : St) (H : Hp) (nx : St → Hp → Prop) : Prop := ∃ v w, vs = [v, w] ∧ nx ((σ.set i (some v)).set j (some w)) H
/-! statements -/
theorem r_next (q : nx σ H) : tNext ⟨nx, rt, bk, ct⟩ σ H := q
theorem r_brk (q : bk σ H) : tBreak ⟨nx, rt, bk, ct⟩ σ H := q
theorem r_cont (q : ct σ H) : tCont ⟨nx, rt, bk, ct⟩ σ H := q
theorem r_seq (q : tu ⟨tw ⟨nx, rt, bk, ct⟩, rt, bk, ct⟩ σ H) : tSeq tu tw ⟨nx, rt, bk, ct⟩ σ H := q
theorem r_asg {i : Nat} (q : te σ H fun v H1 => nx (σ.set i (some v)) H1) : tAsg te (gName i) ⟨nx, rt, bk, ct⟩ σ H := q
theorem r_asgG {g : TG} (q : te σ H fun v H1 => g v σ H1 nx) : tAsg te g ⟨nx, rt, bk, ct⟩ σ H := q
theorem r_aug {i : Nat} {x : V} {ti : TIp} (h : σ[i]? = some (some x)) (q : te σ H fun y H1 => ti x y H1 fun z H2 => nx (σ.set i (some z)) H2) : tAug i te ti ⟨nx, rt, bk, ct⟩ σ H := ⟨x, h, q⟩
theorem r_ipI {g : Int → Int → Int} {i j : Int} (q : Q (.int (g i j)) H) : ipI g (.int i) (.int j) H Q := ⟨i, j, rfl, rfl, q⟩
theorem r_par {i j : Nat} (q : t σ H fun vs H1 => uPar i j vs σ H1 nx) : tPar i j t ⟨nx, rt, bk, ct⟩ σ H := q
theorem r_par2 {i j : Nat} {R : St → Hp → Prop} (q : R ((σ.set i (some x)).set j (some y)) H) : uPar i j [x, y] σ H R := ⟨x, y, rfl, q⟩
theorem r_drop (q : te σ H fun _ H1 => nx σ H1) : tDrop te ⟨nx, rt, bk, ct⟩ σ H := q
theorem r_ret (q : te σ H rt) : tRet te ⟨nx, rt, bk, ct⟩ σ H := q
theorem r_retN (q : rt .non H) : tRetN ⟨nx, rt, bk, ct⟩ σ H := q
theorem r_ifS (q : tt σ H fun b H1 => if b = true then tu ⟨nx, rt, bk, ct⟩ σ H1 else tw ⟨nx, rt, bk, ct⟩ σ H1) : tIfS tt tu tw ⟨nx, rt, bk, ct⟩ σ H := q
theorem r_start {tu : TS} {D : Ends} {N : List Str} {vs : List V} {σ' : St} (e : start N vs = σ') (q : tu D σ' H) : tu D (start N vs) H := by rw [e]; exact q
theorem r_set {i : Nat} {σ' : St} {P : St → Prop} (e : σ.set i (some v) = σ') (q : P σ') : P (σ.set i (some v)) := by rw [e]; exact q
end

/-! ### numbers of any size -/
theorem intBits_small {i : Int} {n : Nat} (h : i.natAbs < 2 ^ n) : Builtin.Int.intBits i ≤ n := by
  unfold Builtin.Int.intBits
  split
  · omega
  · rename_i h0
    have h1 : i.natAbs ≠ 0 := by simpa using h0
    have := (Nat.log2_lt h1).mpr h
    omega
theorem mul_l {i j : Int} (h1 : -(2 ^ 64) < i) (h2 : i < 2 ^ 64) : IntMulOk i j := .of_left (intBits_le_64 h1 h2)
theorem mul_r {i j : Int} (h1 : -(2 ^ 64) < j) (h2 : j < 2 ^ 64) : IntMulOk i j := .of_right (intBits_le_64 h1 h2)
theorem mul_b {i j : Int} {n m : Nat} (h1 : i.natAbs < 2 ^ n) (h2 : j.natAbs < 2 ^ m) (hn : n ≤ 1048576 := by decide) (hm : m ≤ 1048576 := by decide) : IntMulOk i j :=
  .of_bits (Nat.le_trans (intBits_small h1) (Nat.le_trans hn (by decide))) (Nat.le_trans (intBits_small h2) (Nat.le_trans hm (by decide)))
theorem div_b {i j : Int} {n : Nat} (h0 : 0 < j) (h : j.natAbs < 2 ^ n) (hn : n ≤ 9000 := by decide) (h1 : 0 < n := by decide) : CDivW i j := wide_div h0 h h1 hn
section
variable {X : Cx}
theorem op_mulY : OpR X (binaryOp .Mult) (rI IntMulOk fun i j => .int (i * j)) := opI fun _ _ _ _ _ _ _ hc q => mul_int q hc
theorem pe_powC {i j z : Int} {a b : Nat} {p1 p2 pos : Pos} (h : 0 ≤ j ∧ j ≤ 1000000 ∧ i.natAbs < 2 ^ 64) (e : i ^ j.toNat = z) :
    PE X (.BinOp (.Constant (.int i) a p1) .Pow (.Constant (.int j) b p2) pos) (tC (.int z)) := by
  have h1 : PE X (.BinOp (.Constant (.int i) a p1) .Pow (.Constant (.int j) b p2) pos) (tOp (rI CPow fun i j => .int (i ^ j.toNat)) (tC (.int i)) (tC (.int j))) := pe_op op_pow pe_int pe_int
  exact ⟨fun pins s σ H Q I q => h1.run pins s σ H Q I ⟨i, j, rfl, rfl, h, by
    show Q (.int (i ^ j.toNat)) H
    rw [e]; exact q⟩⟩
/-! ### built-ins by names of mine, that steps may see them -/
def uInt1 : List V → Hp → VK → Prop := fun xs H Q => (∃ i, xs = [.int i] ∧ Q (.int i) H) ∨ ∃ k, xs = [.bl k] ∧ Q (.int (if k then 1 else 0)) H
theorem c_int1 : CallR X (.type "int") uInt1 := call_int1
def uLen (K : PySem.W.Frag) : List V → Hp → VK → Prop := fun xs H Q => ∃ x n, xs = [x] ∧ LenV K x H n ∧ Q (.int n) H
theorem c_len : CallR X (.builtin "len") (uLen X.K) := call_len
def uAbs : List V → Hp → VK → Prop := fun xs H Q => ∃ i, xs = [.int i] ∧ Q (.int (if i < 0 then -i else i)) H
theorem c_abs : CallR X (.builtin "abs") uAbs := call_abs
def uMax2 : List V → Hp → VK → Prop := fun xs H Q => ∃ i j, xs = [.int i, .int j] ∧ Q (.int (if j > i then j else i)) H
theorem c_max2 (hc : X.calm = true) : CallR X (.builtin "max") uMax2 := call_max2 hc
def uMin2 : List V → Hp → VK → Prop := fun xs H Q => ∃ i j, xs = [.int i, .int j] ∧ Q (.int (if j < i then j else i)) H
theorem c_min2 (hc : X.calm = true) : CallR X (.builtin "min") uMin2 := call_min2 hc
def uStr : List V → Hp → VK → Prop := fun xs H Q => ∃ i, xs = [.int i] ∧ i.natAbs.log2 < 1920 ∧ Q (.str (toString i)) H
theorem c_str : CallR X (.type "str") uStr := call_str_int
def uTuple (K : PySem.W.Frag) : List V → Hp → VK → Prop := fun xs H Q => ∃ p ys, xs = [.ref p] ∧ ((SqL K H p ys ∧ ∀ l, H l = none → Q (.ref l) (upd H l (.tup ys))) ∨ (SqT K H p ys ∧ Q (.ref p) H))
theorem c_tuple : CallR X (.type "tuple") (uTuple X.K) := call_tuple_of
def uList (K : PySem.W.Frag) : List V → Hp → VK → Prop := fun xs H Q => ∃ p ys, xs = [.ref p] ∧ (SqL K H p ys ∨ SqT K H p ys) ∧ ∀ l, H l = none → Q (.ref l) (upd H l (.lst ys))
theorem c_list : CallR X (.type "list") (uList X.K) := call_list_of
def uIsB : R2 := fun x y H Q => ∃ a b, x = .bl a ∧ y = .bl b ∧ Q (.bl (decide (a = b))) H
theorem o_isB : OpR X (compareOp .Is) uIsB := op_is_bl
def uNotB : R2 := fun x y H Q => ∃ a b, x = .bl a ∧ y = .bl b ∧ Q (.bl (!decide (a = b))) H
theorem o_notB : OpR X (compareOp .IsNot) uNotB := op_isnot_bl
def uIsN : R2 := fun x y H Q => y = .non ∧ Q (.bl (decide (x = .non))) H
theorem o_isN : OpR X (compareOp .Is) uIsN := op_isN
def uNotN : R2 := fun x y H Q => y = .non ∧ Q (.bl (!decide (x = .non))) H
theorem o_notN : OpR X (compareOp .IsNot) uNotN := op_notN
/-- == of anything: scalars, data -/
def uEq (K : PySem.W.Frag) : R2 := fun x y H Q => rEq x y H Q ∨ rEqD K x y H Q
theorem o_eq (hu : X.A.units + 64 < cLine) : OpR X (compareOp .Eq) (uEq X.K) := op_eq.or (op_eqD hu)
def uNe (K : PySem.W.Frag) : R2 := fun x y H Q => rNe x y H Q ∨ rNeD K x y H Q
theorem o_ne (hu : X.A.units + 64 < cLine) : OpR X (compareOp .NotEq) (uNe X.K) := op_ne.or (op_neD hu)
end
section
variable {K : PySem.W.Frag} {σ : St} {H : Hp} {Q : VK} {v x y : V} {i j : Int} {a p : Addr} {xs : List V}
theorem r_int_i (q : Q (.int i) H) : uInt1 [.int i] H Q := .inl ⟨i, rfl, q⟩
theorem r_int_b {k : Bool} (q : Q (.int (if k = true then 1 else 0)) H) : uInt1 [.bl k] H Q := .inr ⟨k, rfl, q⟩
theorem r_len_l {n : Nat} (h : SqL K H a xs) (e : xs.length = n) (q : Q (.int n) H) : uLen K [.ref a] H Q := ⟨_, _, rfl, .inl ⟨xs, h, e.symm⟩, q⟩
theorem r_len_t {n : Nat} (h : SqT K H a xs) (e : xs.length = n) (q : Q (.int n) H) : uLen K [.ref a] H Q := ⟨_, _, rfl, .inr ⟨xs, h, e.symm⟩, q⟩
theorem r_len_s {z : Str} (h : z.length ≤ sizeLine) (q : Q (.int z.length) H) : uLen K [.str z] H Q := ⟨_, _, rfl, ⟨h, rfl⟩, q⟩
theorem r_abs (q : Q (.int (if i < 0 then -i else i)) H) : uAbs [.int i] H Q := ⟨i, rfl, q⟩
theorem r_max2 (q : Q (.int (if j > i then j else i)) H) : uMax2 [.int i, .int j] H Q := ⟨i, j, rfl, q⟩
theorem r_min2 (q : Q (.int (if j < i then j else i)) H) : uMin2 [.int i, .int j] H Q := ⟨i, j, rfl, q⟩
theorem r_tuple_l (h : SqL K H p xs) (q : ∀ l H', H l = none → Same H H' → H' l = some (.tup xs) → Q (.ref l) H') : uTuple K [.ref p] H Q := ⟨p, xs, rfl, .inl ⟨h, fun l hl => q l _ hl (Keep.same (Keep.new hl)) upd_same⟩⟩
theorem r_tuple_t (h : SqT K H p xs) (q : Q (.ref p) H) : uTuple K [.ref p] H Q := ⟨p, xs, rfl, .inr ⟨h, q⟩⟩
theorem r_list_l (h : SqL K H p xs) (q : ∀ l H', H l = none → Same H H' → H' l = some (.lst xs) → Q (.ref l) H') : uList K [.ref p] H Q := ⟨p, xs, rfl, .inl h, fun l hl => q l _ hl (Keep.same (Keep.new hl)) upd_same⟩
theorem r_list_t (h : SqT K H p xs) (q : ∀ l H', H l = none → Same H H' → H' l = some (.lst xs) → Q (.ref l) H') : uList K [.ref p] H Q := ⟨p, xs, rfl, .inr h, fun l hl => q l _ hl (Keep.same (Keep.new hl)) upd_same⟩
theorem r_isB {b c : Bool} (q : Q (.bl (decide (b = c))) H) : uIsB (.bl b) (.bl c) H Q := ⟨b, c, rfl, rfl, q⟩
theorem r_notB {b c : Bool} (q : Q (.bl (!decide (b = c))) H) : uNotB (.bl b) (.bl c) H Q := ⟨b, c, rfl, rfl, q⟩
theorem r_isN_n (q : Q (.bl true) H) : uIsN .non .non H Q := ⟨rfl, q⟩
theorem r_isN_i (q : Q (.bl false) H) : uIsN (.int i) .non H Q := ⟨rfl, q⟩
theorem r_isN_r (q : Q (.bl false) H) : uIsN (.ref a) .non H Q := ⟨rfl, q⟩
theorem r_isN_s {z : Str} (q : Q (.bl false) H) : uIsN (.str z) .non H Q := ⟨rfl, q⟩
theorem r_notN_n (q : Q (.bl false) H) : uNotN .non .non H Q := ⟨rfl, q⟩
theorem r_notN_i (q : Q (.bl true) H) : uNotN (.int i) .non H Q := ⟨rfl, q⟩
theorem r_notN_r (q : Q (.bl true) H) : uNotN (.ref a) .non H Q := ⟨rfl, q⟩
theorem r_notN_s {z : Str} (q : Q (.bl true) H) : uNotN (.str z) .non H Q := ⟨rfl, q⟩
theorem r_isN {k : Bool} (e : decide (x = V.non) = k) (q : Q (.bl k) H) : uIsN x .non H Q := ⟨rfl, by rw [e]; exact q⟩
theorem r_notN {k : Bool} (e : (!decide (x = V.non)) = k) (q : Q (.bl k) H) : uNotN x .non H Q := ⟨rfl, by rw [e]; exact q⟩
theorem r_eq_i (q : Q (.bl (decide (i = j))) H) : uEq K (.int i) (.int j) H Q := .inl (r_eqi q)
theorem r_ne_i (q : Q (.bl (!decide (i = j))) H) : uNe K (.int i) (.int j) H Q := .inl (r_nei q)
theorem r_eq_s {s t : Str} (q : Q (.bl (decide (s = t))) H) : uEq K (.str s) (.str t) H Q := .inl ⟨rfl, by
  have e : decide (V.str s = V.str t) = decide (s = t) := by rw [Bool.eq_iff_iff]; simp
  rw [e]; exact q⟩
theorem r_ne_s {s t : Str} (q : Q (.bl (!decide (s = t))) H) : uNe K (.str s) (.str t) H Q := .inl ⟨rfl, by
  have e : decide (V.str s = V.str t) = decide (s = t) := by rw [Bool.eq_iff_iff]; simp
  rw [e]; exact q⟩
theorem r_eq_d {d e : PyData} (hd : Dp K H x d) (he : Dp K H y e) (s1 : SeqAt.shaped d = true) (s2 : SeqAt.shaped e = true) (q : Q (.bl (PyData.eqv d e)) H) : uEq K x y H Q := .inr ⟨d, e, hd, he, s1, s2, q⟩
theorem r_ne_d {d e : PyData} (hd : Dp K H x d) (he : Dp K H y e) (s1 : SeqAt.shaped d = true) (s2 : SeqAt.shaped e = true) (q : Q (.bl (!PyData.eqv d e)) H) : uNe K x y H Q := .inr ⟨d, e, hd, he, s1, s2, q⟩
theorem r_ixl (h : SqL K H p xs) (e : atI xs i = some v) (q : Q v H) : rIx K (.ref p) (.int i) H Q := .inl ⟨p, xs, i, v, rfl, rfl, h, e, q⟩
theorem r_ixt (h : SqT K H p xs) (e : atI xs i = some v) (q : Q v H) : rIx K (.ref p) (.int i) H Q := .inr (.inl ⟨p, xs, i, v, rfl, rfl, h, e, q⟩)
theorem r_ixs {z : Str} {c : Nat} (h : z.length ≤ sizeLine) (e : atI z.cps.toList i = some c) (q : Q (.str ⟨#[c]⟩) H) : rIx K (.str z) (.int i) H Q := .inr (.inr ⟨z, i, c, rfl, rfl, h, e, q⟩)
theorem r_gsub {to ti : TE} {t : TSet} {R : St → Hp → Prop} (q : to σ H fun o H1 => ti σ H1 fun i H2 => t o i v H2 fun H3 => R σ H3) : gSub to ti t v σ H R := q
theorem r_gname {i : Nat} {R : St → Hp → Prop} (q : R (σ.set i (some v)) H) : gName i v σ H R := q
theorem r_setl {R : Hp → Prop} {j : Nat} (h : H p = some (.lst xs)) (e : ixN xs.length i = some j) (q : ∀ H', Keep (At p) H H' → H' p = some (.lst (xs.set j v)) → R H') : rSetL (.ref p) (.int i) v H R := ⟨p, xs, i, j, rfl, rfl, h, e, q _ Keep.at_ upd_same⟩
theorem r_gtup {n : Nat} {t : TGs} {R : St → Hp → Prop} (h : SqT K H a xs) (e : xs.length = n) (q : t xs σ H R) : gTup K n t (.ref a) σ H R := ⟨a, xs, rfl, h, e, q⟩
theorem r_glst {n : Nat} {t : TGs} {R : St → Hp → Prop} (h : SqL K H a xs) (e : xs.length = n) (q : t xs σ H R) : gLst K n t (.ref a) σ H R := ⟨a, xs, rfl, h, e, q⟩
theorem r_gcons {t : TG} {u : TGs} {vs : List V} {R : St → Hp → Prop} (q : t v σ H fun σ' H' => u vs σ' H' R) : gCons t u (v :: vs) σ H R := ⟨v, vs, rfl, q⟩
theorem r_gnil {R : St → Hp → Prop} (q : R σ H) : gNil [] σ H R := ⟨rfl, q⟩
theorem r_all {bs : List Bool} (h : SqL K H a (bs.map V.bl)) (q : Q (.bl (bs.all id)) H) : rAll K [.ref a] H Q := ⟨a, bs, rfl, h, q⟩
theorem r_allT (h : SqL K H a xs) (hx : ∀ v ∈ xs, v = V.bl true) (q : Q (.bl true) H) : rAll K [.ref a] H Q := by
  have e : xs = (xs.map fun _ => true).map V.bl := by
    rw [List.map_map]
    have : xs = xs.map id := by simp
    rw [this]
    simp only [List.map_map]
    exact List.map_congr_left fun v hv => hx v hv
  have e2 : (xs.map fun _ => true).all id = true := by simp
  refine r_all (bs := xs.map fun _ => true) (by rw [← e]; exact h) ?_
  rw [e2]
  exact q
theorem r_any {bs : List Bool} (h : SqL K H a (bs.map V.bl)) (q : Q (.bl (bs.any id)) H) : rAny K [.ref a] H Q := ⟨a, bs, rfl, h, q⟩
/-! isinstance -/
def tyN : PyData → String
  | .none => "NoneType"
  | .bool _ => "bool"
  | .int _ => "int"
  | .str _ => "str"
  | .list _ => "list"
  | .tuple _ => "tuple"
  | .dict _ => "dict"
def isK (n t : String) : Bool := n == t || (t == "bool" && n == "int")
def isT (n : String) (d : PyData) : Bool := isK n (tyN d)
def tyD (d : PyData) : Value := .type (tyN d)
theorem kit_tab {t n : String} (ht : t = "NoneType" ∨ t = "bool" ∨ t = "int" ∨ t = "str" ∨ t = "list" ∨ t = "tuple" ∨ t = "dict") (hn : n = "int" ∨ n = "bool" ∨ n = "tuple" ∨ n = "str" ∨ n = "list") : kitB t n = some (isK n t) := by
  rcases ht with rfl | rfl | rfl | rfl | rfl | rfl | rfl <;> rcases hn with rfl | rfl | rfl | rfl | rfl <;> decide +kernel
theorem dp_ty {d : PyData} (h : Dp K H v d) : TyX K H v (tyD d) := by
  cases h with
  | non => exact .base .non
  | bl b => exact .base (.bl b)
  | int i => exact .base (.int i)
  | str s => exact .base (.str s)
  | lst hs _ =>
    rcases hs with (hs | ⟨o, hs⟩) | ⟨o, its, n, hk, hc, _⟩
    · exact .base (.lst hs)
    · exact .base (.frz hs)
    · exact .kList hk hc
  | tup hs _ =>
    rcases hs with (hs | ⟨o, hs⟩) | ⟨o, its, n, hk, hc, _⟩
    · exact .base (.tup hs)
    · exact .fTuple hs
    · exact .kTuple hk hc
theorem r_isi {d : PyData} {n : String} (h : Dp K H v d) (hn : n = "int" ∨ n = "bool" ∨ n = "tuple" ∨ n = "str" ∨ n = "list") (q : Q (.bl (isT n d)) H) : rIsi K [v, .ty n] H Q := by
  refine ⟨v, .ty n, tyD d, .type n, isT n d, rfl, .ty n, dp_ty h, ?_, q⟩
  refine kit_ty (kit_tab ?_ hn)
  cases d <;> simp [tyN]
end

section
variable {K : PySem.W.Frag} {H : Hp} {Q : VK} {a : Addr} {xs : List V} {i : Int} {b : Bool} {z : Str}
theorem r_isi_ii (q : Q (.bl true) H) : rIsi K [.int i, .ty "int"] H Q := r_isi (n := "int") (.int i) (by decide) q
theorem r_isi_ib (q : Q (.bl false) H) : rIsi K [.int i, .ty "bool"] H Q := r_isi (n := "bool") (.int i) (by decide) q
theorem r_isi_it (q : Q (.bl false) H) : rIsi K [.int i, .ty "tuple"] H Q := r_isi (n := "tuple") (.int i) (by decide) q
theorem r_isi_is (q : Q (.bl false) H) : rIsi K [.int i, .ty "str"] H Q := r_isi (n := "str") (.int i) (by decide) q
theorem r_isi_ni (q : Q (.bl false) H) : rIsi K [.non, .ty "int"] H Q := r_isi (n := "int") .non (by decide) q
theorem r_isi_nt (q : Q (.bl false) H) : rIsi K [.non, .ty "tuple"] H Q := r_isi (n := "tuple") .non (by decide) q
theorem r_isi_bb (q : Q (.bl true) H) : rIsi K [.bl b, .ty "bool"] H Q := r_isi (n := "bool") (.bl b) (by decide) q
theorem r_isi_bi (q : Q (.bl true) H) : rIsi K [.bl b, .ty "int"] H Q := r_isi (n := "int") (.bl b) (by decide) q
theorem r_isi_ss (q : Q (.bl true) H) : rIsi K [.str z, .ty "str"] H Q := r_isi (n := "str") (.str z) (by decide) q
theorem r_isi_si (q : Q (.bl false) H) : rIsi K [.str z, .ty "int"] H Q := r_isi (n := "int") (.str z) (by decide) q
theorem r_isi_st (q : Q (.bl false) H) : rIsi K [.str z, .ty "tuple"] H Q := r_isi (n := "tuple") (.str z) (by decide) q
theorem tyX_tup (h : SqT K H a xs) : TyX K H (.ref a) (.type "tuple") := by
  rcases h with (hs | ⟨o, hs⟩) | ⟨o, its, n, hk, hc, _⟩
  · exact .base (.tup hs)
  · exact .fTuple hs
  · exact .kTuple hk hc
theorem tyX_lst (h : SqL K H a xs) : TyX K H (.ref a) (.type "list") := by
  rcases h with (hs | ⟨o, hs⟩) | ⟨o, its, n, hk, hc, _⟩
  · exact .base (.lst hs)
  · exact .base (.frz hs)
  · exact .kList hk hc
theorem r_isi_tt (h : SqT K H a xs) (q : Q (.bl true) H) : rIsi K [.ref a, .ty "tuple"] H Q := ⟨_, _, _, _, true, rfl, .ty "tuple", tyX_tup h, kit_ty (kit_tab (by decide) (by decide)), q⟩
theorem r_isi_ti (h : SqT K H a xs) (q : Q (.bl false) H) : rIsi K [.ref a, .ty "int"] H Q := ⟨_, _, _, _, false, rfl, .ty "int", tyX_tup h, kit_ty (kit_tab (by decide) (by decide)), q⟩
end
/-! ### walks: how many turns, what each turn yields -/
structure Wk (J : It) (n : Nat) (src : Hp → Prop) (item : Nat → Hp → V → Hp → Prop) : Prop where
  go : ∀ i H, src H → i < n → J.go i H
  stop : ∀ i H, src H → n ≤ i → J.stop i H
  yld : ∀ i H x H', src H → J.yld i H x H' → item i H x H'
section
variable {K : PySem.W.Frag} {a b : Addr} {xs ys : List V}
theorem wk_list : Wk (Itl K a) xs.length (fun H => SqL K H a xs) (fun i H x H' => H' = H ∧ xs[i]? = some x) where
  go := fun i H h hi => ⟨xs, xs[i], h, by simp [hi]⟩
  stop := fun i H h hi => ⟨xs, h, hi⟩
  yld := fun i H x H' h y => by obtain ⟨e, y⟩ := y; exact ⟨e, y xs h⟩
theorem wk_tup : Wk (Itt K a) xs.length (fun H => SqT K H a xs) (fun i H x H' => H' = H ∧ xs[i]? = some x) where
  go := fun i H h hi => ⟨xs, xs[i], h, by simp [hi]⟩
  stop := fun i H h hi => ⟨xs, h, hi⟩
  yld := fun i H x H' h y => by obtain ⟨e, y⟩ := y; exact ⟨e, y xs h⟩
theorem wk_rng {lo : Int} {n : Nat} : Wk (Itr lo n) n (fun _ => True) (fun i H x H' => H' = H ∧ x = .int (lo + i)) where
  go := fun i H _ hi => hi
  stop := fun i H _ hi => hi
  yld := fun i H x H' _ y => y
theorem wk_rngC {lo c : Int} {n : Nat} : Wk (Itc lo c n) n (fun _ => True) (fun i H x H' => H' = H ∧ x = .int (lo + (i : Nat) * c)) where
  go := fun i H _ hi => hi
  stop := fun i H _ hi => hi
  yld := fun i H x H' _ y => y
theorem wk_zipL : Wk (Itz K a b) (min xs.length ys.length) (fun H => SqL K H a xs ∧ SqL K H b ys) (fun i H v H' => ∃ T x y, v = .ref T ∧ H T = none ∧ H' = upd H T (.tup [x, y]) ∧ xs[i]? = some x ∧ ys[i]? = some y) where
  go := fun i H h hi => ⟨xs, ys, xs[i]'(by omega), ys[i]'(by omega), h.1, h.2, by simp, by simp⟩
  stop := fun i H h hi => ⟨xs, ys, h.1, h.2, by omega⟩
  yld := fun i H v H' h y => by
    obtain ⟨T, x, z, e1, e2, e3, e4, e5⟩ := y
    exact ⟨T, x, z, e1, e2, e3, e4 xs h.1, e5 ys h.2⟩
theorem wk_zipT : Wk (RZ.ItzT K a b) (min xs.length ys.length) (fun H => SqT K H a xs ∧ SqT K H b ys) (fun i H v H' => ∃ T x y, v = .ref T ∧ H T = none ∧ H' = upd H T (.tup [x, y]) ∧ xs[i]? = some x ∧ ys[i]? = some y) where
  go := fun i H h hi => ⟨xs, ys, xs[i]'(by omega), ys[i]'(by omega), h.1, h.2, by simp, by simp⟩
  stop := fun i H h hi => ⟨xs, ys, h.1, h.2, by omega⟩
  yld := fun i H v H' h y => by
    obtain ⟨T, x, z, e1, e2, e3, e4, e5⟩ := y
    exact ⟨T, x, z, e1, e2, e3, e4 xs h.1, e5 ys h.2⟩
end
/-- what a for asks once it is known what it walks -/
def ForW (J : It) (g : TG) (tb : TS) : TS := fun D σ H => ∃ W : Nat → Nat → St → Hp → Prop, (∃ m, W 0 m σ H) ∧ ∀ i m σ H, W i m σ H →
  (J.stop i H ∧ D.nx σ H) ∨ (J.go i H ∧ ∃ N : St → Hp → Prop, (∀ σ' H', N σ' H' → ∃ m', m' < m ∧ W (i + 1) m' σ' H') ∧ ∀ x H', J.yld i H x H' → g x σ H' fun σ2 H2 => tb { D with nx := N, ct := N, bk := D.nx } σ2 H2)
def LcW (J : It) (g : TG) (tt : TT) (te : TE) (vs : List Nat) : TE := fun σ H1 Q => ∀ D, H1 D = none → ∃ W : Nat → Nat → Hp → Prop, (∃ m, W 0 m (upd H1 D (.lst []))) ∧ ∀ i m H, W i m H →
  (J.stop i H ∧ Q (.ref D) H) ∨ (J.go i H ∧ ∃ Nx : Hp → Prop, (∀ H', Nx H' → ∃ m', m' < m ∧ W (i + 1) m' H') ∧ ∀ x H', J.yld i H x H' → g x (wipe σ vs) H' fun σ2 H2 => wipe σ2 vs = wipe σ vs ∧ tt σ2 H2 fun b H3 =>
    if b = true then te σ2 H3 fun y H4 => ∃ acc, H4 D = some (.lst acc) ∧ acc.length < sizeLine ∧ Nx (upd H4 D (.lst (acc ++ [y]))) else Nx H3)
section
variable {K : PySem.W.Frag} {σ : St} {H : Hp} {Q : VK} {ta tl te : TE} {tt : TT} {tb : TS} {g : TG} {wi : TI} {nx bk ct : St → Hp → Prop} {rt : VK} {vs : List Nat} {J : It} {n : Nat} {src : Hp → Prop} {item : Nat → Hp → V → Hp → Prop} {a b : Addr} {xs ys : List V}
theorem r_for (q : wi σ H fun J H1 => ForW J g tb ⟨nx, rt, bk, ct⟩ σ H1) : tFor wi g tb ⟨nx, rt, bk, ct⟩ σ H := q
theorem r_lc (q : wi σ H fun J H1 => LcW J g tt te vs σ H1 Q) : tLc wi g tt te vs σ H Q := q
/-- a list or a tuple that is walked -/
def uWalk (K : PySem.W.Frag) (x : V) (H : Hp) (R : It → Hp → Prop) (l : Bool) : Prop := ∃ a, x = .ref a ∧ (if l = true then (∃ xs, SqL K H a xs) ∧ R (Itl K a) H else (∃ xs, SqT K H a xs) ∧ R (Itt K a) H)
theorem r_ilist {R : It → Hp → Prop} (q : tl σ H fun x H1 => uWalk K x H1 R true) : iList K tl σ H R := by
  have e : (fun (x : V) (H1 : Hp) => uWalk K x H1 R true) = fun x H1 => ∃ a, x = .ref a ∧ (∃ xs, SqL K H1 a xs) ∧ R (Itl K a) H1 := by
    funext x H1
    simp [uWalk]
  rw [e] at q
  exact q
theorem r_itup {R : It → Hp → Prop} (q : tl σ H fun x H1 => uWalk K x H1 R false) : iTup K tl σ H R := by
  have e : (fun (x : V) (H1 : Hp) => uWalk K x H1 R false) = fun x H1 => ∃ a, x = .ref a ∧ (∃ xs, SqT K H1 a xs) ∧ R (Itt K a) H1 := by
    funext x H1
    simp [uWalk]
  rw [e] at q
  exact q
theorem r_wl {R : It → Hp → Prop} (h : SqL K H a xs) (q : R (Itl K a) H) : uWalk K (.ref a) H R true := ⟨a, rfl, by rw [if_pos rfl]; exact ⟨⟨xs, h⟩, q⟩⟩
theorem r_wt {R : It → Hp → Prop} (h : SqT K H a xs) (q : R (Itt K a) H) : uWalk K (.ref a) H R false := ⟨a, rfl, by rw [if_neg (by decide)]; exact ⟨⟨xs, h⟩, q⟩⟩
def uRng1 (vs : List V) (H : Hp) (R : It → Hp → Prop) : Prop := ∃ j : Int, vs = [.int j] ∧ -(2 ^ 62) ≤ j ∧ j < 2 ^ 62 ∧ R (Itr 0 j.toNat) H
def uRng2 (vs : List V) (H : Hp) (R : It → Hp → Prop) : Prop := ∃ i j : Int, vs = [.int i, .int j] ∧ (-(2 ^ 62) ≤ i ∧ i < 2 ^ 62 ∧ -(2 ^ 62) ≤ j ∧ j < 2 ^ 62) ∧ R (Itr i (j - i).toNat) H
theorem r_irng1 {t : TA} {R : It → Hp → Prop} (q : t σ H fun vs H1 => uRng1 vs H1 R) : iRng1 t σ H R := q
theorem r_irng2 {t : TA} {R : It → Hp → Prop} (q : t σ H fun vs H1 => uRng2 vs H1 R) : iRng2 t σ H R := q
theorem r_rng1 {j : Int} {R : It → Hp → Prop} (h1 : -(2 ^ 62) ≤ j) (h2 : j < 2 ^ 62) (q : R (Itr 0 j.toNat) H) : uRng1 [.int j] H R := ⟨j, rfl, h1, h2, q⟩
theorem r_rng2 {i j : Int} {R : It → Hp → Prop} (h1 : -(2 ^ 62) ≤ i) (h2 : i < 2 ^ 62) (h3 : -(2 ^ 62) ≤ j) (h4 : j < 2 ^ 62) (q : R (Itr i (j - i).toNat) H) : uRng2 [.int i, .int j] H R := ⟨i, j, rfl, ⟨h1, h2, h3, h4⟩, q⟩
def uZip (K : PySem.W.Frag) (vs : List V) (H : Hp) (R : It → Hp → Prop) : Prop := ∃ a b xs ys, vs = [.ref a, .ref b] ∧ ((SqL K H a xs ∧ SqL K H b ys ∧ R (Itz K a b) H) ∨ (SqT K H a xs ∧ SqT K H b ys ∧ R (RZ.ItzT K a b) H))
theorem r_izip {t : TA} {R : It → Hp → Prop} (q : t σ H fun vs H1 => uZip K vs H1 R) : RZ.iZipA K t σ H R := q
theorem r_zipL {R : It → Hp → Prop} (h1 : SqL K H a xs) (h2 : SqL K H b ys) (q : R (Itz K a b) H) : uZip K [.ref a, .ref b] H R := ⟨a, b, xs, ys, rfl, .inl ⟨h1, h2, q⟩⟩
theorem r_zipT {R : It → Hp → Prop} (h1 : SqT K H a xs) (h2 : SqT K H b ys) (q : R (RZ.ItzT K a b) H) : uZip K [.ref a, .ref b] H R := ⟨a, b, xs, ys, rfl, .inr ⟨h1, h2, q⟩⟩

/-- a for by its invariant -/
theorem for_wk (w : Wk J n src item) (Pv : Nat → St → Hp → Prop) (h0 : Pv 0 σ H) (hsrc : ∀ i σ H, i ≤ n → Pv i σ H → src H)
    (hs : ∀ i x σ H H', i < n → Pv i σ H → item i H x H' → g x σ H' fun σ2 H2 => tb ⟨Pv (i + 1), rt, nx, Pv (i + 1)⟩ σ2 H2) (hd : ∀ σ H, Pv n σ H → nx σ H) :
    ForW J g tb ⟨nx, rt, bk, ct⟩ σ H := by
  refine ⟨fun i m σ H => m = n - i ∧ i ≤ n ∧ Pv i σ H, ⟨n, by simp, Nat.zero_le _, h0⟩, ?_⟩
  rintro i m σ H ⟨rfl, hi, p⟩
  have q := hsrc i σ H hi p
  by_cases hlt : i < n
  · refine .inr ⟨w.go i H q hlt, Pv (i + 1), fun σ' H' p' => ⟨n - (i + 1), by omega, rfl, hlt, p'⟩, fun x H' y => ?_⟩
    exact hs i x σ H H' hlt p (w.yld i H x H' q y)
  · have e : i = n := by omega
    subst e
    exact .inl ⟨w.stop i H q (Nat.le_refl _), hd σ H p⟩
theorem lc_wk (w : Wk J n src item) (Pv : Addr → Nat → Hp → Prop) (h0 : ∀ D, H D = none → Pv D 0 (upd H D (.lst []))) (hsrc : ∀ D i H, i ≤ n → Pv D i H → src H)
    (hs : ∀ D i x H2 H', H D = none → i < n → Pv D i H2 → item i H2 x H' → g x (wipe σ vs) H' fun σ2 H2 => wipe σ2 vs = wipe σ vs ∧ tt σ2 H2 fun b H3 =>
      if b = true then te σ2 H3 fun y H4 => ∃ acc, H4 D = some (.lst acc) ∧ acc.length < sizeLine ∧ Pv D (i + 1) (upd H4 D (.lst (acc ++ [y]))) else Pv D (i + 1) H3)
    (hd : ∀ D H', H D = none → Pv D n H' → Q (.ref D) H') : LcW J g tt te vs σ H Q := by
  intro D hD
  refine ⟨fun i m H => m = n - i ∧ i ≤ n ∧ Pv D i H, ⟨n, by simp, Nat.zero_le _, h0 D hD⟩, ?_⟩
  rintro i m H2 ⟨rfl, hi, p⟩
  have q := hsrc D i H2 hi p
  by_cases hlt : i < n
  · refine .inr ⟨w.go i H2 q hlt, Pv D (i + 1), fun H' p' => ⟨n - (i + 1), by omega, rfl, hlt, p'⟩, fun x H' y => ?_⟩
    exact hs D i x H2 H' hD hlt p (w.yld i H2 x H' q y)
  · have e : i = n := by omega
    subst e
    exact .inl ⟨w.stop i H2 q (Nat.le_refl _), hd D H2 hD p⟩
theorem wipe_one {j : Nat} {x : V} : wipe ((wipe σ [j]).set j (some x)) [j] = wipe σ [j] := by
  simp [wipe, List.set_set]
theorem take_snoc {α : Type} : ∀ {l : List α} {i : Nat} {x : α}, l[i]? = some x → l.take (i + 1) = l.take i ++ [x]
  | [], i, x, h => by simp at h
  | a :: l, 0, x, h => by
    have e : a = x := Option.some.inj h
    subst e; rfl
  | a :: l, i + 1, x, h => by
    have ih := take_snoc (l := l) (i := i) (x := x) h
    show a :: l.take (i + 1) = a :: l.take i ++ [x]
    rw [ih]; rfl
/-- a comprehension over one name whose element and test are pure: known values -/
theorem lc_pure {j : Nat} (w : Wk J xs.length src (fun i H x H' => H' = H ∧ xs[i]? = some x)) (hsrc : ∀ H', Same H H' → src H') (hn : xs.length ≤ 16777216) (f : V → Bool) (v : V → V)
    (ht : ∀ x H2 (R : Bool → Hp → Prop), x ∈ xs → Same H H2 → (∀ H3, Same H2 H3 → R (f x) H3) → tt ((wipe σ [j]).set j (some x)) H2 R)
    (he : ∀ x H2 (R : VK), x ∈ xs → f x = true → Same H H2 → (∀ H3, Same H2 H3 → R (v x) H3) → te ((wipe σ [j]).set j (some x)) H2 R)
    (q : ∀ D H', H D = none → Same H H' → H' D = some (.lst ((xs.filter f).map v)) → Q (.ref D) H') : LcW J (gName j) tt te [j] σ H Q := by
  refine lc_wk w (fun D i H' => H D = none ∧ Same H H' ∧ H' D = some (.lst (((xs.take i).filter f).map v))) (fun D hD => ⟨hD, fun b o e => by rw [upd_ne (ne_of_none e hD)]; exact e, by simp [upd_same]⟩)
    (fun D i H' _ p => hsrc H' p.2.1) ?_ (fun D H' hD p => q D H' hD p.2.1 (by have := p.2.2; rw [List.take_length] at this; exact this))
  rintro D i x H2 H' hD hi ⟨p1, p2, p3⟩ ⟨rfl, hx⟩
  have hm : x ∈ xs := List.mem_of_getElem? hx
  show wipe ((wipe σ [j]).set j (some x)) [j] = wipe σ [j] ∧ tt ((wipe σ [j]).set j (some x)) H' _
  refine ⟨wipe_one, ht x H' _ hm p2 fun H3 e3 => ?_⟩
  have t3 := take_snoc hx
  have hl : ((xs.take i).filter f).length ≤ i := Nat.le_trans (List.length_filter_le _ _) (by simp; omega)
  cases hf : f x with
  | true =>
    refine i_T (he x H3 _ hm hf (p2.trans e3) fun H4 e4 => ⟨_, e4 _ _ (e3 _ _ p3), by rw [List.length_map, sizeLine_eq]; omega, hD, fun b o e => ?_, ?_⟩)
    · rw [upd_ne (ne_of_none e hD)]; exact e4 _ _ (e3 _ _ (p2 _ _ e))
    · rw [upd_same, t3, List.filter_append, List.map_append]
      simp [hf]
  | false =>
    refine i_F ⟨hD, p2.trans e3, ?_⟩
    rw [t3, List.filter_append, List.map_append]
    simp [hf]
    exact e3 _ _ p3
/-- .. whose elements are told by a relation that stays where tuples stay -/
theorem lc_rel {j : Nat} (w : Wk J xs.length src (fun i H x H' => H' = H ∧ xs[i]? = some x)) (hsrc : ∀ H', Same H H' → src H') (hn : xs.length ≤ 16777216) (f : V → Bool) (R : Hp → V → V → Prop) (hR : ∀ H H' x y, TExt H H' → R H x y → R H' x y)
    (ht : ∀ x H2 (S : Bool → Hp → Prop), x ∈ xs → Same H H2 → (∀ H3, Same H2 H3 → S (f x) H3) → tt ((wipe σ [j]).set j (some x)) H2 S)
    (he : ∀ x H2 (S : VK), x ∈ xs → f x = true → Same H H2 → (∀ y H3, Same H2 H3 → R H3 x y → S y H3) → te ((wipe σ [j]).set j (some x)) H2 S)
    (q : ∀ D H' ys, H D = none → Same H H' → H' D = some (.lst ys) → Paired (R H') (xs.filter f) ys → Q (.ref D) H') : LcW J (gName j) tt te [j] σ H Q := by
  refine lc_wk w (fun D i H' => H D = none ∧ Same H H' ∧ ∃ ys, H' D = some (.lst ys) ∧ Paired (R H') ((xs.take i).filter f) ys) (fun D hD => ⟨hD, fun b o e => by rw [upd_ne (ne_of_none e hD)]; exact e, [], by simp [upd_same], by simpa using Paired.nil⟩)
    (fun D i H' _ p => hsrc H' p.2.1) ?_ (fun D H' hD p => by obtain ⟨p1, p2, ys, p3, p4⟩ := p; rw [List.take_length] at p4; exact q D H' ys hD p2 p3 p4)
  rintro D i x H2 H' hD hi ⟨p1, p2, ys, p3, p4⟩ ⟨rfl, hx⟩
  have hm : x ∈ xs := List.mem_of_getElem? hx
  show wipe ((wipe σ [j]).set j (some x)) [j] = wipe σ [j] ∧ tt ((wipe σ [j]).set j (some x)) H' _
  refine ⟨wipe_one, ht x H' _ hm p2 fun H3 e3 => ?_⟩
  have t3 := take_snoc hx
  have hl : ((xs.take i).filter f).length ≤ i := Nat.le_trans (List.length_filter_le _ _) (by simp; omega)
  have hl2 := p4.length
  cases hf : f x with
  | true =>
    refine i_T (he x H3 _ hm hf (p2.trans e3) fun y H4 e4 hy => ⟨ys, e4 _ _ (e3 _ _ p3), by rw [sizeLine_eq]; omega, hD, fun b o e => ?_, ys ++ [y], upd_same, ?_⟩)
    · rw [upd_ne (ne_of_none e hD)]; exact e4 _ _ (e3 _ _ (p2 _ _ e))
    · have te2 : TExt H4 (upd H4 D (.lst (ys ++ [y]))) := TExt.lst Keep.at_ (e4 _ _ (e3 _ _ p3))
      rw [t3, List.filter_append]
      simp only [List.filter_cons, hf, List.filter_nil, if_true]
      exact (Paired.mapP p4 fun u z r => hR _ _ _ _ ((TExt.of_same (e3.trans e4)).trans te2) r).snoc (hR _ _ _ _ te2 hy)
  | false =>
    refine i_F ⟨hD, p2.trans e3, ys, e3 _ _ p3, ?_⟩
    rw [t3, List.filter_append]
    simp [hf]
    exact Paired.mapP p4 fun u z r => hR _ _ _ _ (TExt.of_same e3) r
theorem filter_all {α : Type} (l : List α) : l.filter (fun _ => true) = l := List.filter_eq_self.mpr (by simp)
theorem lc_map {j : Nat} (w : Wk J xs.length src (fun i H x H' => H' = H ∧ xs[i]? = some x)) (hsrc : ∀ H', Same H H' → src H') (hn : xs.length ≤ 16777216) (v : V → V)
    (he : ∀ x H2 (R : VK), x ∈ xs → Same H H2 → (∀ H3, Same H2 H3 → R (v x) H3) → te ((wipe σ [j]).set j (some x)) H2 R)
    (q : ∀ D H', H D = none → Same H H' → H' D = some (.lst (xs.map v)) → Q (.ref D) H') : LcW J (gName j) tYes te [j] σ H Q :=
  lc_pure w hsrc hn (fun _ => true) v (fun x H2 R _ _ k => k H2 (Same.refl H2)) (fun x H2 R hx _ e k => he x H2 R hx e k) (fun D H' hD e hl => q D H' hD e (by rw [filter_all] at hl; exact hl))
theorem lc_mapR {j : Nat} (w : Wk J xs.length src (fun i H x H' => H' = H ∧ xs[i]? = some x)) (hsrc : ∀ H', Same H H' → src H') (hn : xs.length ≤ 16777216) (R : Hp → V → V → Prop) (hR : ∀ H H' x y, TExt H H' → R H x y → R H' x y)
    (he : ∀ x H2 (S : VK), x ∈ xs → Same H H2 → (∀ y H3, Same H2 H3 → R H3 x y → S y H3) → te ((wipe σ [j]).set j (some x)) H2 S)
    (q : ∀ D H' ys, H D = none → Same H H' → H' D = some (.lst ys) → Paired (R H') xs ys → Q (.ref D) H') : LcW J (gName j) tYes te [j] σ H Q :=
  lc_rel w hsrc hn (fun _ => true) R hR (fun x H2 S _ _ k => k H2 (Same.refl H2)) (fun x H2 S hx _ e k => he x H2 S hx e k) (fun D H' ys hD e hl hp => q D H' ys hD e hl (by rw [filter_all] at hp; exact hp))
end
/-! ### more steps -/
section
variable {K : PySem.W.Frag} {H H' : Hp} {Q : VK} {p q a b : Addr} {F : Addr → Prop} {xs ys : List V} {σ : St} {te : TE} {tl th : TO} {lo hi : Option Int} {v : V}
theorem r_sl {r : V → Option Int → Option Int → Hp → VK → Prop} (q : te σ H fun x H1 => tl σ H1 fun l H2 => th σ H2 fun u H3 => r x l u H3 Q) : tSl r te tl th σ H Q := q
theorem r_nopart {R : Option Int → Hp → Prop} (q : R none H) : tNoPart σ H R := q
def uPart (x : V) (H : Hp) (R : Option Int → Hp → Prop) : Prop := ∃ i, x = .int i ∧ R (some i) H
theorem r_part {R : Option Int → Hp → Prop} (q : te σ H fun x H1 => uPart x H1 R) : tPart te σ H R := q
theorem r_parti {i : Int} {R : Option Int → Hp → Prop} (q : R (some i) H) : uPart (.int i) H R := ⟨i, rfl, q⟩
theorem r_sll (h : SqL K H a xs) (q : ∀ p H', H p = none → Same H H' → H' p = some (.lst (cutV xs lo hi)) → Q (.ref p) H') : rSlL K (.ref a) lo hi H Q :=
  ⟨a, xs, rfl, h, fun p hp => q p _ hp (Keep.same (Keep.new hp)) upd_same⟩
theorem cutV_from {xs : List V} {k : Nat} : cutV xs (some (k : Int)) none = xs.drop k := by
  unfold cutV
  rw [HT.sIx_nat, HT.sIx_none]
  by_cases h : k ≤ xs.length
  · rw [Nat.min_eq_left h, List.take_of_length_le (by simp)]
  · rw [Nat.min_eq_right (by omega), List.drop_of_length_le (Nat.le_refl _), List.drop_of_length_le (by omega)]
    simp
theorem cutV_to {xs : List V} {k : Nat} : cutV xs none (some (k : Int)) = xs.take k := by
  unfold cutV
  rw [HT.sIx_nat, HT.sIx_none]
  simp only [List.drop_zero, Nat.sub_zero]
  by_cases h : k ≤ xs.length
  · rw [Nat.min_eq_left h]
  · rw [Nat.min_eq_right (by omega), List.take_of_length_le (Nat.le_refl _), List.take_of_length_le (by omega)]
theorem cutV_init {xs : List V} {x : V} : cutV (xs ++ [x]) none (some (-1)) = xs := by
  unfold cutV
  simp [HT.sIx]
  rw [show (-1 + ((xs.length : Int) + 1)).toNat = xs.length by omega, List.take_left']
  rfl
theorem r_sla (h : SqT K H a xs) (q : ∀ p H', Same H H' → SqT K H' p (cutV xs lo hi) → Q (.ref p) H') : rSlA K (.ref a) lo hi H Q := by
  refine ⟨a, xs, rfl, h, fun e => q a H (Same.refl H) ?_, fun _ p hp => q p _ (Keep.same (Keep.new hp)) (SqT.of upd_same)⟩
  unfold cutV
  rw [e.1, e.2]
  simpa using h
theorem r_cat (h1 : H a = some (.lst xs)) (h2 : H b = some (.lst ys)) (hz : xs.length + ys.length ≤ sizeLine) (q : ∀ p H', H p = none → Same H H' → H' p = some (.lst (xs ++ ys)) → Q (.ref p) H') : rCat (.ref a) (.ref b) H Q :=
  ⟨a, b, xs, ys, rfl, rfl, h1, h2, hz, fun p hp => q p _ hp (Keep.same (Keep.new hp)) upd_same⟩
theorem r_catA (h1 : SqT K H a xs) (h2 : SqT K H b ys) (hz : xs.length + ys.length ≤ sizeLine) (q : ∀ p H', Same H H' → SqT K H' p (xs ++ ys) → Q (.ref p) H') : rCatA K (.ref a) (.ref b) H Q := by
  refine ⟨a, b, xs, ys, rfl, rfl, h1, h2, hz, fun e => ?_, fun _ e => ?_, fun _ _ p hp => q p _ (Keep.same (Keep.new hp)) (SqT.of upd_same)⟩
  · subst e
    exact q b H (Same.refl H) (by simpa using h2)
  · subst e
    exact q a H (Same.refl H) (by simpa using h1)
def uBM (K : PySem.W.Frag) (T : String) (r : V → List V → Hp → VK → Prop) (t : TA) (σ : St) (x : V) (H : Hp) (Q : VK) : Prop := tyV K T x H ∧ t σ H fun xs H2 => r x xs H2 Q
theorem r_bm {T : String} {r : V → List V → Hp → VK → Prop} {t : TA} (q : te σ H fun x H1 => uBM K T r t σ x H1 Q) : tBM K T r te t σ H Q := q
def uBM0 (K : PySem.W.Frag) (T : String) (r : V → List V → Hp → VK → Prop) (x : V) (H : Hp) (Q : VK) : Prop := tyV K T x H ∧ r x [] H Q
theorem r_bm0 {T : String} {r : V → List V → Hp → VK → Prop} (q : te σ H fun x H1 => uBM0 K T r x H1 Q) : tBM0 K T r te σ H Q := q
theorem r_bml {r : V → List V → Hp → VK → Prop} {t : TA} (h : SqL K H a xs) (q : t σ H fun vs H2 => r (.ref a) vs H2 Q) : uBM K "list" r t σ (.ref a) H Q := ⟨.inl ⟨rfl, _, h⟩, q⟩
theorem r_bm0l {r : V → List V → Hp → VK → Prop} (h : SqL K H a xs) (q : r (.ref a) [] H Q) : uBM0 K "list" r (.ref a) H Q := ⟨.inl ⟨rfl, _, h⟩, q⟩
def uRevL (K : PySem.W.Frag) (x : V) (H : Hp) (Q : VK) : Prop := ∃ a xs, x = .ref a ∧ SqL K H a xs ∧ ∀ p, H p = none → Q (.ref p) (upd H p (.lst xs.reverse))
theorem r_revL (q : te σ H fun x H1 => uRevL K x H1 Q) : tRevL K te σ H Q := q
theorem r_revl (h : SqL K H a xs) (q : ∀ p H', H p = none → Same H H' → H' p = some (.lst xs.reverse) → Q (.ref p) H') : uRevL K (.ref a) H Q := ⟨a, xs, rfl, h, fun p hp => q p _ hp (Keep.same (Keep.new hp)) upd_same⟩
theorem r_reverse (h : H a = some (.lst xs)) (q : ∀ H', Keep (At a) H H' → H' a = some (.lst xs.reverse) → Q .non H') : rReverse (.ref a) [] H Q := ⟨a, xs, rfl, rfl, h, q _ Keep.at_ upd_same⟩
theorem r_append (h : H a = some (.lst xs)) (hz : xs.length < sizeLine) (q : ∀ H', Keep (At a) H H' → H' a = some (.lst (xs ++ [v])) → Q .non H') : rAppend (.ref a) [v] H Q := ⟨a, xs, v, rfl, rfl, h, hz, q _ Keep.at_ upd_same⟩
theorem r_extend (h : H a = some (.lst xs)) (h2 : H b = some (.lst ys)) (hz : xs.length + ys.length ≤ sizeLine) (q : ∀ H', Keep (At a) H H' → H' a = some (.lst (xs ++ ys)) → Q .non H') : rExtend (.ref a) [.ref b] H Q := ⟨a, b, xs, ys, rfl, rfl, h, h2, hz, q _ Keep.at_ upd_same⟩
theorem r_sortedI {ns : List Int} (h : SqL K H a (ns.map V.int)) (q : ∀ (ms : List Int) p H', ms.Perm ns → ms.Pairwise (· ≤ ·) → H p = none → Same H H' → H' p = some (.lst (ms.map V.int)) → Q (.ref p) H') : rSortedI K [.ref a] H Q :=
  ⟨a, ns, rfl, h, fun ms p h1 h2 h3 => q ms p _ h1 h2 h3 (Keep.same (Keep.new h3)) upd_same⟩
theorem dpAll_ints (K : PySem.W.Frag) (H : Hp) : ∀ ns : List Int, DpAll K H (ns.map V.int) (ns.map PyData.int)
  | [] => .nil
  | n :: ns => .cons (.int n) (dpAll_ints K H ns)
theorem dpAll_len {K : PySem.W.Frag} {H : Hp} : ∀ {vs : List V} {ds : List PyData}, DpAll K H vs ds → vs.length = ds.length
  | _, _, .nil => rfl
  | _, _, .cons _ h => by simp [dpAll_len h]
theorem dpAll_get {K : PySem.W.Frag} {H : Hp} : ∀ {vs : List V} {ds : List PyData}, DpAll K H vs ds → ∀ x ∈ vs, ∃ d, Dp K H x d
  | _, _, .cons h1 h2, x, hx => by
    rcases List.mem_cons.mp hx with rfl | hx
    · exact ⟨_, h1⟩
    · exact dpAll_get h2 x hx
theorem r_ix01 {x y : Int} {b : Bool} (h : SqL K H p [.int x, .int y]) (q : ∀ z, (z = x ∧ b = false) ∨ (z = y ∧ b = true) → Q (.int z) H) : rIx K (.ref p) (.int (if b = true then 1 else 0)) H Q := by
  cases b with
  | true => exact r_ixl h rfl (q y (.inr ⟨rfl, rfl⟩))
  | false => exact r_ixl h rfl (q x (.inl ⟨rfl, rfl⟩))
theorem SqL.keep (h : SqL K H a xs) (k : Keep F H H') (n : ¬ F a) : SqL K H' a xs := by
  rcases h with (h | ⟨o, h⟩) | h
  · exact .inl (.inl (k a _ h n))
  · exact .inl (.inr ⟨o, k a _ h n⟩)
  · exact .inr h
end
/-! ### data that == is told of: small depth -/
structure Shp (n : Nat) (d : PyData) : Prop where
  c : d.canLay0 = true
  d : d.depth ≤ n
theorem Shp.ok {n : Nat} {d : PyData} (h : Shp n d) (hn : n ≤ 64 := by decide) : SeqAt.shaped d = true := by
  unfold SeqAt.shaped
  rw [h.c, Bool.true_and]
  exact decide_eq_true (Nat.le_trans h.d hn)
theorem Shp.int {n : Nat} (i : Int) : Shp n (.int i) := ⟨by simp [PyData.canLay0], by simp [PyData.depth]⟩
theorem Shp.bool {n : Nat} (i : Bool) : Shp n (.bool i) := ⟨by simp [PyData.canLay0], by simp [PyData.depth]⟩
theorem Shp.none {n : Nat} : Shp n .none := ⟨by simp [PyData.canLay0], by simp [PyData.depth]⟩
theorem shp_all {n : Nat} : ∀ {ds : List PyData}, (∀ d ∈ ds, Shp n d) → PyData.canLayAll0 ds = true ∧ PyData.depthAll ds ≤ n
  | [], _ => ⟨by simp [PyData.canLayAll0], by simp [PyData.depthAll]⟩
  | x :: xs, h => by
    have h1 := h x (List.mem_cons_self ..)
    have h2 := shp_all fun d hd => h d (List.mem_cons_of_mem _ hd)
    exact ⟨by simp [PyData.canLayAll0, h1.c, h2.1], by simp only [PyData.depthAll]; exact Nat.max_le.mpr ⟨h1.d, h2.2⟩⟩
theorem Shp.tuple {n : Nat} {ds : List PyData} (h : ∀ d ∈ ds, Shp n d) : Shp (n + 1) (.tuple ds) := ⟨by simp [PyData.canLay0, (shp_all h).1], by have := (shp_all h).2; simp [PyData.depth]; omega⟩
theorem Shp.list {n : Nat} {ds : List PyData} (h : ∀ d ∈ ds, Shp n d) : Shp (n + 1) (.list ds) := ⟨by simp [PyData.canLay0, (shp_all h).1], by have := (shp_all h).2; simp [PyData.depth]; omega⟩
theorem Shp.tupleM {α : Type} {n : Nat} {as : List α} {f : α → PyData} (h : ∀ c, Shp n (f c)) : Shp (n + 1) (.tuple (as.map f)) := Shp.tuple fun d hd => by
  obtain ⟨c, _, rfl⟩ := List.mem_map.mp hd
  exact h c
theorem Shp.listM {α : Type} {n : Nat} {as : List α} {f : α → PyData} (h : ∀ c, Shp n (f c)) : Shp (n + 1) (.list (as.map f)) := Shp.list fun d hd => by
  obtain ⟨c, _, rfl⟩ := List.mem_map.mp hd
  exact h c
theorem Shp.t2 {n : Nat} {a b : PyData} (ha : Shp n a) (hb : Shp n b) : Shp (n + 1) (.tuple [a, b]) := Shp.tuple (by simp; exact ⟨ha, hb⟩)
theorem Shp.t3 {n : Nat} {a b c : PyData} (ha : Shp n a) (hb : Shp n b) (hc : Shp n c) : Shp (n + 1) (.tuple [a, b, c]) := Shp.tuple (by simp; exact ⟨ha, hb, hc⟩)
theorem Shp.t4 {n : Nat} {a b c d : PyData} (ha : Shp n a) (hb : Shp n b) (hc : Shp n c) (hd : Shp n d) : Shp (n + 1) (.tuple [a, b, c, d]) := Shp.tuple (by simp; exact ⟨ha, hb, hc, hd⟩)
/-! ### data in a row: walks and comprehensions over it -/
section
variable {K : PySem.W.Frag} {σ : St} {H H' : Hp} {Q : VK} {te : TE} {tt : TT} {g : TG} {vs : List Nat} {J : It} {src : Hp → Prop} {item : Nat → Hp → V → Hp → Prop} {a : Addr}
theorem dpAll_at : ∀ {ws : List V} {ds : List PyData}, DpAll K H ws ds → ∀ {i : Nat} {x : V}, ws[i]? = some x → ∃ d, ds[i]? = some d ∧ Dp K H x d
  | _, _, .nil, i, x, h => by simp at h
  | _, _, .cons h1 h2, 0, x, h => by
    have e := Option.some.inj h
    subst e
    exact ⟨_, rfl, h1⟩
  | _, _, .cons h1 h2, i + 1, x, h => dpAll_at h2 (i := i) (x := x) h
theorem dpAll_map_at {α : Type} {f : α → PyData} {as : List α} {ws : List V} (h : DpAll K H ws (as.map f)) {i : Nat} {x : V} (e : ws[i]? = some x) : ∃ c, as[i]? = some c ∧ Dp K H x (f c) := by
  obtain ⟨d, h1, h2⟩ := dpAll_at h e
  rw [List.getElem?_map] at h1
  obtain ⟨c, h3, rfl⟩ := Option.map_eq_some_iff.mp h1
  exact ⟨c, h3, h2⟩
theorem same_at {H H1 H2 : Hp} {f : Addr} (s : Same H H1) (hf : H f = none) (k : Keep (At f) H1 H2) : Same H H2 := fun b o e => k b o (s b o e) (ne_of_none e hf)
theorem dpAll_drop : ∀ {ws : List V} {ds : List PyData} (k : Nat), DpAll K H ws ds → DpAll K H (ws.drop k) (ds.drop k)
  | _, _, 0, h => h
  | _, _, k + 1, .nil => .nil
  | _, _, k + 1, .cons h1 h2 => dpAll_drop k h2
theorem dpAll_take : ∀ {ws : List V} {ds : List PyData} (k : Nat), DpAll K H ws ds → DpAll K H (ws.take k) (ds.take k)
  | _, _, 0, h => by simpa using DpAll.nil
  | _, _, k + 1, .nil => .nil
  | _, _, k + 1, .cons h1 h2 => .cons h1 (dpAll_take k h2)
theorem dpAll_snoc : ∀ {ws : List V} {ds : List PyData} {x : V} {d : PyData}, DpAll K H ws ds → Dp K H x d → DpAll K H (ws ++ [x]) (ds ++ [d])
  | _, _, _, _, .nil, h => .cons h .nil
  | _, _, _, _, .cons h1 h2, h => .cons h1 (dpAll_snoc h2 h)
theorem dpAll_app : ∀ {ws : List V} {ds : List PyData} {ws' : List V} {ds' : List PyData}, DpAll K H ws ds → DpAll K H ws' ds' → DpAll K H (ws ++ ws') (ds ++ ds')
  | _, _, _, _, .nil, h => h
  | _, _, _, _, .cons h1 h2, h => .cons h1 (dpAll_app h2 h)
theorem paired_dp {α : Type} {f : α → PyData} : ∀ {as : List α} {ys : List V}, Paired (fun c y => Dp K H y (f c)) as ys → DpAll K H ys (as.map f)
  | _, _, .nil => .nil
  | _, _, .cons h1 h2 => .cons h1 (paired_dp h2)
theorem dp_tup {v : V} {ds : List PyData} (h : Dp K H v (.tuple ds)) : ∃ p ws, v = .ref p ∧ SqT K H p ws ∧ DpAll K H ws ds := by
  cases h with
  | tup hs ha => exact ⟨_, _, rfl, hs, ha⟩
theorem dp_lst {v : V} {ds : List PyData} (h : Dp K H v (.list ds)) : ∃ p ws, v = .ref p ∧ SqL K H p ws ∧ DpAll K H ws ds := by
  cases h with
  | lst hs ha => exact ⟨_, _, rfl, hs, ha⟩
theorem dp_int {v : V} {i : Int} (h : Dp K H v (.int i)) : v = .int i := by cases h; rfl
theorem dp_non {v : V} (h : Dp K H v .none) : v = .non := by cases h; rfl
theorem dp_bool {v : V} {b : Bool} (h : Dp K H v (.bool b)) : v = .bl b := by cases h; rfl
theorem dp_str {v : V} {z : Str} (h : Dp K H v (.str z)) : v = .str z := by cases h; rfl
theorem dpAll_trues {α : Type} : ∀ {as : List α} {ws : List V}, DpAll K H ws (as.map fun _ => PyData.bool true) → ∀ v ∈ ws, v = V.bl true
  | [], _, .nil, v, hv => by simp at hv
  | a :: as, _, .cons h1 h2, v, hv => by
    rcases List.mem_cons.mp hv with rfl | hv
    · exact dp_bool h1
    · exact dpAll_trues h2 v hv
theorem dpAll_all_ints : ∀ {ws : List V} {ns : List Int}, DpAll K H ws (ns.map PyData.int) → ws = ns.map V.int
  | _, [], .nil => rfl
  | _, n :: ns, .cons h1 h2 => by rw [dp_int h1, dpAll_all_ints h2]; rfl
theorem dp_ints {v : V} {ns : List Int} (h : Dp K H v (.tuple (ns.map PyData.int))) : ∃ p, v = .ref p ∧ SqT K H p (ns.map V.int) := by
  obtain ⟨p, ws, rfl, h1, h2⟩ := dp_tup h
  rw [dpAll_all_ints h2] at h1
  exact ⟨p, rfl, h1⟩
theorem mapP_mono {α : Type} {R S : α → V → Prop} {as : List α} {ys : List V} (h : Paired R as ys) (k : ∀ c y, R c y → S c y) : Paired S as ys := Paired.mapP h k
/-- a comprehension over whatever is walked: each kept item's element is told by R, which stays where tuples stay -/
theorem lc_gen {α : Type} (as : List α) (It1 : α → V → Hp → Prop) (w : Wk J as.length src item) (hit : ∀ i H x H', i < as.length → item i H x H' → ∃ c, as[i]? = some c ∧ Same H H' ∧ It1 c x H') (hsrc : ∀ H', Same H H' → src H')
    (hn : as.length ≤ 16777216) (f : α → Bool) (R : Hp → α → V → Prop) (hR : ∀ H H' c y, TExt H H' → R H c y → R H' c y)
    (hs : ∀ c x H2 (S : VK) (N : Hp → Prop), c ∈ as → Same H H2 → It1 c x H2 → (f c = true → ∀ y H3, Same H2 H3 → R H3 c y → S y H3) → (f c = false → ∀ H3, Same H2 H3 → N H3) →
      g x (wipe σ vs) H2 fun σ2 H3 => wipe σ2 vs = wipe σ vs ∧ tt σ2 H3 fun b H4 => if b = true then te σ2 H4 S else N H4)
    (q : ∀ D H' ys, H D = none → Same H H' → H' D = some (.lst ys) → Paired (R H') (as.filter f) ys → Q (.ref D) H') : LcW J g tt te vs σ H Q := by
  refine lc_wk w (fun D i H' => H D = none ∧ Same H H' ∧ ∃ ys, H' D = some (.lst ys) ∧ Paired (R H') ((as.take i).filter f) ys) (fun D hD => ⟨hD, fun b o e => by rw [upd_ne (ne_of_none e hD)]; exact e, [], by simp [upd_same], by simpa using Paired.nil⟩)
    (fun D i H' _ p => hsrc H' p.2.1) ?_ (fun D H' hD p => by obtain ⟨p1, p2, ys, p3, p4⟩ := p; rw [List.take_length] at p4; exact q D H' ys hD p2 p3 p4)
  rintro D i x H2 H' hD hi ⟨p1, p2, ys, p3, p4⟩ hx
  obtain ⟨c, hc, s1, hI⟩ := hit i H2 x H' hi hx
  have t3 := take_snoc hc
  have hl : ((as.take i).filter f).length ≤ i := Nat.le_trans (List.length_filter_le _ _) (by simp; omega)
  have hl2 := p4.length
  have hm : c ∈ as := List.mem_of_getElem? hc
  refine hs c x H' _ _ hm (p2.trans s1) hI (fun hf y H4 e4 hy => ?_) (fun hf H3 e3 => ?_)
  · refine ⟨ys, e4 _ _ (s1 _ _ p3), by rw [sizeLine_eq]; omega, hD, fun b o e => ?_, ys ++ [y], upd_same, ?_⟩
    · rw [upd_ne (ne_of_none e hD)]; exact e4 _ _ (s1 _ _ (p2 _ _ e))
    · have te2 : TExt H4 (upd H4 D (.lst (ys ++ [y]))) := TExt.lst Keep.at_ (e4 _ _ (s1 _ _ p3))
      rw [t3, List.filter_append]
      simp only [List.filter_cons, hf, List.filter_nil, if_true]
      exact (Paired.mapP p4 fun u z r => hR _ _ _ _ ((TExt.of_same (s1.trans e4)).trans te2) r).snoc (hR _ _ _ _ te2 hy)
  · refine ⟨hD, p2.trans (s1.trans e3), ys, e3 _ _ (s1 _ _ p3), ?_⟩
    rw [t3, List.filter_append]
    simp [hf]
    exact Paired.mapP p4 fun u z r => hR _ _ _ _ (TExt.of_same (s1.trans e3)) r
/-- over range(n) -/
theorem lc_rngD {n : Nat} {lo : Int} (hn : n ≤ 16777216) (f : Nat → Bool) (fx : Nat → PyData) (hi : ∀ c, imm (fx c) = true)
    (hs : ∀ (c : Nat) H2 (S : VK) (N : Hp → Prop), c < n → Same H H2 → (f c = true → ∀ y H3, Same H2 H3 → Dp K H3 y (fx c) → S y H3) → (f c = false → ∀ H3, Same H2 H3 → N H3) →
      g (.int (lo + c)) (wipe σ vs) H2 fun σ2 H3 => wipe σ2 vs = wipe σ vs ∧ tt σ2 H3 fun b H4 => if b = true then te σ2 H4 S else N H4)
    (q : ∀ D H' ys, H D = none → Same H H' → H' D = some (.lst ys) → DpAll K H' ys (((List.range n).filter f).map fx) → Q (.ref D) H') : LcW (Itr lo n) g tt te vs σ H Q := by
  have w : Wk (Itr lo n) (List.range n).length (fun _ => True) (fun i H x H' => H' = H ∧ x = .int (lo + i)) := by
    rw [List.length_range]
    exact wk_rng
  refine lc_gen (List.range n) (fun c x H => x = .int (lo + c)) w (fun i H x H' hi h => ⟨i, List.getElem?_range (by simpa using hi), by rw [h.1]; exact Same.refl _, h.2⟩) (fun _ _ => trivial) (by simpa using hn) f (fun H c y => Dp K H y (fx c)) (fun H H' c y e h => Dp.text e _ _ (hi c) h)
    (fun c x H2 S N hc s hx k1 k2 => ?_) (fun D H' ys hD s e p => q D H' ys hD s e (paired_dp p))
  subst hx
  exact hs c H2 S N (by simpa using hc) s k1 k2
/-- over range(n), one object p (a pot) being changed in each turn -/
theorem lc_rngK {n : Nat} {lo : Int} {p : Addr} {te : TE} {j : Nat} (I : Hp → Prop) (h0 : I H) (hne : ∀ D, H D = none → D ≠ p) (hI : ∀ H1 H2 : Hp, I H1 → H2 p = H1 p → I H2) (hT : ∀ H1 H2, I H1 → Keep (At p) H1 H2 → TExt H1 H2)
    (hn : n ≤ 16777216) (R : Hp → Nat → V → Prop) (hR : ∀ H H' i y, TExt H H' → R H i y → R H' i y)
    (hs : ∀ (i : Nat) H2 (S : VK), i < n → Keep (At p) H H2 → I H2 → (∀ y H3, Keep (At p) H2 H3 → I H3 → R H3 i y → S y H3) → te ((wipe σ [j]).set j (some (.int (lo + i)))) H2 S)
    (q : ∀ D H' ys, H D = none → Keep (At p) H H' → I H' → H' D = some (.lst ys) → Paired (R H') (List.range n) ys → Q (.ref D) H') : LcW (Itr lo n) (gName j) tYes te [j] σ H Q := by
  refine lc_wk wk_rng (fun D i H' => H D = none ∧ Keep (At p) H H' ∧ I H' ∧ ∃ ys, H' D = some (.lst ys) ∧ Paired (R H') (List.range i) ys)
    (fun D hD => ⟨hD, fun b o e _ => by rw [upd_ne (ne_of_none e hD)]; exact e, hI _ _ h0 (by rw [upd_ne (Ne.symm (hne D hD))]), [], by simp [upd_same], by simpa using Paired.nil⟩)
    (fun D i H' _ p => trivial) ?_ (fun D H' hD p => by obtain ⟨p1, p2, p3, ys, p4, p5⟩ := p; exact q D H' ys hD p2 p3 p4 p5)
  rintro D i x H2 H' hD hi ⟨p1, p2, p3, ys, p4, p5⟩ ⟨rfl, rfl⟩
  show wipe ((wipe σ [j]).set j _) [j] = wipe σ [j] ∧ _
  refine ⟨wipe_one, ?_⟩
  refine r_yes (i_T (hs i H' _ hi p2 p3 fun y H3 k3 i3 r3 => ⟨ys, k3 _ _ p4 (hne D hD), by rw [sizeLine_eq, ← p5.length, List.length_range]; omega, hD, ?_, hI _ _ i3 (by rw [upd_ne (Ne.symm (hne D hD))]), ys ++ [y], upd_same, ?_⟩))
  · exact (p2.trans k3).free hD
  · have e3 := k3 _ _ p4 (hne D hD)
    have t3 := hT _ _ p3 k3
    have t4 : TExt H3 (upd H3 D (.lst (ys ++ [y]))) := TExt.lst Keep.at_ e3
    rw [List.range_succ]
    exact (Paired.mapP p5 fun u z r => hR _ _ _ _ (t3.trans t4) r).snoc (hR _ _ _ _ t4 r3)
theorem paired_ex {α β : Type} {R : α → β → Prop} {f : β → PyData} : ∀ {as : List α} {ys : List V}, Paired (fun c y => ∃ z, Dp K H y (f z) ∧ R c z) as ys → ∃ zs : List β, DpAll K H ys (zs.map f) ∧ Paired R as zs
  | _, _, .nil => ⟨[], .nil, .nil⟩
  | _, _, .cons h1 h2 => by
    obtain ⟨z, d, r⟩ := h1
    obtain ⟨zs, ds, rs⟩ := paired_ex h2
    exact ⟨z :: zs, .cons d ds, .cons r rs⟩
theorem paired_right {α : Type} {P : V → Prop} : ∀ {as : List α} {ys : List V}, Paired (fun _ y => P y) as ys → ∀ y ∈ ys, P y
  | _, _, .nil, y, h => by simp at h
  | _, _, .cons h1 h2, y, h => by
    rcases List.mem_cons.mp h with rfl | h
    · exact h1
    · exact paired_right h2 y h
theorem paired_ints {α : Type} {R : α → Int → Prop} : ∀ {as : List α} {ys : List V}, Paired (fun c y => ∃ z, y = V.int z ∧ R c z) as ys → ∃ zs : List Int, ys = zs.map V.int ∧ Paired R as zs
  | _, _, .nil => ⟨[], rfl, .nil⟩
  | _, _, .cons h1 h2 => by
    obtain ⟨z, rfl, r⟩ := h1
    obtain ⟨zs, rfl, rs⟩ := paired_ints h2
    exact ⟨z :: zs, rfl, .cons r rs⟩
theorem int_at {zs : List Int} {i : Nat} {x : V} (h : (zs.map V.int)[i]? = some x) : ∃ z, zs[i]? = some z ∧ x = .int z := by
  rw [List.getElem?_map] at h
  obtain ⟨z, h1, h2⟩ := Option.map_eq_some_iff.mp h
  exact ⟨z, h1, h2.symm⟩
/-- over a tuple of data -/
theorem lc_tupD {α : Type} {as : List α} {fa : α → PyData} {ws : List V} (h1 : SqT K H a ws) (h2 : DpAll K H ws (as.map fa)) (hn : as.length ≤ 16777216) (f : α → Bool) (fx : α → PyData) (hi : ∀ c, imm (fx c) = true)
    (hs : ∀ c x H2 (S : VK) (N : Hp → Prop), c ∈ as → Same H H2 → Dp K H2 x (fa c) → (f c = true → ∀ y H3, Same H2 H3 → Dp K H3 y (fx c) → S y H3) → (f c = false → ∀ H3, Same H2 H3 → N H3) →
      g x (wipe σ vs) H2 fun σ2 H3 => wipe σ2 vs = wipe σ vs ∧ tt σ2 H3 fun b H4 => if b = true then te σ2 H4 S else N H4)
    (q : ∀ D H' ys, H D = none → Same H H' → H' D = some (.lst ys) → DpAll K H' ys ((as.filter f).map fx) → Q (.ref D) H') : LcW (Itt K a) g tt te vs σ H Q := by
  have hl : ws.length = as.length := by rw [dpAll_len h2]; simp
  have w : Wk (Itt K a) as.length (fun H' => SqT K H' a ws ∧ Same H H') (fun i H2 x H' => H' = H2 ∧ Same H H2 ∧ ws[i]? = some x) := by
    rw [← hl]
    exact ⟨fun i H e => wk_tup.go i H e.1, fun i H e => wk_tup.stop i H e.1, fun i H2 x H' e y => by have z := wk_tup.yld i H2 x H' e.1 y; exact ⟨z.1, e.2, z.2⟩⟩
  refine lc_gen as (fun c x H2 => Dp K H2 x (fa c)) w (fun i H2 x H' hi h => ?_) (fun H' s => ⟨SqT.text (TExt.of_same s) h1, s⟩) hn f (fun H c y => Dp K H y (fx c)) (fun H H' c y e h => Dp.text e _ _ (hi c) h) hs
    (fun D H' ys hD s e p => q D H' ys hD s e (paired_dp p))
  obtain ⟨rfl, s, hx⟩ := h
  obtain ⟨c, hc, hd⟩ := dpAll_map_at h2 hx
  exact ⟨c, hc, Same.refl _, Dp.same s _ _ hd⟩
/-- over a list of data -/
theorem lc_lstD {α : Type} {as : List α} {fa : α → PyData} {ws : List V} (h1 : SqL K H a ws) (h2 : DpAll K H ws (as.map fa)) (hn : as.length ≤ 16777216) (f : α → Bool) (fx : α → PyData) (hi : ∀ c, imm (fx c) = true)
    (hs : ∀ c x H2 (S : VK) (N : Hp → Prop), c ∈ as → Same H H2 → Dp K H2 x (fa c) → (f c = true → ∀ y H3, Same H2 H3 → Dp K H3 y (fx c) → S y H3) → (f c = false → ∀ H3, Same H2 H3 → N H3) →
      g x (wipe σ vs) H2 fun σ2 H3 => wipe σ2 vs = wipe σ vs ∧ tt σ2 H3 fun b H4 => if b = true then te σ2 H4 S else N H4)
    (q : ∀ D H' ys, H D = none → Same H H' → H' D = some (.lst ys) → DpAll K H' ys ((as.filter f).map fx) → Q (.ref D) H') : LcW (Itl K a) g tt te vs σ H Q := by
  have hl : ws.length = as.length := by rw [dpAll_len h2]; simp
  have w : Wk (Itl K a) as.length (fun H' => SqL K H' a ws ∧ Same H H') (fun i H2 x H' => H' = H2 ∧ Same H H2 ∧ ws[i]? = some x) := by
    rw [← hl]
    exact ⟨fun i H e => wk_list.go i H e.1, fun i H e => wk_list.stop i H e.1, fun i H2 x H' e y => by have z := wk_list.yld i H2 x H' e.1 y; exact ⟨z.1, e.2, z.2⟩⟩
  refine lc_gen as (fun c x H2 => Dp K H2 x (fa c)) w (fun i H2 x H' hi h => ?_) (fun H' s => ⟨s.seq h1, s⟩) hn f (fun H c y => Dp K H y (fx c)) (fun H H' c y e h => Dp.text e _ _ (hi c) h) hs
    (fun D H' ys hD s e p => q D H' ys hD s e (paired_dp p))
  obtain ⟨rfl, s, hx⟩ := h
  obtain ⟨c, hc, hd⟩ := dpAll_map_at h2 hx
  exact ⟨c, hc, Same.refl _, Dp.same s _ _ hd⟩
/-- over whatever is walked, one object p being changed in each turn -/
theorem lc_genK {α : Type} {p : Addr} (I : Hp → Prop) (h0 : I H) (hne : ∀ D, H D = none → D ≠ p) (hU : ∀ H1 D ys, H D = none → I H1 → (H1 D = none ∨ ∃ l, H1 D = some (.lst l)) → I (upd H1 D (.lst ys))) (hT : ∀ H1 H2, I H1 → Keep (At p) H1 H2 → TExt H1 H2)
    (as : List α) (It1 : α → V → Hp → Prop) (w : Wk J as.length src item) (hit : ∀ i H x H', i < as.length → item i H x H' → ∃ c, as[i]? = some c ∧ H' = H ∧ It1 c x H') (hsrc : ∀ H', Keep (At p) H H' → I H' → src H')
    (hn : as.length ≤ 16777216) (R : Hp → α → V → Prop) (hR : ∀ H H' c y, TExt H H' → R H c y → R H' c y)
    (hs : ∀ c x H2 (S : VK) (N : Hp → Prop), c ∈ as → Keep (At p) H H2 → I H2 → It1 c x H2 → (∀ y H3, Keep (At p) H2 H3 → I H3 → R H3 c y → S y H3) →
      g x (wipe σ vs) H2 fun σ2 H3 => wipe σ2 vs = wipe σ vs ∧ tYes σ2 H3 fun b H4 => if b = true then te σ2 H4 S else N H4)
    (q : ∀ D H' ys, H D = none → Keep (At p) H H' → I H' → H' D = some (.lst ys) → Paired (R H') as ys → Q (.ref D) H') : LcW J g tYes te vs σ H Q := by
  refine lc_wk w (fun D i H' => H D = none ∧ Keep (At p) H H' ∧ I H' ∧ ∃ ys, H' D = some (.lst ys) ∧ Paired (R H') (as.take i) ys) (fun D hD => ⟨hD, fun b o e _ => by rw [upd_ne (ne_of_none e hD)]; exact e, hU _ _ _ hD h0 (.inl hD), [], by simp [upd_same], by simpa using Paired.nil⟩)
    (fun D i H' _ p => hsrc H' p.2.1 p.2.2.1) ?_ (fun D H' hD p => by obtain ⟨p1, p2, p3, ys, p4, p5⟩ := p; rw [List.take_length] at p5; exact q D H' ys hD p2 p3 p4 p5)
  rintro D i x H2 H' hD hi ⟨p1, p2, p3, ys, p4, p5⟩ hx
  obtain ⟨c, hc, rfl, hI⟩ := hit i H2 x H' hi hx
  have hm : c ∈ as := List.mem_of_getElem? hc
  refine hs c x H' _ _ hm p2 p3 hI (fun y H3 k3 i3 r3 => ⟨ys, k3 _ _ p4 (hne D hD), by rw [sizeLine_eq, ← p5.length, List.length_take]; omega, hD, ?_, hU _ _ _ hD i3 (.inr ⟨ys, k3 _ _ p4 (hne D hD)⟩), ys ++ [y], upd_same, ?_⟩)
  · exact (p2.trans k3).free hD
  · have e3 := k3 _ _ p4 (hne D hD)
    have t3 := hT _ _ p3 k3
    have t4 : TExt H3 (upd H3 D (.lst (ys ++ [y]))) := TExt.lst Keep.at_ e3
    rw [take_snoc hc]
    exact (Paired.mapP p5 fun u z r => hR _ _ _ _ (t3.trans t4) r).snoc (hR _ _ _ _ t4 r3)
/-- over zip of two tuples of data -/
theorem lc_zipD {α β : Type} {as : List α} {bs : List β} {fa : α → PyData} {fb : β → PyData} {b : Addr} {xs ys : List V} (h1 : SqT K H a xs) (d1 : DpAll K H xs (as.map fa)) (h2 : SqT K H b ys) (d2 : DpAll K H ys (bs.map fb)) (hn : as.length ≤ 16777216)
    (f : α × β → Bool) (fx : α × β → PyData) (hi : ∀ c, imm (fx c) = true)
    (hs : ∀ c T x y H2 (S : VK) (N : Hp → Prop), c ∈ as.zip bs → Same H H2 → H2 T = some (.tup [x, y]) → Dp K H2 x (fa c.1) → Dp K H2 y (fb c.2) → (f c = true → ∀ z H3, Same H2 H3 → Dp K H3 z (fx c) → S z H3) → (f c = false → ∀ H3, Same H2 H3 → N H3) →
      g (.ref T) (wipe σ vs) H2 fun σ2 H3 => wipe σ2 vs = wipe σ vs ∧ tt σ2 H3 fun b H4 => if b = true then te σ2 H4 S else N H4)
    (q : ∀ D H' zs, H D = none → Same H H' → H' D = some (.lst zs) → DpAll K H' zs (((as.zip bs).filter f).map fx) → Q (.ref D) H') : LcW (RZ.ItzT K a b) g tt te vs σ H Q := by
  have l1 : xs.length = as.length := by rw [dpAll_len d1]; simp
  have l2 : ys.length = bs.length := by rw [dpAll_len d2]; simp
  have hl : min xs.length ys.length = (as.zip bs).length := by rw [l1, l2, List.length_zip]
  have w : Wk (RZ.ItzT K a b) (as.zip bs).length (fun H' => (SqT K H' a xs ∧ SqT K H' b ys) ∧ Same H H') (fun i H2 v H' => Same H H2 ∧ ∃ T x y, v = .ref T ∧ H2 T = none ∧ H' = upd H2 T (.tup [x, y]) ∧ xs[i]? = some x ∧ ys[i]? = some y) := by
    rw [← hl]
    exact ⟨fun i H e => wk_zipT.go i H e.1, fun i H e => wk_zipT.stop i H e.1, fun i H2 x H' e y => ⟨e.2, wk_zipT.yld i H2 x H' e.1 y⟩⟩
  refine lc_gen (as.zip bs) (fun c v H2 => ∃ T x y, v = .ref T ∧ H2 T = some (.tup [x, y]) ∧ Dp K H2 x (fa c.1) ∧ Dp K H2 y (fb c.2)) w (fun i H2 v H' hi h => ?_) (fun H' s => ⟨⟨SqT.text (TExt.of_same s) h1, SqT.text (TExt.of_same s) h2⟩, s⟩) (by rw [List.length_zip]; omega) f (fun H c y => Dp K H y (fx c)) (fun H H' c y e h => Dp.text e _ _ (hi c) h)
    (fun c v H2 S N hc s hv k1 k2 => ?_) (fun D H' ys hD s e p => q D H' ys hD s e (paired_dp p))
  · obtain ⟨s, T, x, y, rfl, hT, rfl, hx, hy⟩ := h
    obtain ⟨c, hc, hd⟩ := dpAll_map_at d1 hx
    obtain ⟨c', hc', hd'⟩ := dpAll_map_at d2 hy
    have sT : Same H2 (upd H2 T (.tup [x, y])) := Keep.same (Keep.new hT)
    exact ⟨(c, c'), by rw [List.getElem?_zip_eq_some]; exact ⟨hc, hc'⟩, sT, T, x, y, rfl, upd_same, Dp.same (s.trans sT) _ _ hd, Dp.same (s.trans sT) _ _ hd'⟩
  · obtain ⟨T, x, y, rfl, hT, hx, hy⟩ := hv
    exact hs c T x y H2 S N hc s hT hx hy k1 k2
end
theorem cx_none {P : Program} {w : World} {H : Hp} {s : Shared} {e : Value} {s' : Shared} (h : L2.CX P w [] H s (fun _ _ _ => False) e s') : False := by
  obtain ⟨_, _, _, _, _, _, _, _, _, _, _, _, z⟩ := h
  exact z.elim
/-! ### exceptions of the program's own: classes over ValueError without a body -/
def bmV : List Value := [.type "ValueError", .type "Exception", .type "BaseException", .type "object"]
structure Exc (K : PySem.W.Frag) (mg : Str → Option Value) (x : Str) (C : Addr) : Prop where
  g : mg x = some (.ref C)
  ex : PySem.W.excIn K C bmV "ValueError.__new__" = true
  kp : PySem.W.keepIn K (.ref C) = true
  bs : PySem.W.subIn K (.ref C) (.type "BaseException") = some true
  ty : PySem.W.typeIn K (.ref C) = some (.type "type")
section
variable {X : Cx} {k j : Nat} {ps : List Str} {sp : Sp} {E : XK} {x : Str} {p pos : Pos} {e : Expr} {es : List Expr} {t : TA} {C : Addr}
/-- raise X('..') -/
theorem ps_rs {W : WX} {m : Str} {jj : Nat} {p2 pos2 : Pos} (T : Exc X.K X.mg x C) (tk : Takes X W) (hc : X.calm = true := by rfl) (hg : Gl X x := by rfl) (hdb : (x == ("__debug__" : Str)) = false := by decide) :
    PS X (.Raise (some (.Call (.Name x p) [.Constant (.str m) jj p2] [] pos)) none pos2) (fun _ σ H => W (.ref C) none σ H) :=
  ps_raise hc tk (pmk_own PySem.F.excBase_ValueError T.ex T.g T.kp (raises_own T.bs T.ty) hg hdb)
/-- a call whose exception leaves this def -/
theorem pe_fnX (F : Fn X.prog X.w X.K X.mg X.base k x ps sp) (hr : Room j X.A) (tk : Takes X (fun cls d _ H => E cls d H)) (ha : PA X (e :: es) t) (hk : k ≤ j := by decide) (hg : Gl X x := by rfl)
    (hdb : (x == ("__debug__" : Str)) = false := by decide) (he : starEach (e :: es) X.env = (false, eval e X.env) :: starEach es X.env := by rfl) (hpl : (backTo pos (starEach es X.env)).any (·.1) = false := by rfl) :
    PE X (.Call (.Name x p) (e :: es) [] pos) (tFn sp E t) := pe_fnE F hr hk hg (passes_call tk fun _ _ _ _ h => h) ha hdb he hpl
end
theorem eqv_same {d : PyData} (h : SeqAt.shaped d = true) : PyData.eqv d d = true := SeqAt.eqv_refl d (SeqAt.canLay_of_shaped h)
/-- a statement, then the rest, with a word between -/
theorem r_cut {σ : St} {H : Hp} {tu tw : TS} {nx bk ct : St → Hp → Prop} {rt : VK} (Mid : St → Hp → Prop) (h : tu ⟨Mid, rt, bk, ct⟩ σ H) (k : ∀ σ' H', Mid σ' H' → tw ⟨nx, rt, bk, ct⟩ σ' H') : Evl.tCut tu tw ⟨nx, rt, bk, ct⟩ σ H := ⟨Mid, h, k⟩
/-! ### texts -/
open TL (tl tl_append mk_tl joinL tl_join join_eq)
section
variable {X : Cx} {K : PySem.W.Frag} {σ : St} {H : Hp} {Q : VK} {to te ta tb : TE} {o e : Expr} {a p : Addr}
def uJoin (K : PySem.W.Frag) : V → List V → Hp → VK → Prop := fun x xs H Q => ∃ a p, ∃ ys : List Str, x = .str a ∧ xs = [.ref p] ∧ (SqL K H p (ys.map V.str) ∨ SqT K H p (ys.map V.str)) ∧
  (ys.map (·.length)).sum + ys.length * a.length ≤ 16777216 ∧ Q (.str (Txt.join a ys)) H
theorem pe_joinU (K : PySem.W.Frag) {apos pos : Pos} (ho : PE X o to) (he : PE X e te) (hs : starEach [e] X.env = [(false, eval e X.env)] := by rfl) (hbase : attributeBase o "join" X.env (eval o X.env) = eval o X.env := by rfl) (hline : (apos.endLine == pos.line) = true := by rfl) (hK : X.K = K := by rfl) :
    PE X (.Call (.Attribute o "join" apos) [e] [] pos) (tM1 (uJoin K) to te) := hK ▸ pe_join ho he hs hbase hline
def uM1 (r : V → List V → Hp → VK → Prop) (te : TE) (σ : St) (x : V) (H : Hp) (Q : VK) : Prop := (∃ a, x = .str a) ∧ te σ H fun y H2 => r x [y] H2 Q
theorem r_m1 {r : V → List V → Hp → VK → Prop} (q : to σ H fun x H1 => uM1 r te σ x H1 Q) : tM1 r to te σ H Q := q
theorem r_m1s {r : V → List V → Hp → VK → Prop} {z : Str} (q : te σ H fun y H2 => r (.str z) [y] H2 Q) : uM1 r te σ (.str z) H Q := ⟨⟨z, rfl⟩, q⟩
theorem r_join {z : Str} {ys : List Str} (h : SqL K H p (ys.map V.str)) (hz : (ys.map (·.length)).sum + ys.length * z.length ≤ 16777216) (q : Q (.str (Txt.join z ys)) H) : uJoin K (.str z) [.ref p] H Q := ⟨z, p, ys, rfl, rfl, .inl h, hz, q⟩
def uAddS : R2 := fun x y H Q => ∃ i j, x = .str i ∧ y = .str j ∧ i.length + j.length ≤ sizeLine ∧ Q (.str (i ++ j)) H
theorem o_adds : OpR X (binaryOp .Add) uAddS := op_add_str
theorem r_adds {i j : Str} (h : i.length + j.length ≤ sizeLine) (q : Q (.str (i ++ j)) H) : uAddS (.str i) (.str j) H Q := ⟨i, j, rfl, rfl, h, q⟩
theorem tl_inj {x y : Str} (h : tl x = tl y) : x = y := by
  have := congrArg (fun l => (⟨l.toArray⟩ : Str)) h
  rw [← mk_tl x, ← mk_tl y]
  exact this
theorem len_tl (x : Str) : x.length = (tl x).length := by simp [tl, Str.length]
theorem joinL_nil : ∀ ps : List (List Nat), joinL [] ps = ps.flatten
  | [] => rfl
  | [p] => by simp [joinL]
  | p :: q :: r => by
    show p ++ ([] ++ joinL [] (q :: r)) = _
    rw [joinL_nil (q :: r)]
    simp
theorem sum_lens {B : Nat} : ∀ {l : List Str}, (∀ c ∈ l, c.length ≤ B) → (l.map (·.length)).sum ≤ l.length * B
  | [], _ => by simp
  | c :: l, h => by
    have h1 := h c (List.mem_cons_self ..)
    have h2 := sum_lens fun d hd => h d (List.mem_cons_of_mem _ hd)
    simp only [List.map_cons, List.sum_cons, List.length_cons, Nat.add_mul, Nat.one_mul]
    omega
theorem tl_join0 (ys : List Str) : tl (Txt.join ("" : Str) ys) = (ys.map tl).flatten := by
  rw [join_eq, tl_join, show tl ("" : Str) = [] by decide +kernel, joinL_nil]
theorem dpAll_strs {K : PySem.W.Frag} {H : Hp} : ∀ {ws : List V} {zs : List Str}, DpAll K H ws (zs.map PyData.str) → ws = zs.map V.str
  | _, [], .nil => rfl
  | _, n :: ns, .cons h1 h2 => by rw [dp_str h1, dpAll_strs h2]; rfl
theorem dpAll_ofStrs (K : PySem.W.Frag) (H : Hp) : ∀ zs : List Str, DpAll K H (zs.map V.str) (zs.map PyData.str)
  | [] => .nil
  | n :: ns => .cons (.str n) (dpAll_ofStrs K H ns)
end
/-! ### range with a step -/
section
variable {X : Cx} {σ : St} {H : Hp} {tg a b c : Expr} {ta : TA}
def uRng3 (vs : List V) (H : Hp) (R : It → Hp → Prop) : Prop := ∃ (i j c : Int) (n : Nat), vs = [.int i, .int j, .int c] ∧ RgC i j c n ∧ R (Itc i c n) H
def iRngU (ta : TA) : TI := fun σ H R => ta σ H fun vs H1 => uRng3 vs H1 R
theorem pi_rangeU {p pos : Pos} (hg : Gl X "range") (hm : X.mg "range" = none) (ha : PA X [a, b, c] ta)
    (hs : starEach [a, b, c] X.env = (false, eval a X.env) :: starEach [b, c] X.env := by rfl) (hpl : (backTo pos (starEach [b, c] X.env)).any (·.1) = false := by rfl) :
    PI X tg (.Call (.Name "range" p) [a, b, c] [] pos) (iRngU ta) := pi_range3 hg hm ha hs hpl
theorem r_irngU {R : It → Hp → Prop} (q : ta σ H fun vs H1 => uRng3 vs H1 R) : iRngU ta σ H R := q
theorem r_rngdown {i j : Int} {R : It → Hp → Prop} (h : -1000000 ≤ i ∧ i ≤ 1000000 ∧ -1000000 ≤ j ∧ j ≤ 1000000) (q : R (Itc i (-1) (i - j).toNat) H) : uRng3 [.int i, .int j, .int (-1)] H R :=
  ⟨i, j, -1, _, rfl, RgC.neg (by omega) (by omega) (by omega) (by omega), q⟩
end
/-! ### shifts -/
def uShl : R2 := fun x y H Q => ∃ (i : Int) (k : Nat), x = .int i ∧ y = .int (k : Int) ∧ CShl i (k : Int) ∧ Q (.int (i * 2 ^ k)) H
def uShr : R2 := fun x y H Q => ∃ (i : Int) (k : Nat), x = .int i ∧ y = .int (k : Int) ∧ Q (.int (i / 2 ^ k)) H
theorem o_shl {X : Cx} : OpR X (binaryOp .LShift) uShl := op_shlN
theorem o_shr {X : Cx} : OpR X (binaryOp .RShift) uShr := op_shrN
theorem r_shl {i : Int} {k : Nat} {H : Hp} {Q : VK} (h : i.natAbs < 2 ^ 64 ∧ k ≤ 1000) (q : Q (.int (i * 2 ^ k)) H) : uShl (.int i) (.int (k : Int)) H Q := ⟨i, k, rfl, rfl, shl_ok h.1 (by omega), q⟩
theorem r_shl1 {k : Nat} {H : Hp} {Q : VK} (h : k ≤ 1000) (q : Q (.int (2 ^ k)) H) : uShl (.int 1) (.int (k : Int)) H Q := r_shl ⟨by decide, h⟩ (by rw [Int.one_mul]; exact q)
theorem r_shl2 {k : Nat} {H : Hp} {Q : VK} (h : k ≤ 1000) (q : Q (.int (2 ^ (k + 1))) H) : uShl (.int 2) (.int (k : Int)) H Q := r_shl ⟨by decide, h⟩ (by
  have e : (2 : Int) * 2 ^ k = 2 ^ (k + 1) := by rw [Int.pow_succ]; omega
  rw [e]; exact q)
theorem r_shr {i : Int} {k : Nat} {H : Hp} {Q : VK} (q : Q (.int (i / 2 ^ k)) H) : uShr (.int i) (.int (k : Int)) H Q := ⟨i, k, rfl, rfl, q⟩
/-! ### numbers -/
theorem two_pos (n : Nat) : (0 : Int) < 2 ^ n := Int.pow_pos (by decide)
theorem two_succ (n : Nat) : (2 : Int) ^ (n + 1) = 2 * 2 ^ n := by rw [Int.pow_succ]; omega
theorem div_is {x w i : Int} (hw : 0 < w) (h1 : i * w ≤ x) (h2 : x < i * w + w) : x / w = i := by
  have a : i ≤ x / w := (Int.le_ediv_iff_mul_le hw).mpr h1
  have b : x / w < i + 1 := (Int.ediv_lt_iff_lt_mul hw).mpr (by rw [Int.add_mul, Int.one_mul]; exact h2)
  omega
end Fp
/-! defs that show data (repr): they are called where no object is being shown (guards = some []); call, body and end of a law once more with that premise -/
namespace Fp
open PySem PySem.Spec PyProof.Rows L2
/-- a promise that holds where nothing is being shown -/
structure OkG (P : Program) (w : World) (K : PySem.W.Frag) (mg : Str → Option Value) (base : Heap) (CX : CXT) (k : Nat) (f : Addr) (fd : FuncData) (ps : List Str) (sp : Sp) : Prop where
  len : ∀ vs H Q E, sp vs H Q E → vs.length = ps.length
  run : ∀ (A : Around) (outer : List Env) (s : Shared) (H : Hp) (args : Args) (us : List Value) (vs : List V) (Q : VK) (E : XK), A.guards = some [] → Room k A →
    Env0 P w K mg base A outer s H → BindsTo s fd args (ps.zip us) → Vals vs us → sp vs H Q E → codeAny (model P w) A (.call (.ref f) args) (CR CX outer P w H s Q E) s
structure FnG (P : Program) (w : World) (K : PySem.W.Frag) (mg : Str → Option Value) (base : Heap) (k : Nat) (x : Str) (ps : List Str) (sp : Sp) : Prop where
  ex : ∃ f fd, mg x = some (.ref f) ∧ PySem.W.keepIn K (.ref f) = true ∧ Binds K fd ps [] ∧ OkG P w K mg base (L2.CX P w) k f fd ps sp
section
variable {P : Program} {w : World} {K : PySem.W.Frag} {mg : Str → Option Value} {base : Heap}
theorem OkG.mono {CX : CXT} {j k : Nat} {f : Addr} {fd : FuncData} {ps : List Str} {sp : Sp} (F : OkG P w K mg base CX j f fd ps sp) (h : j ≤ k) : OkG P w K mg base CX k f fd ps sp :=
  ⟨F.len, fun A outer s H args us vs Q E hg hr => F.run A outer s H args us vs Q E hg (hr.mono h)⟩
theorem OkG.up {k : Nat} {f : Addr} {fd : FuncData} {ps : List Str} {sp : Sp} (F : OkG P w K mg base CX0 k f fd ps sp) : OkG P w K mg base (L2.CX P w) k f fd ps sp :=
  ⟨F.len, fun A outer s H args us vs Q E hg hr he hb hv hs => codeAny_mono (F.run A outer s H args us vs Q E hg hr he hb hv hs) fun r s' hq => by
    cases r with
    | error e => exact False.elim hq
    | ok fl => cases fl <;> exact hq⟩
/-- the rule for a def by its body, the guards known -/
theorem ok_bodyG {CX : CXT} {x qual : Str} {st : Stmt} {f : Addr} {fd : FuncData} {N ps : List Str} {k : Nat} {sp : Sp} (F : Fun K x qual st f fd) (S : FnScope N ps (defScope st)) (len : ∀ vs H Q E, sp vs H Q E → vs.length = ps.length)
    (body : ∀ (cdv : Value) (A : Around) (outer : List Env) (s : Shared) (H : Hp) (vs : List V) (Q : VK) (E : XK), A.guards = some [] → Room k (A.deeper (envOfC qual (defScope st) s.heap.objs.size f cdv)) → sp vs H Q E →
      ∃ t, PSs (cxOf CX P w K mg base N qual (defScope st) f cdv A outer s H E) (defBody st) t ∧ t { nx := fun _ H' => Q .non H', rt := Q } (start N vs) H) : OkG P w K mg base CX (k + 1) f fd ps sp := by
  obtain ⟨oc, od, kV, doc, pm, an, cdv, ct, osl, rfl, lk, hcd⟩ := F.ex
  refine ⟨len, fun A outer s H args us vs Q E hg hr e0 hb rv hsp => ?_⟩
  have KX : K.In s.heap := e0.mod.kin.keeps fun b o e => (e0.bs b o e).1
  have lim : s.heap.NoLimit := e0.mod.nolimit.keeps fun b o e => (e0.bs b o e).1
  have kinds : ∀ y ∈ ps.zip us, (defScope st).names.lookup y.1 = some .local ∨ ((defScope st).names.lookup y.1 = some .cell ∧ ((cellsFrom (s.heap.objs.size + 1) (defScope st).names []).lookup y.1).isSome = true) := by
    rintro ⟨n, v⟩ hy
    exact (S.par n (List.of_mem_zip hy).1).elim .inl fun q => .inr ⟨q, PySem.W.cellsFrom_some _ _ _ (.inl q)⟩
  refine codeAny_call_function hr.depth (KX _ _ lk) rfl S.co S.gen rfl (PySem.W.codeRec_of KX hcd) (hb _ _ _ _ (wpAny_newFunctionEnv_cells S.kind kinds ?_))
  intro env he s1 x1
  subst he
  refine ⟨lim.keeps x1.toInCall.keep, codeAny_func ?_⟩
  obtain ⟨t, ht, hq⟩ := body cdv A outer s H vs Q E hg (hr.deeper _) hsp
  have I0 := inv_start (CX := CX) (P := P) (w := w) (K := K) (mg := mg) (base := base) (qual := qual) (f := f) (cd := cdv) (E := E) S hr.hd e0 (len _ _ _ _ hsp) rv x1
  refine wpAny_mono (ht.run [] s1 (start N vs) H _ I0 hq) (fun fl s' hs => ?_) fun e s' hs => hs
  cases fl with
  | next => obtain ⟨σ', H', J, q⟩ := hs; exact ⟨V.non, H', J.os, J.bare, J.base, J.hok, rfl, q⟩
  | ret u => obtain ⟨v, σ', H', J, r', q⟩ := hs; exact ⟨v, H', J.os, J.bare, J.base, J.hok, r', q⟩
  | brk => obtain ⟨_, _, _, q⟩ := hs; exact q.elim
  | cont => obtain ⟨_, _, _, q⟩ := hs; exact q.elim
theorem Fun.okG {x qual : Str} {st : Stmt} {f : Addr} {fd : FuncData} {N ps : List Str} {k : Nat} {sp : Sp} (F : Fun K x qual st f fd) (S : FnScope N ps (defScope st)) (len : ∀ vs H Q E, sp vs H Q E → vs.length = ps.length)
    (body : ∀ (cdv : Value) (A : Around) (outer : List Env) (s : Shared) (H : Hp) (vs : List V) (Q : VK) (E : XK), A.guards = some [] → Room k (A.deeper (envOfC qual (defScope st) s.heap.objs.size f cdv)) → sp vs H Q E →
      ∃ t, PSs (cxOf CX0 P w K mg base N qual (defScope st) f cdv A outer s H E).nox (defBody st) t ∧ t { nx := fun _ H' => Q .non H', rt := Q } (start N vs) H) : OkG P w K mg base (L2.CX P w) (k + 1) f fd ps sp :=
  (ok_bodyG F S len fun cdv A outer s H vs Q E hg hr h => let ⟨t, h1, h2⟩ := body cdv A outer s H vs Q E hg hr h; ⟨t, h1.nox, h2⟩).up
theorem Def.okG {x : Str} {st : Stmt} {N ps : List Str} {k : Nat} {sp : Sp} (D : Def K mg x st ps) (S : FnScope N ps (defScope st)) (len : ∀ vs H Q E, sp vs H Q E → vs.length = ps.length)
    (body : ∀ (f : Addr) (cdv : Value) (A : Around) (outer : List Env) (s : Shared) (H : Hp) (vs : List V) (Q : VK) (E : XK), A.guards = some [] → Room k (A.deeper (envOfC x (defScope st) s.heap.objs.size f cdv)) → sp vs H Q E →
      ∃ t, PSs (cxOf CX0 P w K mg base N x (defScope st) f cdv A outer s H E).nox (defBody st) t ∧ t { nx := fun _ H' => Q .non H', rt := Q } (start N vs) H) : FnG P w K mg base (k + 1) x ps sp := by
  obtain ⟨f, fd, F, hm, hb⟩ := D.ex
  exact ⟨f, fd, hm, F.kp, hb, Fun.okG F S len (body f)⟩
theorem Fun.okGX {x qual : Str} {st : Stmt} {f : Addr} {fd : FuncData} {N ps : List Str} {k : Nat} {sp : Sp} (F : Fun K x qual st f fd) (S : FnScope N ps (defScope st)) (len : ∀ vs H Q E, sp vs H Q E → vs.length = ps.length)
    (body : ∀ (cdv : Value) (A : Around) (outer : List Env) (s : Shared) (H : Hp) (vs : List V) (Q : VK) (E : XK), A.guards = some [] → Room k (A.deeper (envOfC qual (defScope st) s.heap.objs.size f cdv)) → sp vs H Q E →
      ∃ t, PSs (cxOf (L2.CX P w) P w K mg base N qual (defScope st) f cdv A outer s H E) (defBody st) t ∧ t { nx := fun _ H' => Q .non H', rt := Q } (start N vs) H) : OkG P w K mg base (L2.CX P w) (k + 1) f fd ps sp := ok_bodyG F S len body
theorem Def.okGX {x : Str} {st : Stmt} {N ps : List Str} {k : Nat} {sp : Sp} (D : Def K mg x st ps) (S : FnScope N ps (defScope st)) (len : ∀ vs H Q E, sp vs H Q E → vs.length = ps.length)
    (body : ∀ (f : Addr) (cdv : Value) (A : Around) (outer : List Env) (s : Shared) (H : Hp) (vs : List V) (Q : VK) (E : XK), A.guards = some [] → Room k (A.deeper (envOfC x (defScope st) s.heap.objs.size f cdv)) → sp vs H Q E →
      ∃ t, PSs (cxOf (L2.CX P w) P w K mg base N x (defScope st) f cdv A outer s H E) (defBody st) t ∧ t { nx := fun _ H' => Q .non H', rt := Q } (start N vs) H) : FnG P w K mg base (k + 1) x ps sp := by
  obtain ⟨f, fd, F, hm, hb⟩ := D.ex
  exact ⟨f, fd, hm, F.kp, hb, Fun.okGX F S len (body f)⟩
end
section
variable {X : Cx} {k j : Nat} {ps : List Str} {sp : Sp} {E : XK} {x : Str} {p pos : Pos} {e : Expr} {es : List Expr} {t : TA}
/-- a call of such a def -/
theorem pe_fnG (F : FnG X.prog X.w X.K X.mg X.base k x ps sp) (gs : X.A.guards = some []) (hr : Room j X.A) (ha : PA X (e :: es) t) (hk : k ≤ j := by decide) (hg : Gl X x := by rfl)
    (hdb : (x == ("__debug__" : Str)) = false := by decide) (he : starEach (e :: es) X.env = (false, eval e X.env) :: starEach es X.env := by rfl) (hpl : (backTo pos (starEach es X.env)).any (·.1) = false := by rfl) :
    PE X (.Call (.Name x p) (e :: es) [] pos) (tFn sp E0 t) := by
  obtain ⟨f, fd, hm, hkp, hb, G⟩ := F.ex
  refine ⟨fun pins s σ H Q I h => wpAny_Call_Name_kw (ld_glob I hg hm ?_ hdb)⟩
  refine PySem.W.callWith_K (h₀ := X.base) I.ok.mod.kin hkp (thn (ha.run pos pins s σ H _ I h) ?_) he hpl
  rintro us s1 ⟨vs, H1, I1, rv, q⟩
  refine ⟨I1.kIn, ?_⟩
  have lens : us.length = ps.length := rv.length.symm.trans (G.len _ _ _ _ q)
  have bnd := hb s1 us I1.kIn (by simpa using lens)
  rw [List.append_nil] at bnd
  refine wpAny_call (codeAny_mono ((G.mono hk).run X.A X.stack s1 H1 ⟨us, []⟩ us vs Q E0 gs hr I1.env0 bnd rv q) ?_)
  intro r s2 hq
  cases r with
  | error e => exact passL pins σ H1 s1 e s2 I1 hq
  | ok fl =>
    cases fl with
    | ret u => exact I1.after hq
    | next => exact hq.elim
    | brk => exact hq.elim
    | cont => exact hq.elim
/-- repr(..) of data -/
structure Show (d : PyData) : Prop where
  s : d.showable = true
  n : d.hasDict = false
  l : d.shown.length ≤ sizeLine
  d : d.depth ≤ 32
def uRepr (K : PySem.W.Frag) : List V → Hp → VK → Prop := fun xs H Q => ∃ x d, xs = [x] ∧ Dp K H x d ∧ (d = .none ∨ ∃ ds, d = .tuple ds ∨ d = .list ds) ∧ Show d ∧ Q (.str d.shown) H
theorem call_reprD (gs : X.A.guards = some []) (hu : X.A.units + 64 < cLine) : CallR X (.builtin "repr") (uRepr X.K) := by
  intro pins s σ H vs us Q I rv h
  obtain ⟨x, d, rfl, hd, hds, sh, q⟩ := h
  cases rv with
  | cons r1 r2 =>
    cases r2
    rcases hds with rfl | hds
    · cases dp_non hd
      cases r1
      refine PySem.P.repr_of_none ?_
      have e : (PyData.none).shown = "None" := by simp [PyData.shown]
      rw [e] at q
      exact ⟨.str "None", H, I.kept (t' := s.toks + 1) (fun _ _ z => z), ⟨_, rfl⟩, q⟩
    obtain ⟨as, rd⟩ := Dp.reads I d x _ hd r1
    obtain ⟨ds, hds⟩ := hds
    obtain ⟨a, ea⟩ : ∃ a, x = .ref a := by
      rcases hds with rfl | rfl
      · obtain ⟨a, _, e, _⟩ := dp_tup hd; exact ⟨a, e⟩
      · obtain ⟨a, _, e, _⟩ := dp_lst hd; exact ⟨a, e⟩
    subst ea
    cases r1
    have nd : d.hasDict = true → sysModules ∉ as := fun z => by rw [sh.n] at z; cases z
    have dd := sh.d
    refine repr_of_reads' rd sh.s nd gs (by omega) (fun _ _ e => e) (fun h' u tk hk => ?_) sh.l
    exact ⟨.str d.shown, H, I.kept (t' := tk) hk, ⟨u, rfl⟩, q⟩
end
theorem r_repr {K : PySem.W.Frag} {H : Hp} {Q : VK} {x : V} {d : PyData} (hd : Dp K H x d) (hds : d = .none ∨ ∃ ds, d = .tuple ds ∨ d = .list ds) (sh : Show d) (q : Q (.str d.shown) H) : uRepr K [x] H Q := ⟨x, d, rfl, hd, hds, sh, q⟩
/-! ### the end of a law whose def is such a one -/
theorem law_callG {P : Program} {w : World} {K : PySem.W.Frag} {mg mb : Str → Option Value} {k : Nat} {fa a : Addr} {fd : FuncData} {x : Str} {sp : Sp} {s₁ : Shared} {vs : List Value} {ns : List Int}
    (KX : K.In s₁.heap) (hns : s₁.heap.Ns mainGlobals mg) (hb : s₁.heap.Ns builtinsNs mb) (hbb : ∀ x : Str, x ≠ "__name__" → mb x = bootBuiltins x) (hlim : s₁.heap.NoLimit) (hg : s₁.gens = #[])
    (ha : s₁.heap.get? a = some { cls := .type "list", data := .seq vs.toArray }) (hi : IntsAre vs ns) (hl : ns.length ≤ sizeLine) (hr : Room k callerA)
    (F : ∀ base : Heap, K.In base → base.Ns mainGlobals mg → OkG P w K mg base (L2.CX P w) k fa fd [x] sp) (hbind : ∀ (s : Shared) (u : Value), BindsTo s fd ⟨[u], []⟩ [(x, u)])
    (hsp : ∀ H : Hp, Only H → SqL K H a (ns.map V.int) → sp [.ref a] H (fun v _ => v = .bl true) fun _ _ _ => False) :
    codeAny (model P w) callerA (.call (.ref fa) ⟨[.ref a], []⟩) (fun r s' => r = .ok (.ret (.bool true)) ∧ OldK s₁.heap s'.heap ∧ s'.os = s₁.os ∧ AllBare s'.gens) s₁ := by
  have rv := vals_ints hi
  have inner : ∀ H : Hp, Only H → SqL K H a (ns.map V.int) → HOk P w H s₁.heap → (∀ b, H b ≠ none → b = a) → (H a ≠ none → K.lookup a = none) →
      codeAny (model P w) callerA (.call (.ref fa) ⟨[.ref a], []⟩) (fun r s' => r = .ok (.ret (.bool true)) ∧ OldK s₁.heap s'.heap ∧ s'.os = s₁.os ∧ AllBare s'.gens) s₁ := by
    intro H hO hS hok hA hK
    have free : ∀ {b : Addr}, b ≠ a → H b = none := fun {b} n => Classical.byContradiction fun z => n (hA b z)
    have kept : ∀ {b : Addr} {o : Obj}, s₁.heap.get? b = some o → H b = none → (hidT s₁.heap H).get? b = some o := fun e n => hidT_get e n
    have nots : ∀ {b : Addr} {o : Obj} {es : Array DictEntry} {ep : Nat}, s₁.heap.get? b = some o → o.data = .dict es ep → H b = none := by
      intro b o es ep e d
      refine free fun z => ?_
      subst z
      rw [ha] at e
      cases e
      cases d
    have names : ∀ {b : Addr} {m : Str → Option Value}, s₁.heap.Ns b m → (hidT s₁.heap H).Ns b m := by
      rintro b m ⟨o, es, ep, e, d, r⟩
      exact ⟨o, es, ep, kept e (nots e d), d, r⟩
    have hKb : K.In (hidT s₁.heap H) := by
      intro b o e
      refine kept (KX b o e) (Classical.byContradiction fun q => ?_)
      have z := hA b q
      subst z
      rw [hK q] at e
      cases e
    obtain ⟨mc, l1, l2⟩ := hlim
    have e0 : Env0 P w K mg (hidT s₁.heap H) callerA [] s₁ H :=
      ⟨rfl, ⟨hKb, names hns, ⟨mb, names hb, hbb⟩, ⟨mc, names l1, l2⟩⟩, fun b o e => of_hidT e, Nat.le_of_eq (hidT_size _ _), trivial, fun b hb => absurd (show b ∈ ([] : List Addr) from hb) (by simp), hok, .of_eq hg⟩
    refine codeAny_mono ((F _ hKb (names hns)).run callerA [] s₁ H ⟨[.ref a], []⟩ [.ref a] [.ref a] _ _ rfl hr e0 (hbind s₁ (.ref a)) (.cons rfl .nil) (hsp H hO hS)) ?_
    intro r s' h
    cases r with
    | error e => obtain ⟨_, _, _, _, _, _, _, _, _, _, _, _, z⟩ := h; exact z.elim
    | ok fl =>
      cases fl with
      | next => exact h.elim
      | brk => exact h.elim
      | cont => exact h.elim
      | ret u =>
        obtain ⟨v, H', os, bare, un, hok', r', q⟩ := h
        have q' : v = .bl true := q
        subst q'
        have eu : u = Value.bool true := r'
        subst eu
        refine ⟨rfl, OldK.of_keep fun b o e => ?_, os, bare⟩
        by_cases q : H b = none
        · exact un.keep b o e q (by intro z; exact absurd (show b ∈ ([] : List Addr) from z) (by simp)) (by simp)
        · rcases hO b with z | ⟨ob, xs, z⟩
          · exact absurd z q
          · have e1 := (hok b _ z).1
            have e2 := (hok' b _ (un.frzs b ob _ z)).1
            rw [e] at e1
            cases e1
            exact e2
  cases hk : K.lookup a with
  | some o =>
    have e := KX a o hk
    rw [ha] at e
    cases e
    exact inner (fun _ => none) (fun _ => .inl rfl) (.inr ⟨_, vs.toArray, _, hk, rfl, rfl, rfl, by rw [List.size_toArray, hi.length]; exact hl, by simpa using rv⟩) (fun b u z => nomatch (show (none : Option HO) = some u from z)) (fun b z => absurd rfl z) (fun z => absurd rfl z)
  | none =>
    let ob : Obj := { cls := .type "list", data := .seq vs.toArray }
    let H0 : Hp := fun b => if b = a then some (.frz ob (.lst (ns.map V.int))) else none
    have h0 : H0 a = some (.frz ob (.lst (ns.map V.int))) := if_pos rfl
    have h1 : ∀ b, b ≠ a → H0 b = none := fun b hb => if_neg hb
    refine inner H0 (fun b => ?_) (.inl (.inr ⟨ob, h0⟩)) (fun b u z => ?_) (fun b z => Classical.byContradiction fun n => z (h1 b n)) fun _ => hk
    · by_cases hb : b = a
      · subst hb; exact .inr ⟨_, _, h0⟩
      · exact .inl (h1 b hb)
    · by_cases hb : b = a
      · subst hb
        rw [h0] at z
        cases z
        exact ⟨ha, by rw [List.length_map]; exact hl, vs, _, rv, ha⟩
      · rw [h1 b hb] at z
        cases z
theorem walk_ofG {l : PySem.W.OpenLaw} {n k : Nat} {q : Program} {loose : List Str} {XP : (Str → Option Value) → Heap → Prop} {YP : World → Heap → Prop} {d : DefRec} {K : Params → PySem.W.Frag} {sp : World → Sp} {x : Str}
    (hn : l.most = some n) (hn2 : n ≤ sizeLine) (hdf : d.params.defaults = []) (hr : Room k callerA) (hY : ∀ (w : World) (h : Heap), YP w h → (K w.params).In h)
    (F : ∀ (w : World) (mg : Str → Option Value) (fa : Addr) (h : Heap), (K w.params).In h → h.Ns mainGlobals mg → mg d.name = some (.ref fa) →
      ∃ fd : FuncData, (∀ (s : Shared) (u : Value), BindsTo s fd ⟨[u], []⟩ [(x, u)]) ∧ ∀ base : Heap, (K w.params).In base → base.Ns mainGlobals mg → OkG l.prog w (K w.params) mg base (L2.CX l.prog w) k fa fd [x] (sp w))
    (hsp : ∀ (w : World) (H : Hp) (a : Addr) (ns : List Int), ns.length ≤ n → (∀ z ∈ ns, Builtin.Int.intBits z ≤ 1048576) → Only H → SqL (K w.params) H a (ns.map V.int) → sp w [.ref a] H (fun v _ => v = .bl true) fun _ _ _ => False) :
    PySem.W.WalkO q loose XP YP l.row.toRowW d [] (fun f vs => PySem.call f vs) := by
  refine Att.attach_callB hn hdf ?_
  intro w s₀ s₁ mg mb fa o pm cd doc a vs ns G Y ho hd hcd hmg hobj hints hlen hbits hg
  obtain ⟨fd, hb, hF⟩ := F w mg fa _ (hY w _ Y) G.T.g hmg
  exact law_callG (hY w _ Y) G.T.g G.T.b G.T.builtins G.T.nolimit hg hobj hints (Nat.le_trans hlen hn2) hr hF hb fun H hO hS => hsp w H a ns hlen hbits hO hS
/-! ### how long what is shown may be -/
structure Shw (d : PyData) (b : Nat) : Prop where
  s : d.showable = true
  n : d.hasDict = false
  l : d.shown.length ≤ b
theorem Shw.mono {d : PyData} {b b' : Nat} (h : Shw d b) (hb : b ≤ b') : Shw d b' := ⟨h.s, h.n, Nat.le_trans h.l hb⟩
theorem Shw.none : Shw .none 4 := ⟨by simp [PyData.showable], by simp [PyData.hasDict], by rw [PyData.shown_none]; decide⟩
theorem Shw.int {i : Int} (h : i.natAbs < 2 ^ 1919) : Shw (.int i) 1921 := by
  have hl : i.natAbs.log2 < 1920 := Nat.lt_of_lt_of_le (PySem.Flt.log2_lt_of (by decide) h) (by decide)
  refine ⟨by simp [PyData.showable, hl], by simp [PyData.hasDict], ?_⟩
  rw [PyData.shown_int]
  exact PyProof.Rows.int_text_len_1921 hl
theorem piled_le {b : Nat} : ∀ ts : List Str, (∀ t ∈ ts, t.length ≤ b) → PySem.piled ts ≤ ts.length * (b + 2)
  | [], _ => by simp [PySem.piled]
  | t :: ts, h => by
    have h1 := h t (List.mem_cons_self ..)
    have h2 := piled_le ts fun x hx => h x (List.mem_cons_of_mem _ hx)
    have e : PySem.piled (t :: ts) = (t.length + 2) + PySem.piled ts := by simp [PySem.piled]
    rw [e, List.length_cons, Nat.succ_mul]
    omega
theorem shownAll_map : ∀ xs : List PyData, PyData.shownAll xs = xs.map PyData.shown
  | [] => by simp [PyData.shownAll]
  | x :: xs => by simp only [PyData.shownAll, List.map_cons, shownAll_map xs]
theorem showableAll_of : ∀ {xs : List PyData}, (∀ x ∈ xs, x.showable = true) → PyData.showableAll xs = true
  | [], _ => by simp [PyData.showableAll]
  | x :: xs, h => by
    rw [PyData.showableAll, h x (List.mem_cons_self ..), showableAll_of fun y hy => h y (List.mem_cons_of_mem _ hy)]
    rfl
theorem hasDictAll_of : ∀ {xs : List PyData}, (∀ x ∈ xs, x.hasDict = false) → PyData.hasDictAll xs = false
  | [], _ => by simp [PyData.hasDictAll]
  | x :: xs, h => by
    rw [PyData.hasDictAll, h x (List.mem_cons_self ..), hasDictAll_of fun y hy => h y (List.mem_cons_of_mem _ hy)]
    rfl
theorem Shw.tup {xs : List PyData} {b : Nat} (h : ∀ x ∈ xs, Shw x b) : Shw (.tuple xs) (xs.length * (b + 2) + 3) := by
  refine ⟨?_, ?_, ?_⟩
  · rw [PyData.showable]
    exact showableAll_of fun x hx => (h x hx).s
  · rw [PyData.hasDict]
    exact hasDictAll_of fun x hx => (h x hx).n
  · rw [PyData.shown_tuple, shownAll_map]
    have hp := piled_le (b := b) (xs.map PyData.shown) fun t ht => by
      obtain ⟨x, hx, rfl⟩ := List.mem_map.mp ht
      exact (h x hx).l
    rw [List.length_map] at hp
    have hj : (Str.join ", " (xs.map PyData.shown)).length ≤ PySem.piled (xs.map PyData.shown) := by
      cases xs with
      | nil => exact Nat.zero_le _
      | cons x r =>
        have := PySem.join_length_add ((x :: r).map PyData.shown) (by simp)
        omega
    have ha : ∀ a b : Str, (a ++ b).length = a.length + b.length := fun a b => Str.length_append a b
    rw [ha, ha]
    have h1 : (("(" : Str)).length = 1 := by decide
    have h2 : ((if xs.length == 1 then ",)" else ")" : String) : Str).length ≤ 2 := by split <;> decide
    omega
theorem Shw.show {d : PyData} {b : Nat} (h : Shw d b) (hb : b ≤ 16777216) (hd : d.depth ≤ 32) : Show d := ⟨h.s, h.n, by rw [sizeLine_eq]; exact Nat.le_trans h.l hb, hd⟩
end Fp
/-! pairs of numbers, curves: plain lists; dicts by number -/
namespace Fp
open PySem PySem.Spec PyProof.Rows L2
abbrev Prs := List (Int × Int)
def pairP (p : Int × Int) : PyData := .tuple [.int p.1, .int p.2]
def prsD (l : Prs) : PyData := .tuple (l.map pairP)
theorem imm_pair (p : Int × Int) : imm (pairP p) = true := by simp [pairP, imm, immAll]
theorem imm_all (l : Prs) : immAll (l.map pairP) = true := immAll_map _ imm_pair l
theorem imm_prs (l : Prs) : imm (prsD l) = true := by
  unfold prsD
  simp only [imm]
  exact imm_all l
theorem shp_pair (p : Int × Int) : Shp 1 (pairP p) := Shp.t2 (.int _) (.int _)
theorem shp_prs (l : Prs) : Shp 2 (prsD l) := Shp.tupleM (n := 1) shp_pair
theorem shaped_prs (l : Prs) : SeqAt.shaped (prsD l) = true := (shp_prs l).ok
theorem dp_pair {K : PySem.W.Frag} {H : Hp} {v : V} {p : Int × Int} (h : Dp K H v (pairP p)) : ∃ a, v = .ref a ∧ SqT K H a [.int p.1, .int p.2] := dp_ints (ns := [p.1, p.2]) h
theorem dp_of_pair {K : PySem.W.Frag} {H : Hp} {a : Addr} {i j : Int} (h : SqT K H a [.int i, .int j]) : Dp K H (.ref a) (pairP (i, j)) := .tup h (dpAll_ints K H [i, j])
theorem eqv_pair (p q : Int × Int) : PyData.eqv (pairP p) (pairP q) = decide (p = q) := by
  simp only [pairP, PyData.eqv, PyData.eqvAll, Bool.and_true]
  rw [Bool.eq_iff_iff]
  simp [Prod.ext_iff]
theorem eqvAll_prs : ∀ l m : Prs, PyData.eqvAll (l.map pairP) (m.map pairP) = decide (l = m)
  | [], [] => by simp [PyData.eqvAll]
  | [], q :: m => by simp [PyData.eqvAll]
  | p :: l, [] => by simp [PyData.eqvAll]
  | p :: l, q :: m => by
    simp only [List.map_cons, PyData.eqvAll]
    rw [eqv_pair, eqvAll_prs l m, Bool.eq_iff_iff]
    simp
theorem eqv_prs (l m : Prs) : PyData.eqv (prsD l) (prsD m) = decide (l = m) := by
  unfold prsD
  rw [PyData.eqv]
  exact eqvAll_prs l m
/-! ### tables by number -/
def putP (l : Prs) (t h : Int) : Prs := if (l.any fun p => decide (p.1 = t)) = true then l.map (fun p => if p.1 = t then (p.1, h) else p) else l ++ [(t, h)]
def valP (l : Prs) (t : Int) : Option Int := (l.find? fun p => decide (p.1 = t)).map (·.2)
def mergeP (l more : Prs) : Prs := more.foldl (fun acc p => putP acc p.1 p.2) l
def inj (p : Int × Int) : Key × V := (Sum.inl p.1, .int p.2)
theorem any_inj (t : Int) : ∀ l : Prs, ((l.map inj).any fun kv => decide (kv.1 = Sum.inl t)) = l.any fun p => decide (p.1 = t)
  | [] => rfl
  | p :: l => by
    simp only [List.map_cons, List.any_cons, any_inj t l]
    congr 1
    rw [Bool.eq_iff_iff]
    simp [inj]
theorem put_inj (l : Prs) (t h : Int) : putK (l.map inj) (Sum.inl t) (.int h) = (putP l t h).map inj := by
  unfold putK putP
  rw [any_inj]
  split
  · rw [List.map_map, List.map_map]
    refine List.map_congr_left fun p _ => ?_
    show (if (inj p).1 = Sum.inl t then ((inj p).1, V.int h) else inj p) = inj (if p.1 = t then (p.1, h) else p)
    by_cases e : p.1 = t
    · rw [if_pos e, if_pos (by rw [← e]; rfl)]; rfl
    · rw [if_neg e, if_neg (by simpa [inj] using e)]
  · rw [List.map_append]; rfl
theorem merge_inj : ∀ (more l : Prs), mergeK (l.map inj) (more.map inj) = (mergeP l more).map inj
  | [], l => rfl
  | p :: r, l => by
    show mergeK (putK (l.map inj) (inj p).1 (inj p).2) (r.map inj) = (mergeP (putP l p.1 p.2) r).map inj
    rw [show putK (l.map inj) (inj p).1 (inj p).2 = (putP l p.1 p.2).map inj from put_inj l p.1 p.2]
    exact merge_inj r _
theorem val_inj (t : Int) : ∀ l : Prs, valV (l.map inj) (Sum.inl t) = (valP l t).map V.int
  | [] => rfl
  | p :: l => by
    by_cases e : p.1 = t
    · rw [List.map_cons, valV_pos (by rw [← e]; rfl)]
      simp [valP, List.find?_cons, e, inj]
    · rw [List.map_cons, valV_neg (by simpa [inj] using e), val_inj t l]
      simp [valP, List.find?_cons, e]
theorem valP_pos {p : Int × Int} {r : Prs} {k : Int} (e : p.1 = k) : valP (p :: r) k = some p.2 := by simp [valP, List.find?_cons, e]
theorem valP_neg {p : Int × Int} {r : Prs} {k : Int} (e : ¬ p.1 = k) : valP (p :: r) k = valP r k := by simp [valP, List.find?_cons, e]
theorem valP_iff {t h : Int} : ∀ {l : Prs}, (l.map (·.1)).Nodup → (valP l t = some h ↔ (t, h) ∈ l)
  | [], _ => by simp [valP]
  | p :: l, nd => by
    have nd2 := List.nodup_cons.mp nd
    by_cases e : p.1 = t
    · rw [valP_pos e]
      constructor
      · intro z
        have z := Option.some.inj z
        rw [List.mem_cons]
        left
        rw [← e, ← z]
      · intro z
        rcases List.mem_cons.mp z with z | z
        · rw [← z]
        · exact absurd (show p.1 ∈ l.map (·.1) by rw [e]; exact List.mem_map_of_mem (f := (·.1)) z) nd2.1
    · rw [valP_neg e, valP_iff nd2.2]
      constructor
      · exact fun z => List.mem_cons_of_mem _ z
      · intro z
        rcases List.mem_cons.mp z with z | z
        · exact absurd (by rw [← z]) e
        · exact z
theorem any_iff {l : Prs} {t : Int} : (l.any fun p => decide (p.1 = t)) = true ↔ t ∈ l.map (·.1) := by
  simp only [List.any_eq_true, decide_eq_true_eq, List.mem_map]
theorem keys_put (l : Prs) (t h : Int) : (putP l t h).map (·.1) = if t ∈ l.map (·.1) then l.map (·.1) else l.map (·.1) ++ [t] := by
  unfold putP
  by_cases e : t ∈ l.map (·.1)
  · rw [if_pos e, if_pos (any_iff.mpr e), List.map_map]
    refine List.map_congr_left fun p _ => ?_
    show (if p.1 = t then (p.1, h) else p).1 = p.1
    split <;> rfl
  · rw [if_neg e, if_neg (fun z => e (any_iff.mp z)), List.map_append]; rfl
theorem nd_put {l : Prs} (t h : Int) (nd : (l.map (·.1)).Nodup) : ((putP l t h).map (·.1)).Nodup := by
  rw [keys_put]
  split
  · exact nd
  · rename_i e
    rw [List.nodup_append]
    exact ⟨nd, by simp, fun a ha b hb => by simp at hb; subst hb; exact fun z => e (z ▸ ha)⟩
theorem nd_merge : ∀ (more l : Prs), (l.map (·.1)).Nodup → ((mergeP l more).map (·.1)).Nodup
  | [], l, nd => nd
  | p :: r, l, nd => nd_merge r _ (nd_put p.1 p.2 nd)
theorem mem_put {l : Prs} {t h : Int} {p : Int × Int} : p ∈ putP l t h ↔ (p = (t, h)) ∨ (p ∈ l ∧ p.1 ≠ t) := by
  unfold putP
  split
  · rename_i e
    obtain ⟨q, hq, e⟩ := List.any_eq_true.mp e
    have e : q.1 = t := of_decide_eq_true e
    rw [List.mem_map]
    constructor
    · rintro ⟨x, hx, rfl⟩
      by_cases z : x.1 = t
      · rw [if_pos z, z]; exact .inl rfl
      · rw [if_neg z]; exact .inr ⟨hx, z⟩
    · rintro (rfl | ⟨h1, h2⟩)
      · exact ⟨q, hq, by rw [if_pos e, e]⟩
      · exact ⟨p, h1, if_neg h2⟩
  · rename_i e
    rw [List.mem_append, List.mem_singleton]
    constructor
    · rintro (h1 | h1)
      · exact .inr ⟨h1, fun z => e (any_iff.mpr (z ▸ List.mem_map_of_mem h1))⟩
      · exact .inl h1
    · rintro (h1 | ⟨h1, _⟩)
      · exact .inr h1
      · exact .inl h1
/-- p is the last one of its time -/
def Last (l : Prs) (p : Int × Int) : Prop := p ∈ mergeP [] l
theorem merge_snoc (l : Prs) (q : Int × Int) : mergeP [] (l ++ [q]) = putP (mergeP [] l) q.1 q.2 := by
  unfold mergeP
  rw [List.foldl_append]
  rfl
theorem last_snoc {l : Prs} {q p : Int × Int} : Last (l ++ [q]) p ↔ p = q ∨ (Last l p ∧ p.1 ≠ q.1) := by
  unfold Last
  rw [merge_snoc, mem_put]
theorem mem_merge {p : Int × Int} : ∀ (more l : Prs), p ∈ mergeP l more → p ∈ l ∨ p ∈ more
  | [], l, h => .inl h
  | q :: r, l, h => by
    rcases mem_merge r _ h with h | h
    · rcases mem_put.mp h with h | h
      · exact .inr (h ▸ List.mem_cons_self ..)
      · exact .inl h.1
    · exact .inr (List.mem_cons_of_mem _ h)
theorem Last.mem {l : Prs} {p : Int × Int} (h : Last l p) : p ∈ l := by
  rcases mem_merge l [] h with h | h
  · simp at h
  · exact h
theorem len_put (l : Prs) (t h : Int) : (putP l t h).length ≤ l.length + 1 := by
  unfold putP
  split <;> simp
theorem len_merge : ∀ (more l : Prs), (mergeP l more).length ≤ l.length + more.length
  | [], l => Nat.le_refl _
  | p :: r, l => by
    have h1 := len_merge r (putP l p.1 p.2)
    have h2 := len_put l p.1 p.2
    show (mergeP (putP l p.1 p.2) r).length ≤ _
    simp only [List.length_cons]
    omega
/-- c is the curve of the samples l -/
structure IsC (l c : Prs) : Prop where
  up : c.Pairwise fun p q => p.1 < q.1
  mem : ∀ p, p ∈ c ↔ Last l p
  len0 : c.length = (mergeP [] l).length
theorem IsC.len {l c : Prs} (h : IsC l c) : c.length ≤ l.length := by
  rw [h.len0]
  have := len_merge l []
  simpa using this
theorem up_ext : ∀ {l l' : Prs}, (l.Pairwise fun p q => p.1 < q.1) → (l'.Pairwise fun p q => p.1 < q.1) → (∀ p, p ∈ l ↔ p ∈ l') → l = l'
  | [], [], _, _, _ => rfl
  | [], q :: r, _, _, h => by have := (h q).mpr (List.mem_cons_self ..); simp at this
  | p :: r, [], _, _, h => by have := (h p).mp (List.mem_cons_self ..); simp at this
  | p :: r, q :: r', h1, h2, h => by
    obtain ⟨a1, a2⟩ := List.pairwise_cons.mp h1
    obtain ⟨b1, b2⟩ := List.pairwise_cons.mp h2
    have e : p = q := by
      rcases List.mem_cons.mp ((h p).mp (List.mem_cons_self ..)) with z | z
      · exact z
      · rcases List.mem_cons.mp ((h q).mpr (List.mem_cons_self ..)) with y | y
        · exact y.symm
        · have := a1 q y; have := b1 p z; omega
    subst e
    congr 1
    refine up_ext a2 b2 fun x => ⟨fun hx => ?_, fun hx => ?_⟩
    · rcases List.mem_cons.mp ((h x).mp (List.mem_cons_of_mem _ hx)) with z | z
      · subst z; have := a1 _ hx; omega
      · exact z
    · rcases List.mem_cons.mp ((h x).mpr (List.mem_cons_of_mem _ hx)) with z | z
      · subst z; have := b1 _ hx; omega
      · exact z
theorem IsC.uniq {l c c' : Prs} (h : IsC l c) (h' : IsC l c') : c = c' := up_ext h.up h'.up fun p => (h.mem p).trans (h'.mem p).symm
/-- what dict and sorted make -/
def outOf (m : Prs) (ys : List Int) : Prs := ys.map fun t => (t, (valP m t).getD 0)
theorem isC_out {l : Prs} {ys : List Int} (hp : ys.Perm ((mergeP [] l).map (·.1))) (hs : ys.Pairwise (· ≤ ·)) : IsC l (outOf (mergeP [] l) ys) := by
  have nd := nd_merge l [] (by simp)
  have ndy : ys.Nodup := hp.nodup_iff.mpr nd
  refine ⟨?_, fun p => ?_, ?_⟩
  · unfold outOf
    rw [List.pairwise_map]
    refine List.Pairwise.imp₂ (fun a b h1 h2 => ?_) hs ndy
    show a < b
    have : a ≠ b := h2
    omega
  · unfold outOf Last
    rw [List.mem_map]
    constructor
    · rintro ⟨t, ht, rfl⟩
      obtain ⟨q, hq, e⟩ := List.mem_map.mp (hp.mem_iff.mp ht)
      have e2 : valP (mergeP [] l) t = some q.2 := (valP_iff nd).mpr (by rw [← e]; exact hq)
      rw [e2]
      rw [← e]
      exact hq
    · intro h
      refine ⟨p.1, hp.mem_iff.mpr (List.mem_map_of_mem h), ?_⟩
      have e2 : valP (mergeP [] l) p.1 = some p.2 := (valP_iff nd).mpr h
      rw [e2]
      rfl
  · unfold outOf
    rw [List.length_map, hp.length_eq, List.length_map]
/-- samples each of its own time, rising: their own curve -/
theorem last_nodup : ∀ {l : Prs} {p : Int × Int}, (l.map (·.1)).Nodup → (Last l p ↔ p ∈ l) := by
  intro l
  suffices h : ∀ n, ∀ l : Prs, l.length = n → ∀ p, (l.map (·.1)).Nodup → (Last l p ↔ p ∈ l) from fun {p} nd => h _ l rfl p nd
  intro n
  induction n with
  | zero =>
    intro l hl p _
    have : l = [] := List.length_eq_zero_iff.mp hl
    subst this
    simp [Last, mergeP]
  | succ n ih =>
    intro l hl p nd
    have hne : l ≠ [] := by intro z; subst z; simp at hl
    rw [← List.dropLast_concat_getLast hne] at nd ⊢
    rw [List.map_append, List.nodup_append] at nd
    rw [last_snoc, ih _ (by simp [hl]) p nd.1, List.mem_append, List.mem_singleton]
    constructor
    · rintro (h | h)
      · exact .inr h
      · exact .inl h.1
    · rintro (h | h)
      · exact .inr ⟨h, nd.2.2 _ (List.mem_map_of_mem h) _ (by simp)⟩
      · exact .inl h
theorem up_nodup {c : Prs} (h : c.Pairwise fun p q => p.1 < q.1) : (c.map (·.1)).Nodup := by
  unfold List.Nodup
  rw [List.pairwise_map]
  exact h.imp fun h => by omega
theorem keys_in {t : Int} : ∀ (more l : Prs), t ∈ l.map (·.1) ∨ t ∈ more.map (·.1) → t ∈ (mergeP l more).map (·.1)
  | [], l, h => by
    rcases h with h | h
    · exact h
    · simp at h
  | p :: r, l, h => by
    refine keys_in r (putP l p.1 p.2) ?_
    rw [keys_put]
    rcases h with h | h
    · left
      split
      · exact h
      · exact List.mem_append_left _ h
    · rw [List.map_cons, List.mem_cons] at h
      rcases h with h | h
      · left
        subst h
        split
        · assumption
        · exact List.mem_append_right _ (by simp)
      · exact .inr h
theorem nodup_of_len : ∀ n, ∀ l : Prs, l.length = n → (mergeP [] l).length = l.length → (l.map (·.1)).Nodup := by
  intro n
  induction n with
  | zero =>
    intro l hl _
    have : l = [] := List.length_eq_zero_iff.mp hl
    subst this
    exact List.Pairwise.nil
  | succ n ih =>
    intro l hl h
    have hne : l ≠ [] := by intro z; subst z; simp at hl
    rw [← List.dropLast_concat_getLast hne] at h ⊢
    have hd : l.dropLast.length = n := by simp [hl]
    generalize l.dropLast = d at *
    generalize l.getLast hne = q at *
    rw [merge_snoc] at h
    have e := congrArg List.length (keys_put (mergeP [] d) q.1 q.2)
    simp only [List.length_map] at e
    have hb := len_merge d []
    rw [h] at e
    simp only [List.length_append, List.length_cons, List.length_nil] at e hb
    by_cases hq : q.1 ∈ (mergeP [] d).map (·.1)
    · rw [if_pos hq, List.length_map] at e
      omega
    · rw [if_neg hq, List.length_append, List.length_map] at e
      simp only [List.length_cons, List.length_nil] at e
      rw [List.map_append, List.nodup_append]
      refine ⟨ih d hd (by omega), by simp, fun a ha b hb2 => ?_⟩
      simp at hb2
      subst hb2
      intro z
      subst z
      exact hq (keys_in d [] (.inr ha))
theorem IsC.again {l l' c c' : Prs} (h : IsC l c) (nd : (l.map (·.1)).Nodup) (h' : IsC l' c') (nd' : (l'.map (·.1)).Nodup) (hm : ∀ p, p ∈ l' ↔ p ∈ l) : c' = c :=
  up_ext h'.up h.up fun p => by rw [h'.mem, h.mem, last_nodup nd, last_nodup nd', hm]
theorem IsC.self {c c' : Prs} (hc : c.Pairwise fun p q => p.1 < q.1) (h : IsC c c') : c' = c := up_ext h.up hc fun p => by rw [h.mem, last_nodup (up_nodup hc)]
def prsLD (l : Prs) : PyData := .list (l.map pairP)
theorem shp_prsL (l : Prs) : Shp 2 (prsLD l) := Shp.listM (n := 1) shp_pair
theorem shaped_prsL (l : Prs) : SeqAt.shaped (prsLD l) = true := (shp_prsL l).ok
theorem eqv_prsL (l m : Prs) : PyData.eqv (prsLD l) (prsLD m) = decide (l = m) := by
  unfold prsLD
  rw [PyData.eqv]
  exact eqvAll_prs l m
theorem merge_take {l : Prs} {i : Nat} {p : Int × Int} (h : l[i]? = some p) : mergeP [] (l.take (i + 1)) = putP (mergeP [] (l.take i)) p.1 p.2 := by
  rw [take_snoc h, merge_snoc]
theorem dpAll_rev {K : PySem.W.Frag} {H : Hp} : ∀ {ws : List V} {ds : List PyData}, DpAll K H ws ds → DpAll K H ws.reverse ds.reverse
  | _, _, .nil => .nil
  | _, _, .cons h1 h2 => by
    rw [List.reverse_cons, List.reverse_cons]
    exact dpAll_snoc (dpAll_rev h2) h1
theorem out_up {m : Prs} {ys : List Int} (nd : (m.map (·.1)).Nodup) (hp : ys.Perm (m.map (·.1))) (hs : ys.Pairwise (· ≤ ·)) : (outOf m ys).Pairwise fun p q => p.1 < q.1 := by
  unfold outOf
  rw [List.pairwise_map]
  refine List.Pairwise.imp₂ (fun a b h1 h2 => ?_) hs (hp.nodup_iff.mpr nd)
  show a < b
  have : a ≠ b := h2
  omega
theorem out_mem {m : Prs} {ys : List Int} (nd : (m.map (·.1)).Nodup) (hp : ys.Perm (m.map (·.1))) {p : Int × Int} : p ∈ outOf m ys ↔ p ∈ m := by
  unfold outOf
  rw [List.mem_map]
  constructor
  · rintro ⟨t, ht, rfl⟩
    obtain ⟨q, hq, e⟩ := List.mem_map.mp (hp.mem_iff.mp ht)
    have e2 : valP m t = some q.2 := (valP_iff nd).mpr (by rw [← e]; exact hq)
    rw [e2, ← e]
    exact hq
  · intro h
    refine ⟨p.1, hp.mem_iff.mpr (List.mem_map_of_mem h), ?_⟩
    have e2 : valP m p.1 = some p.2 := (valP_iff nd).mpr h
    rw [e2]
    rfl
/-! ### dicts, step by step -/
section
variable {X : Cx} {K : PySem.W.Frag} {σ : St} {H H' : Hp} {Q : VK} {td ty tv te : TE} {nx bk ct : St → Hp → Prop} {rt : VK} {a : Addr} {kvs : List (Key × V)} {k : Key} {v x y : V}
def uDGet (x y : V) (H : Hp) (Q : VK) : Prop := ∃ a v, x = .ref a ∧ DGet H a y (some v) ∧ Q v H
theorem r_dget (q : td σ H fun x H1 => ty σ H1 fun y H2 => uDGet x y H2 Q) : tDGet td ty σ H Q := q
theorem r_dgeti {m : Prs} {t h : Int} (hd : H a = some (.dK (m.map inj))) (e : valP m t = some h) (q : Q (.int h) H) : uDGet (.ref a) (.int t) H Q := by
  refine ⟨a, .int h, rfl, ?_, q⟩
  have z := DGet.k (k := Sum.inl t) hd
  rw [val_inj, e] at z
  exact z
def uDPut (x y v : V) (H : Hp) (R : Hp → Prop) : Prop := ∃ a H4, x = .ref a ∧ DPut H a y v H4 ∧ R H4
theorem r_dput (q : tv σ H fun v H1 => td σ H1 fun x H2 => ty σ H2 fun y H3 => uDPut x y v H3 fun H4 => nx σ H4) : sDPut td ty tv ⟨nx, rt, bk, ct⟩ σ H := q
theorem r_dputi {m : Prs} {t h : Int} {R : Hp → Prop} (hd : H a = some (.dK (m.map inj))) (hl : m.length ≤ 100000) (q : ∀ H', Keep (At a) H H' → H' a = some (.dK ((putP m t h).map inj)) → R H') : uDPut (.ref a) (.int t) (.int h) H R := by
  refine ⟨a, _, rfl, DPut.k (k := Sum.inl t) hd (by rw [sizeLine_eq, List.length_map]; omega), q _ Keep.at_ ?_⟩
  rw [upd_same, put_inj]
theorem r_dnew (q : ∀ p H', H p = none → Same H H' → H' p = some (.dK []) → Q (.ref p) H') : tDNewK σ H Q := fun p hp => q p _ hp (Keep.same (Keep.new hp)) upd_same
def uDictP (K : PySem.W.Frag) : List V → Hp → VK → Prop := fun xs H Q => ∃ (a : Addr) (ps : List Addr) (kvs : List (Key × V)), xs = [.ref a] ∧ SqL K H a (ps.map V.ref) ∧ Paired (fun p kv => SqT K H p [kV kv.1, kv.2]) ps kvs ∧ ∀ p, H p = none → Q (.ref p) (upd H p (.dK (mergeK [] kvs)))
theorem c_dictP (hcalm : X.calm = true) : CallR X (.type "dict") (uDictP X.K) := call_dictP hcalm
theorem dp_pairs : ∀ {ws : List V} {l : Prs}, DpAll K H ws (l.map pairP) → ∃ ps : List Addr, ws = ps.map V.ref ∧ Paired (fun p kv => SqT K H p [kV kv.1, kv.2]) ps (l.map inj)
  | _, [], .nil => ⟨[], rfl, .nil⟩
  | _, p :: l, .cons h1 h2 => by
    obtain ⟨b, rfl, hb⟩ := dp_pair h1
    obtain ⟨ps, rfl, hp⟩ := dp_pairs h2
    exact ⟨b :: ps, rfl, .cons hb hp⟩
theorem r_dict {l : Prs} {ws : List V} (h : SqL K H a ws) (hd : DpAll K H ws (l.map pairP)) (q : ∀ p H', H p = none → Same H H' → H' p = some (.dK ((mergeP [] l).map inj)) → Q (.ref p) H') : uDictP K [.ref a] H Q := by
  obtain ⟨ps, rfl, hp⟩ := dp_pairs hd
  refine ⟨a, ps, l.map inj, rfl, h, hp, fun p hn => q p _ hn (Keep.same (Keep.new hn)) ?_⟩
  rw [upd_same]
  congr 2
  exact merge_inj l []
def uSortedD : List V → Hp → VK → Prop := fun xs H Q => ∃ (a : Addr) (kvs : List (Key × V)) (ks : List Int), xs = [.ref a] ∧ Rd H a (.dK kvs) ∧ kvs.map (·.1) = ks.map Sum.inl ∧ ks.length < 64 ∧
    ∀ (ys : List Int) (p : Addr), ys.Perm ks → ys.Pairwise (· ≤ ·) → H p = none → Q (.ref p) (upd H p (.lst (ys.map V.int)))
theorem c_sortedD (hcalm : X.calm = true) : CallR X (.builtin "sorted") uSortedD := call_sortedDI hcalm
theorem r_sortedD {m : Prs} (hd : H a = some (.dK (m.map inj))) (hl : m.length < 64) (q : ∀ (ys : List Int) p H', ys.Perm (m.map (·.1)) → ys.Pairwise (· ≤ ·) → H p = none → Same H H' → H' p = some (.lst (ys.map V.int)) → Q (.ref p) H') : uSortedD [.ref a] H Q :=
  ⟨a, m.map inj, m.map (·.1), rfl, .inl hd, by rw [List.map_map, List.map_map]; rfl, by simpa using hl, fun ys p h1 h2 h3 => q ys p _ h1 h2 h3 (Keep.same (Keep.new h3)) upd_same⟩
end
/-! ### parts of a curve -/
def partL (c : Prs) (b e : Int) : Prs := c.filter fun p => decide (b ≤ p.1) && decide (p.1 < e)
theorem partL_app {c : Prs} {a b d : Int} (hc : c.Pairwise fun p q => p.1 < q.1) (h1 : a ≤ b) (h2 : b ≤ d) : partL c a b ++ partL c b d = partL c a d := by
  induction c with
  | nil => rfl
  | cons p r ih =>
    obtain ⟨c1, c2⟩ := List.pairwise_cons.mp hc
    have ih := ih c2
    unfold partL at *
    by_cases h3 : p.1 < b
    · have e2 : (p :: r).filter (fun p => decide (b ≤ p.1) && decide (p.1 < d)) = r.filter (fun p => decide (b ≤ p.1) && decide (p.1 < d)) := List.filter_cons_of_neg (by simp; omega)
      rw [e2]
      by_cases h4 : a ≤ p.1
      · rw [List.filter_cons_of_pos (by simp; omega), List.filter_cons_of_pos (by simp; omega)]
        simp only [List.cons_append]
        rw [← ih]
      · rw [List.filter_cons_of_neg (by simp; omega), List.filter_cons_of_neg (by simp; omega)]
        exact ih
    · have e1 : r.filter (fun p => decide (a ≤ p.1) && decide (p.1 < b)) = [] := by
        rw [List.filter_eq_nil_iff]
        intro q hq
        have := c1 q hq
        simp
        omega
      rw [List.filter_cons_of_neg (by simp; omega), e1, List.nil_append]
      rw [e1, List.nil_append] at ih
      by_cases h4 : p.1 < d
      · rw [List.filter_cons_of_pos (by simp; omega), List.filter_cons_of_pos (by simp; omega), ih]
      · rw [List.filter_cons_of_neg (by simp; omega), List.filter_cons_of_neg (by simp; omega), ih]
theorem partL_self (c : Prs) (a b : Int) : partL (partL c a b) a b = partL c a b := by
  unfold partL
  rw [List.filter_filter]
  simp
theorem partL_len (c : Prs) (a b : Int) : (partL c a b).length ≤ c.length := List.length_filter_le _ _
theorem zip_up {c : Prs} (h : c.Pairwise fun p q => p.1 < q.1) : ∀ pq ∈ c.zip (c.drop 1), pq.1.1 < pq.2.1 := by
  intro pq hpq
  obtain ⟨i, hi⟩ := List.getElem?_of_mem hpq
  rw [List.getElem?_zip_eq_some] at hi
  obtain ⟨h1, h2⟩ := hi
  rw [List.getElem?_drop] at h2
  obtain ⟨i1, e1⟩ := List.getElem?_eq_some_iff.mp h1
  obtain ⟨i2, e2⟩ := List.getElem?_eq_some_iff.mp h2
  have := List.pairwise_iff_getElem.mp h i (1 + i) i1 i2 (by omega)
  rw [e1, e2] at this
  exact this
/-! ### pairs that stand in memory as tuples -/
def RawP (H : Hp) (ws : List V) (l : Prs) : Prop := Paired (fun v (q : Int × Int) => ∃ a, v = V.ref a ∧ H a = some (.tup [.int q.1, .int q.2])) ws l
theorem RawP.keep {F : Addr → Prop} {H H' : Hp} {ws : List V} {l : Prs} (h : RawP H ws l) (k : Keep F H H') (m : ∀ b, F b → Mut (H b)) : RawP H' ws l :=
  Paired.mapP h fun v q ⟨a, e, z⟩ => ⟨a, e, k a _ z fun n => by have := m a n; rw [z] at this; exact this⟩
theorem RawP.same {H H' : Hp} {ws : List V} {l : Prs} (h : RawP H ws l) (s : Same H H') : RawP H' ws l := Paired.mapP h fun v q ⟨a, e, z⟩ => ⟨a, e, s a _ z⟩
theorem RawP.dp {K : PySem.W.Frag} {H : Hp} : ∀ {ws : List V} {l : Prs}, RawP H ws l → DpAll K H ws (l.map pairP)
  | _, _, .nil => .nil
  | _, _, .cons ⟨a, e, z⟩ h => by
    subst e
    exact .cons (dp_of_pair (SqT.of z)) (RawP.dp h)
theorem RawP.len {H : Hp} {ws : List V} {l : Prs} (h : RawP H ws l) : ws.length = l.length := Paired.length h
theorem RawP.at_ {H : Hp} : ∀ {ws : List V} {l : Prs}, RawP H ws l → ∀ {i : Nat} {x : V}, ws[i]? = some x → ∃ q a, l[i]? = some q ∧ x = V.ref a ∧ H a = some (.tup [.int q.1, .int q.2])
  | _, _, .nil, i, x, h => by simp at h
  | _, _, .cons (b := q) ⟨a, e, z⟩ r, 0, x, h => by
    have e2 := Option.some.inj h
    subst e2
    exact ⟨q, a, rfl, e, z⟩
  | _, _, .cons _ r, i + 1, x, h => RawP.at_ r (i := i) (x := x) h
/-! ### bounds -/
/-- numbers that the laws draw -/
def big : Int := 1000000000000000000000000000000000000000000000000000000000000
structure Bd (p : Int × Int) : Prop where
  t : -big ≤ p.1 ∧ p.1 ≤ big
  h : -big ≤ p.2 ∧ p.2 ≤ big
end Fp
/-! stretches of times, in plain numbers -/
namespace Fp
open PySem PySem.Spec PyProof.Rows L2
def lvlF (b e : Int) : Nat → Nat → Nat
  | 0, l => l
  | n + 1, l => if b % 2 ^ (l + 1) = 0 ∧ b + 2 ^ (l + 1) ≤ e then lvlF b e n (l + 1) else l
def lvl (b e : Int) : Nat := lvlF b e 40 0
theorem two_mono {n m : Nat} (h : n ≤ m) : (2 : Int) ^ n ≤ 2 ^ m := by
  obtain ⟨k, rfl⟩ := Nat.exists_eq_add_of_le h
  rw [Int.pow_add]
  have h1 := two_pos n
  have h2 := two_pos k
  have : (2 : Int) ^ n * 1 ≤ 2 ^ n * 2 ^ k := Int.mul_le_mul_of_nonneg_left (by omega) (by omega)
  omega
theorem two_lt {n m : Nat} (h : (2 : Int) ^ n < 2 ^ m) : n < m := by
  rcases Nat.lt_or_ge n m with z | z
  · exact z
  · have := two_mono z; omega
theorem two_dvd {n m : Nat} (h : n ≤ m) : (2 : Int) ^ n ∣ 2 ^ m := by
  obtain ⟨k, rfl⟩ := Nat.exists_eq_add_of_le h
  rw [Int.pow_add]
  exact Int.dvd_mul_right ..
theorem lvlF_facts (b e : Int) : ∀ n l, n + l = 40 → b % 2 ^ l = 0 → b + 2 ^ l ≤ e → lvlF b e n l ≤ 40 ∧ b % 2 ^ lvlF b e n l = 0 ∧ b + 2 ^ lvlF b e n l ≤ e ∧ (lvlF b e n l < 40 → ¬ (b % 2 ^ (lvlF b e n l + 1) = 0 ∧ b + 2 ^ (lvlF b e n l + 1) ≤ e))
  | 0, l, h, h1, h2 => ⟨by unfold lvlF; omega, by unfold lvlF; exact h1, by unfold lvlF; exact h2, by unfold lvlF; omega⟩
  | n + 1, l, h, h1, h2 => by
    unfold lvlF
    by_cases c : b % 2 ^ (l + 1) = 0 ∧ b + 2 ^ (l + 1) ≤ e
    · rw [if_pos c]
      exact lvlF_facts b e n (l + 1) (by omega) c.1 c.2
    · rw [if_neg c]
      exact ⟨by omega, h1, h2, fun _ => c⟩
theorem lvlF_le (b e : Int) : ∀ n l, lvlF b e n l ≤ n + l
  | 0, l => by unfold lvlF; omega
  | n + 1, l => by
    unfold lvlF
    split
    · have := lvlF_le b e n (l + 1); omega
    · omega
theorem lvl_le (b e : Int) : lvl b e ≤ 40 := lvlF_le b e 40 0
theorem lvl_facts {b e : Int} (h : b < e) : b % 2 ^ lvl b e = 0 ∧ b + 2 ^ lvl b e ≤ e ∧ (lvl b e < 40 → ¬ (b % 2 ^ (lvl b e + 1) = 0 ∧ b + 2 ^ (lvl b e + 1) ≤ e)) :=
  (lvlF_facts b e 40 0 rfl (by simp) (by simp; omega)).2
/-- the stretches -/
def strF (e : Int) : Nat → Int → Prs
  | 0, _ => []
  | n + 1, b => if b < e then ((lvl b e : Int), b / 2 ^ lvl b e) :: strF e n (b + 2 ^ lvl b e) else []
def strL (b e : Int) : Prs := strF e (e - b).toNat b
theorem strF_fuel (e : Int) : ∀ n m b, (e - b).toNat ≤ n → (e - b).toNat ≤ m → strF e n b = strF e m b
  | 0, 0, _, _, _ => rfl
  | 0, m + 1, b, h, _ => by unfold strF; rw [if_neg (by omega)]
  | n + 1, 0, b, _, h => by unfold strF; rw [if_neg (by omega)]
  | n + 1, m + 1, b, h1, h2 => by
    unfold strF
    have := two_pos (lvl b e)
    split
    · rw [strF_fuel e n m _ (by omega) (by omega)]
    · rfl
theorem str_nil {b e : Int} (h : ¬ b < e) : strL b e = [] := by
  unfold strL
  rw [show (e - b).toNat = 0 by omega]
  rfl
theorem str_cons {b e : Int} (h : b < e) : strL b e = ((lvl b e : Int), b / 2 ^ lvl b e) :: strL (b + 2 ^ lvl b e) e := by
  have := two_pos (lvl b e)
  unfold strL
  obtain ⟨n, hn⟩ : ∃ n, (e - b).toNat = n + 1 := ⟨(e - b).toNat - 1, by omega⟩
  rw [hn]
  show (if b < e then ((lvl b e : Int), b / 2 ^ lvl b e) :: strF e n (b + 2 ^ lvl b e) else []) = _
  rw [if_pos h, strF_fuel e n (e - (b + 2 ^ lvl b e)).toNat _ (by omega) (by omega)]
theorem str_fall : ∀ k, k ≤ 40 → ∀ b e : Int, (2 : Int) ^ k ∣ b → e - b < 2 ^ k → (strL b e).length ≤ k := by
  intro k
  induction k using Nat.strongRecOn with
  | _ k ih =>
    intro hk b e hd hl
    by_cases h : b < e
    · obtain ⟨h1, h2, h3⟩ := lvl_facts h
      have hlk : lvl b e < k := two_lt (by omega)
      have h4 := h3 (by omega)
      have h5 : (2 : Int) ^ (lvl b e + 1) ∣ b := Int.dvd_trans (two_dvd hlk) hd
      have h6 : ¬ b + 2 ^ (lvl b e + 1) ≤ e := fun z => h4 ⟨Int.emod_eq_zero_of_dvd h5, z⟩
      rw [two_succ] at h6
      rw [str_cons h, List.length_cons]
      have := ih _ hlk (by omega) (b + 2 ^ lvl b e) e (Int.dvd_add (Int.dvd_of_emod_eq_zero h1) (Int.dvd_refl _)) (by omega)
      omega
    · rw [str_nil h]; simp
theorem dvd_next {l : Nat} {b : Int} (h1 : b % 2 ^ l = 0) (h2 : ¬ b % 2 ^ (l + 1) = 0) : (2 : Int) ^ (l + 1) ∣ b + 2 ^ l := by
  obtain ⟨m, rfl⟩ := Int.dvd_of_emod_eq_zero h1
  have hm : m % 2 = 1 := by
    rcases Int.emod_two_eq m with z | z
    · exfalso
      apply h2
      obtain ⟨j, rfl⟩ := Int.dvd_of_emod_eq_zero z
      rw [← Int.mul_assoc, ← Int.pow_succ]
      exact Int.mul_emod_right _ _
    · exact z
  refine ⟨(m + 1) / 2, ?_⟩
  rw [Int.pow_succ, Int.mul_assoc]
  have : 2 * ((m + 1) / 2) = m + 1 := by omega
  rw [this, Int.mul_add, Int.mul_one]
theorem str_rise : ∀ j k : Nat, j + k = 40 → ∀ b e : Int, (2 : Int) ^ k ∣ b → -(2 ^ 40) < b → e ≤ 2 ^ 40 → (strL b e).length ≤ 80 - k := by
  intro j
  induction j using Nat.strongRecOn with
  | _ j ih =>
    intro k hj b e hd hb he
    by_cases h : b < e
    · obtain ⟨h1, h2, h3⟩ := lvl_facts h
      have hle := lvl_le b e
      rw [str_cons h, List.length_cons]
      by_cases hl : lvl b e < 40
      · have h4 := h3 hl
        by_cases h5 : b + 2 ^ (lvl b e + 1) ≤ e
        · have h6 : ¬ b % 2 ^ (lvl b e + 1) = 0 := fun z => h4 ⟨z, h5⟩
          have hkl : k ≤ lvl b e := by
            rcases Nat.lt_or_ge (lvl b e) k with z | z
            · exact absurd (Int.emod_eq_zero_of_dvd (Int.dvd_trans (two_dvd z) hd)) h6
            · exact z
          have := two_pos (lvl b e)
          have := ih (40 - (lvl b e + 1)) (by omega) (lvl b e + 1) (by omega) (b + 2 ^ lvl b e) e (dvd_next h1 h6) (by omega) he
          omega
        · rw [two_succ] at h5
          have := str_fall (lvl b e) (by omega) (b + 2 ^ lvl b e) e (Int.dvd_add (Int.dvd_of_emod_eq_zero h1) (Int.dvd_refl _)) (by omega)
          omega
      · have e40 : lvl b e = 40 := by omega
        rw [e40] at h1 h2 ⊢
        rw [str_nil (by omega)]
        simp
        omega
    · rw [str_nil h]; simp
theorem str_len {b e : Int} (hb : -(2 ^ 40) ≤ b) (he : e ≤ 2 ^ 40) : (strL b e).length ≤ 80 := by
  by_cases h0 : b = -(2 ^ 40)
  · subst h0
    by_cases h : (-(2 ^ 40) : Int) < e
    · obtain ⟨h1, h2, h3⟩ := lvl_facts h
      have hle := lvl_le (-(2 ^ 40)) e
      rw [str_cons h, List.length_cons]
      generalize lvl (-(2 ^ 40)) e = l at *
      by_cases hl : l < 40
      · have h4 := h3 hl
        have h5 : ¬ -(2 ^ 40) + 2 ^ (l + 1) ≤ e := fun z => h4 ⟨Int.emod_eq_zero_of_dvd (Int.dvd_neg.mpr (two_dvd (by omega))), z⟩
        rw [two_succ] at h5
        have := str_fall l (by omega) (-(2 ^ 40) + 2 ^ l) e (Int.dvd_add (Int.dvd_of_emod_eq_zero h1) (Int.dvd_refl _)) (by omega)
        omega
      · have e40 : l = 40 := by omega
        subst e40
        have := str_rise 0 40 rfl (-(2 ^ 40) + 2 ^ 40) e ⟨0, by omega⟩ (by omega) he
        omega
    · rw [str_nil h]; simp
  · exact str_rise 40 0 rfl b e (by rw [Int.pow_zero]; exact Int.one_dvd b) (by omega) he
theorem str_mem {e : Int} : ∀ n : Nat, ∀ b : Int, (strL b e).length = n → ∀ q ∈ strL b e, ∃ l : Nat, l ≤ 40 ∧ q.1 = (l : Int) := by
  intro n
  induction n with
  | zero =>
    intro b h q hq
    rw [List.length_eq_zero_iff.mp h] at hq
    simp at hq
  | succ n ih =>
    intro b h q hq
    by_cases hb : b < e
    · rw [str_cons hb] at h hq
      rcases List.mem_cons.mp hq with rfl | hq
      · exact ⟨_, lvl_le b e, rfl⟩
      · exact ih _ (by simpa using h) q hq
    · rw [str_nil hb] at h
      simp at h
end Fp
/-! fours: first, last, lowest, highest; tables of fours by stretches -/
namespace Fp
open PySem PySem.Spec PyProof.Rows L2
structure Four where
  f : Int × Int
  l : Int × Int
  lo : Int × Int
  hi : Int × Int
def four4 (F : Four) : PyData := .tuple [pairP F.f, pairP F.l, pairP F.lo, pairP F.hi]
def fourD : Option Four → PyData
  | none => .none
  | some F => four4 F
theorem imm_four (F : Option Four) : imm (fourD F) = true := by
  cases F with
  | none => rfl
  | some F => simp [fourD, four4, imm, immAll, imm_pair]
theorem dp4 {K : PySem.W.Frag} {H : Hp} {ws : List V} {a b c d : PyData} (h : DpAll K H ws [a, b, c, d]) : ∃ w x y z, ws = [w, x, y, z] ∧ Dp K H w a ∧ Dp K H x b ∧ Dp K H y c ∧ Dp K H z d := by
  cases h with
  | cons h1 h =>
    cases h with
    | cons h2 h =>
      cases h with
      | cons h3 h =>
        cases h with
        | cons h4 h =>
          cases h
          exact ⟨_, _, _, _, rfl, h1, h2, h3, h4⟩
theorem shp_four (F : Option Four) : Shp 2 (fourD F) := by
  cases F with
  | none => exact .none
  | some F => exact Shp.t4 (shp_pair _) (shp_pair _) (shp_pair _) (shp_pair _)
def lowP (a b : Int × Int) : Int × Int := if b.2 < a.2 then b else a
def highP (a b : Int × Int) : Int × Int := if b.2 > a.2 then b else a
def joinF : Option Four → Option Four → Option Four
  | none, b => b
  | some a, none => some a
  | some a, some b => some ⟨a.f, b.l, lowP a.lo b.lo, highP a.hi b.hi⟩
theorem lowP_assoc (a b c : Int × Int) : lowP (lowP a b) c = lowP a (lowP b c) := by
  unfold lowP
  by_cases h1 : b.2 < a.2 <;> by_cases h2 : c.2 < b.2 <;> by_cases h3 : c.2 < a.2 <;> simp [h1, h2, h3] <;> (exfalso; omega)
theorem highP_assoc (a b c : Int × Int) : highP (highP a b) c = highP a (highP b c) := by
  unfold highP
  by_cases h1 : b.2 > a.2 <;> by_cases h2 : c.2 > b.2 <;> by_cases h3 : c.2 > a.2 <;> simp [h1, h2, h3] <;> (exfalso; omega)
theorem joinF_none (a : Option Four) : joinF a none = a := by cases a <;> rfl
theorem joinF_assoc (a b c : Option Four) : joinF (joinF a b) c = joinF a (joinF b c) := by
  cases a with
  | none => rfl
  | some a =>
    cases b with
    | none => rfl
    | some b =>
      cases c with
      | none => rfl
      | some c => simp only [joinF, lowP_assoc, highP_assoc]
def oneF (p : Int × Int) : Option Four := some ⟨p, p, p, p⟩
def fourL (c : Prs) : Option Four := c.foldl (fun a p => joinF a (oneF p)) none
theorem fold_join (c : Prs) : ∀ a : Option Four, c.foldl (fun a p => joinF a (oneF p)) a = joinF a (fourL c) := by
  induction c with
  | nil => intro a; exact (joinF_none a).symm
  | cons p r ih =>
    intro a
    show r.foldl (fun a p => joinF a (oneF p)) (joinF a (oneF p)) = joinF a (r.foldl (fun a p => joinF a (oneF p)) (joinF none (oneF p)))
    rw [ih, ih, joinF_assoc]
    rfl
theorem fourL_app (c d : Prs) : fourL (c ++ d) = joinF (fourL c) (fourL d) := by
  show (c ++ d).foldl (fun a p => joinF a (oneF p)) none = _
  rw [List.foldl_append, fold_join]
  rfl
theorem fourL_nil : fourL [] = none := rfl
theorem fourL_one (p : Int × Int) : fourL [p] = oneF p := rfl
theorem fourL_cons (p : Int × Int) (c : Prs) : fourL (p :: c) = joinF (oneF p) (fourL c) := fourL_app [p] c
theorem fourL_none {c : Prs} (h : fourL c = none) : c = [] := by
  cases c with
  | nil => rfl
  | cons p r =>
    rw [fourL_cons] at h
    unfold oneF at h
    cases e : fourL r with
    | none => rw [e] at h; cases h
    | some F => rw [e] at h; cases h
theorem fold_some (r : Prs) : ∀ F : Four, r.foldl (fun a p => joinF a (oneF p)) (some F) = some ⟨F.f, (r.getLast?).getD F.l, r.foldl lowP F.lo, r.foldl highP F.hi⟩ := by
  induction r with
  | nil => intro F; rfl
  | cons p r ih =>
    intro F
    show r.foldl (fun a p => joinF a (oneF p)) (some ⟨F.f, p, lowP F.lo p, highP F.hi p⟩) = _
    rw [ih]
    cases r with
    | nil => rfl
    | cons q r =>
      have e : ∀ z : Int × Int, ((q :: r).getLast?).getD z = (q :: r).getLast (by simp) := fun z => by rw [List.getLast?_eq_some_getLast (by simp)]; rfl
      have e2 : ((p :: q :: r).getLast?).getD F.l = (q :: r).getLast (by simp) := by rw [List.getLast?_eq_some_getLast (by simp)]; rfl
      rw [e2]
      show some (Four.mk F.f (((q :: r).getLast?).getD p) _ _) = _
      rw [e]
      rfl
theorem fourL_eq (f : Int × Int) (r : Prs) : fourL (f :: r) = some ⟨f, (r.getLast?).getD f, r.foldl lowP f, r.foldl highP f⟩ := fold_some r ⟨f, f, f, f⟩
theorem lowP_self (f : Int × Int) : lowP f f = f := by unfold lowP; split <;> rfl
theorem highP_self (f : Int × Int) : highP f f = f := by unfold highP; split <;> rfl
/-! ### the times of a stretch -/
def seg (c : Prs) (l : Nat) (s : Int) : Prs := partL c (s * 2 ^ l) (s * 2 ^ l + 2 ^ l)
theorem seg_succ {c : Prs} (hc : c.Pairwise fun p q => p.1 < q.1) (l : Nat) (s : Int) : seg c (l + 1) s = seg c l (2 * s) ++ seg c l (2 * s + 1) := by
  have h := two_pos l
  have e1 : s * 2 ^ (l + 1) = 2 * s * 2 ^ l := by rw [two_succ, ← Int.mul_assoc, Int.mul_comm s 2]
  have e2 : (2 * s + 1) * 2 ^ l = 2 * s * 2 ^ l + 2 ^ l := by rw [Int.add_mul, Int.one_mul]
  unfold seg
  rw [e1, e2, partL_app hc (by omega) (by omega), two_succ]
  congr 1
  omega
theorem partL_none {c : Prs} {b e : Int} (h : ¬ b < e) : partL c b e = [] := by
  unfold partL
  rw [List.filter_eq_nil_iff]
  intro p _
  simp
  omega
/-- the stretches' fours, joined -/
theorem str_four {c : Prs} (hc : c.Pairwise fun p q => p.1 < q.1) (e : Int) : ∀ n : Nat, ∀ b : Int, (strL b e).length = n → (strL b e).foldl (fun a p => joinF a (fourL (seg c p.1.toNat p.2))) none = fourL (partL c b e) := by
  have gen : ∀ (l : Prs) (a : Option Four), l.foldl (fun a p => joinF a (fourL (seg c p.1.toNat p.2))) a = joinF a (l.foldl (fun a p => joinF a (fourL (seg c p.1.toNat p.2))) none) := by
    intro l
    induction l with
    | nil => intro a; exact (joinF_none a).symm
    | cons p r ih =>
      intro a
      simp only [List.foldl_cons]
      rw [ih, ih (joinF none _), joinF_assoc]
      rfl
  intro n
  induction n with
  | zero =>
    intro b h
    have hb : ¬ b < e := fun z => by rw [str_cons z] at h; simp at h
    rw [str_nil hb, partL_none hb]
    rfl
  | succ n ih =>
    intro b h
    by_cases hb : b < e
    · obtain ⟨h1, h2, _⟩ := lvl_facts hb
      have hm : b / 2 ^ lvl b e * 2 ^ lvl b e = b := Int.ediv_mul_cancel_of_emod_eq_zero h1
      have hp := two_pos (lvl b e)
      rw [str_cons hb] at h ⊢
      simp only [List.length_cons, Nat.add_right_cancel_iff] at h
      rw [List.foldl_cons, gen, ih _ h]
      show joinF (joinF none (fourL (seg c ((lvl b e : Nat) : Int).toNat (b / 2 ^ lvl b e)))) _ = _
      rw [show ((lvl b e : Nat) : Int).toNat = lvl b e from rfl]
      unfold seg
      rw [hm]
      show joinF (fourL (partL c b (b + 2 ^ lvl b e))) _ = _
      rw [← fourL_app, partL_app hc (by omega) h2]
    · rw [str_nil hb] at h
      simp at h
/-! ### tables of fours by stretches -/
def skey (l : Nat) (s : Int) : List Key := [Sum.inl (l : Int), Sum.inl s]
theorem skey_inj {l l' : Nat} {s s' : Int} : skey l s = skey l' s' ↔ l = l' ∧ s = s' := by
  unfold skey
  simp
  intro _
  omega
inductive Fits (K : PySem.W.Frag) (H : Hp) : Option V → Option Four → Prop
  | none : Fits K H none none
  | some {v : V} {F : Four} : Dp K H v (four4 F) → Fits K H (some v) (some F)
theorem Fits.text {K : PySem.W.Frag} {H H' : Hp} {o : Option V} {F : Option Four} (h : Fits K H o F) (e : TExt H H') : Fits K H' o F := by
  cases h with
  | none => exact .none
  | some d => exact .some (Dp.text e _ _ (imm_four (Option.some _)) d)
theorem Fits.getD {K : PySem.W.Frag} {H : Hp} {o : Option V} {F : Option Four} (h : Fits K H o F) : Dp K H (o.getD .non) (fourD F) := by
  cases h with
  | none => exact .non
  | some d => exact d
/-- below level k the fours of c', from there on those of c -/
def Mix (K : PySem.W.Frag) (H : Hp) (kvs : List (List Key × V)) (c c' : Prs) (k : Nat) : Prop :=
  ∀ (l : Nat) (s : Int), l ≤ 40 → Fits K H (valV kvs (skey l s)) (fourL (seg (if l < k then c' else c) l s))
abbrev FourInv (K : PySem.W.Frag) (H : Hp) (kvs : List (List Key × V)) (c : Prs) : Prop := Mix K H kvs c c 0
theorem Mix.text {K : PySem.W.Frag} {H H' : Hp} {kvs : List (List Key × V)} {c c' : Prs} {k : Nat} (h : Mix K H kvs c c' k) (e : TExt H H') : Mix K H' kvs c c' k := fun l s hl => (h l s hl).text e
theorem Mix.zero {K : PySem.W.Frag} {H : Hp} {kvs : List (List Key × V)} {c : Prs} (c' : Prs) (h : FourInv K H kvs c) : Mix K H kvs c c' 0 := fun l s hl => by
  have := h l s hl
  rw [if_neg (by omega)] at this ⊢
  exact this
theorem Mix.full {K : PySem.W.Frag} {H : Hp} {kvs : List (List Key × V)} {c c' : Prs} (h : Mix K H kvs c c' 41) : FourInv K H kvs c' := fun l s hl => by
  have := h l s hl
  rw [if_pos (by omega)] at this
  rw [if_neg (by omega)]
  exact this
/-- c and c' differ at t at most -/
def Beside (t : Int) (c c' : Prs) : Prop := ∀ b e : Int, ¬ (b ≤ t ∧ t < e) → partL c' b e = partL c b e
theorem seg_beside {t : Int} {c c' : Prs} (h : Beside t c c') {l : Nat} {s : Int} (hs : s ≠ t / 2 ^ l) : seg c' l s = seg c l s := by
  refine h _ _ fun z => hs ?_
  exact (div_is (two_pos l) z.1 z.2).symm
/-- one more level is done: what stands at the stretch of t is the four of c' -/
theorem Mix.step {K : PySem.W.Frag} {H H' : Hp} {kvs kvs' : List (List Key × V)} {c c' : Prs} {t : Int} {k : Nat} (hb : Beside t c c') (h : Mix K H kvs c c' k) (e : TExt H H')
    (hv : ∀ j, j ≠ skey k (t / 2 ^ k) → valV kvs' j = valV kvs j) (hn : Fits K H' (valV kvs' (skey k (t / 2 ^ k))) (fourL (seg c' k (t / 2 ^ k)))) : Mix K H' kvs' c c' (k + 1) := by
  intro l s hl
  by_cases hk : skey l s = skey k (t / 2 ^ k)
  · obtain ⟨rfl, rfl⟩ := skey_inj.mp hk
    rw [if_pos (by omega)]
    exact hn
  · rw [hv _ hk]
    have := (h l s hl).text e
    by_cases h1 : l < k
    · rw [if_pos h1] at this
      rw [if_pos (by omega)]
      exact this
    · rw [if_neg h1] at this
      by_cases h2 : l = k
      · rw [if_pos (by omega), seg_beside hb (fun z => hk (skey_inj.mpr ⟨h2, by rw [z, h2]⟩))]
        exact this
      · rw [if_neg (by omega)]
        exact this
/-- the two that are joined at the next level -/
theorem Mix.two {K : PySem.W.Frag} {H : Hp} {kvs : List (List Key × V)} {c c' : Prs} {k : Nat} (h : Mix K H kvs c c' (k + 1)) (hk : k < 40) (s : Int) :
    Fits K H (valV kvs (skey k (2 * s))) (fourL (seg c' k (2 * s))) ∧ Fits K H (valV kvs (skey k (2 * s + 1))) (fourL (seg c' k (2 * s + 1))) := by
  have h1 := h k (2 * s) (by omega)
  have h2 := h k (2 * s + 1) (by omega)
  rw [if_pos (by omega)] at h1 h2
  exact ⟨h1, h2⟩
theorem seg_zero_mem {c : Prs} (hc : c.Pairwise fun p q => p.1 < q.1) {t h : Int} (hm : (t, h) ∈ c) : seg c 0 t = [(t, h)] := by
  refine up_ext (hc.sublist List.filter_sublist) (List.pairwise_singleton _ _) fun p => ?_
  unfold seg partL
  rw [List.mem_filter, List.mem_singleton]
  simp only [Int.pow_zero, Int.mul_one, Bool.and_eq_true, decide_eq_true_eq]
  constructor
  · rintro ⟨hp, h1, h2⟩
    have e1 := (valP_iff (up_nodup hc)).mpr (show (t, h) ∈ c from hm)
    have e2 := (valP_iff (up_nodup hc)).mpr (show (t, p.2) ∈ c by rw [show (t, p.2) = p from Prod.ext (by show t = p.1; omega) rfl]; exact hp)
    rw [e1] at e2
    exact Prod.ext (by show p.1 = t; omega) (Option.some.inj e2).symm
  · rintro rfl
    exact ⟨hm, by omega, by omega⟩
theorem seg_zero_not {c : Prs} {t : Int} (hm : ∀ p ∈ c, p.1 ≠ t) : seg c 0 t = [] := by
  unfold seg partL
  rw [List.filter_eq_nil_iff]
  intro p hp
  have := hm p hp
  simp
  omega
theorem in_stretch (t : Int) (l : Nat) : t / 2 ^ l * 2 ^ l ≤ t ∧ t < t / 2 ^ l * 2 ^ l + 2 ^ l := by
  have hp := two_pos l
  have h1 := Int.ediv_mul_le t (b := 2 ^ l) (by omega)
  have h2 := Int.lt_ediv_add_one_mul_self t hp
  rw [Int.add_mul, Int.one_mul] at h2
  exact ⟨h1, h2⟩
theorem seg_has {c : Prs} {t h : Int} (hm : (t, h) ∈ c) (l : Nat) : (t, h) ∈ seg c l (t / 2 ^ l) := by
  obtain ⟨h1, h2⟩ := in_stretch t l
  unfold seg partL
  rw [List.mem_filter]
  exact ⟨hm, by simp only [Bool.and_eq_true, decide_eq_true_eq]; exact ⟨h1, h2⟩⟩
theorem Fits.of_some {K : PySem.W.Frag} {H : Hp} {v : V} {F : Option Four} (d : Dp K H v (fourD F)) (h : F ≠ Option.none) : Fits K H (Option.some v) F := by
  cases F with
  | none => exact absurd rfl h
  | some F => exact .some d
end Fp
/-! classes of the program: methods, making, fields; dicts by tuples -/
namespace Fp
open PySem PySem.Spec PyProof.Rows L2
/-- a class without bases at the module's name x -/
structure ClT (K : PySem.W.Frag) (mg : Str → Option Value) (x : Str) (C : Addr) : Prop where
  g : mg x = some (.ref C)
  cl : Cls K C
  mks : PySem.W.makesIn K C = true
  kp : PySem.W.keepIn K (.ref C) = true
structure MDef (K : PySem.W.Frag) (C : Addr) (m qual : Str) (st : Stmt) (ps : List Str) : Prop where
  ex : ∃ f fd, Fun K m qual st f fd ∧ Meth K C m f ∧ Binds K fd ps []
structure MFn (P : Program) (w : World) (K : PySem.W.Frag) (mg : Str → Option Value) (base : Heap) (k : Nat) (C : Addr) (m : Str) (ps : List Str) (sp : Sp) : Prop where
  ex : ∃ f fd, Meth K C m f ∧ Binds K fd ps [] ∧ FnOk P w K mg base (L2.CX P w) k f fd ps sp
/-- an __init__ whose last parameter has the default None -/
structure IDef (K : PySem.W.Frag) (C : Addr) (qual : Str) (st : Stmt) (ps : List Str) : Prop where
  ex : ∃ f fd, FunD K "__init__" qual (defArgs st) (defBody st) (defScope st) [.non] [] f fd ∧ Mk K C f ∧ Binds K fd ps [] ∧ KBn K fd ps 1 [ps.getD 1 Str.empty] (fun us ws => us ++ ws) (fun vs zs => vs ++ zs) ∧ ∃ ds, Vals [V.non] ds ∧ Binds K fd ps ds
structure IFn (P : Program) (w : World) (K : PySem.W.Frag) (mg : Str → Option Value) (base : Heap) (k : Nat) (C : Addr) (ps : List Str) (sp : Sp) : Prop where
  ex : ∃ f fd, Mk K C f ∧ Binds K fd ps [] ∧ KBn K fd ps 1 [ps.getD 1 Str.empty] (fun us ws => us ++ ws) (fun vs zs => vs ++ zs) ∧ (∃ ds, Vals [V.non] ds ∧ Binds K fd ps ds) ∧ FnOk P w K mg base (L2.CX P w) k f fd ps sp
/-- an __init__ without defaults -/
structure PDef (K : PySem.W.Frag) (C : Addr) (qual : Str) (st : Stmt) (ps : List Str) : Prop where
  ex : ∃ f fd, Fun K "__init__" qual st f fd ∧ Mk K C f ∧ Binds K fd ps []
structure PFn (P : Program) (w : World) (K : PySem.W.Frag) (mg : Str → Option Value) (base : Heap) (k : Nat) (C : Addr) (ps : List Str) (sp : Sp) : Prop where
  ex : ∃ f fd, Mk K C f ∧ Binds K fd ps [] ∧ FnOk P w K mg base (L2.CX P w) k f fd ps sp
theorem IFn.pos {P : Program} {w : World} {K : PySem.W.Frag} {mg : Str → Option Value} {base : Heap} {k : Nat} {C : Addr} {ps : List Str} {sp : Sp} (G : IFn P w K mg base k C ps sp) : PFn P w K mg base k C ps sp := by
  obtain ⟨f, fd, hm, hb, _, _, F⟩ := G.ex
  exact ⟨f, fd, hm, hb, F⟩
section
variable {P : Program} {w : World} {K : PySem.W.Frag} {mg : Str → Option Value} {base : Heap} {C : Addr}
theorem PDef.ok {qual : Str} {st : Stmt} {N ps : List Str} {k : Nat} {sp : Sp} (D : PDef K C qual st ps) (S : FnScope N ps (defScope st)) (len : ∀ vs H Q E, sp vs H Q E → vs.length = ps.length)
    (hbody : ∀ (f : Addr) (cdv : Value) (A : Around) (outer : List Env) (s : Shared) (H : Hp) (vs : List V) (Q : VK) (E : XK), Room k (A.deeper (envOfC qual (defScope st) s.heap.objs.size f cdv)) → sp vs H Q E →
      ∃ t, PSs (cxOf CX0 P w K mg base N qual (defScope st) f cdv A outer s H E).nox (defBody st) t ∧ t { nx := fun _ H' => Q .non H', rt := Q } (start N vs) H) : PFn P w K mg base (k + 1) C ps sp := by
  obtain ⟨f, fd, F, hm, hb⟩ := D.ex
  exact ⟨f, fd, hm, hb, fn_up (F.ok S len (hbody f))⟩
theorem PDef.okX {qual : Str} {st : Stmt} {N ps : List Str} {k : Nat} {sp : Sp} (D : PDef K C qual st ps) (S : FnScope N ps (defScope st)) (len : ∀ vs H Q E, sp vs H Q E → vs.length = ps.length)
    (hbody : ∀ (f : Addr) (cdv : Value) (A : Around) (outer : List Env) (s : Shared) (H : Hp) (vs : List V) (Q : VK) (E : XK), Room k (A.deeper (envOfC qual (defScope st) s.heap.objs.size f cdv)) → sp vs H Q E →
      ∃ t, PSs (cxOf (L2.CX P w) P w K mg base N qual (defScope st) f cdv A outer s H E) (defBody st) t ∧ t { nx := fun _ H' => Q .non H', rt := Q } (start N vs) H) : PFn P w K mg base (k + 1) C ps sp := by
  obtain ⟨f, fd, F, hm, hb⟩ := D.ex
  exact ⟨f, fd, hm, hb, F.okX S len (hbody f)⟩
theorem MDef.ok {m qual : Str} {st : Stmt} {N ps : List Str} {k : Nat} {sp : Sp} (D : MDef K C m qual st ps) (S : FnScope N ps (defScope st)) (len : ∀ vs H Q E, sp vs H Q E → vs.length = ps.length)
    (hbody : ∀ (f : Addr) (cdv : Value) (A : Around) (outer : List Env) (s : Shared) (H : Hp) (vs : List V) (Q : VK) (E : XK), Room k (A.deeper (envOfC qual (defScope st) s.heap.objs.size f cdv)) → sp vs H Q E →
      ∃ t, PSs (cxOf CX0 P w K mg base N qual (defScope st) f cdv A outer s H E).nox (defBody st) t ∧ t { nx := fun _ H' => Q .non H', rt := Q } (start N vs) H) : MFn P w K mg base (k + 1) C m ps sp := by
  obtain ⟨f, fd, F, hm, hb⟩ := D.ex
  exact ⟨f, fd, hm, hb, fn_up (F.ok S len (hbody f))⟩
theorem MDef.okX {m qual : Str} {st : Stmt} {N ps : List Str} {k : Nat} {sp : Sp} (D : MDef K C m qual st ps) (S : FnScope N ps (defScope st)) (len : ∀ vs H Q E, sp vs H Q E → vs.length = ps.length)
    (hbody : ∀ (f : Addr) (cdv : Value) (A : Around) (outer : List Env) (s : Shared) (H : Hp) (vs : List V) (Q : VK) (E : XK), Room k (A.deeper (envOfC qual (defScope st) s.heap.objs.size f cdv)) → sp vs H Q E →
      ∃ t, PSs (cxOf (L2.CX P w) P w K mg base N qual (defScope st) f cdv A outer s H E) (defBody st) t ∧ t { nx := fun _ H' => Q .non H', rt := Q } (start N vs) H) : MFn P w K mg base (k + 1) C m ps sp := by
  obtain ⟨f, fd, F, hm, hb⟩ := D.ex
  exact ⟨f, fd, hm, hb, F.okX S len (hbody f)⟩
theorem IDef.okX {qual : Str} {st : Stmt} {N ps : List Str} {k : Nat} {sp : Sp} (D : IDef K C qual st ps) (S : FnScope N ps (defScope st)) (len : ∀ vs H Q E, sp vs H Q E → vs.length = ps.length)
    (hbody : ∀ (f : Addr) (cdv : Value) (A : Around) (outer : List Env) (s : Shared) (H : Hp) (vs : List V) (Q : VK) (E : XK), Room k (A.deeper (envOfC qual (defScope st) s.heap.objs.size f cdv)) → sp vs H Q E →
      ∃ t, PSs (cxOf (L2.CX P w) P w K mg base N qual (defScope st) f cdv A outer s H E) (defBody st) t ∧ t { nx := fun _ H' => Q .non H', rt := Q } (start N vs) H) : IFn P w K mg base (k + 1) C ps sp := by
  obtain ⟨f, fd, F, hm, hb, hk, hd⟩ := D.ex
  exact ⟨f, fd, hm, hb, hk, hd, F.ok S len (hbody f)⟩
theorem mdef_mk {m qual : Str} {st : Stmt} {f : Addr} {fd : FuncData} {ps : List Str} (F : Fun K m qual st f fd) (a : PySem.W.findIn K (.ref C) m = some (some (.ref f))) (i : PySem.W.isFn K (.ref f) = true) (k : PySem.W.keepIn K (.ref f) = true) (hb : Binds K fd ps []) : MDef K C m qual st ps := ⟨f, fd, F, ⟨a, i, k⟩, hb⟩
theorem pdef_mk {qual : Str} {st : Stmt} {f : Addr} {fd : FuncData} {ps : List Str} (F : Fun K "__init__" qual st f fd) (M : Mk K C f) (hb : Binds K fd ps []) : PDef K C qual st ps := ⟨f, fd, F, M, hb⟩
theorem idef_mk {qual : Str} {st : Stmt} {f : Addr} {fd : FuncData} {ps : List Str} {n : Nat} (F : FunD K "__init__" qual (defArgs st) (defBody st) (defScope st) [.non] [] f fd) (M : Mk K C f) (hn : n + 1 = ps.length)
    (h0 : ∀ (T : Addr) (kV doc pm : Value) (an : Option Addr) (cdv ct : Value) (us its : List Value), us.length = n → its.length = 1 →
      ∃ k, bindArgs (PySem.W.fnOf "__init__" qual (defArgs st) (defBody st) (defScope st) (.ref T) kV doc pm an cdv ct) ⟨us, []⟩ = seqItems? (.ref T) >>= k ∧ k (some its.toArray) = pure (ps.zip (us ++ its.drop 0)))
    (h1 : ∀ (T : Addr) (kV doc pm : Value) (an : Option Addr) (cdv ct : Value) (us its : List Value), us.length = n + 1 → its.length = 1 →
      ∃ k, bindArgs (PySem.W.fnOf "__init__" qual (defArgs st) (defBody st) (defScope st) (.ref T) kV doc pm an cdv ct) ⟨us, []⟩ = seqItems? (.ref T) >>= k ∧ k (some its.toArray) = pure (ps.zip (us ++ its.drop 1)))
    (h2 : ∀ (T : Addr) (kV doc pm : Value) (an : Option Addr) (cdv ct : Value) (us its ws : List Value), us.length = 1 → its.length = 1 → ws.length = 1 →
      ∃ k, bindArgs (PySem.W.fnOf "__init__" qual (defArgs st) (defBody st) (defScope st) (.ref T) kV doc pm an cdv ct) ⟨us, [ps.getD 1 Str.empty].zip ws⟩ = seqItems? (.ref T) >>= k ∧ k (some its.toArray) = pure (ps.zip (us ++ ws))) : IDef K C qual st ps := by
  obtain ⟨ds, hd, hb⟩ := F.binds1 n 0 (by simp) (by simpa using hn) h0
  obtain ⟨ds1, hd1, hb1⟩ := F.binds1 (n + 1) 1 (by simp) (by simpa using hn) h1
  have e : ds1 = [] := by
    have : Vals [] ds1 := hd1
    cases this
    rfl
  subst e
  obtain ⟨its, hk⟩ := F.kbindsD 1 [ps.getD 1 Str.empty] (fun us _ ws => us ++ ws) (by simp) (fun r1 _ r3 => r1.append r3) h2
  exact ⟨f, fd, F, M, hb1, hk, ds, hd, hb⟩
end
/-! ### calls of methods, making -/
section
variable {X : Cx} {K : PySem.W.Frag} {σ : St} {H H' : Hp} {Q : VK} {k j : Nat} {ps : List Str} {sp : Sp} {E : XK} {x m f : Str} {p pos apos : Pos} {o e : Expr} {es : List Expr} {ta te tv : TE} {t : TA} {C a dx : Addr} {fs : List (Str × V)} {v y z : V} {nx bk ct : St → Hp → Prop} {rt : VK} {vs : List V}
def uMeth (C : Addr) (m : Str) (sp : Sp) (E : XK) (t : TA) (σ : St) (x : V) (H : Hp) (Q : VK) : Prop := ∃ a dx fs, x = .ref a ∧ H a = some (.ins C dx fs) ∧ fs.lookup m = none ∧ t σ H fun vs H2 => sp (x :: vs) H2 Q E
def tMethU (C : Addr) (m : Str) (sp : Sp) (E : XK) (ta : TE) (t : TA) : TE := fun σ H Q => ta σ H fun x H1 => uMeth C m sp E t σ x H1 Q
theorem tMeth_eq : tMeth C m sp [] E ta t = tMethU C m sp E ta t := by
  funext σ H Q
  unfold tMeth tMethU uMeth
  simp only [List.append_nil]
theorem pe_methE {pl : Sem Bool} (G : MFn X.prog X.w X.K X.mg X.base k C m ps sp) (hr : Room j X.A) (hk : k ≤ j) (c : Cls X.K C) (hx : Passes (L2.CX X.prog X.w) X E) (he : PE X o ta) (ha : PA X (e :: es) t)
    (hst : starEach (e :: es) X.env = (false, eval e X.env) :: starEach es X.env := by rfl) (hpl : (backTo pos (starEach es X.env)).any (·.1) = false := by rfl)
    (ht : eval (.Call (.Attribute o m apos) (e :: es) [] pos) X.env = (do
      let ov ← eval o X.env
      standAt apos.atName
      let (f, first) ← holding [ov] (getMethod ov m pl)
      callWith pos f first (backTo pos (starEach (e :: es) X.env)) (backToKw pos (keywordEach [] X.env))) := by rfl) :
    PE X (.Call (.Attribute o m apos) (e :: es) [] pos) (tMethU C m sp E ta t) := by
  obtain ⟨f, fd, hm, hb, F⟩ := G.ex
  have h := pe_meth (dvs := []) he c hm (F.mono hk) hr hb .nil hx ha hst hpl ht
  rw [tMeth_eq] at h
  exact h
theorem pe_meth0E {pl : Sem Bool} (G : MFn X.prog X.w X.K X.mg X.base k C m ps sp) (hr : Room j X.A) (hk : k ≤ j) (c : Cls X.K C) (hx : Passes (L2.CX X.prog X.w) X E) (he : PE X o ta)
    (ht : eval (.Call (.Attribute o m apos) [] [] pos) X.env = (do
      let ov ← eval o X.env
      standAt apos.atName
      let (f, first) ← holding [ov] (getMethod ov m pl)
      callWith pos f first (backTo pos (starEach [] X.env)) (backToKw pos (keywordEach [] X.env))) := by rfl) :
    PE X (.Call (.Attribute o m apos) [] [] pos) (tMethU C m sp E ta tNil) := by
  obtain ⟨f, fd, hm, hb, F⟩ := G.ex
  have h := pe_meth0 (dvs := []) he c hm (F.mono hk) hr hb .nil hx ht
  rw [tMeth_eq] at h
  exact h
theorem pe_methN {pl : Sem Bool} (G : MFn X.prog X.w X.K X.mg X.base k C m ps sp) (hr : Room j X.A) (c : Cls X.K C) (he : PE X o ta) (ha : PA X (e :: es) t) (hk : k ≤ j := by decide)
    (hst : starEach (e :: es) X.env = (false, eval e X.env) :: starEach es X.env := by rfl) (hpl : (backTo pos (starEach es X.env)).any (·.1) = false := by rfl)
    (ht : eval (.Call (.Attribute o m apos) (e :: es) [] pos) X.env = (do
      let ov ← eval o X.env
      standAt apos.atName
      let (f, first) ← holding [ov] (getMethod ov m pl)
      callWith pos f first (backTo pos (starEach (e :: es) X.env)) (backToKw pos (keywordEach [] X.env))) := by rfl) :
    PE X (.Call (.Attribute o m apos) (e :: es) [] pos) (tMethU C m sp E0 ta t) := pe_methE G hr hk c passL he ha hst hpl ht
theorem pe_meth0N {pl : Sem Bool} (G : MFn X.prog X.w X.K X.mg X.base k C m ps sp) (hr : Room j X.A) (c : Cls X.K C) (he : PE X o ta) (hk : k ≤ j := by decide)
    (ht : eval (.Call (.Attribute o m apos) [] [] pos) X.env = (do
      let ov ← eval o X.env
      standAt apos.atName
      let (f, first) ← holding [ov] (getMethod ov m pl)
      callWith pos f first (backTo pos (starEach [] X.env)) (backToKw pos (keywordEach [] X.env))) := by rfl) :
    PE X (.Call (.Attribute o m apos) [] [] pos) (tMethU C m sp E0 ta tNil) := pe_meth0E G hr hk c passL he ht
theorem pe_methX {pl : Sem Bool} (G : MFn X.prog X.w X.K X.mg X.base k C m ps sp) (hr : Room j X.A) (c : Cls X.K C) (tk : Takes X (fun cls d _ H => E cls d H)) (he : PE X o ta) (ha : PA X (e :: es) t) (hk : k ≤ j := by decide)
    (hst : starEach (e :: es) X.env = (false, eval e X.env) :: starEach es X.env := by rfl) (hpl : (backTo pos (starEach es X.env)).any (·.1) = false := by rfl)
    (ht : eval (.Call (.Attribute o m apos) (e :: es) [] pos) X.env = (do
      let ov ← eval o X.env
      standAt apos.atName
      let (f, first) ← holding [ov] (getMethod ov m pl)
      callWith pos f first (backTo pos (starEach (e :: es) X.env)) (backToKw pos (keywordEach [] X.env))) := by rfl) :
    PE X (.Call (.Attribute o m apos) (e :: es) [] pos) (tMethU C m sp E ta t) := pe_methE G hr hk c (passes_call tk fun _ _ _ _ h => h) he ha hst hpl ht
theorem pe_meth0X {pl : Sem Bool} (G : MFn X.prog X.w X.K X.mg X.base k C m ps sp) (hr : Room j X.A) (c : Cls X.K C) (tk : Takes X (fun cls d _ H => E cls d H)) (he : PE X o ta) (hk : k ≤ j := by decide)
    (ht : eval (.Call (.Attribute o m apos) [] [] pos) X.env = (do
      let ov ← eval o X.env
      standAt apos.atName
      let (f, first) ← holding [ov] (getMethod ov m pl)
      callWith pos f first (backTo pos (starEach [] X.env)) (backToKw pos (keywordEach [] X.env))) := by rfl) :
    PE X (.Call (.Attribute o m apos) [] [] pos) (tMethU C m sp E ta tNil) := pe_meth0E G hr hk c (passes_call tk fun _ _ _ _ h => h) he ht
theorem r_meth (q : ta σ H fun x H1 => uMeth C m sp E t σ x H1 Q) : tMethU C m sp E ta t σ H Q := q
theorem r_methi (h : H a = some (.ins C dx fs)) (hn : fs.lookup m = none) (q : t σ H fun vs H2 => sp (.ref a :: vs) H2 Q E) : uMeth C m sp E t σ (.ref a) H Q := ⟨a, dx, fs, rfl, h, hn, q⟩
/-- a new instance -/
def uMake (C : Addr) (sp : Sp) (dvs : List V) (E : XK) (vs : List V) (H : Hp) (Q : VK) : Prop := ∀ x dx, H x = none → H dx = none → dx ≠ x →
  sp (.ref x :: (vs ++ dvs)) (upd (upd H dx (.own x)) x (.ins C dx [])) (fun v H2 => v = .non ∧ Q (.ref x) H2) E
def tMakeU (C : Addr) (sp : Sp) (dvs : List V) (E : XK) (t : TA) : TE := fun σ H Q => t σ H fun vs H1 => uMake C sp dvs E vs H1 Q
theorem pe_makeE (G : IFn X.prog X.w X.K X.mg X.base k C ps sp) (T : ClT X.K X.mg x C) (hr : Room (j + 1) X.A) (hk : k ≤ j) (hg : Gl X x) (hx : Passes (L2.CX X.prog X.w) X E) (ha : PA X (e :: es) t)
    (hdb : (x == ("__debug__" : Str)) = false := by decide) (he : starEach (e :: es) X.env = (false, eval e X.env) :: starEach es X.env := by rfl) (hpl : (backTo pos (starEach es X.env)).any (·.1) = false := by rfl) :
    PE X (.Call (.Name x p) (e :: es) [] pos) (tMakeU C sp [] E t) := by
  obtain ⟨f, fd, hm, hb, _, _, F⟩ := G.ex
  exact pe_make (dvs := []) hm (F.mono hk) hr hg T.g hb .nil hx ha hdb he hpl
theorem pe_make0E (G : IFn X.prog X.w X.K X.mg X.base k C ps sp) (T : ClT X.K X.mg x C) (hr : Room (j + 1) X.A) (hk : k ≤ j) (hg : Gl X x) (hx : Passes (L2.CX X.prog X.w) X E) (hdb : (x == ("__debug__" : Str)) = false := by decide) :
    PE X (.Call (.Name x p) [] [] pos) (tMakeU C sp [.non] E tNil) := by
  obtain ⟨f, fd, hm, _, _, ⟨ds, hd, hb⟩, F⟩ := G.ex
  exact pe_make0 (dvs := [.non]) hm (F.mono hk) hr hg T.g hb hd hx hdb
theorem pe_makeNo (G : IFn X.prog X.w X.K X.mg X.base k C ps sp) (T : ClT X.K X.mg x C) (hr : Room (j + 1) X.A) (ha : PA X (e :: es) t) (hk : k ≤ j := by decide) (hg : Gl X x := by rfl)
    (hdb : (x == ("__debug__" : Str)) = false := by decide) (he : starEach (e :: es) X.env = (false, eval e X.env) :: starEach es X.env := by rfl) (hpl : (backTo pos (starEach es X.env)).any (·.1) = false := by rfl) :
    PE X (.Call (.Name x p) (e :: es) [] pos) (tMakeU C sp [] E0 t) := pe_makeE G T hr hk hg passL ha hdb he hpl
theorem pe_make0No (G : IFn X.prog X.w X.K X.mg X.base k C ps sp) (T : ClT X.K X.mg x C) (hr : Room (j + 1) X.A) (hk : k ≤ j := by decide) (hg : Gl X x := by rfl) (hdb : (x == ("__debug__" : Str)) = false := by decide) :
    PE X (.Call (.Name x p) [] [] pos) (tMakeU C sp [.non] E0 tNil) := pe_make0E G T hr hk hg passL hdb
theorem pe_makePE (G : PFn X.prog X.w X.K X.mg X.base k C ps sp) (T : ClT X.K X.mg x C) (hr : Room (j + 1) X.A) (hk : k ≤ j) (hg : Gl X x) (hx : Passes (L2.CX X.prog X.w) X E) (ha : PA X (e :: es) t)
    (hdb : (x == ("__debug__" : Str)) = false := by decide) (he : starEach (e :: es) X.env = (false, eval e X.env) :: starEach es X.env := by rfl) (hpl : (backTo pos (starEach es X.env)).any (·.1) = false := by rfl) :
    PE X (.Call (.Name x p) (e :: es) [] pos) (tMakeU C sp [] E t) := by
  obtain ⟨f, fd, hm, hb, F⟩ := G.ex
  exact pe_make (dvs := []) hm (F.mono hk) hr hg T.g hb .nil hx ha hdb he hpl
theorem pe_makePNo (G : PFn X.prog X.w X.K X.mg X.base k C ps sp) (T : ClT X.K X.mg x C) (hr : Room (j + 1) X.A) (ha : PA X (e :: es) t) (hk : k ≤ j := by decide) (hg : Gl X x := by rfl)
    (hdb : (x == ("__debug__" : Str)) = false := by decide) (he : starEach (e :: es) X.env = (false, eval e X.env) :: starEach es X.env := by rfl) (hpl : (backTo pos (starEach es X.env)).any (·.1) = false := by rfl) :
    PE X (.Call (.Name x p) (e :: es) [] pos) (tMakeU C sp [] E0 t) := pe_makePE G T hr hk hg passL ha hdb he hpl
theorem pe_makeP0E (G : PFn X.prog X.w X.K X.mg X.base k C ps sp) (T : ClT X.K X.mg x C) (hr : Room (j + 1) X.A) (hk : k ≤ j) (hg : Gl X x) (hx : Passes (L2.CX X.prog X.w) X E) (hdb : (x == ("__debug__" : Str)) = false := by decide) :
    PE X (.Call (.Name x p) [] [] pos) (tMakeU C sp [] E tNil) := by
  obtain ⟨f, fd, hm, hb, F⟩ := G.ex
  exact pe_make0 (dvs := []) hm (F.mono hk) hr hg T.g hb .nil hx hdb
theorem pe_makeP0No (G : PFn X.prog X.w X.K X.mg X.base k C ps sp) (T : ClT X.K X.mg x C) (hr : Room (j + 1) X.A) (hk : k ≤ j := by decide) (hg : Gl X x := by rfl) (hdb : (x == ("__debug__" : Str)) = false := by decide) :
    PE X (.Call (.Name x p) [] [] pos) (tMakeU C sp [] E0 tNil) := pe_makeP0E G T hr hk hg passL hdb
/-- C(k = v) -/
def uMakeK (C : Addr) (sp : Sp) (E : XK) (zs : List V) (H : Hp) (Q : VK) : Prop := ∃ z, zs = [z] ∧ uMake C sp [] E [z] H Q
def tMakeKw (C : Addr) (sp : Sp) (E : XK) (tk : TA) : TE := fun σ H Q => tk σ H fun zs H2 => uMakeK C sp E zs H2 Q
theorem pe_makeKw {kws : List Keyword} {tk : TA} (G : IFn X.prog X.w X.K X.mg X.base k C ps sp) (T : ClT X.K X.mg x C) (hr : Room (j + 1) X.A) (hkw : PK X kws tk) (hk : k ≤ j := by decide) (hg : Gl X x := by rfl)
    (hall : (backToKw pos (keywordEach kws X.env)).all (·.1.isSome) = true := by rfl) (hks : (backToKw pos (keywordEach kws X.env)).filterMap (·.1) = [ps.getD 1 Str.empty] := by rfl) (hdb : (x == ("__debug__" : Str)) = false := by decide)
    (hpl : ((backTo pos (starEach [] X.env)).any (·.1) || (backToKw pos (keywordEach kws X.env)).any (·.1.isNone)) = false := by rfl) :
    PE X (.Call (.Name x p) [] kws pos) (tMakeKw C sp E0 tk) := by
  obtain ⟨f, fd, hm, _, hb, _, F⟩ := G.ex
  have h := pe_makeK0 (p := p) (pos := pos) hm (F.mono hk) hr hg T.g hb passL hkw hall hks hdb hpl
  have e : tMakeK C 0 ([ps.getD 1 Str.empty] : List Str).length sp (fun vs zs => vs ++ zs) E0 tNil tk = tMakeKw C sp E0 tk := by
    funext σ H Q
    show tk σ H (fun zs H2 => ([] : List V).length = 0 ∧ zs.length = 1 ∧ ∀ x dx, H2 x = none → H2 dx = none → dx ≠ x → sp ([.ref x] ++ zs) (upd (upd H2 dx (.own x)) x (.ins C dx [])) (fun v H3 => v = .non ∧ Q (.ref x) H3) E0) = tk σ H (fun zs H2 => uMakeK C sp E0 zs H2 Q)
    congr 1
    funext zs H2
    apply propext
    constructor
    · rintro ⟨_, h1, h2⟩
      obtain ⟨z, rfl⟩ := List.length_eq_one_iff.mp h1
      exact ⟨z, rfl, h2⟩
    · rintro ⟨z, rfl, h2⟩
      exact ⟨rfl, rfl, h2⟩
  rw [e] at h
  exact h
theorem r_makeKw {tk : TA} (q : tk σ H fun zs H2 => uMakeK C sp E zs H2 Q) : tMakeKw C sp E tk σ H Q := q
theorem r_makeKi (q : uMake C sp [] E [z] H Q) : uMakeK C sp E [z] H Q := ⟨z, rfl, q⟩
theorem r_make {dvs : List V} (q : t σ H fun vs H1 => uMake C sp dvs E vs H1 Q) : tMakeU C sp dvs E t σ H Q := q
theorem r_makei {dvs : List V} (q : ∀ x dx H', H x = none → H dx = none → dx ≠ x → Same H H' → H' x = some (.ins C dx []) → sp (.ref x :: (vs ++ dvs)) H' (fun v H2 => v = .non ∧ Q (.ref x) H2) E) : uMake C sp dvs E vs H Q := fun x dx h1 h2 h3 =>
  q x dx _ h1 h2 h3 (fun b o e => by rw [upd_ne (ne_of_none e h1), upd_ne (ne_of_none e h2)]; exact e) upd_same
/-! fields -/
def uFld (K : PySem.W.Frag) (f : Str) (x : V) (H : Hp) (Q : VK) : Prop := ∃ a C dx fs v, x = .ref a ∧ H a = some (.ins C dx fs) ∧ Cls K C ∧ NoAttr K C f ∧ fs.lookup f = some v ∧ Q v H
theorem r_fld (q : ta σ H fun x H1 => uFld K f x H1 Q) : tFld K ta f σ H Q := q
theorem r_fldi (c : Cls K C) (n : NoAttr K C f) (h : H a = some (.ins C dx fs)) (l : fs.lookup f = some v) (q : Q v H) : uFld K f (.ref a) H Q := ⟨a, C, dx, fs, v, rfl, h, c, n, l, q⟩
def uSetF (K : PySem.W.Frag) (f : Str) (x y : V) (H : Hp) (R : Hp → Prop) : Prop := ∃ a C dx fs, x = .ref a ∧ H a = some (.ins C dx fs) ∧ Cls K C ∧ NoAttr K C f ∧ fs.length < 1000 ∧ R (upd H a (.ins C dx (putF f y fs)))
theorem r_sfld (q : tv σ H fun y H1 => ta σ H1 fun x H2 => uSetF K f x y H2 fun H3 => nx σ H3) : sFld K ta tv f ⟨nx, rt, bk, ct⟩ σ H := q
theorem r_sfldi {R : Hp → Prop} {fs' : List (Str × V)} (c : Cls K C) (n : NoAttr K C f) (h : H a = some (.ins C dx fs)) (hl : fs.length < 1000) (e : putF f y fs = fs') (q : ∀ H', Keep (At a) H H' → H' a = some (.ins C dx fs') → R H') : uSetF K f (.ref a) y H R :=
  ⟨a, C, dx, fs, rfl, h, c, n, hl, q _ Keep.at_ (by rw [upd_same, e])⟩
def uFAug (K : PySem.W.Frag) (tv : TE) (f : Str) (x : V) (σ : St) (H : Hp) (R : Hp → Prop) : Prop := ∃ a C dx fs v, x = .ref a ∧ H a = some (.ins C dx fs) ∧ Cls K C ∧ NoAttr K C f ∧ fs.lookup f = some v ∧
  tv σ H fun y H2 => rAdd v y H2 fun z H3 => ∃ dx' fs', H3 a = some (.ins C dx' fs') ∧ fs'.length < 1000 ∧ R (upd H3 a (.ins C dx' (putF f z fs')))
def uEndA (i : Int) (a : Addr) (f : Str) (C : Addr) (y : V) (H : Hp) (R : Hp → Prop) : Prop := rAdd (.int i) y H fun z H3 => ∃ dx' fs', H3 a = some (.ins C dx' fs') ∧ fs'.length < 1000 ∧ R (upd H3 a (.ins C dx' (putF f z fs')))
theorem r_faug (q : ta σ H fun x H1 => uFAug K tv f x σ H1 fun H2 => nx σ H2) : sFldAug K ta tv rAdd f ⟨nx, rt, bk, ct⟩ σ H := q
theorem r_faugi {R : Hp → Prop} {i : Int} (c : Cls K C) (n : NoAttr K C f) (h : H a = some (.ins C dx fs)) (l : fs.lookup f = some (.int i)) (q : tv σ H fun y H2 => uEndA i a f C y H2 R) : uFAug K tv f (.ref a) σ H R := ⟨a, C, dx, fs, .int i, rfl, h, c, n, l, q⟩
theorem r_enda {R : Hp → Prop} {i j : Int} {fs' : List (Str × V)} (h : H a = some (.ins C dx fs)) (hl : fs.length < 1000) (e : putF f (.int (i + j)) fs = fs') (q : ∀ H', Keep (At a) H H' → H' a = some (.ins C dx fs') → R H') : uEndA i a f C (.int j) H R :=
  ⟨i, j, rfl, rfl, dx, fs, h, hl, q _ Keep.at_ (by rw [upd_same, e])⟩
theorem lk_here {k : Str} {r : List (Str × V)} : ((k, v) :: r).lookup k = some v := by simp [List.lookup]
theorem lk_next {k k' : Str} {r : List (Str × V)} {o : Option V} (h : (k == k') = false) (q : r.lookup k = o) : ((k', v) :: r).lookup k = o := by simp [List.lookup, h, q]
theorem lk_nil {k : Str} : ([] : List (Str × V)).lookup k = none := rfl
theorem pf_nil {k : Str} : putF k v [] = [(k, v)] := rfl
theorem pf_here {k : Str} {r : List (Str × V)} : putF k y ((k, v) :: r) = (k, y) :: r := by simp [putF]
theorem pf_next {k g : Str} {r r' : List (Str × V)} (h : (g == k) = false) (q : putF k y r = r') : putF k y ((g, v) :: r) = (g, v) :: r' := by
  have h' : ¬ g = k := by simpa using h
  simp [putF, h', q]
end
/-! ### dicts by tuples of numbers -/
section
variable {X : Cx} {K : PySem.W.Frag} {σ : St} {H H' : Hp} {Q : VK} {td ty : TE} {a b : Addr} {kvs : List (List Key × V)} {l : Nat} {s : Int} {v x y : V}
theorem r_dputT {R : Hp → Prop} {i j : Int} (hd : H a = some (.dT kvs)) (hb : H b = some (.tup [.int i, .int j])) (hl : kvs.length ≤ 10000000) (q : ∀ H', Keep (At a) H H' → H' a = some (.dT (putK kvs [Sum.inl i, Sum.inl j] v)) → R H') : uDPut (.ref a) (.ref b) v H R :=
  ⟨a, _, rfl, DPut.t (k := [Sum.inl i, Sum.inl j]) hd hb (by rw [sizeLine_eq]; omega), q _ Keep.at_ upd_same⟩
def uDG1 (ty : TE) (σ : St) (x : V) (H : Hp) (Q : VK) : Prop := ∃ a, x = .ref a ∧ IsD H a ∧ ty σ H fun y H2 => ∃ o, DGet H2 a y o ∧ Q (o.getD .non) H2
def uDG2 (a : Addr) (y : V) (H : Hp) (Q : VK) : Prop := ∃ o, DGet H a y o ∧ Q (o.getD .non) H
theorem r_dget1 (q : td σ H fun x H1 => uDG1 ty σ x H1 Q) : tDGet1 td ty σ H Q := q
theorem r_dg1T (hd : H a = some (.dT kvs)) (q : ty σ H fun y H2 => uDG2 a y H2 Q) : uDG1 ty σ (.ref a) H Q := ⟨a, rfl, .inr ⟨kvs, .inl hd⟩, q⟩
theorem r_dg2T {i j : Int} (hd : H a = some (.dT kvs)) (hb : H b = some (.tup [.int i, .int j])) (q : Q ((valV kvs [Sum.inl i, Sum.inl j]).getD .non) H) : uDG2 a (.ref b) H Q :=
  ⟨_, DGet.t (k := [Sum.inl i, Sum.inl j]) hd hb, q⟩
theorem r_dg1K {m : Prs} (hd : H a = some (.dK (m.map inj))) (q : ty σ H fun y H2 => uDG2 a y H2 Q) : uDG1 ty σ (.ref a) H Q := ⟨a, rfl, .inl ⟨_, .inl hd⟩, q⟩
theorem r_dg2K {m : Prs} {i : Int} (hd : H a = some (.dK (m.map inj))) (q : Q (((valP m i).map V.int).getD .non) H) : uDG2 a (.int i) H Q := by
  refine ⟨_, DGet.k (k := Sum.inl i) hd, ?_⟩
  rw [val_inj]
  exact q
/-- (x,) * k -/
theorem r_repT {xs : List V} {k : Int} (h : SqT K H a xs) (hn : xs ≠ []) (hk : 2 ≤ k ∧ k ≤ 1000) (hl : xs.length ≤ 1000) (q : ∀ p H', H p = none → Same H H' → H' p = some (.tup (List.replicate k.toNat xs).flatten) → Q (.ref p) H') : rRepT K (.ref a) (.int k) H Q :=
  ⟨a, k, xs, rfl, rfl, h, hn, hk.1, hk.2, hl, fun p hp => q p _ hp (Keep.same (Keep.new hp)) upd_same⟩
end
/-! ### x or y, whatever they are -/
section
variable {X : Cx} {σ : St} {H H' : Hp} {Q : VK} {ta tb : TE} {a : Expr} {b : Expr} {rest : List Expr} {pos : Pos} {p : Addr} {xs : List V}
theorem peK_orT (K : PySem.W.Frag) (ha : PE X a ta) (hb : PE X (.BoolOp .Or (b :: rest) pos) tb) (hK : X.K = K := by rfl) : PE X (.BoolOp .Or (a :: b :: rest) pos) (tOrT K ta tb) := hK ▸ pe_orT ha hb
def uOrT (K : PySem.W.Frag) (tb : TE) (σ : St) (x : V) (H : Hp) (Q : VK) : Prop := ∃ k, TruV K x H k ∧ if k = true then Q x H else tb σ H Q
theorem r_orT {K : PySem.W.Frag} (q : ta σ H fun x H1 => uOrT K tb σ x H1 Q) : tOrT K ta tb σ H Q := q
theorem r_orTn {K : PySem.W.Frag} (q : tb σ H Q) : uOrT K tb σ .non H Q := ⟨false, rfl, by rw [if_neg (by decide)]; exact q⟩
theorem r_orTt {K : PySem.W.Frag} (h : SqT K H p xs) (q1 : xs ≠ [] → Q (.ref p) H) (q2 : xs = [] → tb σ H Q) : uOrT K tb σ (.ref p) H Q := by
  refine ⟨!xs.isEmpty, .inr (.inl ⟨xs, h, rfl⟩), ?_⟩
  cases xs with
  | nil => rw [if_neg (by decide)]; exact q2 rfl
  | cons x r => rw [if_pos (show (!(x :: r).isEmpty) = true from rfl)]; exact q1 (by simp)
theorem r_dnewT (q : ∀ p H', H p = none → Same H H' → H' p = some (.dT []) → Q (.ref p) H') : tDNewT σ H Q := fun p hp => q p _ hp (Keep.same (Keep.new hp)) upd_same
end
/-! ### a sample put into a curve -/
def insC (c : Prs) (t h : Int) : Prs := (c.filter fun p => decide (p.1 < t)) ++ (t, h) :: (c.filter fun p => decide (t < p.1))
theorem insC_mem {c : Prs} {t h : Int} {p : Int × Int} : p ∈ insC c t h ↔ p = (t, h) ∨ (p ∈ c ∧ p.1 ≠ t) := by
  unfold insC
  simp only [List.mem_append, List.mem_cons, List.mem_filter, decide_eq_true_eq]
  constructor
  · rintro (⟨h1, h2⟩ | h1 | ⟨h1, h2⟩)
    · exact .inr ⟨h1, by omega⟩
    · exact .inl h1
    · exact .inr ⟨h1, by omega⟩
  · rintro (h1 | ⟨h1, h2⟩)
    · exact .inr (.inl h1)
    · by_cases z : p.1 < t
      · exact .inl ⟨h1, z⟩
      · exact .inr (.inr ⟨h1, by omega⟩)
theorem insC_up {c : Prs} (hc : c.Pairwise fun p q => p.1 < q.1) (t h : Int) : (insC c t h).Pairwise fun p q => p.1 < q.1 := by
  unfold insC
  rw [List.pairwise_append]
  refine ⟨hc.sublist List.filter_sublist, List.pairwise_cons.mpr ⟨fun p hp => ?_, hc.sublist List.filter_sublist⟩, fun p hp q hq => ?_⟩
  · simpa using (List.mem_filter.mp hp).2
  · have h1 : p.1 < t := by simpa using (List.mem_filter.mp hp).2
    rcases List.mem_cons.mp hq with rfl | hq
    · exact h1
    · have h2 : t < q.1 := by simpa using (List.mem_filter.mp hq).2
      omega
theorem beside_of {c c' : Prs} {t : Int} (hc : c.Pairwise fun p q => p.1 < q.1) (hc' : c'.Pairwise fun p q => p.1 < q.1) (h : ∀ p : Int × Int, p.1 ≠ t → (p ∈ c' ↔ p ∈ c)) : Beside t c c' := by
  intro b e hn
  refine up_ext (hc'.sublist List.filter_sublist) (hc.sublist List.filter_sublist) fun p => ?_
  unfold partL
  rw [List.mem_filter, List.mem_filter]
  by_cases z : p.1 = t
  · simp only [Bool.and_eq_true, decide_eq_true_eq]
    constructor
    · rintro ⟨_, h1, h2⟩; exact absurd ⟨by omega, by omega⟩ hn
    · rintro ⟨_, h1, h2⟩; exact absurd ⟨by omega, by omega⟩ hn
  · rw [h p z]
theorem insC_beside {c : Prs} (hc : c.Pairwise fun p q => p.1 < q.1) (t h : Int) : Beside t c (insC c t h) := beside_of hc (insC_up hc t h) fun p hp => by
  rw [insC_mem]
  constructor
  · rintro (z | z)
    · exact absurd (by rw [z]) hp
    · exact z.1
  · exact fun z => .inr ⟨z, hp⟩
theorem insC_take {c : Prs} (hc : c.Pairwise fun p q => p.1 < q.1) {i : Nat} {q : Int × Int} (h : c[i]? = some q) : insC (c.take i) q.1 q.2 = c.take (i + 1) := by
  have h1 := hc.sublist (List.take_sublist i c)
  refine up_ext (insC_up h1 _ _) (hc.sublist (List.take_sublist _ c)) fun p => ?_
  rw [insC_mem, take_snoc h, List.mem_append, List.mem_singleton]
  have hs := hc.sublist (List.take_sublist (i + 1) c)
  rw [take_snoc h, List.pairwise_append] at hs
  constructor
  · rintro (h2 | ⟨h2, _⟩)
    · exact .inr h2
    · exact .inl h2
  · rintro (h2 | h2)
    · have := hs.2.2 p h2 q (by simp)
      exact .inr ⟨h2, by omega⟩
    · exact .inl h2
theorem fourInv_nil (K : PySem.W.Frag) (H : Hp) : FourInv K H [] [] := fun l s _ => by
  rw [if_neg (by omega)]
  exact .none
end Fp
/-! ### t[::-1] of a tuple -/
namespace FpRev
open PySem PySem.Spec PyProof.Rows HT
section
variable {prog : Program} {w : World} {A : Around} {E : Value → Shared → Prop} {s : Shared}
theorem adj (n : Nat) : Builtin.Slice.sliceAdjust none none (-1) (n : Int) = ((n : Int) - 1, -1) := by
  unfold Builtin.Slice.sliceAdjust
  simp
theorem plc (n : Nat) : Builtin.Slice.slicePlaces ((n : Int) - 1) (-1) (-1) = n := by
  unfold Builtin.Slice.slicePlaces
  simp
  try omega
theorem applied {sp : Addr} {va vb : Value} {tk : Tok} {n : Nat} {Q : Int × Int × Nat → Shared → Prop} (hs : s.heap.IsSliceOf sp va vb (.int (-1) tk)) (pa : IsPart va none) (pb : IsPart vb none)
    (h : Q ((n : Int) - 1, -1, n) s) : wpAny (model prog w) A (Builtin.Slice.sliceApplied (.ref sp) (pure (n : Int))) Q E s := by
  obtain ⟨ob, h1, h2, h3⟩ := id hs
  unfold Builtin.Slice.sliceApplied Builtin.Slice.sliceFields
  refine wpAny_bind (wpAny_bind (wpAny_field h1 h3 (x := va) rfl (wpAny_bind (wpAny_field h1 h3 (x := vb) rfl (wpAny_bind (wpAny_field h1 h3 (x := .int (-1) tk) rfl (wpAny_pure ?_)))))))
  refine wpAny_bind (slicePart_int ?_)
  show wpAny _ _ (if ((-1 : Int) == 0) = true then _ else _) _ _ s
  rw [if_neg (by decide)]
  refine wpAny_bind (slicePart_ pa (wpAny_bind (slicePart_ pb (wpAny_bind (wpAny_pure ?_)))))
  show wpAny _ _ (match Builtin.Slice.sliceAdjust none none (-1) (n : Int) with | (a, b) => pure (a, (-1 : Int), Builtin.Slice.slicePlaces a b (-1))) _ _ s
  rw [adj n]
  show wpAny _ _ (pure ((n : Int) - 1, (-1 : Int), Builtin.Slice.slicePlaces ((n : Int) - 1) (-1) (-1))) _ _ s
  rw [plc]
  exact wpAny_pure h
theorem pickR (xs : Array Value) : ((List.range xs.size).filterMap fun (m : Nat) => xs[(((xs.size : Int) - 1) + (m : Int) * (-1)).toNat]?).toArray = xs.toList.reverse.toArray := by
  congr 1
  have e : ∀ n, n ≤ xs.size → ((List.range n).filterMap fun (m : Nat) => xs[(((xs.size : Int) - 1) + (m : Int) * (-1)).toNat]?) = xs.toList.reverse.take n := by
    intro n
    induction n with
    | zero => intro _; simp
    | succ n ih =>
      intro hn
      rw [List.range_succ, List.filterMap_append, ih (by omega)]
      have h1 : (((xs.size : Int) - 1) + (n : Int) * (-1)).toNat = xs.size - 1 - n := by omega
      have h2 : xs.toList.reverse[n]? = some (xs[xs.size - 1 - n]'(by omega)) := by
        rw [List.getElem?_reverse (by rw [Array.length_toList]; omega)]
        simp
      rw [take_snocR h2]
      congr 1
      simp only [List.filterMap_cons, List.filterMap_nil, h1]
      rw [Array.getElem?_eq_getElem (by omega)]
  rw [e _ (Nat.le_refl _), List.take_of_length_le (by simp)]
where
  take_snocR {l : List Value} {n : Nat} {x : Value} (h : l[n]? = some x) : l.take (n + 1) = l.take n ++ [x] := Fp.take_snoc h
theorem tup_rev {tp sp : Addr} {its : Array Value} {va vb : Value} {tk : Tok} {Q : Value → Shared → Prop} (ht : IsTup s.heap tp its) (hs : s.heap.IsSliceOf sp va vb (.int (-1) tk)) (pa : IsPart va none) (pb : IsPart vb none)
    (h : Q (.ref s.heap.objs.size) { s with heap := s.heap.push { cls := .type "tuple", data := .seq its.toList.reverse.toArray } }) (hz : its.size ≤ sizeLine) : wpAny (model prog w) A (getItem (.ref tp) (.ref sp)) Q E s := by
  have hsz : sizeOk (.seq its.toList.reverse.toArray) := by
    show its.toList.reverse.toArray.size ≤ sizeLine
    rw [List.size_toArray, List.length_reverse, Array.length_toList]
    exact hz
  obtain ⟨ob, h1, h2, h3⟩ := id hs
  have hS : s.TypeIs (.ref sp) "slice" := ⟨ob, h1, h2⟩
  unfold getItem
  try with_reducible refine wpAny_holding ?_
  first | refine wpAny_bind (wpAny_pure ?_) | skip
  refine wpAny_bind (wpAny_sequenceKey ht.typeIs (by decide) ?_)
  refine wpAny_bind (wpAny_callSpecial?_slot (name := Str.ofString "__getitem__") ht.typeIs PyProof.Rows.slot_tuple_getitem (wpAny_call_entry PyProof.Rows.slot_tuple_getitem ht.typeIs entry_tuple_getitem ?_ (args_tuple_getitem _ _)))
  show wpAny _ _ (Builtin.Tuple.tupleItemsOf (.ref tp) >>= _) _ _ s
  refine wpAny_bind (tupleItemsOf_ ht ?_)
  refine wpAny_bind (wpAny_typeOf hS ?_)
  rw [if_pos (by decide)]
  refine wpAny_bind (applied hs pa pb ?_)
  have hno : ¬ ((((its.size : Int) - 1) == 0 && (-1 : Int) == 1 && its.size == its.size) = true) := by simp
  show wpAny _ _ (if (((its.size : Int) - 1) == 0 && (-1 : Int) == 1 && its.size == its.size) = true then _ else _) _ _ s
  rw [if_neg hno, pickR]
  first
    | exact wpAny_bind (m := Builtin.Tuple.tupleExact _) (wpAny_newObj_type (wpAny_pure ⟨_, rfl, wpAny_pure h⟩) hsz)
    | exact wpAny_bind (m := Builtin.Tuple.tupleExact _) (wpAny_newObj_type (wpAny_bind (wpAny_pure (wpAny_pure ⟨_, rfl, wpAny_pure h⟩))) hsz)
    | exact wpAny_bind (wpAny_bind (m := Builtin.Tuple.tupleExact _) (wpAny_newObj_type (wpAny_pure (wpAny_pure ⟨_, rfl, wpAny_pure h⟩)) hsz))
    | exact wpAny_bind (wpAny_bind (m := Builtin.Tuple.tupleExact _) (wpAny_newObj_type (wpAny_pure ⟨_, rfl, wpAny_pure h⟩) hsz))
end
end FpRev
namespace Fp
open PySem PySem.Spec PyProof.Rows L2
section
variable {X : Cx} {K : PySem.W.Frag} {σ : St} {H : Hp} {Q : VK} {te : TE} {e : Expr} {a : Addr} {xs : List V}
def uRevT (K : PySem.W.Frag) (x : V) (H : Hp) (Q : VK) : Prop := ∃ a xs, x = .ref a ∧ SqT K H a xs ∧ ∀ p, H p = none → Q (.ref p) (upd H p (.tup xs.reverse))
def tRevT (K : PySem.W.Frag) (te : TE) : TE := fun σ H Q => te σ H fun x H1 => uRevT K x H1 Q
theorem peK_revT (K : PySem.W.Frag) {k : Nat} {p1 p2 p3 pos : Pos} (he : PE X e te) (hK : X.K = K := by rfl) : PE X (.Subscript e (.Slice none none (some (.UnaryOp .USub (.Constant (.int 1) k p1) p2)) p3) pos) (tRevT K te) := by
  subst hK
  refine ⟨fun pins s σ H Q I h => Subscript_ (thn (he.run pins s σ H _ I h) fun v s1 ⟨x, H1, I1, r1, q1⟩ => ?_)⟩
  obtain ⟨a, xs, ex, hx, q⟩ := q1
  subst ex
  cases r1
  have st : PO X (some (.UnaryOp .USub (.Constant (.int 1) k p1) p2)) (tPart (tUn (rU fun i => .int (-i)) (tC (.int 1)))) := po_some (pe_un un_neg pe_int)
  refine wpAny_Slice (thn (po_none.run pins s1 σ H1 (fun o H2 => o = none ∧ H2 = H1) I1 ⟨rfl, rfl⟩) fun va s2 ⟨l, H2, I2, pl, el, e2⟩ => ?_)
  subst el e2
  refine thn (po_none.run pins s2 σ H2 (fun o H3 => o = none ∧ H3 = H2) I2 ⟨rfl, rfl⟩) fun vb s3 ⟨u, H3, I3, pu, eu, e3⟩ => ?_
  subst eu e3
  refine thn (st.run pins s3 σ H3 (fun o H4 => o = some (-1) ∧ H4 = H3) I3 ⟨1, rfl, -1, rfl, rfl, rfl⟩) fun vc s4 ⟨o, H4, I4, ps, eo, e4⟩ => ?_
  subst eo e4
  cases ps with
  | int _ tk =>
  have I5 : Inv X pins σ H4 { s4 with heap := s4.heap.push { cls := .type "slice", data := .fields #[va, vb, .int (-1) tk] } } := I4.kept (t' := s4.toks) fun b ob q => Heap.get?_push_of_some _ q
  obtain ⟨its, r, ht, hz⟩ := I5.tuple hx
  have hlen : its.toArray.size = xs.length := by rw [List.size_toArray]; exact r.length.symm
  show wpAny (model X.prog X.w) X.A (subscriptTail e (.Slice none none (some (.UnaryOp .USub (.Constant (.int 1) k p1) p2)) p3) (.ref a) (.ref s4.heap.objs.size)) (EP X pins σ Q) X.xe { s4 with heap := s4.heap.push { cls := .type "slice", data := .fields #[va, vb, .int (-1) tk] } }
  refine tail_any (ops := [.ref a, .ref s4.heap.objs.size]) ht.typeIs (PyProof.Rows.slot_tuple_getitem.lookup) ?_ (by with_unfolding_all rfl)
  refine FpRev.tup_rev ht (Heap.IsSliceOf.new _ va vb _) pl pu ?_ (by rw [hlen]; exact hz)
  refine ⟨.ref _, _, I5.laid (t' := s4.toks) (o := .tup xs.reverse) (fun b ob q => Heap.get?_push_of_some _ q) (Nat.le_refl _) ?_, rfl, q _ (I5.hok.fresh (Nat.le_refl _))⟩
  exact ⟨by rw [List.length_reverse]; exact hz, _, r.reverse, IsTup.new _ _⟩
theorem r_revT (q : te σ H fun x H1 => uRevT K x H1 Q) : tRevT K te σ H Q := q
theorem r_revt (h : SqT K H a xs) (q : ∀ p H', H p = none → Same H H' → H' p = some (.tup xs.reverse) → Q (.ref p) H') : uRevT K (.ref a) H Q := ⟨a, xs, rfl, h, fun p hp => q p _ hp (Keep.same (Keep.new hp)) upd_same⟩
end
end Fp
/-! more of dicts by numbers: pop, in, clear, copies, items sorted; lists of pairs sorted -/
namespace Fp
open PySem PySem.Spec PyProof.Rows L2
/-! ### lists of pairs, sorted -/
theorem lexB_irr (p : Int × Int) : SrtO.lexB p p = false := SrtO.lexB_no.mpr (by omega)
abbrev Lex (l : Prs) : Prop := SrtO.Srtd SrtO.lexB l
theorem dp_pair_inj {X : Cx} {pins : List (Addr × Obj)} {σ : St} {H : Hp} {s : Shared} (I : Inv X pins σ H s) {v : V} {p q : Int × Int} (h1 : Dp X.K H v (pairP p)) (h2 : Dp X.K H v (pairP q)) : p = q := by
  obtain ⟨a, rfl, e1⟩ := dp_pair h1
  obtain ⟨b, e, e2⟩ := dp_pair h2
  cases e
  have z := I.tuple_inj e1 e2
  simp only [List.cons.injEq, V.int.injEq, and_true] at z
  exact Prod.ext z.1 z.2
open Classical in
noncomputable def keyOf (K : PySem.W.Frag) (H : Hp) (v : V) : Int × Int := if h : ∃ p, Dp K H v (pairP p) then choose h else (0, 0)
theorem keyOf_is {X : Cx} {pins : List (Addr × Obj)} {σ : St} {H : Hp} {s : Shared} (I : Inv X pins σ H s) {v : V} {p : Int × Int} (h : Dp X.K H v (pairP p)) : keyOf X.K H v = p := by
  have ex : ∃ p, Dp X.K H v (pairP p) := ⟨p, h⟩
  unfold keyOf
  rw [dif_pos ex]
  exact dp_pair_inj I (Classical.choose_spec ex) h
theorem dpAll_keys {X : Cx} {pins : List (Addr × Obj)} {σ : St} {H : Hp} {s : Shared} (I : Inv X pins σ H s) : ∀ {ws : List V} {l : Prs}, DpAll X.K H ws (l.map pairP) → ws.map (keyOf X.K H) = l
  | _, [], .nil => rfl
  | _, p :: l, .cons h1 h2 => by rw [List.map_cons, keyOf_is I h1, dpAll_keys I h2]
theorem dpAll_of_keys {K : PySem.W.Frag} {H : Hp} (f : V → Int × Int) : ∀ {ws : List V}, (∀ x ∈ ws, Dp K H x (pairP (f x))) → DpAll K H ws ((ws.map f).map pairP)
  | [], _ => .nil
  | x :: r, h => .cons (h x (List.mem_cons_self ..)) (dpAll_of_keys f fun y hy => h y (List.mem_cons_of_mem _ hy))
theorem isPair_of {X : Cx} {pins : List (Addr × Obj)} {σ : St} {H : Hp} {s : Shared} (I : Inv X pins σ H s) {a : Addr} {p : Int × Int} (h : Dp X.K H (.ref a) (pairP p)) : Srt.IsPair s.heap (.ref a) p.1 p.2 := by
  obtain ⟨b, e, h1⟩ := dp_pair h
  cases e
  obtain ⟨its, r, ⟨o, ho, hc, n, hd⟩, _⟩ := I.tuple h1
  obtain ⟨u1, u2, rfl, ri, rj⟩ := vals2 r
  obtain ⟨t1, rfl⟩ := ri
  obtain ⟨t2, rfl⟩ := rj
  exact ⟨a, o, t1, t2, n, rfl, ho, hc, hd⟩
def uSortedPD (K : PySem.W.Frag) : List V → Hp → VK → Prop := fun vs H Q => ∃ (a : Addr) (ws : List V) (l : Prs), vs = [.ref a] ∧ SqL K H a ws ∧ DpAll K H ws (l.map pairP) ∧
  ∀ (ys : List V) (l' : Prs) (p : Addr), Lex l' → l'.Perm l → DpAll K H ys (l'.map pairP) → H p = none → Q (.ref p) (upd H p (.lst ys))
theorem c_sortedPD {X : Cx} : CallR X (.builtin "sorted") (uSortedPD X.K) := by
  intro pins s σ H vs us Q I r h
  obtain ⟨a, ws, l, rfl, hs, hd, q⟩ := h
  obtain ⟨its, rv, hl, hz⟩ := I.list hs
  obtain ⟨u, rfl, ru⟩ := vals1 r
  obtain rfl : u = Value.ref a := ru
  have isr : ∀ x ∈ ws, ∃ t p, x = V.ref t ∧ Dp X.K H x (pairP p) := fun x m => by
    obtain ⟨i, hi⟩ := List.getElem?_of_mem m
    obtain ⟨p, _, h2⟩ := dpAll_map_at hd hi
    obtain ⟨t, e, _⟩ := dp_pair h2
    exact ⟨t, p, e, h2⟩
  obtain ⟨e1, e2⟩ := refs_back rv fun x m => by
    obtain ⟨t, _, e, _⟩ := isr x m
    exact ⟨t, e⟩
  refine SrtO.sorted_pairsO (k := fun u => keyOf X.K H (backV u)) hl.isList (by rw [← rv.length]; exact hz) (fun v hv => ?_) fun h' d out h1 h2 kp hd2 hn => ?_
  · obtain ⟨t, rfl⟩ := e2 v hv
    have hm : V.ref t ∈ ws := by rw [e1]; exact List.mem_map.mpr ⟨_, hv, rfl⟩
    obtain ⟨t', p, e, hp⟩ := isr _ hm
    cases e
    show Srt.IsPair s.heap (.ref t) (keyOf X.K H (.ref t)).1 (keyOf X.K H (.ref t)).2
    rw [keyOf_is I hp]
    exact isPair_of I hp
  · have h3 : ∀ u ∈ out, ∃ a, u = Value.ref a := fun u hu => e2 u (h2.perm.mem_iff.mp hu)
    obtain ⟨n, hn⟩ := hn
    have pm : (out.map backV).Perm ws := by rw [e1]; exact h2.perm.map backV
    refine ⟨.ref d, upd H d (.lst (out.map backV)), I.laid (t' := s.toks) kp hd2 ⟨?_, out, n, vals_back h3, hn⟩, rfl, q _ ((out.map backV).map (keyOf X.K H)) d ?_ ?_ (dpAll_of_keys _ fun x hx => ?_) (I.hok.fresh hd2)⟩
    · rw [pm.length_eq]
      exact hz
    · rw [List.map_map]
      exact SrtO.srtd_map h1
    · have := pm.map (keyOf X.K H)
      rw [dpAll_keys I hd] at this
      exact this
    · obtain ⟨t, p, e, hp⟩ := isr x (pm.mem_iff.mp hx)
      rw [keyOf_is I hp]
      exact hp
section
variable {K : PySem.W.Frag} {H : Hp} {Q : VK} {a : Addr}
theorem r_sortedPD {ws : List V} {l : Prs} (h : SqL K H a ws) (hd : DpAll K H ws (l.map pairP)) (q : ∀ (ys : List V) (l' : Prs) p H', Lex l' → l'.Perm l → H p = none → Same H H' → H' p = some (.lst ys) → DpAll K H' ys (l'.map pairP) → Q (.ref p) H') : uSortedPD K [.ref a] H Q :=
  ⟨a, ws, l, rfl, h, hd, fun ys l' p h1 h2 h3 h4 => q ys l' p _ h1 h2 h4 (Keep.same (Keep.new h4)) upd_same (DpAll.same (Keep.same (Keep.new h4)) _ _ h3)⟩
end
/-- sorted, no two of one time: a curve -/
theorem lex_up {l : Prs} (h : Lex l) (nd : (l.map (·.1)).Nodup) : l.Pairwise fun p q => p.1 < q.1 := by
  have h1 : l.Pairwise fun p q => SrtO.lexB q p = false := h
  have h2 : l.Pairwise fun p q => p.1 ≠ q.1 := by
    unfold List.Nodup at nd
    rwa [List.pairwise_map] at nd
  refine (List.Pairwise.and h1 h2).imp fun {p q} z => ?_
  have := SrtO.lexB_no.mp z.1
  have := z.2
  omega
/-! ### sorted(d.items()) -/
section
variable {X : Cx}
def uItems (x : V) (xs : List V) (H : Hp) (Q : VK) : Prop := ∃ (a : Addr) (kvs : List (Key × V)), x = .ref a ∧ xs = [] ∧ H a = some (.dK kvs) ∧ ∀ p, H p = none → Q (.ref p) (upd H p (L2.DX.itemsO p a))
theorem dk_raw {P : Program} {w : World} {H : Hp} {h : Heap} {a : Addr} {kvs : List (Key × V)} (ok : HOk P w H h) (e : H a = some (.dK kvs)) :
    kvs.length ≤ sizeLine ∧ (a == sysModules) = false ∧ ∃ vs, KV kvs vs ∧ ∃ es ep, DT.Raw h a es ep ∧ PySem.Pairs (mixKind P w) es.toList vs := by
  obtain ⟨z, hd, vs, rel, o, es, ep, h1, h2, h3, h4, h5, h6⟩ := dk_of ok e
  exact ⟨z, hd, vs, rel, es, ep, ⟨o, h1, h2, h3⟩, h5⟩
theorem mt_items : MtR X "dict.items" uItems := by
  intro pins s σ H x xs v us Q I rx rxs h
  obtain ⟨a, kvs, rfl, rfl, ha, q⟩ := h
  cases rx
  cases rxs
  obtain ⟨z, hd, vs, rel, es, ep, raw, _⟩ := dk_raw I.hok ha
  refine DT.callItems (es := es) (ep := ep) hd raw ?_
  have hf : H s.heap.objs.size = none := I.hok.fresh (Nat.le_refl _)
  exact ⟨.ref s.heap.objs.size, _, I.laid (t' := s.toks) (fun b u e => Heap.get?_push_of_some _ e) (Nat.le_refl _) (L2.DX.itemsO_ok (Heap.get?_push_size _ rfl)), rfl, q _ hf⟩
end

theorem pairs_at {P : Program} {w : World} : ∀ {es : List DictEntry} {vs : List (Key × Value)}, PySem.Pairs (mixKind P w) es vs → ∀ {j : Nat} {e : DictEntry}, es[j]? = some e → ∃ kv, vs[j]? = some kv ∧ keyIs kv.1 e.key = true ∧ e.val = kv.2
  | _, _, .nil, j, e, hj => by simp at hj
  | _, _, .cons h1 h2 _, 0, e, hj => by
    simp only [List.getElem?_cons_zero, Option.some.injEq] at hj
    subst hj
    exact ⟨_, rfl, h1, h2⟩
  | _, _, .cons _ _ h, j + 1, e, hj => pairs_at h (j := j) (by simpa using hj)
theorem pairs_len {P : Program} {w : World} : ∀ {es : List DictEntry} {vs : List (Key × Value)}, PySem.Pairs (mixKind P w) es vs → es.length = vs.length
  | _, _, .nil => rfl
  | _, _, .cons _ _ h => by simp [pairs_len h]
theorem paired_at {α β : Type} {F : α → β → Prop} : ∀ {l : List α} {l' : List β}, Paired F l l' → ∀ {j : Nat} {y : β}, l'[j]? = some y → ∃ x, l[j]? = some x ∧ F x y
  | _, _, .nil, j, y, h => by simp at h
  | _, _, .cons f _, 0, y, h => by
    simp only [List.getElem?_cons_zero, Option.some.injEq] at h
    subst h
    exact ⟨_, rfl, f⟩
  | _, _, .cons _ t, j + 1, y, h => paired_at t (j := j) (by simpa using h)
theorem isPair_inj {h : Heap} {v : Value} {x y x' y' : Int} (a : Srt.IsPair h v x y) (b : Srt.IsPair h v x' y') : x = x' ∧ y = y' := by
  obtain ⟨c, o, t, u, n, rfl, ho, _, hd⟩ := a
  obtain ⟨c', o', t', u', n', e, ho', _, hd'⟩ := b
  cases e
  rw [ho] at ho'
  cases ho'
  rw [hd] at hd'
  simp at hd'
  exact ⟨hd'.1.1.1, hd'.1.2.1⟩
open Classical in
noncomputable def keyAt (h : Heap) (v : Value) : Int × Int := if z : ∃ p : Int × Int, Srt.IsPair h v p.1 p.2 then choose z else (0, 0)
theorem keyAt_is {h : Heap} {v : Value} {p : Int × Int} (a : Srt.IsPair h v p.1 p.2) : keyAt h v = p := by
  have ex : ∃ p : Int × Int, Srt.IsPair h v p.1 p.2 := ⟨p, a⟩
  unfold keyAt
  rw [dif_pos ex]
  obtain ⟨z1, z2⟩ := isPair_inj (Classical.choose_spec ex) a
  exact Prod.ext z1 z2
theorem list_ext_at {α : Type} {l m : List α} (hl : l.length = m.length) (h : ∀ (j : Nat) (x y : α), l[j]? = some x → m[j]? = some y → x = y) : l = m := by
  refine List.ext_getElem hl fun j h1 h2 => h j _ _ (List.getElem?_eq_getElem h1) (List.getElem?_eq_getElem h2)
def uSortedIt : List V → Hp → VK → Prop := fun vs H Q => ∃ (p a : Addr) (m : Prs), vs = [.ref p] ∧ H p = some (L2.DX.itemsO p a) ∧ H a = some (.dK (m.map inj)) ∧ m.length ≤ 100000 ∧
  ∀ (H' : Hp) (l : Addr) (ys : List V) (l' : Prs), Lex l' → l'.Perm m → H l = none → Same H H' → H' l = some (.lst ys) → RawP H' ys l' → Q (.ref l) H'
theorem c_sortedIt {X : Cx} (hc : X.calm = true) : CallR X (.builtin "sorted") uSortedIt := by
  intro pins s σ H vs us Q I r h
  obtain ⟨p, a, m, rfl, hp, ha, hm, q⟩ := h
  obtain rfl := Vals.ref1 r
  have view : s.heap.IsItemsView p a := (show ObjOk X.prog X.w H s.heap p (L2.DX.itemsO p a) from I.hok p _ hp).1
  obtain ⟨z, hd, ws, rel, es, ep, raw, prs⟩ := dk_raw I.hok ha
  have l1 : m.length = ws.length := by have := Paired.length rel; rwa [List.length_map] at this
  have l2 : es.size = ws.length := by rw [← pairs_len prs, Array.length_toList]
  have hh : X.A.handled = none := I.ok.hd hc
  refine DT.sortedI (es := es) (ep := ep) hh view raw (by rw [sizeLine_eq]; omega) fun h' tk as hk hlt hl hG => ?_
  have lak : as.length = m.length := by omega
  have nd : as.Nodup := List.Pairwise.imp (fun h => Nat.ne_of_lt h) hG.rise
  have pr : ∀ (j : Nat) (b : Addr), as[j]? = some b → ∃ c : Int × Int, m[j]? = some c ∧ ∃ t u, h'.get? b = some { cls := .type "tuple", data := .seq #[Value.int c.1 t, Value.int c.2 u] } := by
    intro j b hj
    obtain ⟨en, he, hg⟩ := hG.pairs j b hj
    obtain ⟨kv, hkv, ek, ev⟩ := pairs_at prs (show es.toList[j]? = some en by simpa using he)
    obtain ⟨x, hx, ex, rx⟩ := paired_at rel hkv
    rw [List.getElem?_map] at hx
    obtain ⟨c, hc, rfl⟩ := Option.map_eq_some_iff.mp hx
    obtain ⟨u, eu⟩ : ∃ u, kv.2 = Value.int c.2 u := rx
    have ex : (Sum.inl c.1 : Key) = kv.1 := ex
    rcases keyIs_shape ek with ⟨i, t, e1, e2⟩ | ⟨_, _, e1, _⟩
    · rw [← ex] at e1
      cases e1
      exact ⟨c, hc, t, u, by rw [hg, e2, ev, eu]⟩
    · rw [← ex] at e1
      cases e1
  have hob : (h'.push { cls := .type "list", data := .seq (as.map Value.ref).toArray }).get? h'.objs.size = some (seqObj "list" (as.map Value.ref).toArray 0) := Heap.get?_push_size _ rfl
  have kb : ∀ b o, s.heap.get? b = some o → (h'.push { cls := .type "list", data := .seq (as.map Value.ref).toArray }).get? b = some o := fun b o e => Heap.get?_push_of_some _ (hk b o e)
  have ne0 : ∀ b o, h'.get? b = some o → b ≠ h'.objs.size := fun b o e => Nat.ne_of_lt (Heap.lt_size e)
  have ka : ∀ b o, h'.get? b = some o → (h'.push { cls := .type "list", data := .seq (as.map Value.ref).toArray }).get? b = some o := fun b o e => Heap.get?_push_of_some _ e
  generalize h'.push { cls := .type "list", data := .seq (as.map Value.ref).toArray } = h2 at hob kb ka ⊢
  have isp : ∀ (j : Nat) (b : Addr) (c : Int × Int), as[j]? = some b → m[j]? = some c → Srt.IsPair h2 (.ref b) c.1 c.2 := by
    intro j b c hj hc
    obtain ⟨c', hc', t, u, hg⟩ := pr j b hj
    rw [hc] at hc'
    cases hc'
    exact ⟨b, _, t, u, 0, rfl, ka _ _ hg, rfl, rfl⟩
  have isv : ∀ v ∈ as.map Value.ref, Srt.IsPair h2 v (keyAt h2 v).1 (keyAt h2 v).2 := by
    intro v hv
    obtain ⟨b, hb, rfl⟩ := List.mem_map.mp hv
    obtain ⟨j, hj⟩ := List.getElem?_of_mem hb
    obtain ⟨c, hc, _⟩ := pr j b hj
    have := isp j b c hj hc
    rw [keyAt_is this]
    exact this
  have keys : (as.map Value.ref).map (keyAt h2) = m := by
    refine list_ext_at (by simpa using lak) fun j x y hx hy => ?_
    rw [List.map_map, List.getElem?_map] at hx
    obtain ⟨b, hb, rfl⟩ := Option.map_eq_some_iff.mp hx
    exact keyAt_is (isp j b y hb hy)
  refine wpAny_call_entry PyProof.Rows.slot_list_sort ⟨_, hob, rfl⟩ PyProof.Rows.entry_list_sort (SrtO.list_sort_ord (s := { s with heap := h2, toks := tk }) (ltv := fun v u => SrtO.lexB (keyAt h2 v) (keyAt h2 u)) (SrtO.swo_lex _) hob (by rw [List.length_map, sizeLine_eq]; omega)
    (fun h2' => SrtO.pairs_sortableO (s := { s with heap := h2, toks := tk }) (by omega) isv fun o e => ?_) fun out o1 o2 => ⟨.none, rfl, ?_⟩) (PyProof.Rows.args_list_sort _)
  · have e' : some o = some (seqObj "list" (as.map Value.ref).toArray 0) := e.symm.trans hob
    cases e'
    intro c
    exact absurd (Value.type.inj c) (by decide)
  show EP X pins σ Q (.ref h'.objs.size) { s with heap := sortedHeap h2 h'.objs.size (as.map Value.ref) out.toArray, toks := tk }
  have pm : out.Perm (as.map Value.ref) := o2.perm
  have allr : ∀ u ∈ out, ∃ a, u = Value.ref a := fun u hu => by
    obtain ⟨b, _, rfl⟩ := List.mem_map.mp (pm.mem_iff.mp hu)
    exact ⟨b, rfl⟩
  have kF : ∀ b o, b ≠ h'.objs.size → h2.get? b = some o → (sortedHeap h2 h'.objs.size (as.map Value.ref) out.toArray).get? b = some o := fun b o hb e => (PyProof.Rows.sortedHeap_old hb (Heap.lt_size e)).trans e
  have kS : ∀ b o, s.heap.get? b = some o → (sortedHeap h2 h'.objs.size (as.map Value.ref) out.toArray).get? b = some o := fun b o e => kF b o (ne0 _ _ (hk b o e)) (kb b o e)
  obtain ⟨eF, heF⟩ := PyProof.Rows.sortedHeap_at (vs := as.map Value.ref) (out := out.toArray) hob
  have I1 : Inv X pins σ H { s with heap := sortedHeap h2 h'.objs.size (as.map Value.ref) out.toArray, toks := tk } := I.kept (t' := tk) kS
  have hn0 : H h'.objs.size = none := I.hok.fresh (Nat.le_of_lt hlt)
  have hlen : (out.map backV).length ≤ sizeLine := by
    rw [List.length_map, pm.length_eq, List.length_map, sizeLine_eq]
    omega
  have I2 : Inv X pins σ (upd H h'.objs.size (.lst (out.map backV))) { s with heap := sortedHeap h2 h'.objs.size (as.map Value.ref) out.toArray, toks := tk } :=
    I1.take (h' := sortedHeap h2 h'.objs.size (as.map Value.ref) out.toArray) (t' := tk) (fun b ob _ e => e) (I.fpOk (Nat.le_of_lt hlt) hn0) ⟨hlen, out, eF, vals_back allr, heF⟩
  obtain ⟨H2, I3, g, qt⟩ := L2.DX.takeT (P := fun b vs => vs = [.int (keyAt h2 (.ref b)).1, .int (keyAt h2 (.ref b)).2]) I as _ I2 nd fun b hb => by
    obtain ⟨j, hj⟩ := List.getElem?_of_mem hb
    obtain ⟨c, hc, t, u, hg⟩ := pr j b hj
    have e : keyAt h2 (.ref b) = c := keyAt_is (isp j b c hj hc)
    have hbl : s.heap.objs.size ≤ b := Nat.le_of_lt (hG.above b hb)
    refine ⟨hbl, ?_, _, rfl, fun H3 => ⟨(by rw [sizeLine_eq]; show 2 ≤ 16777216; omega), [Value.int c.1 t, Value.int c.2 u], ?_, ⟨_, kF _ _ (ne0 _ _ hg) (ka _ _ hg), rfl, 0, rfl⟩⟩⟩
    · rw [upd_ne (ne0 _ _ hg)]
      exact I.hok.fresh hbl
    · rw [e]
      exact .cons ⟨t, rfl⟩ (.cons ⟨u, rfl⟩ .nil)
  have gr : ∀ b o, H b = some o → H2 b = some o := fun b o e => g b o (by rw [upd_ne (ne_of_none e hn0)]; exact e)
  refine ⟨.ref h'.objs.size, H2, I3, rfl, q H2 h'.objs.size (out.map backV) (out.map (keyAt h2)) (SrtO.srtd_map o1) (by rw [← keys]; exact pm.map _) hn0 gr (g _ _ upd_same) ?_⟩
  have all : ∀ u ∈ out, ∃ b, u = Value.ref b ∧ H2 b = some (.tup [.int (keyAt h2 u).1, .int (keyAt h2 u).2]) := fun u hu => by
    obtain ⟨b, hb, rfl⟩ := List.mem_map.mp (pm.mem_iff.mp hu)
    obtain ⟨vs, rfl, h2⟩ := qt b hb
    exact ⟨b, rfl, h2⟩
  have build : ∀ l : List Value, (∀ u ∈ l, ∃ b, u = Value.ref b ∧ H2 b = some (.tup [.int (keyAt h2 u).1, .int (keyAt h2 u).2])) → RawP H2 (l.map backV) (l.map (keyAt h2)) := by
    intro l
    induction l with
    | nil => intro _; exact .nil
    | cons u r ih =>
      intro hall
      obtain ⟨b, e, hb⟩ := hall u (List.mem_cons_self ..)
      refine .cons ⟨b, by rw [e]; rfl, hb⟩ (ih fun y hy => hall y (List.mem_cons_of_mem _ hy))
  exact build out all
section
variable {K : PySem.W.Frag} {H : Hp} {Q : VK} {a : Addr} {σ : St} {te : TE} {td ty tx : TE} {R : Hp → Prop} {v x y : V}
theorem r_items {m : Prs} (hd : H a = some (.dK (m.map inj))) (q : ∀ p H', H p = none → Same H H' → H' p = some (L2.DX.itemsO p a) → Q (.ref p) H') : uItems (.ref a) [] H Q :=
  ⟨a, _, rfl, rfl, hd, fun p hp => q p _ hp (Keep.same (Keep.new hp)) upd_same⟩
theorem r_sortedIt {p : Addr} {m : Prs} (hp : H p = some (L2.DX.itemsO p a)) (hd : H a = some (.dK (m.map inj))) (hm : m.length ≤ 100000)
    (q : ∀ l H' (ys : List V) (l' : Prs), Lex l' → l'.Perm m → H l = none → Same H H' → H' l = some (.lst ys) → RawP H' ys l' → Q (.ref l) H') : uSortedIt [.ref p] H Q := ⟨p, a, m, rfl, hp, hd, hm, fun H' l ys l' h1 h2 h3 h4 h5 h6 => q l H' ys l' h1 h2 h3 h4 h5 h6⟩
theorem r_bm0d {r : V → List V → Hp → VK → Prop} {kvs : List (Key × V)} (h : H a = some (.dK kvs)) (q : r (.ref a) [] H Q) : uBM0 K "dict" r (.ref a) H Q := ⟨.inr (.inr (.inl ⟨rfl, .inl ⟨kvs, h⟩⟩)), q⟩
end
/-! ### pop, in, clear, copies, update -/
def dropP (m : Prs) (t : Int) : Prs := m.filter fun p => decide (p.1 ≠ t)
theorem drop_inj (t : Int) : ∀ m : Prs, dropK (m.map inj) (Sum.inl t) = (dropP m t).map inj
  | [] => rfl
  | p :: m => by
    have ih := drop_inj t m
    unfold dropK dropP at *
    rw [List.map_cons, List.filter_cons, List.filter_cons, ih]
    by_cases e : p.1 = t
    · simp [e, inj]
    · simp [e, inj]
theorem mem_drop {m : Prs} {t : Int} {p : Int × Int} : p ∈ dropP m t ↔ p ∈ m ∧ p.1 ≠ t := by
  unfold dropP
  rw [List.mem_filter]
  simp
theorem nd_drop {m : Prs} (t : Int) (nd : (m.map (·.1)).Nodup) : ((dropP m t).map (·.1)).Nodup := nd.sublist (List.filter_sublist.map _)
theorem len_drop (m : Prs) (t : Int) : (dropP m t).length ≤ m.length := List.length_filter_le _ _
theorem valP_none {t : Int} : ∀ {m : Prs}, valP m t = none ↔ t ∉ m.map (·.1)
  | [] => by simp [valP]
  | p :: m => by
    by_cases e : p.1 = t
    · rw [valP_pos e]
      simp [e]
    · rw [valP_neg e, valP_none (m := m)]
      simp [Ne.symm e]
theorem val_put {m : Prs} (nd : (m.map (·.1)).Nodup) (t h k : Int) : valP (putP m t h) k = if k = t then some h else valP m k := by
  by_cases e : k = t
  · rw [if_pos e, e, valP_iff (nd_put t h nd), mem_put]
    exact .inl rfl
  · rw [if_neg e]
    cases z : valP m k with
    | none =>
      rw [valP_none] at z ⊢
      rw [keys_put]
      split
      · exact z
      · rw [List.mem_append, List.mem_singleton]
        rintro (y | y)
        · exact z y
        · exact e y
    | some v =>
      rw [valP_iff nd] at z
      rw [valP_iff (nd_put t h nd), mem_put]
      exact .inr ⟨z, e⟩
theorem val_drop {m : Prs} (nd : (m.map (·.1)).Nodup) (t k : Int) : valP (dropP m t) k = if k = t then none else valP m k := by
  by_cases e : k = t
  · rw [if_pos e, e, valP_none]
    intro z
    obtain ⟨p, hp, e2⟩ := List.mem_map.mp z
    exact (mem_drop.mp hp).2 e2
  · rw [if_neg e]
    cases z : valP m k with
    | none =>
      rw [valP_none] at z ⊢
      intro y
      obtain ⟨p, hp, e2⟩ := List.mem_map.mp y
      exact z (List.mem_map.mpr ⟨p, (mem_drop.mp hp).1, e2⟩)
    | some v =>
      rw [valP_iff nd] at z
      rw [valP_iff (nd_drop t nd), mem_drop]
      exact ⟨z, e⟩
section
variable {X : Cx} {K : PySem.W.Frag} {H : Hp} {Q : VK} {a b : Addr} {σ : St} {te : TE} {td ty tx : TE} {R : Hp → Prop} {v x y : V} {o : Expr} {apos cpos : Pos}
def uPop1b (a : Addr) (y : V) (H : Hp) (Q : VK) : Prop := ∃ kvs k v, H a = some (.dK kvs) ∧ y = kV k ∧ valV kvs k = some v ∧ Q v (upd H a (.dK (dropK kvs k)))
def uPop1 (ty : TE) (σ : St) (x : V) (H : Hp) (Q : VK) : Prop := ∃ a, x = .ref a ∧ IsD H a ∧ ty σ H fun y H2 => uPop1b a y H2 Q
theorem r_dpop1 (q : td σ H fun x H1 => uPop1 ty σ x H1 Q) : tDPop1 td ty σ H Q := q
theorem r_dpop1i {kvs : List (Key × V)} (hd : H a = some (.dK kvs)) (q : ty σ H fun y H2 => uPop1b a y H2 Q) : uPop1 ty σ (.ref a) H Q := ⟨a, rfl, .inl ⟨_, .inl hd⟩, q⟩
theorem r_dpop1k {m : Prs} {t h : Int} (hd : H a = some (.dK (m.map inj))) (e : valP m t = some h) (q : ∀ H', Keep (At a) H H' → H' a = some (.dK ((dropP m t).map inj)) → Q (.int h) H') : uPop1b a (.int t) H Q :=
  ⟨_, Sum.inl t, .int h, hd, rfl, by rw [val_inj, e]; rfl, q _ Keep.at_ (by rw [upd_same, drop_inj])⟩
def uPop2b (a : Addr) (y z : V) (H : Hp) (Q : VK) : Prop := ∃ kvs k, H a = some (.dK kvs) ∧ y = kV k ∧ (∀ v, valV kvs k = some v → Q v (upd H a (.dK (dropK kvs k)))) ∧ (valV kvs k = none → Q z H)
def uPop2 (ty tx : TE) (σ : St) (x : V) (H : Hp) (Q : VK) : Prop := ∃ a, x = .ref a ∧ IsD H a ∧ ty σ H fun y H2 => tx σ H2 fun z H3 => uPop2b a y z H3 Q
theorem r_dpop2 (q : td σ H fun x H1 => uPop2 ty tx σ x H1 Q) : tDPop2 td ty tx σ H Q := q
theorem r_dpop2i {kvs : List (Key × V)} (hd : H a = some (.dK kvs)) (q : ty σ H fun y H2 => tx σ H2 fun z H3 => uPop2b a y z H3 Q) : uPop2 ty tx σ (.ref a) H Q := ⟨a, rfl, .inl ⟨_, .inl hd⟩, q⟩
theorem r_dpop2k {m : Prs} {t : Int} {z : V} (hd : H a = some (.dK (m.map inj))) (q1 : ∀ h H', valP m t = some h → Keep (At a) H H' → H' a = some (.dK ((dropP m t).map inj)) → Q (.int h) H') (q2 : valP m t = none → Q z H) : uPop2b a (.int t) z H Q := by
  refine ⟨_, Sum.inl t, hd, rfl, fun v e => ?_, fun e => q2 ?_⟩
  · rw [val_inj] at e
    obtain ⟨h, e1, rfl⟩ := Option.map_eq_some_iff.mp e
    exact q1 h _ e1 Keep.at_ (by rw [upd_same, drop_inj])
  · rw [val_inj, Option.map_eq_none_iff] at e
    exact e
/-- d.pop(k, None) of a dict by pairs of numbers -/
theorem r_popT {kvs : List (List Key × V)} {i j : Int} {z : V} (hd : H a = some (.dT kvs)) (hb : H b = some (.tup [.int i, .int j])) (q1 : ∀ v H', valV kvs [Sum.inl i, Sum.inl j] = some v → Keep (At a) H H' → H' a = some (.dT (dropK kvs [Sum.inl i, Sum.inl j])) → Q v H')
    (q2 : valV kvs [Sum.inl i, Sum.inl j] = none → Q z H) : L2.DX.rPopT (.ref a) [.ref b, z] H Q :=
  ⟨a, kvs, [Sum.inl i, Sum.inl j], b, z, rfl, rfl, hd, hb, fun v e => q1 v _ e Keep.at_ upd_same, q2⟩
theorem r_bmdT {r : V → List V → Hp → VK → Prop} {t : TA} {kvs : List (List Key × V)} (h : H a = some (.dT kvs)) (q : t σ H fun xs H2 => r (.ref a) xs H2 Q) : uBM K "dict" r t σ (.ref a) H Q := ⟨.inr (.inr (.inl ⟨rfl, .inr ⟨kvs, h⟩⟩)), q⟩
theorem r_bmdK {r : V → List V → Hp → VK → Prop} {t : TA} {kvs : List (Key × V)} (h : H a = some (.dK kvs)) (q : t σ H fun xs H2 => r (.ref a) xs H2 Q) : uBM K "dict" r t σ (.ref a) H Q := ⟨.inr (.inr (.inl ⟨rfl, .inl ⟨kvs, h⟩⟩)), q⟩
def uDIn (y x : V) (H : Hp) (Q : VK) : Prop := ∃ a o, x = .ref a ∧ DGet H a y o ∧ Q (.bl o.isSome) H
def uDNotIn (y x : V) (H : Hp) (Q : VK) : Prop := ∃ a o, x = .ref a ∧ DGet H a y o ∧ Q (.bl (!o.isSome)) H
theorem r_din (q : ty σ H fun y H1 => td σ H1 fun x H2 => uDIn y x H2 Q) : tDIn ty td σ H Q := q
theorem r_dnotin (q : ty σ H fun y H1 => td σ H1 fun x H2 => uDNotIn y x H2 Q) : tDNotIn ty td σ H Q := q
theorem dget_n {m : Prs} {t : Int} (hd : H a = some (.dK (m.map inj))) : ∃ o, DGet H a (.int t) o ∧ o.isSome = (valP m t).isSome := ⟨_, DGet.k (k := Sum.inl t) hd, by rw [val_inj]; cases valP m t <;> rfl⟩
theorem r_dini {m : Prs} {t : Int} (hd : H a = some (.dK (m.map inj))) (q : Q (.bl (valP m t).isSome) H) : uDIn (.int t) (.ref a) H Q := by
  obtain ⟨o, h1, h2⟩ := dget_n (t := t) hd
  exact ⟨a, o, rfl, h1, by rw [h2]; exact q⟩
theorem r_dnotini {m : Prs} {t : Int} (hd : H a = some (.dK (m.map inj))) (q : Q (.bl (!(valP m t).isSome)) H) : uDNotIn (.int t) (.ref a) H Q := by
  obtain ⟨o, h1, h2⟩ := dget_n (t := t) hd
  exact ⟨a, o, rfl, h1, by rw [h2]; exact q⟩
theorem r_clear {kvs : List (Key × V)} (hd : H a = some (.dK kvs)) (q : ∀ H', Keep (At a) H H' → H' a = some (.dK []) → Q .non H') : rDClear (.ref a) [] H Q := ⟨a, kvs, rfl, rfl, hd, q _ Keep.at_ upd_same⟩
/-- dict(d) -/
def uDictD : List V → Hp → VK → Prop := fun xs H Q => ∃ (a : Addr) (kvs : List (Key × V)), xs = [.ref a] ∧ Rd H a (.dK kvs) ∧ ∀ p, H p = none → Q (.ref p) (upd H p (.dK kvs))
theorem c_dictD : CallR X (.type "dict") uDictD := call_dictD
theorem r_dictD {kvs : List (Key × V)} (hd : H a = some (.dK kvs)) (q : ∀ p H', H p = none → Same H H' → H' p = some (.dK kvs) → Q (.ref p) H') : uDictD [.ref a] H Q := ⟨a, kvs, rfl, .inl hd, fun p hp => q p _ hp (Keep.same (Keep.new hp)) upd_same⟩
/-- d.get(k, x) -/
def uDG2x (a : Addr) (y z : V) (H : Hp) (Q : VK) : Prop := ∃ o, DGet H a y o ∧ Q (o.getD z) H
def uDG2o (ty tx : TE) (σ : St) (x : V) (H : Hp) (Q : VK) : Prop := ∃ a, x = .ref a ∧ IsD H a ∧ ty σ H fun y H2 => tx σ H2 fun z H3 => uDG2x a y z H3 Q
theorem r_dget2 (q : td σ H fun x H1 => uDG2o ty tx σ x H1 Q) : tDGet2 td ty tx σ H Q := q
theorem r_dget2i {kvs : List (Key × V)} (hd : H a = some (.dK kvs)) (q : ty σ H fun y H2 => tx σ H2 fun z H3 => uDG2x a y z H3 Q) : uDG2o ty tx σ (.ref a) H Q := ⟨a, rfl, .inl ⟨_, .inl hd⟩, q⟩
theorem r_dget2k {m : Prs} {t : Int} {z : V} (hd : H a = some (.dK (m.map inj))) (q : Q (((valP m t).map V.int).getD z) H) : uDG2x a (.int t) z H Q := by
  refine ⟨_, DGet.k (k := Sum.inl t) hd, ?_⟩
  rw [val_inj]
  exact q
/-- d.update(e) -/
def uUpd (x : V) (xs : List V) (H : Hp) (Q : VK) : Prop := ∃ (a b : Addr) (kvs more : List (Key × V)), x = .ref a ∧ xs = [.ref b] ∧ a ≠ b ∧ H a = some (.dK kvs) ∧ H b = some (.dK more) ∧ kvs.length + more.length ≤ 1000000 ∧ Q .non (upd H a (.dK (mergeK kvs more)))
theorem mt_update : MtR X "dict.update" uUpd := by
  intro pins s σ H x xs v us Q I rx rxs h
  obtain ⟨a, b, kvs, more, rfl, rfl, hab, ha, hb, hz, q⟩ := h
  obtain rfl : v = Value.ref a := rx
  obtain rfl := Vals.ref1 rxs
  obtain ⟨z1, d1, vs1, rel1, dd1⟩ := dk_of I.hok ha
  obtain ⟨z2, d2, vs2, rel2, dd2⟩ := dk_of I.hok hb
  refine call_meetsIn PySem.F.slot_dict_update dd1.typeIs PySem.F.entry_dict_update (PySem.F.args_dict_update_2 _ _) (meets_dict_update (mixKind X.prog X.w) a b hab d2) ⟨vs1, vs2, dd1, dd2, by rw [← rel1.length, ← rel2.length, sizeLine_eq]; omega, fun h' dd' _ hs => ?_⟩
  have he : ∃ q, h'.get? a = some q := let ⟨q, _, _, hq, _⟩ := dd'; ⟨q, hq⟩
  have hl := length_mergeK more kvs
  exact ⟨.non, _, d_write (t' := s.toks) I (by rw [ha]; exact True.intro) hs he (dk_new (by rw [sizeLine_eq]; omega) d1 (KV.merge rel2 rel1) dd'), rfl, q⟩
theorem r_update {m more : Prs} (ha : H a = some (.dK (m.map inj))) (hb : H b = some (.dK (more.map inj))) (hab : a ≠ b) (hl : m.length + more.length ≤ 1000000) (q : ∀ H', Keep (At a) H H' → H' a = some (.dK ((mergeP m more).map inj)) → Q .non H') : uUpd (.ref a) [.ref b] H Q :=
  ⟨a, b, _, _, rfl, rfl, hab, ha, hb, by simpa using hl, q _ Keep.at_ (by rw [upd_same, merge_inj])⟩
/-- len(d) -/
def uLenD : List V → Hp → VK → Prop := fun xs H Q => ∃ (a : Addr) (kvs : List (Key × V)), xs = [.ref a] ∧ Rd H a (.dK kvs) ∧ Q (.int kvs.length) H
theorem c_lenD : CallR X (.builtin "len") uLenD := by
  intro pins s σ H xs us Q I r h
  obtain ⟨a, kvs, rfl, hd, q⟩ := h
  obtain rfl := Vals.ref1 r
  exact d_len I hd fun t s' I' => ⟨.int kvs.length, H, I', ⟨t, rfl⟩, q⟩
theorem r_lenD {m : Prs} (hd : H a = some (.dK (m.map inj))) (q : Q (.int m.length) H) : uLenD [.ref a] H Q := ⟨a, _, rfl, .inl hd, by rw [List.length_map]; exact q⟩
end
/-! ### xs == [], whatever the list holds -/
section
variable {X : Cx} {K : PySem.W.Frag} {H : Hp} {Q : VK} {a b : Addr} {xs : List V}
def uEqNil (K : PySem.W.Frag) : R2 := fun x y H Q => ∃ a b xs, x = .ref a ∧ y = .ref b ∧ SqL K H a xs ∧ SqL K H b [] ∧ Q (.bl (decide (xs = []))) H
def uNeNil (K : PySem.W.Frag) : R2 := fun x y H Q => ∃ a b xs, x = .ref a ∧ y = .ref b ∧ SqL K H a xs ∧ SqL K H b [] ∧ Q (.bl (!decide (xs = []))) H
theorem o_eqNil (hu : X.A.units + 64 < cLine) : OpR X (compareOp .Eq) (uEqNil X.K) := by
  intro pins s σ H x y v u Q I rx ry h
  obtain ⟨a, b, xs, rfl, rfl, h1, h2, q⟩ := h
  obtain rfl : v = Value.ref a := rx
  obtain rfl : u = Value.ref b := ry
  obtain ⟨i1, r1, l1, z1⟩ := I.list h1
  obtain ⟨i2, r2, l2, z2⟩ := I.list h2
  cases r2
  have hl := r1.length
  cases xs with
  | nil =>
    cases r1
    exact SeqAt.eq_listAt (e := fun _ => true) l1.isList l2.isList rfl (by omega) (fun j h1 _ => by simp at h1) ⟨.bl true, H, I, rfl, q⟩
  | cons x r =>
    refine SeqAt.eq_list_lengthsAt l1.isList l2.isList ?_ (by omega) ⟨.bl false, H, I, rfl, q⟩
    rw [List.size_toArray, ← hl]
    simp
theorem o_neNil (hu : X.A.units + 64 < cLine) : OpR X (compareOp .NotEq) (uNeNil X.K) := by
  intro pins s σ H x y v u Q I rx ry h
  obtain ⟨a, b, xs, rfl, rfl, h1, h2, q⟩ := h
  obtain rfl : v = Value.ref a := rx
  obtain rfl : u = Value.ref b := ry
  obtain ⟨i1, r1, l1, z1⟩ := I.list h1
  obtain ⟨i2, r2, l2, z2⟩ := I.list h2
  cases r2
  have hl := r1.length
  cases xs with
  | nil =>
    cases r1
    exact SeqAt.RcNeAt.lists (e := fun _ => true) l1.isList l2.isList rfl (by omega) (fun j h1 _ => by simp at h1) X.prog X.w _ _ ⟨.bl false, H, I, rfl, q⟩
  | cons x r =>
    refine SeqAt.RcNeAt.lists_lengths l1.isList l2.isList ?_ (by omega) X.prog X.w _ _ ⟨.bl true, H, I, rfl, q⟩
    rw [List.size_toArray, ← hl]
    simp
theorem r_eqNil (h1 : SqL K H a xs) (h2 : SqL K H b []) (q : Q (.bl (decide (xs = []))) H) : uEqNil K (.ref a) (.ref b) H Q := ⟨a, b, xs, rfl, rfl, h1, h2, q⟩
theorem r_neNil (h1 : SqL K H a xs) (h2 : SqL K H b []) (q : Q (.bl (!decide (xs = []))) H) : uNeNil K (.ref a) (.ref b) H Q := ⟨a, b, xs, rfl, rfl, h1, h2, q⟩
end
end Fp
/-! stores: plain; what stands where -/
namespace Fp
open PySem PySem.Spec PyProof.Rows L2
/-- a curve of tree times -/
structure Crv (c : Prs) : Prop where
  up : c.Pairwise fun p q => p.1 < q.1
  rg : ∀ q ∈ c, -1099511627776 ≤ q.1 ∧ q.1 < 1099511627776
theorem Crv.nil : Crv [] := ⟨.nil, by simp⟩
theorem Crv.ext {c c' : Prs} (h : Crv c) (h' : Crv c') (e : ∀ p, p ∈ c ↔ p ∈ c') : c = c' := up_ext h.up h'.up e
def setC (c : Prs) (t : Int) : Option Int → Prs
  | none => dropP c t
  | some h => insC c t h
theorem setC_mem {c : Prs} {t : Int} {o : Option Int} {p : Int × Int} : p ∈ setC c t o ↔ (o = some p.2 ∧ p.1 = t) ∨ (p ∈ c ∧ p.1 ≠ t) := by
  cases o with
  | none =>
    show p ∈ dropP c t ↔ _
    rw [mem_drop]
    simp
  | some h =>
    show p ∈ insC c t h ↔ _
    rw [insC_mem]
    constructor
    · rintro (rfl | z)
      · exact .inl ⟨rfl, rfl⟩
      · exact .inr z
    · rintro (⟨z1, z2⟩ | z)
      · left
        cases z1
        exact Prod.ext z2 rfl
      · exact .inr z
theorem setC_up {c : Prs} (hc : c.Pairwise fun p q => p.1 < q.1) (t : Int) (o : Option Int) : (setC c t o).Pairwise fun p q => p.1 < q.1 := by
  cases o with
  | none => exact hc.sublist List.filter_sublist
  | some h => exact insC_up hc t h
theorem setC_crv {c : Prs} (hc : Crv c) {t : Int} (ht : -1099511627776 ≤ t ∧ t < 1099511627776) (o : Option Int) : Crv (setC c t o) := ⟨setC_up hc.up t o, fun q hq => by
  rcases setC_mem.mp hq with ⟨_, z⟩ | ⟨z, _⟩
  · rw [z]; exact ht
  · exact hc.rg q z⟩
theorem setC_beside {c : Prs} (hc : c.Pairwise fun p q => p.1 < q.1) (t : Int) (o : Option Int) : Beside t c (setC c t o) := beside_of hc (setC_up hc t o) fun p hp => by
  rw [setC_mem]
  constructor
  · rintro (⟨_, z⟩ | z)
    · exact absurd z hp
    · exact z.1
  · exact fun z => .inr ⟨z, hp⟩
theorem val_ext {m m' : Prs} (nd : (m.map (·.1)).Nodup) (nd' : (m'.map (·.1)).Nodup) (h : ∀ q, q ∈ m ↔ q ∈ m') (t : Int) : valP m t = valP m' t := by
  cases e : valP m' t with
  | none =>
    rw [valP_none] at e ⊢
    intro z
    obtain ⟨q, hq, e2⟩ := List.mem_map.mp z
    exact e (List.mem_map.mpr ⟨q, (h q).mp hq, e2⟩)
  | some v =>
    rw [valP_iff nd'] at e
    rw [valP_iff nd]
    exact (h _).mpr e
theorem setC_val {c : Prs} (hc : c.Pairwise fun p q => p.1 < q.1) (t : Int) (o : Option Int) (k : Int) : valP (setC c t o) k = if k = t then o else valP c k := by
  have nd := up_nodup hc
  have nd' := up_nodup (setC_up hc t o)
  by_cases e : k = t
  · rw [if_pos e, e]
    cases o with
    | none =>
      rw [valP_none]
      intro z
      obtain ⟨q, hq, e2⟩ := List.mem_map.mp z
      rcases setC_mem.mp hq with ⟨z1, _⟩ | ⟨_, z2⟩
      · cases z1
      · exact z2 e2
    | some h =>
      rw [valP_iff nd', setC_mem]
      exact .inl ⟨rfl, rfl⟩
  · rw [if_neg e]
    cases z : valP c k with
    | none =>
      rw [valP_none] at z ⊢
      intro y
      obtain ⟨q, hq, e2⟩ := List.mem_map.mp y
      rcases setC_mem.mp hq with ⟨_, z2⟩ | ⟨z1, _⟩
      · exact e (e2.symm.trans z2)
      · exact z (List.mem_map.mpr ⟨q, z1, e2⟩)
    | some v =>
      rw [valP_iff nd] at z
      rw [valP_iff nd', setC_mem]
      exact .inr ⟨z, e⟩
/-- c comes of c0 by one deed at t -/
structure Deed (c0 : Prs) (t : Int) (c : Prs) : Prop where
  same : ∀ p : Int × Int, p.1 ≠ t → (p ∈ c ↔ p ∈ c0)
  some : valP c t = none → (valP c0 t).isSome = true
theorem setC_back {c0 c : Prs} {t : Int} (h0 : Crv c0) (h : Crv c) (d : Deed c0 t c) : setC c t (valP c0 t) = c0 := by
  refine up_ext (setC_up h.up t _) h0.up fun p => ?_
  rw [setC_mem]
  constructor
  · rintro (⟨z1, z2⟩ | ⟨z1, z2⟩)
    · rw [← z2, valP_iff (up_nodup h0.up)] at z1
      exact z1
    · exact (d.same p z2).mp z1
  · intro hp
    by_cases e : p.1 = t
    · exact .inl ⟨by rw [← e, valP_iff (up_nodup h0.up)]; exact hp, e⟩
    · exact .inr ⟨(d.same p e).mpr hp, e⟩
theorem deed_put {c : Prs} (hc : Crv c) (t h : Int) : Deed c t (insC c t h) := ⟨fun p hp => by
    rw [insC_mem]
    constructor
    · rintro (z | z)
      · exact absurd (by rw [z]) hp
      · exact z.1
    · exact fun z => .inr ⟨z, hp⟩, fun z => by
    have := setC_val hc.up t (Option.some h) t
    rw [if_pos rfl] at this
    rw [show setC c t (Option.some h) = insC c t h from rfl, z] at this
    cases this⟩
theorem deed_take {c : Prs} {t h : Int} (e : valP c t = Option.some h) : Deed c t (dropP c t) := ⟨fun p hp => by rw [mem_drop]; exact ⟨fun z => z.1, fun z => ⟨z, hp⟩⟩, fun _ => by rw [e]; rfl⟩
/-- the deeds not undone yet, the last one first, each with the curve ahead of it -/
def Chain : List (Int × Prs) → Prs → Prop
  | [], c => Crv c
  | d :: r, c => Crv c ∧ (-1099511627776 ≤ d.1 ∧ d.1 < 1099511627776) ∧ Deed d.2 d.1 c ∧ Chain r d.2
theorem Chain.crv {hs : List (Int × Prs)} {c : Prs} (h : Chain hs c) : Crv c := by
  cases hs with
  | nil => exact h
  | cons d r => exact h.1
def optD : Option Int → PyData
  | none => .none
  | some h => .int h
def optV : Option Int → V
  | none => .non
  | some h => .int h
theorem opt_val (o : Option Int) : (o.map V.int).getD .non = optV o := by cases o <;> rfl
theorem dp_opt {K : PySem.W.Frag} {H : Hp} {v : V} {o : Option Int} (h : Dp K H v (optD o)) : v = optV o := by
  cases o with
  | none => exact dp_non h
  | some i => exact dp_int h
theorem dp_optV (K : PySem.W.Frag) (H : Hp) (o : Option Int) : Dp K H (optV o) (optD o) := by
  cases o with
  | none => exact .non
  | some i => exact .int i
def deedD (d : Int × Prs) : PyData := .tuple [.int d.1, optD (valP d.2 d.1)]
theorem imm_opt (o : Option Int) : imm (optD o) = true := by cases o <;> rfl
theorem imm_deed (d : Int × Prs) : imm (deedD d) = true := by simp [deedD, imm, immAll, imm_opt]
theorem shp_deed (d : Int × Prs) : Shp 1 (deedD d) := Shp.t2 (.int _) (by unfold optD; split; exact .none; exact .int _)
theorem dp_deed {K : PySem.W.Frag} {H : Hp} {v : V} {d : Int × Prs} (h : Dp K H v (deedD d)) : ∃ a, v = .ref a ∧ SqT K H a [.int d.1, optV (valP d.2 d.1)] := by
  obtain ⟨p, ws, rfl, h1, h2⟩ := dp_tup h
  cases h2 with
  | cons h3 h4 =>
    cases h4 with
    | cons h5 h6 =>
      cases h6
      rw [dp_int h3, dp_opt h5] at h1
      exact ⟨p, rfl, h1⟩
theorem eqv_nil {d : List PyData} : PyData.eqv (.list d) (.list []) = decide (d = []) := by
  rw [PyData.eqv]
  cases d with
  | nil => simp [PyData.eqvAll]
  | cons x r => simp [PyData.eqvAll]
theorem valV_drop {κ : Type} [DecidableEq κ] (k j : κ) : ∀ kvs : List (κ × V), valV (dropK kvs k) j = if j = k then none else valV kvs j
  | [] => by simp [dropK, valV]
  | p :: r => by
    have ih := valV_drop k j r
    unfold dropK at *
    by_cases e : p.1 = k
    · rw [List.filter_cons_of_neg (by simp [e]), ih]
      by_cases e2 : j = k
      · rw [if_pos e2, if_pos e2]
      · rw [if_neg e2, if_neg e2, valV_neg (by rw [e]; exact fun z => e2 z.symm)]
    · rw [List.filter_cons_of_pos (by simp [e])]
      by_cases e2 : p.1 = j
      · rw [valV_pos e2, valV_pos e2, if_neg (by rw [← e2]; exact e)]
      · rw [valV_neg e2, valV_neg e2, ih]
theorem dropK_len {κ : Type} [DecidableEq κ] (kvs : List (κ × V)) (k : κ) : (dropK kvs k).length ≤ kvs.length := List.length_filter_le _ _
/-! ### columns' fours -/
def winS (b w : Int) (k : Nat) : Int × Int := (b + (k : Int) * w, b + (k : Int) * w + w)
def foursS (c : Prs) (b w : Int) (n : Nat) : List (Option Four) := (List.range n).map fun k => fourL (partL c (winS b w k).1 (winS b w k).2)
def foursDS (c : Prs) (b w : Int) (n : Nat) : PyData := .tuple ((foursS c b w n).map fourD)
theorem imm_foursS (c : Prs) (b w : Int) (n : Nat) : imm (foursDS c b w n) = true := by
  unfold foursDS
  simp only [imm]
  exact immAll_map _ imm_four _
theorem shp_foursS (c : Prs) (b w : Int) (n : Nat) : Shp 3 (foursDS c b w n) := Shp.tupleM shp_four
/-! ### where a store stands -/
structure SA where
  p : Addr
  hd : Addr
  bd : Addr
  dd : Addr
  td : Addr
  wd : Addr
  was : List Addr
def SA.all (a : SA) : List Addr := a.p :: a.hd :: a.bd :: a.dd :: a.td :: a.wd :: a.was
structure Watch where
  b : Int
  w : Int
  m : Int
  c : Prs
structure WatchAt (K : PySem.W.Frag) (H : Hp) (x : Addr) (W : Watch) : Prop where
  ex : ∃ (wn : Addr) (y : V), H x = some (.lst [.ref wn, y]) ∧ SqT K H wn [.int W.b, .int W.w, .int W.m] ∧ Dp K H y (foursDS W.c W.b W.w W.m.toNat)
  win : -1099511627776 ≤ W.b ∧ W.b + W.w * W.m ≤ 1099511627776 ∧ 1 ≤ W.w ∧ W.w ≤ 1000000000000000 ∧ 1 ≤ W.m ∧ W.m ≤ 1000
  crv : Crv W.c
theorem WatchAt.keep {K : PySem.W.Frag} {H H' : Hp} {x : Addr} {W : Watch} {F : Addr → Prop} (h : WatchAt K H x W) (k : Keep F H H') (t : TExt H H') (n : ¬ F x) : WatchAt K H' x W := by
  obtain ⟨wn, y, e, h1, h2⟩ := h.ex
  exact ⟨⟨wn, y, k _ _ e n, SqT.text t h1, Dp.text t _ _ (imm_foursS ..) h2⟩, h.win, h.crv⟩
structure CoreAt (K : PySem.W.Frag) (H : Hp) (hd bd : Addr) (c : Prs) (z : Nat) : Prop where
  hh : ∃ m : Prs, H hd = some (.dK (m.map inj)) ∧ (m.map (·.1)).Nodup ∧ (∀ q, q ∈ m ↔ q ∈ c) ∧ m.length ≤ z
  bb : ∃ kvs, H bd = some (.dT kvs) ∧ FourInv K H kvs c ∧ kvs.length ≤ 41 * z
  crv : Crv c
theorem CoreAt.keep {K : PySem.W.Frag} {H H' : Hp} {hd bd : Addr} {c : Prs} {z : Nat} {F : Addr → Prop} (h : CoreAt K H hd bd c z) (k : Keep F H H') (t : TExt H H') (n1 : ¬ F hd) (n2 : ¬ F bd) : CoreAt K H' hd bd c z := by
  obtain ⟨⟨m, h1, h2⟩, ⟨kvs, b1, b2, b3⟩, cr⟩ := h
  exact ⟨⟨m, k _ _ h1 n1, h2⟩, ⟨kvs, k _ _ b1 n2, b2.text t, b3⟩, cr⟩
theorem CoreAt.mono {K : PySem.W.Frag} {H : Hp} {hd bd : Addr} {c : Prs} {z z' : Nat} (h : CoreAt K H hd bd c z) (hz : z ≤ z') : CoreAt K H hd bd c z' := by
  obtain ⟨⟨m, h1, h2, h3, h4⟩, ⟨kvs, b1, b2, b3⟩, cr⟩ := h
  exact ⟨⟨m, h1, h2, h3, by omega⟩, ⟨kvs, b1, b2, by omega⟩, cr⟩
def stF (a : SA) : List (Str × V) := [("heights", .ref a.hd), ("by_stretches", .ref a.bd), ("deeds", .ref a.dd), ("deed_times", .ref a.td), ("watches", .ref a.wd)]
structure StoreAt (K : PySem.W.Frag) (C : Addr) (H : Hp) (a : SA) (c : Prs) (hs : List (Int × Prs)) (ts : List Int) (ws : List Watch) (z : Nat) : Prop where
  ob : ∃ dx, H a.p = some (.ins C dx [("heights", .ref a.hd), ("by_stretches", .ref a.bd), ("deeds", .ref a.dd), ("deed_times", .ref a.td), ("watches", .ref a.wd)])
  core : CoreAt K H a.hd a.bd c z
  dl : ∃ vs, H a.dd = some (.lst vs) ∧ DpAll K H vs (hs.reverse.map deedD)
  tl : H a.td = some (.lst (ts.map V.int))
  wl : H a.wd = some (.lst (a.was.map V.ref)) ∧ Paired (fun b W => WatchAt K H b W) a.was ws
  ne : a.dd ≠ a.td ∧ a.dd ≠ a.wd ∧ a.td ≠ a.wd ∧ ∀ b ∈ a.was, b ≠ a.dd ∧ b ≠ a.td ∧ b ≠ a.wd
  ch : Chain hs c
  sz : hs.length ≤ z ∧ ts.length ≤ z ∧ ws.length ≤ 1000 ∧ z ≤ 10000
section
variable {K : PySem.W.Frag} {C : Addr} {H H' : Hp} {a : SA} {c : Prs} {hs : List (Int × Prs)} {ts : List Int} {ws : List Watch} {z : Nat} {F : Addr → Prop}
theorem mem_all {a : SA} {b : Addr} : b ∈ a.all ↔ b = a.p ∨ b = a.hd ∨ b = a.bd ∨ b = a.dd ∨ b = a.td ∨ b = a.wd ∨ b ∈ a.was := by
  unfold SA.all
  simp only [List.mem_cons]
theorem StoreAt.keep (S : StoreAt K C H a c hs ts ws z) (k : Keep F H H') (t : TExt H H') (n : ∀ b ∈ a.all, ¬ F b) : StoreAt K C H' a c hs ts ws z := by
  obtain ⟨⟨dx, ob⟩, core, ⟨vs, d1, d2⟩, tl, ⟨w1, w2⟩, ne, ch, sz⟩ := S
  have nn : ∀ {b}, (b = a.p ∨ b = a.hd ∨ b = a.bd ∨ b = a.dd ∨ b = a.td ∨ b = a.wd ∨ b ∈ a.was) → ¬ F b := fun h => n _ (mem_all.mpr h)
  refine ⟨⟨dx, k _ _ ob (nn (by simp))⟩, core.keep k t (nn (by simp)) (nn (by simp)), ⟨vs, k _ _ d1 (nn (by simp)), DpAll.text t _ _ (immAll_map _ imm_deed _) d2⟩, k _ _ tl (nn (by simp)), ⟨k _ _ w1 (nn (by simp)), ?_⟩, ne, ch, sz⟩
  have go : ∀ {l : List Addr} {m : List Watch}, Paired (fun b W => WatchAt K H b W) l m → (∀ b ∈ l, ¬ F b) → Paired (fun b W => WatchAt K H' b W) l m := by
    intro l m h
    induction h with
    | nil => intro _; exact .nil
    | cons h1 _ ih => intro hn; exact .cons (h1.keep k t (hn _ (List.mem_cons_self ..))) (ih fun b hb => hn b (List.mem_cons_of_mem _ hb))
  exact go w2 fun b hb => nn (by simp [hb])
theorem StoreAt.same (S : StoreAt K C H a c hs ts ws z) (s : Same H H') : StoreAt K C H' a c hs ts ws z := S.keep (F := No) (Keep.of_same s) (TExt.of_same s) (fun _ _ h => h)
theorem StoreAt.text (S : StoreAt K C H a c hs ts ws z) (k : Keep (· ∈ a.all) H H') : TExt H H' := by
  obtain ⟨⟨dx, ob⟩, ⟨⟨m, h1, _⟩, ⟨kvs, b1, _⟩, _⟩, ⟨vs, d1, d2⟩, tl, ⟨w1, w2⟩, ne, ch, sz⟩ := S
  refine k.text fun b hb => ?_
  rcases mem_all.mp hb with rfl | rfl | rfl | rfl | rfl | rfl | hb
  · rw [ob]; trivial
  · rw [h1]; trivial
  · rw [b1]; trivial
  · rw [d1]; trivial
  · rw [tl]; trivial
  · rw [w1]; trivial
  · obtain ⟨i, hi⟩ := List.getElem?_of_mem hb
    have go : ∀ {l : List Addr} {m : List Watch}, Paired (fun b W => WatchAt K H b W) l m → b ∈ l → Mut (H b) := by
      intro l m h
      induction h with
      | nil => intro hb; simp at hb
      | cons h1 _ ih =>
        intro hb
        rcases List.mem_cons.mp hb with rfl | hb
        · obtain ⟨wn, y, e, _⟩ := h1.ex
          rw [e]; trivial
        · exact ih hb
    exact go w2 hb
theorem StoreAt.mut (S : StoreAt K C H a c hs ts ws z) {b : Addr} (hb : b ∈ a.all) : Mut (H b) := by
  obtain ⟨⟨dx, ob⟩, ⟨⟨m, h1, _⟩, ⟨kvs, b1, _⟩, _⟩, ⟨vs, d1, d2⟩, tl, ⟨w1, w2⟩, ne, ch, sz⟩ := S
  rcases mem_all.mp hb with rfl | rfl | rfl | rfl | rfl | rfl | hb
  · rw [ob]; trivial
  · rw [h1]; trivial
  · rw [b1]; trivial
  · rw [d1]; trivial
  · rw [tl]; trivial
  · rw [w1]; trivial
  · have go : ∀ {l : List Addr} {m : List Watch}, Paired (fun b W => WatchAt K H b W) l m → b ∈ l → Mut (H b) := by
      intro l m h
      induction h with
      | nil => intro hb; simp at hb
      | cons h1 _ ih =>
        intro hb
        rcases List.mem_cons.mp hb with rfl | hb
        · obtain ⟨wn, y, e, _⟩ := h1.ex
          rw [e]; trivial
        · exact ih hb
    exact go w2 hb
/-- all of it stands -/
theorem StoreAt.live (S : StoreAt K C H a c hs ts ws z) {b : Addr} (hb : b ∈ a.all) : H b ≠ none := by
  obtain ⟨⟨dx, ob⟩, ⟨⟨m, h1, _⟩, ⟨kvs, b1, _⟩, _⟩, ⟨vs, d1, d2⟩, tl, ⟨w1, w2⟩, ne, ch, sz⟩ := S
  rcases mem_all.mp hb with rfl | rfl | rfl | rfl | rfl | rfl | hb
  · rw [ob]; simp
  · rw [h1]; simp
  · rw [b1]; simp
  · rw [d1]; simp
  · rw [tl]; simp
  · rw [w1]; simp
  · have go : ∀ {l : List Addr} {m : List Watch}, Paired (fun b W => WatchAt K H b W) l m → b ∈ l → H b ≠ none := by
      intro l m h
      induction h with
      | nil => intro hb; simp at hb
      | cons h1 _ ih =>
        intro hb
        rcases List.mem_cons.mp hb with rfl | hb
        · obtain ⟨wn, y, e, _⟩ := h1.ex
          rw [e]; simp
        · exact ih hb
    exact go w2 hb
theorem StoreAt.new_ne (S : StoreAt K C H a c hs ts ws z) {b q : Addr} (hq : H q = none) (hb : b ∈ a.all) : b ≠ q := fun e => S.live hb (by rw [e]; exact hq)
theorem StoreAt.new_not (S : StoreAt K C H a c hs ts ws z) {q : Addr} (hq : H q = none) : q ∉ a.all := fun hb => S.live hb hq
/-- another object, at q, is written -/
theorem StoreAt.other (S : StoreAt K C H a c hs ts ws z) {q : Addr} (k : Keep (At q) H H') (t : TExt H H') (n : q ∉ a.all) : StoreAt K C H' a c hs ts ws z := S.keep k t fun b hb e => n (by rw [← show b = q from e]; exact hb)
theorem StoreAt.crv (S : StoreAt K C H a c hs ts ws z) : Crv c := S.core.crv
end
theorem StoreAt.step {K : PySem.W.Frag} {C : Addr} {H H' : Hp} {a : SA} {c c' : Prs} {hs hs' : List (Int × Prs)} {ts ts' : List Int} {ws : List Watch} {z : Nat} {vs : List V} (S : StoreAt K C H a c hs ts ws z) (k : Keep (fun b => b = a.hd ∨ b = a.bd ∨ b = a.dd ∨ b = a.td) H H') (t : TExt H H') (core : CoreAt K H' a.hd a.bd c' (z + 1))
    (d1 : H' a.dd = some (.lst vs)) (d2 : DpAll K H' vs (hs'.reverse.map deedD)) (t1 : H' a.td = some (.lst (ts'.map V.int))) (ch : Chain hs' c') (l1 : hs'.length ≤ z + 1) (l2 : ts'.length ≤ z + 1) (hz : z + 1 ≤ 10000) : StoreAt K C H' a c' hs' ts' ws (z + 1) := by
  obtain ⟨⟨dx, ob⟩, ⟨⟨m, h1, _⟩, ⟨kvs, b1, _⟩, _⟩, ⟨vs, e1, e2⟩, tl, ⟨w1, w2⟩, ne, _, sz⟩ := S
  have nw : ∀ b l, H b = some (.lst l) → b ≠ a.dd → b ≠ a.td → ¬ (b = a.hd ∨ b = a.bd ∨ b = a.dd ∨ b = a.td) := by
    rintro b l e n1 n2 (rfl | rfl | rfl | rfl)
    · rw [h1] at e; cases e
    · rw [b1] at e; cases e
    · exact n1 rfl
    · exact n2 rfl
  refine ⟨⟨dx, k _ _ ob ?_⟩, core, ⟨_, d1, d2⟩, t1, ⟨k _ _ w1 (nw _ _ w1 (Ne.symm ne.2.1) (Ne.symm ne.2.2.1)), ?_⟩, ne, ch, ⟨l1, l2, sz.2.2.1, hz⟩⟩
  · rintro (z | z | z | z)
    · rw [z, h1] at ob; cases ob
    · rw [z, b1] at ob; cases ob
    · rw [z, e1] at ob; cases ob
    · rw [z, tl] at ob; cases ob
  · have go : ∀ {l : List Addr} {m : List Watch}, Paired (fun b W => WatchAt K H b W) l m → (∀ b ∈ l, b ∈ a.was) → Paired (fun b W => WatchAt K H' b W) l m := by
      intro l m h
      induction h with
      | nil => intro _; exact .nil
      | cons h1 _ ih =>
        intro hn
        obtain ⟨wn, y, e, _⟩ := h1.ex
        have := ne.2.2.2 _ (hn _ (List.mem_cons_self ..))
        exact .cons (h1.keep k t (nw _ _ e this.1 this.2.1)) (ih fun b hb => hn b (List.mem_cons_of_mem _ hb))
    exact go w2 fun b hb => hb
theorem StoreAt.four_all {a : SA} {H H' : Hp} (k : Keep (fun b => b = a.hd ∨ b = a.bd ∨ b = a.dd ∨ b = a.td) H H') : Keep (· ∈ a.all) H H' := k.mono fun b h => mem_all.mpr (by
  rcases h with h | h | h | h
  · exact .inr (.inl h)
  · exact .inr (.inr (.inl h))
  · exact .inr (.inr (.inr (.inl h)))
  · exact .inr (.inr (.inr (.inr (.inl h)))))
theorem val_range {c : Prs} (hc : Crv c) {t h : Int} (e : valP c t = some h) : -1099511627776 ≤ t ∧ t < 1099511627776 := hc.rg _ ((valP_iff (up_nodup hc.up)).mp e)
section
variable {K : PySem.W.Frag} {H : Hp} {Q : VK} {a : Addr} {xs : List V} {y : V}
theorem r_pop (h : H a = some (.lst (xs ++ [y]))) (q : ∀ H', Keep (At a) H H' → H' a = some (.lst xs) → Q y H') : rPop (.ref a) [] H Q :=
  ⟨a, xs ++ [y], y, rfl, rfl, h, by simp, q _ Keep.at_ (by rw [upd_same]; simp)⟩
end
theorem paired_snoc {α β : Type} {R : α → β → Prop} : ∀ {l : List α} {m : List β} {x : α} {y : β}, Paired R l m → R x y → Paired R (l ++ [x]) (m ++ [y])
  | _, _, _, _, .nil, h => .cons h .nil
  | _, _, _, _, .cons h1 h2, h => .cons h1 (paired_snoc h2 h)
theorem paired_set {α β : Type} {R : α → β → Prop} {x : α} {y : β} (h : R x y) : ∀ {l : List α} {m : List β} (i : Nat), Paired R l m → Paired R (l.set i x) (m.set i y)
  | _, _, _, .nil => .nil
  | _, _, 0, .cons _ h2 => .cons h h2
  | _, _, i + 1, .cons h1 h2 => .cons h1 (paired_set h i h2)
def SA.more (a : SA) (x : Addr) : SA := { a with was := a.was ++ [x] }
def SA.put (a : SA) (i : Nat) (x : Addr) : SA := { a with was := a.was.set i x }
abbrev InWin (b w m : Int) : Prop := -1099511627776 ≤ b ∧ b + w * m ≤ 1099511627776 ∧ 1 ≤ w ∧ w ≤ 1000000000000000 ∧ 1 ≤ m ∧ m ≤ 1000
theorem StoreAt.watch {K : PySem.W.Frag} {C : Addr} {H H' : Hp} {a : SA} {c : Prs} {hs : List (Int × Prs)} {ts : List Int} {ws ws' : List Watch} {z : Nat} {was' : List Addr} (S : StoreAt K C H a c hs ts ws z) (k : Keep (At a.wd) H H') (t : TExt H H') (e : H' a.wd = some (.lst (was'.map V.ref)))
    (w : Paired (fun b W => WatchAt K H' b W) was' ws') (n : ∀ b ∈ was', b ≠ a.dd ∧ b ≠ a.td ∧ b ≠ a.wd) (hl : ws'.length ≤ 1000) : StoreAt K C H' { a with was := was' } c hs ts ws' z := by
  obtain ⟨⟨dx, ob⟩, core, ⟨vs, d1, d2⟩, tl, ⟨w1, w2⟩, ne, ch, sz⟩ := S
  have nw : ∀ b o, H b = some o → (∀ l, o ≠ .lst l) → b ≠ a.wd := fun b o e hn z => by rw [z, w1] at e; cases e; exact hn _ rfl
  obtain ⟨⟨m, h1, _⟩, ⟨kvs, b1, _⟩, _⟩ := id core
  exact ⟨⟨dx, k _ _ ob (nw _ _ ob (by intros; intro z; cases z))⟩, core.keep k t (nw _ _ h1 (by intros; intro z; cases z)) (nw _ _ b1 (by intros; intro z; cases z)), ⟨vs, k _ _ d1 ne.2.1, DpAll.text t _ _ (immAll_map _ imm_deed _) d2⟩, k _ _ tl ne.2.2.1, ⟨e, w⟩, ⟨ne.1, ne.2.1, ne.2.2.1, n⟩, ch, ⟨sz.1, sz.2.1, hl, sz.2.2.2⟩⟩
theorem WatchAts.keep {K : PySem.W.Frag} {H H' : Hp} {F : Addr → Prop} (k : Keep F H H') (t : TExt H H') : ∀ {l : List Addr} {m : List Watch}, Paired (fun b W => WatchAt K H b W) l m → (∀ b ∈ l, ¬ F b) → Paired (fun b W => WatchAt K H' b W) l m
  | _, _, .nil, _ => .nil
  | _, _, .cons h1 h2, n => .cons (h1.keep k t (n _ (List.mem_cons_self ..))) (WatchAts.keep k t h2 fun b hb => n b (List.mem_cons_of_mem _ hb))
/-- the columns whose four is another -/
def newsL (c0 c : Prs) (b w : Int) (n : Nat) : List Nat := (List.range n).filter fun k => !PyData.eqv (fourD (fourL (partL c (winS b w k).1 (winS b w k).2))) (fourD (fourL (partL c0 (winS b w k).1 (winS b w k).2)))
theorem ixN_nat {n j : Nat} (h : j < n) : ixN n (j : Int) = some j := by
  unfold ixN
  rw [if_pos (by omega), if_pos (by omega)]
  rfl
/-- the last one of a row -/
theorem dp_last {K : PySem.W.Frag} {H : Hp} {y0 : V} {yr : List V} {f : Int × Int} {r : Prs} (d0 : Dp K H y0 (pairP f)) (dr : DpAll K H yr (r.map pairP)) : ∃ yl, atI (y0 :: yr) (-1) = some yl ∧ Dp K H yl (pairP ((r.getLast?).getD f)) := by
  have hyl : yr.length = r.length := by rw [dpAll_len dr, List.length_map]
  rcases List.eq_nil_or_concat yr with rfl | ⟨yi, yl, rfl⟩
  · have : r = [] := List.length_eq_zero_iff.mp (by simpa using hyl.symm)
    subst this
    exact ⟨y0, atI_last [] y0, d0⟩
  · rw [List.concat_eq_append] at *
    refine ⟨yl, atI_last (y0 :: yi) yl, ?_⟩
    obtain ⟨q, hq, hd⟩ := dpAll_map_at dr (i := yi.length) (x := yl) (by simp)
    have : r.getLast? = some q := by
      rw [List.getLast?_eq_getElem?]
      have : r.length - 1 = yi.length := by simp at hyl; omega
      rw [this]
      exact hq
    rw [this]
    exact hd
end Fp
/-! try, and what a suite asks of the error that it caught -/
namespace Fp
open PySem PySem.Spec PyProof.Rows L2
section
variable {X : Cx} {K : PySem.W.Frag} {σ : L2.St} {H H' : Hp} {Q : VK} {k j : Nat} {ps : List Str} {sp : Sp} {E : L2.St → XK} {x m n : Str} {p np pos pos' apos : Pos} {o e : Expr} {es : List Expr} {ta : TE} {t : TA} {C a : Addr} {c : Value} {i : Nat} {body suite : List Stmt} {b₀ : Stmt} {tb : WX → TS} {ts : Addr → Value → Option Addr → TS} {Wout : WX} {cls : Value} {d : Option Addr} {D : Ends}
/-- o.m(..) whose exceptions are wished for at the slots -/
def tMethUS (C : Addr) (m : Str) (sp : Sp) (E : L2.St → XK) (ta : TE) (t : TA) : TE := fun σ H Q => ta σ H fun x H1 => uMeth C m sp (E σ) t σ x H1 Q
theorem pe_methS {pl : Sem Bool} (G : MFn X.prog X.w X.K X.mg X.base k C m ps sp) (hr : Room j X.A) (c : Cls X.K C) (hx : ∀ σ, PassesAt (L2.CX X.prog X.w) X σ (E σ)) (he : PE X o ta) (ha : PA X (e :: es) t) (hk : k ≤ j := by decide)
    (hst : starEach (e :: es) X.env = (false, eval e X.env) :: starEach es X.env := by rfl) (hpl : (backTo pos (starEach es X.env)).any (·.1) = false := by rfl)
    (ht : eval (.Call (.Attribute o m apos) (e :: es) [] pos) X.env = (do
      let ov ← eval o X.env
      standAt apos.atName
      let (f, first) ← holding [ov] (getMethod ov m pl)
      callWith pos f first (backTo pos (starEach (e :: es) X.env)) (backToKw pos (keywordEach [] X.env))) := by rfl) :
    PE X (.Call (.Attribute o m apos) (e :: es) [] pos) (tMethUS C m sp E ta t) := by
  obtain ⟨f, fd, hm, hb, F⟩ := G.ex
  refine ⟨fun pins s σ H Q I h => ?_⟩
  refine PySem.W.methodCall_KW (pl := pl) (thn (he.run pins s σ H _ I h) fun u s1 ⟨x, H1, I1, rx, a, dx, fs, ex, ea, l, q⟩ => ?_) ht
  subst ex
  obtain rfl : u = Value.ref a := rx
  refine getmeth_ok I1 ea c hm l ?_
  refine PySem.W.callWith_K (first := [.ref a]) (h₀ := X.base) I.ok.mod.kin hm.kp (thn (ha.run pos pins s1 σ H1 _ I1 q) fun us s2 ⟨vs, H2, I2, r, q2⟩ => ⟨I2.kIn, ?_⟩) hst hpl
  exact run_fnS (us := .ref a :: us) (vs := .ref a :: vs) (F.mono hk) hr hb (hx σ) I2 (.cons rfl r) q2
theorem r_methS (q : ta σ H fun x H1 => uMeth C m sp (E σ) t σ x H1 Q) : tMethUS C m sp E ta t σ H Q := q
/-- try: .. except c as n: .. -/
def tTryAs (K : PySem.W.Frag) (c : Value) (i : Nat) (ts : Addr → Value → Option Addr → TS) (tb : WX → TS) : TS := fun D σ H => tb (wAs K c i ts (fun _ _ _ _ => False) D) D σ H
theorem ps_tryAs (hK : X.K = K) (hs : X.stack = X.env :: X.outer) (hf : X.env.frame = some X.env.locals) (hN : X.N.Nodup) (hi : X.N[i]? = some n) (hln : X.env.kindOf n = some .local) (hc : Names X x c)
    (hb : ∀ (W : WX) (pn : List (Addr × Obj)) (xe : Value → Shared → Prop), Takes (X.tr pn xe) W → PSs (X.tr pn xe) body (tb W))
    (hsu : ∀ (a : Addr) (oe : Obj) (cls : Value) (d : Option Addr) (pn : List (Addr × Obj)), Zc cls d oe → (∃ vs, oe.data = .fields vs) → PSs (X.suite a ((a, oe) :: pn)) (b₀ :: suite) (ts a cls d)) :
    PS X (.Try body [.ExceptHandler (some (.Name x np)) (some n) (b₀ :: suite) pos'] [] [] pos) (tTryAs K c i ts tb) := by
  subst hK
  exact L2.ps_try_as hs hf hN hi hln hc takes0 (fun W pn xe tk _ => hb W pn xe tk) hsu
theorem r_tryAs (q : tb (wAs K c i ts (fun _ _ _ _ => False) D) D σ H) : tTryAs K c i ts tb D σ H := q
theorem r_wAs {R : Addr} (e : PySem.W.exmOne K (.ref R) c = some true) (q : ∀ a, H a = none → ts a (.ref R) none { nx := fun σ' H' => D.nx (σ'.set i none) H', rt := D.rt, bk := fun σ' H' => D.bk (σ'.set i none) H', ct := fun σ' H' => D.ct (σ'.set i none) H' } (σ.set i (some (.ref a))) H) :
    WE (wAs K c i ts Wout D) σ (.ref R) none H := ⟨true, e, fun _ => q, fun z => by cases z⟩
/-- try: .. except c: .. -/
def tTryOnly (K : PySem.W.Frag) (c : Value) (ts : Addr → Value → Option Addr → TS) (tb : WX → TS) : TS := fun D σ H => tb (wOnly K c ts (fun _ _ _ _ => False) D) D σ H
theorem ps_tryOnly (hK : X.K = K) (hs : X.stack = X.env :: X.outer) (hf : X.env.frame = some X.env.locals) (hc : Names X x c)
    (hb : ∀ (W : WX) (pn : List (Addr × Obj)) (xe : Value → Shared → Prop), Takes (X.tr pn xe) W → PSs (X.tr pn xe) body (tb W))
    (hsu : ∀ (a : Addr) (oe : Obj) (cls : Value) (d : Option Addr) (pn : List (Addr × Obj)), Zc cls d oe → (∃ vs, oe.data = .fields vs) → PSs (X.suite a ((a, oe) :: pn)) (b₀ :: suite) (ts a cls d)) :
    PS X (.Try body [.ExceptHandler (some (.Name x np)) none (b₀ :: suite) pos'] [] [] pos) (tTryOnly K c ts tb) := by
  subst hK
  exact L2.ps_try_only hs hf hc takes0 (fun W pn xe tk _ => hb W pn xe tk) hsu
theorem r_tryOnly (q : tb (wOnly K c ts (fun _ _ _ _ => False) D) D σ H) : tTryOnly K c ts tb D σ H := q
theorem r_wOnly {R : Addr} (e : PySem.W.exmOne K (.ref R) c = some true) (q : ∀ a, H a = none → ts a (.ref R) none D σ H) :
    WE (wOnly K c ts Wout D) σ (.ref R) none H := ⟨true, e, fun _ => q, fun z => by cases z⟩
/-- isinstance(e, c), e the error that the suite holds at a -/
def uIsE (K : PySem.W.Frag) (cls : Value) (d : Option Addr) (a : Addr) : List V → Hp → VK → Prop := fun xs H Q => ∃ D, cls = .ref D ∧ d = none ∧ ExcC K D ∧ rIsE K D a xs H Q
theorem c_isE {oe : Obj} {pn : List (Addr × Obj)} (hz : Zc cls d oe) (hf : ∃ vs, oe.data = .fields vs) : CallR (X.suite a ((a, oe) :: pn)) (.builtin "isinstance") (uIsE X.K cls d a) := by
  intro pins s σ H xs us Q I r h
  obtain ⟨D, rfl, rfl, Cc, h⟩ := h
  exact L2.call_isE Cc hz hf pins s σ H xs us Q I r h
theorem c_isEK (K : PySem.W.Frag) {oe : Obj} {pn : List (Addr × Obj)} (hz : Zc cls d oe) (hf : ∃ vs, oe.data = .fields vs) (hK : X.K = K := by rfl) : CallR (X.suite a ((a, oe) :: pn)) (.builtin "isinstance") (uIsE K cls d a) := by
  subst hK
  exact c_isE hz hf
theorem r_isE {R T : Addr} {b : Bool} (Cc : ExcC K R) (e : PySem.W.kitOne K (.ref R) (.ref T) = some b) (q : Q (.bl b) H) : uIsE K (.ref R) none a [.ref a, .ref T] H Q :=
  ⟨R, rfl, rfl, Cc, .ref T, .ref T, b, rfl, fun _ r => r, e, q⟩
end
/-! ### of classes -/
theorem kit_true {K : PySem.W.Frag} {R T : Addr} (hd : PySem.W.hasDictIn K T = true) (ht : PySem.W.typeIn K (.ref T) = some (.type "type")) (h : PySem.W.subIn K (.ref R) (.ref T) = some true) : PySem.W.kitOne K (.ref R) (.ref T) = some true := by
  obtain ⟨cd, hc, _⟩ := PySem.W.any_some hd
  have e2 : ((PySem.W.clsIn K T).isSome && PySem.W.typeIn K (.ref T) == some (.type "type")) = true := by rw [hc, ht] <;> rfl
  unfold PySem.W.kitOne
  split
  · rfl
  · show (if ((PySem.W.clsIn K T).isSome && PySem.W.typeIn K (.ref T) == some (.type "type")) = true then PySem.W.subIn K (.ref R) (.ref T) else none) = some true
    rw [if_pos e2]
    exact h
theorem kit_false {K : PySem.W.Frag} {R T : Addr} (hd : PySem.W.hasDictIn K T = true) (ht : PySem.W.typeIn K (.ref T) = some (.type "type")) (hs : PySem.W.subIn K (.ref R) (.ref R) = some true) (h : PySem.W.subIn K (.ref R) (.ref T) = some false) : PySem.W.kitOne K (.ref R) (.ref T) = some false := by
  obtain ⟨cd, hc, _⟩ := PySem.W.any_some hd
  have e2 : ((PySem.W.clsIn K T).isSome && PySem.W.typeIn K (.ref T) == some (.type "type")) = true := by rw [hc, ht] <;> rfl
  have ne : ¬ ((Value.ref R == Value.ref T) = true) := fun z => by
    have e : R = T := Value.ref.inj (beq_iff_eq.mp z)
    subst e
    rw [hs] at h
    cases h
  unfold PySem.W.kitOne
  rw [if_neg ne]
  show (if ((PySem.W.clsIn K T).isSome && PySem.W.typeIn K (.ref T) == some (.type "type")) = true then PySem.W.subIn K (.ref R) (.ref T) else none) = some false
  rw [if_pos e2]
  exact h
/-! ### sorted(d), d by numbers, any number of them -/
def uSortedDW : List V → Hp → VK → Prop := fun xs H Q => ∃ (a : Addr) (kvs : List (Key × V)) (ks : List Int), xs = [.ref a] ∧ Rd H a (.dK kvs) ∧ kvs.map (·.1) = ks.map Sum.inl ∧ ks.length ≤ 100000 ∧
    ∀ (ys : List Int) (p : Addr), ys.Perm ks → ys.Pairwise (· ≤ ·) → H p = none → Q (.ref p) (upd H p (.lst (ys.map V.int)))
theorem c_sortedDW {X : Cx} (hcalm : X.calm = true) : CallR X (.builtin "sorted") uSortedDW := by
  intro pins s σ H xs us Q I r q
  obtain ⟨a, kvs, ks, ex, hd, hks, h64, q⟩ := q
  subst ex
  obtain ⟨u, eu, rx⟩ := vals1 r
  subst eu
  cases rx
  obtain ⟨z, lo, vs, rel, dd⟩ := dk_rd I.hok hd
  obtain ⟨ep, hat⟩ := dd.dictAt
  have hkeys : vs.map (·.1) = ks.map Sum.inl := rel.keys.symm.trans hks
  have hl : vs.length = ks.length := by
    have e := congrArg List.length hkeys
    rw [List.length_map, List.length_map] at e
    exact e
  have h16 : vs.length ≤ sizeLine := by rw [hl, sizeLine_eq]; omega
  refine Calls.call_function_entry PyProof.Rows.kind_sorted PyProof.Rows.plain_sorted PyProof.Rows.entry_sorted (PyProof.Rows.args_sorted1 _) ?_
  unfold Builtin.«sorted»
  refine wpAny_bind (m := checkCount "sorted" 1 1 _) (wpAny_pure ?_)
  refine wpAny_bind (PySem.W.kdu_collect (A := X.A.in1) (PySem.W.kdl_dict (knd := mixKind X.prog X.w) (kvs := vs) (ep := ep) lo) (I.ok.hd hcalm) hat h16 fun h' tk acc hk hacc => ?_)
  have hal : acc.toList.length = ks.length := by rw [Array.length_toList, hacc.1, hl]
  have hS : IntsAre acc.toList ks := ints_each hal fun j v e => by
    obtain ⟨k, x, e1, e2⟩ := hacc.2 j v (by rw [← Array.getElem?_toList]; exact e)
    have e3 : (vs.map (·.1))[j]? = some k := by rw [List.getElem?_map, e1]; rfl
    rw [hkeys, List.getElem?_map] at e3
    cases e4 : ks[j]? with
    | none => rw [e4] at e3; cases e3
    | some y =>
      rw [e4] at e3
      have e5 : Sum.inl y = k := Option.some.inj e3
      subst e5
      rcases keyIs_shape (show keyIs (Sum.inl y) v = true from e2) with ⟨i, t, ek, ev⟩ | ⟨z, t, ek, ev⟩
      · cases ek
        exact ⟨y, t, rfl, ev⟩
      · cases ek
  have I1 : Inv X pins σ H { s with heap := h', toks := tk } := I.kept hk
  have hz : acc.toList.length ≤ sizeLine := by rw [hal, sizeLine_eq]; omega
  refine wpAny_bind (wpAny_newList ?_ hz)
  have hoL : (h'.push (seqObj "list" acc.toList.toArray 0)).get? h'.objs.size = some (seqObj "list" acc.toList.toArray 0) := Heap.get?_push_size _ rfl
  show wpAny _ _ _ _ _ { s with heap := h'.push (seqObj "list" acc.toList.toArray 0), toks := tk }
  refine wpAny_bind (wpAny_holding (wpAny_call_entry PyProof.Rows.slot_list_sort ⟨_, hoL, rfl⟩ PyProof.Rows.entry_list_sort
    (SrtO.list_sort_ord (s := { s with heap := h'.push (seqObj "list" acc.toList.toArray 0), toks := tk }) SrtO.swo_int hoL hz (fun h2 => SrtO.ints_sortable hS h2) fun out o1 o2 => ⟨_, rfl, ?_⟩) (PyProof.Rows.args_list_sort _)))
  obtain ⟨k1, k2, k3⟩ := SrtO.ints_out hS o1 o2
  obtain ⟨e', he'⟩ := PyProof.Rows.sortedHeap_at (vs := acc.toList) (out := out.toArray) hoL
  have hlen : ((out.map SrtO.iv).map V.int).length ≤ sizeLine := by
    rw [List.length_map, k2.length_eq, sizeLine_eq]
    omega
  refine wpAny_pure ⟨_, rfl, .ref h'.objs.size, upd H h'.objs.size (.lst ((out.map SrtO.iv).map V.int)), I1.laid (t' := tk) (fun b u e => ?_) (Nat.le_refl _)
    (show ObjOk X.prog X.w _ _ _ (.lst ((out.map SrtO.iv).map V.int)) from ⟨hlen, out, e', vals_of_ints k1, he'⟩), rfl, q _ _ k2 k3 (I1.hok.fresh (Nat.le_refl _))⟩
  have hb : b < h'.objs.size := Heap.lt_size e
  rw [PyProof.Rows.sortedHeap_old (Nat.ne_of_lt hb) (by rw [size_push']; exact Nat.lt_succ_of_lt hb)]
  exact Heap.get?_push_of_some _ e
theorem r_sortedDW {H : Hp} {Q : VK} {a : Addr} {m : Prs} (hd : H a = some (.dK (m.map inj))) (hl : m.length ≤ 100000) (q : ∀ (ys : List Int) p H', ys.Perm (m.map (·.1)) → ys.Pairwise (· ≤ ·) → H p = none → Same H H' → H' p = some (.lst (ys.map V.int)) → Q (.ref p) H') : uSortedDW [.ref a] H Q :=
  ⟨a, m.map inj, m.map (·.1), rfl, .inl hd, by rw [List.map_map, List.map_map]; rfl, by simpa using hl, fun ys p h1 h2 h3 => q ys p _ h1 h2 h3 (Keep.same (Keep.new h3)) upd_same⟩
/-! ### d == {} -/
section
variable {X : Cx} {H : Hp} {Q : VK} {a b : Addr}
def uEqNoD : R2 := fun x y H Q => ∃ (a b : Addr) (kvs : List (Key × V)), x = .ref a ∧ y = .ref b ∧ H a = some (.dK kvs) ∧ H b = some (.dK []) ∧ Q (.bl (decide (kvs = []))) H
theorem o_eqNoD (hu : X.A.units + 64 < cLine) : OpR X (compareOp .Eq) uEqNoD := by
  intro pins s σ H x y v u Q I rx ry h
  obtain ⟨a, b, kvs, rfl, rfl, ha, hb, q⟩ := h
  obtain rfl : v = Value.ref a := rx
  obtain rfl : u = Value.ref b := ry
  obtain ⟨_, ya, va, ra, da⟩ := (show ObjOk X.prog X.w H s.heap a (.dK kvs) from I.hok a _ ha)
  obtain ⟨_, yb, vb, rb, db⟩ := (show ObjOk X.prog X.w H s.heap b (.dK []) from I.hok b _ hb)
  cases rb
  cases kvs with
  | nil =>
    cases ra
    exact PySem.W.rcP_dicts (knd := mixKind X.prog X.w) (r := true) ya yb da db (by omega) (fun _ => .nil) _ _ ⟨.bl true, H, I, rfl, q⟩
  | cons x r =>
    have hl := ra.length
    refine PySem.W.rcP_dicts (knd := mixKind X.prog X.w) (r := true) ya yb da db (by omega) (fun z => ?_) _ _ ⟨.bl false, H, I, ?_, q⟩
    · rw [← hl] at z
      simp at z
    · rw [← hl]
      rfl
theorem r_eqNoD {m : Prs} (ha : H a = some (.dK (m.map inj))) (hb : H b = some (.dK [])) (q : Q (.bl (decide (m = []))) H) : uEqNoD (.ref a) (.ref b) H Q := by
  refine ⟨a, b, _, rfl, rfl, ha, hb, ?_⟩
  have e : decide (m.map inj = []) = decide (m = []) := by cases m <;> rfl
  rw [e]
  exact q
end
/-! ### a comprehension, one object p being changed in each turn, the turns counted -/
section
variable {K : PySem.W.Frag} {σ : L2.St} {H H' : Hp} {Q : VK} {te : TE} {tt : TT} {g : TG} {vs : List Nat} {J : It} {src : Hp → Prop} {item : Nat → Hp → V → Hp → Prop} {a : Addr}
theorem lc_genKi {α : Type} {p : Addr} (I : Nat → Hp → Prop) (h0 : I 0 H) (hne : ∀ D, H D = none → D ≠ p) (hU : ∀ i H1 D ys, H D = none → I i H1 → (H1 D = none ∨ ∃ l, H1 D = some (.lst l)) → I i (upd H1 D (.lst ys))) (hT : ∀ i H1 H2, I i H1 → Keep (At p) H1 H2 → TExt H1 H2)
    (as : List α) (It1 : α → V → Hp → Prop) (w : Wk J as.length src item) (hit : ∀ i H x H', i < as.length → item i H x H' → ∃ c, as[i]? = some c ∧ H' = H ∧ It1 c x H') (hsrc : ∀ H', Keep (At p) H H' → (∃ i, I i H') → src H')
    (hn : as.length ≤ 16777216) (R : Hp → α → V → Prop) (hR : ∀ H H' c y, TExt H H' → R H c y → R H' c y)
    (hs : ∀ j c x H2 (S : VK) (N : Hp → Prop), as[j]? = some c → Keep (At p) H H2 → I j H2 → It1 c x H2 → (∀ y H3, Keep (At p) H2 H3 → I (j + 1) H3 → R H3 c y → S y H3) →
      g x (wipe σ vs) H2 fun σ2 H3 => wipe σ2 vs = wipe σ vs ∧ tYes σ2 H3 fun b H4 => if b = true then te σ2 H4 S else N H4)
    (q : ∀ D H' ys, H D = none → Keep (At p) H H' → I as.length H' → H' D = some (.lst ys) → Paired (R H') as ys → Q (.ref D) H') : LcW J g tYes te vs σ H Q := by
  refine lc_wk w (fun D i H' => H D = none ∧ Keep (At p) H H' ∧ I i H' ∧ ∃ ys, H' D = some (.lst ys) ∧ Paired (R H') (as.take i) ys) (fun D hD => ⟨hD, fun b o e _ => by rw [upd_ne (ne_of_none e hD)]; exact e, hU _ _ _ _ hD h0 (.inl hD), [], by simp [upd_same], by simpa using Paired.nil⟩)
    (fun D i H' _ p => hsrc H' p.2.1 ⟨_, p.2.2.1⟩) ?_ (fun D H' hD p => by obtain ⟨p1, p2, p3, ys, p4, p5⟩ := p; rw [List.take_length] at p5; exact q D H' ys hD p2 p3 p4 p5)
  rintro D i x H2 H' hD hi ⟨p1, p2, p3, ys, p4, p5⟩ hx
  obtain ⟨c, hc, rfl, hI⟩ := hit i H2 x H' hi hx
  refine hs i c x H' _ _ hc p2 p3 hI (fun y H3 k3 i3 r3 => ⟨ys, k3 _ _ p4 (hne D hD), by rw [sizeLine_eq, ← p5.length, List.length_take]; omega, hD, ?_, hU _ _ _ _ hD i3 (.inr ⟨ys, k3 _ _ p4 (hne D hD)⟩), ys ++ [y], upd_same, ?_⟩)
  · exact (p2.trans k3).free hD
  · have e3 := k3 _ _ p4 (hne D hD)
    have t3 := hT _ _ _ p3 k3
    have t4 : TExt H3 (upd H3 D (.lst (ys ++ [y]))) := TExt.lst Keep.at_ e3
    rw [take_snoc hc]
    exact (Paired.mapP p5 fun u z r => hR _ _ _ _ (t3.trans t4) r).snoc (hR _ _ _ _ t4 r3)
end
/-! ### isinstance of the caught error: a built-in class, a tuple of classes -/
section
variable {X : Cx} {K : PySem.W.Frag} {H : Hp} {Q : VK} {a : Addr} {cls : Value} {d : Option Addr}
/-- isinstance(e, T), T a built-in class -/
theorem r_isET {R : Addr} {T : String} {b : Bool} (Cc : ExcC K R) (e : PySem.W.kitOne K (.ref R) (.type T) = some b) (q : Q (.bl b) H) : uIsE K (.ref R) none a [.ref a, .ty T] H Q :=
  ⟨R, rfl, rfl, Cc, .ty T, .type T, b, rfl, fun _ r => r, e, q⟩
/-- isinstance(e, (c1, c2, ..)) -/
def uIsEA (K : PySem.W.Frag) (cls : Value) (d : Option Addr) (a : Addr) : List V → Hp → VK → Prop := fun xs H Q => ∃ (D tp : Addr) (cs : List V) (us : List Value) (b : Bool), cls = .ref D ∧ d = none ∧ ExcC K D ∧ xs = [.ref a, .ref tp] ∧ H tp = some (.tup cs) ∧ Paired ClsV cs us ∧ PySem.W.kitAny K (.ref D) us = some b ∧ Q (.bl b) H
theorem c_isEA {oe : Obj} {pn : List (Addr × Obj)} (hz : Zc cls d oe) (hf : ∃ vs, oe.data = .fields vs) : CallR (X.suite a ((a, oe) :: pn)) (.builtin "isinstance") (uIsEA X.K cls d a) := by
  intro pins s σ H xs us Q I r h
  obtain ⟨D, tp, cs, ws, b, rfl, rfl, C, rfl, hT, k, e, q⟩ := h
  obtain ⟨u1, u2, rfl, r1, r2⟩ := vals2 r
  cases (show u1 = Value.ref a from r1)
  cases (show u2 = Value.ref tp from r2)
  obtain ⟨hget, _⟩ := I.pin (a, oe) (List.mem_append.mpr (.inl List.mem_cons_self))
  obtain ⟨vs, hv⟩ := hf
  have J : PySem.W.InstAt s.heap a oe D none := by
    obtain ⟨oc, od, oda, osl⟩ := oe
    obtain ⟨h1, h2⟩ := hz
    dsimp only at h1 h2 hv
    subst h1 h2 hv
    exact ⟨hget, rfl, rfl, trivial⟩
  obtain ⟨_, its, rv, o, h1, h2, n, h3⟩ := (show ObjOk X.prog X.w H s.heap tp (.tup cs) from I.hok tp _ hT)
  have e3 := ClsV.all k rv
  subst e3
  obtain ⟨oc, od, dt, sl⟩ := o
  simp only at h2 h3
  subst h2 h3
  exact PySem.W.kia_tup (PySem.W.handS_kitx_exc C.hg C.hk C.hs C.hd C.ha C.hn C.ht C.hm) I.kIn J h1 e (fun z => nomatch z) fun tk => ⟨.bl b, H, I.kept (t' := tk) fun _ _ z => z, rfl, q⟩
theorem c_isEAK (K : PySem.W.Frag) {oe : Obj} {pn : List (Addr × Obj)} (hz : Zc cls d oe) (hf : ∃ vs, oe.data = .fields vs) (hK : X.K = K := by rfl) : CallR (X.suite a ((a, oe) :: pn)) (.builtin "isinstance") (uIsEA K cls d a) := by
  subst hK
  exact c_isEA hz hf
/-- of classes none of which the error is of -/
inductive NoneOf (K : PySem.W.Frag) (R : Addr) : List Addr → Prop where
  | nil : NoneOf K R []
  | cons {T : Addr} {Ts : List Addr} : PySem.W.kitOne K (.ref R) (.ref T) = some false → NoneOf K R Ts → NoneOf K R (T :: Ts)
theorem NoneOf.any {R : Addr} : ∀ {Ts : List Addr}, NoneOf K R Ts → PySem.W.kitAny K (.ref R) (Ts.map Value.ref) = some false
  | _, .nil => rfl
  | _, .cons h t => kitAny_cons h (fun _ => t.any) (fun z => by cases z)
theorem clsV_refs : ∀ Ts : List Addr, Paired ClsV (Ts.map V.ref) (Ts.map Value.ref)
  | [] => .nil
  | T :: Ts => .cons (.own T) (clsV_refs Ts)
theorem r_isEA {R tp : Addr} {Ts : List Addr} (Cc : ExcC K R) (h : H tp = some (.tup (Ts.map V.ref))) (n : NoneOf K R Ts) (q : Q (.bl false) H) : uIsEA K (.ref R) none a [.ref a, .ref tp] H Q :=
  ⟨R, tp, _, _, false, rfl, rfl, Cc, rfl, h, clsV_refs Ts, n.any, q⟩
end
/-! rules whose K is told (a suite's context hides it) -/
theorem o_eqK {X : Cx} (K : PySem.W.Frag) (hu : X.A.units + 64 < cLine) (hK : X.K = K := by rfl) : OpR X (compareOp .Eq) (uEq K) := hK ▸ o_eq hu
theorem o_neK {X : Cx} (K : PySem.W.Frag) (hu : X.A.units + 64 < cLine) (hK : X.K = K := by rfl) : OpR X (compareOp .NotEq) (uNe K) := hK ▸ o_ne hu
theorem o_inSeq {X : Cx} (K : PySem.W.Frag) (hK : X.K = K := by rfl) : OpR X (compareOp .In) (rIn K false) := hK ▸ op_in_seq
/-! C(..) within a try -/
section
variable {X : Cx} {σ : L2.St} {H : Hp} {Q : VK} {k j : Nat} {ps : List Str} {sp : Sp} {E : L2.St → XK} {x : Str} {p pos : Pos} {e : Expr} {es : List Expr} {t : TA} {C : Addr}
def tMakeUS (C : Addr) (sp : Sp) (E : L2.St → XK) (t : TA) : TE := fun σ H Q => t σ H fun vs H1 => uMake C sp [] (E σ) vs H1 Q
theorem r_makeS (q : t σ H fun vs H1 => uMake C sp [] (E σ) vs H1 Q) : tMakeUS C sp E t σ H Q := q
theorem pe_makeS (G : PFn X.prog X.w X.K X.mg X.base k C ps sp) (T : ClT X.K X.mg x C) (hr : Room (j + 1) X.A) (hx : ∀ σ, PassesAt (L2.CX X.prog X.w) X σ (E σ)) (ha : PA X (e :: es) t) (hk : k ≤ j := by decide) (hg : Gl X x := by rfl)
    (hdb : (x == ("__debug__" : Str)) = false := by decide) (he : starEach (e :: es) X.env = (false, eval e X.env) :: starEach es X.env := by rfl) (hpl : (backTo pos (starEach es X.env)).any (·.1) = false := by rfl) :
    PE X (.Call (.Name x p) (e :: es) [] pos) (tMakeUS C sp E t) := by
  obtain ⟨f, fd, M, hb, F0⟩ := G.ex
  have F := F0.mono hk
  refine ⟨fun pins s σ H Q I h => ?_⟩
  refine wpAny_Call_Name_kw (ld_glob I hg T.g ?_ hdb)
  refine PySem.W.callWith_K (h₀ := X.base) I.ok.mod.kin M.kp (thn (ha.run pos pins s σ H _ I h) fun us s1 ⟨vs, H1, I1, r, q⟩ => ⟨I1.kIn, ?_⟩) he hpl
  -- the instance is made, then __init__ runs on it
  have hq := q (s1.heap.objs.size + 1) s1.heap.objs.size (I1.hok.fresh (Nat.le_succ _)) (I1.hok.fresh (Nat.le_refl _)) (Nat.ne_of_lt (Nat.lt_succ_self _))
  rw [List.append_nil] at hq
  have I2 := Inv.made (C := C) I1
  have r2 : Vals (V.ref (s1.heap.objs.size + 1) :: vs) (Value.ref (s1.heap.objs.size + 1) :: us) := .cons rfl r
  have hl : (Value.ref (s1.heap.objs.size + 1) :: us).length = ps.length := by
    rw [← r2.length, F.len _ _ _ _ hq]
  have bnd := hb _ (Value.ref (s1.heap.objs.size + 1) :: us) I2.kIn (by simpa using hl)
  rw [List.append_nil] at bnd
  refine wpAny_call (make_map (f := f) I1.kIn M.makes M.init (beq_iff_eq.mp M.fn) (codeAny_mono (F.run _ X.stack _ _ ⟨Value.ref (s1.heap.objs.size + 1) :: us, []⟩ (Value.ref (s1.heap.objs.size + 1) :: us) _ _ (E σ) (hr.make C us [])
    (I2.env0.make C us []) bnd r2 hq) fun r s' hq' => ?_))
  cases r with
  | error e => exact hx σ pins _ _ e s' I2 hq'
  | ok fl =>
    cases fl with
    | ret u =>
      obtain ⟨v, H', I3, rv, ev, q3⟩ := I2.after hq'
      subst ev
      exact ⟨rv, ⟨V.ref (s1.heap.objs.size + 1), H', I3, rfl, q3⟩⟩
    | next => exact False.elim hq'
    | brk => exact False.elim hq'
    | cont => exact False.elim hq'
end
end Fp
/-! defs that are asked of the error that a suite holds -/
namespace Fp
open PySem PySem.Spec PyProof.Rows L2
open L2H (RoomH PinOk cxH)
/-- what such a def promises; the error is p -/
structure FnE (P : Program) (w : World) (K : PySem.W.Frag) (mg : Str → Option Value) (base : Heap) (k : Nat) (f : Addr) (fd : FuncData) (ps : List Str) (sp : Addr × Obj → Sp) : Prop where
  len : ∀ p vs H Q E, sp p vs H Q E → vs.length = ps.length
  run : ∀ (A : Around) (outer : List Env) (s : Shared) (H : Hp) (args : Args) (us : List Value) (vs : List V) (Q : VK) (E : XK) (p : Addr × Obj), RoomH k A → PinOk outer H s p → Env0 P w K mg base A outer s H → BindsTo s fd args (ps.zip us) → Vals vs us → sp p vs H Q E →
    codeAny (model P w) A (.call (.ref f) args) (CR CX0 outer P w H s Q E) s
structure FnX (P : Program) (w : World) (K : PySem.W.Frag) (mg : Str → Option Value) (base : Heap) (k : Nat) (x : Str) (ps : List Str) (sp : Addr × Obj → Sp) : Prop where
  ex : ∃ f fd, mg x = some (.ref f) ∧ PySem.W.keepIn K (.ref f) = true ∧ Binds K fd ps [] ∧ FnE P w K mg base k f fd ps sp
section
variable {P : Program} {w : World} {K : PySem.W.Frag} {mg : Str → Option Value} {base : Heap}
theorem fnE_of {k : Nat} {f : Addr} {name qual : Str} {params : Arguments} {body : List Stmt} {scope : Scope} {dV kV doc pm cdv ct oc : Value} {an od : Option Addr} {osl : Array (Option Value)} {N ps : List Str} {sp : Addr × Obj → Sp}
    (there : K.lookup f = some ⟨oc, od, .func (PySem.W.fnOf name qual params body scope dV kV doc pm an cdv ct), osl⟩) (code : PySem.W.codeIn K cdv qual = true) (S : FnScope N ps scope) (len : ∀ p vs H Q E, sp p vs H Q E → vs.length = ps.length)
    (walks : ∀ (A : Around) (outer : List Env) (s : Shared) (H : Hp) (vs : List V) (Q : VK) (E : XK) (p : Addr × Obj), RoomH k (A.deeper (envOfC qual scope s.heap.objs.size f cdv)) → sp p vs H Q E →
      ∃ t, PSs (cxH CX0 P w K mg base N qual scope f cdv A outer s H E p) body t ∧ t { nx := fun _ H' => Q .non H', rt := Q } (L2.start N vs) H) :
    FnE P w K mg base (k + 1) f (PySem.W.fnOf name qual params body scope dV kV doc pm an cdv ct) ps sp := by
  refine ⟨len, fun A outer s H args us vs Q E p room pin env bound vals says => ?_⟩
  have all : K.In s.heap := env.mod.kin.keeps fun b o e => (env.bs b o e).1
  have free : s.heap.NoLimit := env.mod.nolimit.keeps fun b o e => (env.bs b o e).1
  have kinds : ∀ y ∈ ps.zip us, scope.names.lookup y.1 = some .local ∨ (scope.names.lookup y.1 = some .cell ∧ ((cellsFrom (s.heap.objs.size + 1) scope.names []).lookup y.1).isSome = true) := fun y hy => by
    obtain ⟨n, v⟩ := y
    exact (S.par n (List.of_mem_zip hy).1).imp id fun z => ⟨z, PySem.W.cellsFrom_some _ _ _ (.inl z)⟩
  refine codeAny_call_function room.depth (all _ _ there) rfl S.co S.gen rfl (PySem.W.codeRec_of all code) (bound _ _ _ _ (wpAny_newFunctionEnv_cells S.kind kinds fun e he s1 x => ?_))
  subst he
  obtain ⟨t, ht, want⟩ := walks A outer s H vs Q E p (room.deeper _) says
  refine ⟨free.keeps x.toInCall.keep, codeAny_func (wpAny_mono (ht.run [] s1 (L2.start N vs) H _ (L2H.inv_startH S pin env (len _ _ _ _ _ says) vals x) want) (fun fl t1 hs => ?_) fun e t1 hs => hs)⟩
  cases fl with
  | ret u => obtain ⟨v, σ', H', J, rv, q⟩ := hs; exact ⟨v, H', J.os, J.bare, J.base, J.hok, rv, q⟩
  | next => obtain ⟨σ', H', J, q⟩ := hs; exact ⟨.non, H', J.os, J.bare, J.base, J.hok, rfl, q⟩
  | brk => obtain ⟨_, _, _, q⟩ := hs; exact False.elim q
  | cont => obtain ⟨_, _, _, q⟩ := hs; exact False.elim q
theorem Def.okE {x : Str} {st : Stmt} {N ps : List Str} {k : Nat} {sp : Addr × Obj → Sp} (D : Def K mg x st ps) (S : FnScope N ps (defScope st)) (len : ∀ p vs H Q E, sp p vs H Q E → vs.length = ps.length)
    (walks : ∀ (f : Addr) (cdv : Value) (A : Around) (outer : List Env) (s : Shared) (H : Hp) (vs : List V) (Q : VK) (E : XK) (p : Addr × Obj), RoomH k (A.deeper (envOfC x (defScope st) s.heap.objs.size f cdv)) → sp p vs H Q E →
      ∃ t, PSs (cxH CX0 P w K mg base N x (defScope st) f cdv A outer s H E p) (defBody st) t ∧ t { nx := fun _ H' => Q .non H', rt := Q } (L2.start N vs) H) : FnX P w K mg base (k + 1) x ps sp := by
  obtain ⟨f, fd, F, hm, hb⟩ := D.ex
  refine ⟨f, fd, hm, F.kp, hb, ?_⟩
  obtain ⟨oc, od, kV, doc, pm, an, cdv, ct, osl, rfl, there, code⟩ := F.ex
  exact fnE_of there code S len fun A outer s H vs Q E p room says => walks f cdv A outer s H vs Q E p room says
end
theorem _root_.L2H.RoomH.units {k : Nat} {A : Around} (r : RoomH k A) : A.units + 64 < cLine := by have := r.un; omega
section
variable {X : Cx} {k j : Nat} {ps : List Str} {sp : Addr × Obj → Sp} {x : Str} {p pos : Pos} {e : Expr} {es : List Expr} {t : TA} {a : Addr} {oe : Obj} {pn : List (Addr × Obj)} {cls : Value} {d : Option Addr} {σ : L2.St} {H : Hp} {Q : VK}
/-- f(e), e the error that the suite holds at a -/
def tErr (cls : Value) (d : Option Addr) (a : Addr) (sp : Addr × Obj → Sp) (t : TA) : TE := fun σ H Q => t σ H fun vs H1 => ∀ oe : Obj, Zc cls d oe → (∃ vs, oe.data = .fields vs) → sp (a, oe) vs H1 Q E0
theorem pe_callErr (F : FnX X.prog X.w X.K X.mg X.base k x ps sp) (hr : Room j X.A) (hz : Zc cls d oe) (hf : ∃ vs, oe.data = .fields vs) (ha : PA (X.suite a ((a, oe) :: pn)) (e :: es) t) (hk : k ≤ j := by decide) (hg : Gl (X.suite a ((a, oe) :: pn)) x := by rfl)
    (hdb : (x == ("__debug__" : Str)) = false := by decide) (he : starEach (e :: es) (X.suite a ((a, oe) :: pn)).env = (false, eval e (X.suite a ((a, oe) :: pn)).env) :: starEach es (X.suite a ((a, oe) :: pn)).env := by rfl) (hpl : (backTo pos (starEach es (X.suite a ((a, oe) :: pn)).env)).any (·.1) = false := by rfl) :
    PE (X.suite a ((a, oe) :: pn)) (.Call (.Name x p) (e :: es) [] pos) (tErr cls d a sp t) := by
  obtain ⟨f, fd, hm, hkp, hb, G⟩ := F.ex
  have room : RoomH k (X.suite a ((a, oe) :: pn)).A := ⟨by have := hr.dp; show X.A.depth + 3 * k + 5 < _; omega, by have := hr.un; show X.A.units + 16 * k + 200 < _; omega⟩
  refine ⟨fun pins s σ H Q I h => wpAny_Call_Name_kw (ld_glob I hg hm ?_ hdb)⟩
  refine PySem.W.callWith_K (h₀ := X.base) I.ok.mod.kin hkp (thn (ha.run pos pins s σ H _ I h) fun us s1 ⟨vs, H1, I1, r, q⟩ => ⟨I1.kIn, ?_⟩) he hpl
  have q := q oe hz hf
  have hl : us.length = ps.length := by rw [← r.length]; exact G.len _ _ _ _ _ q
  have bnd := hb s1 us I1.kIn (by rw [List.append_nil]; exact hl)
  rw [List.append_nil] at bnd
  obtain ⟨g1, g2, g3, g4, g5⟩ := I1.pin (a, oe) (List.mem_append_left _ List.mem_cons_self)
  have pin : PinOk (X.suite a ((a, oe) :: pn)).stack H1 s1 (a, oe) := ⟨g1, g2, fun hm => (List.mem_cons.mp (I1.stkSub a hm)).elim g3 g4, g5⟩
  refine wpAny_call (codeAny_mono (G.run _ _ s1 H1 ⟨us, []⟩ us vs Q E0 (a, oe) room pin I1.env0 bnd r q) fun r s' hq => ?_)
  cases r with
  | error e => exact False.elim hq
  | ok fl =>
    cases fl with
    | ret u => exact I1.after hq
    | next => exact False.elim hq
    | brk => exact False.elim hq
    | cont => exact False.elim hq
theorem r_callErr (q : t σ H fun vs H1 => ∀ oe : Obj, Zc cls d oe → (∃ vs, oe.data = .fields vs) → sp (a, oe) vs H1 Q E0) : tErr cls d a sp t σ H Q := q
end
/-! isinstance(e, C) in such a def -/
section
variable {X : Cx} {K : PySem.W.Frag} {H : Hp} {Q : VK} {a : Addr} {oe : Obj}
/-- isinstance(e, ..): of one class, or of a tuple of classes -/
def uIsP (K : PySem.W.Frag) (p : Addr × Obj) : List V → Hp → VK → Prop := fun xs H Q => ∃ D, Zc (.ref D) none p.2 ∧ (∃ vs, p.2.data = .fields vs) ∧ ExcC K D ∧ ((∃ (c : V) (cv : Value) (b : Bool), xs = [.ref p.1, c] ∧ (∀ u, RelV c u → u = cv) ∧ PySem.W.kitOne K (.ref D) cv = some b ∧ Q (.bl b) H) ∨
  ∃ (tp : Addr) (cs : List V) (us : List Value) (b : Bool), xs = [.ref p.1, .ref tp] ∧ H tp = some (.tup cs) ∧ Paired ClsV cs us ∧ PySem.W.kitAny K (.ref D) us = some b ∧ Q (.bl b) H)
theorem c_isP {p : Addr × Obj} (hp : p ∈ X.pn) : CallR X (.builtin "isinstance") (uIsP X.K p) := by
  intro pins s σ H xs us Q I r h
  obtain ⟨D, hz, ⟨fs, hv⟩, C, h⟩ := h
  obtain ⟨a, oe⟩ := p
  obtain ⟨hget, _⟩ := I.pin (a, oe) (List.mem_append.mpr (.inl hp))
  have J : PySem.W.InstAt s.heap a oe D none := by
    obtain ⟨oc, od, oda, osl⟩ := oe
    obtain ⟨h1, h2⟩ := hz
    dsimp only at h1 h2 hv
    subst h1 h2 hv
    exact ⟨hget, rfl, rfl, trivial⟩
  rcases h with ⟨c, cv, b, rfl, hcv, e, q⟩ | ⟨tp, cs, ws, b, rfl, hT, k, e, q⟩
  · obtain ⟨u1, u2, rfl, r1, r2⟩ := vals2 r
    cases (show u1 = Value.ref a from r1)
    have ec := hcv _ r2
    subst ec
    exact PySem.W.kia_one (PySem.W.handS_kitx_exc C.hg C.hk C.hs C.hd C.ha C.hn C.ht C.hm) I.kIn J e (fun z => nomatch z) fun tk => ⟨.bl b, H, I.kept (t' := tk) fun _ _ z => z, rfl, q⟩
  · obtain ⟨u1, u2, rfl, r1, r2⟩ := vals2 r
    cases (show u1 = Value.ref a from r1)
    cases (show u2 = Value.ref tp from r2)
    obtain ⟨_, its, rv, o, g1, g2, n, g3⟩ := (show ObjOk X.prog X.w H s.heap tp (.tup cs) from I.hok tp _ hT)
    have e3 := ClsV.all k rv
    subst e3
    obtain ⟨oc, od, dt, sl⟩ := o
    simp only at g2 g3
    subst g2 g3
    exact PySem.W.kia_tup (PySem.W.handS_kitx_exc C.hg C.hk C.hs C.hd C.ha C.hn C.ht C.hm) I.kIn J g1 e (fun z => nomatch z) fun tk => ⟨.bl b, H, I.kept (t' := tk) fun _ _ z => z, rfl, q⟩
theorem c_isPK (K : PySem.W.Frag) {p : Addr × Obj} (hp : p ∈ X.pn) (hK : X.K = K := by rfl) : CallR X (.builtin "isinstance") (uIsP K p) := hK ▸ c_isP hp
theorem r_isP {p : Addr × Obj} {R T : Addr} {b : Bool} (hz : Zc (.ref R) none p.2) (hf : ∃ vs, p.2.data = .fields vs) (Cc : ExcC K R) (e : PySem.W.kitOne K (.ref R) (.ref T) = some b) (q : Q (.bl b) H) : uIsP K p [.ref p.1, .ref T] H Q :=
  ⟨R, hz, hf, Cc, .inl ⟨.ref T, .ref T, b, rfl, fun u r => r, e, q⟩⟩
theorem r_isPT {p : Addr × Obj} {R tp : Addr} {Ts : List Addr} (hz : Zc (.ref R) none p.2) (hf : ∃ vs, p.2.data = .fields vs) (Cc : ExcC K R) (h : H tp = some (.tup (Ts.map V.ref))) (n : NoneOf K R Ts) (q : Q (.bl false) H) : uIsP K p [.ref p.1, .ref tp] H Q :=
  ⟨R, hz, hf, Cc, .inr ⟨tp, _, _, false, rfl, h, clsV_refs Ts, n.any, q⟩⟩
end
end Fp
/-! tuples without a dict of their own; dict(a tuple of pairs) -/
namespace Fp
open PySem PySem.Spec PyProof.Rows L2
/-- a tuple that is known to have no dict of its own -/
def BareT (H : Hp) (a : Addr) (xs : List V) : Prop := ∃ o, H a = some (.frz o (.tup xs)) ∧ o.dict = none
theorem BareT.sqt {K : PySem.W.Frag} {H : Hp} {a : Addr} {xs : List V} (h : BareT H a xs) : SqT K H a xs := by
  obtain ⟨o, e, _⟩ := h
  exact .inl (.inr ⟨o, e⟩)
theorem BareT.text {H H' : Hp} {a : Addr} {xs : List V} (h : BareT H a xs) (t : TExt H H') : BareT H' a xs := by
  obtain ⟨o, e, d⟩ := h
  exact ⟨o, t.f _ _ _ e, d⟩
theorem BareT.same {H H' : Hp} {a : Addr} {xs : List V} (h : BareT H a xs) (s : Same H H') : BareT H' a xs := h.text (TExt.of_same s)
def uNewB (xs : List V) (H : Hp) (Q : VK) : Prop := xs.length ≤ sizeLine ∧ ∀ p o, H p = none → o.dict = none → Q (.ref p) (upd H p (.frz o (.tup xs)))
theorem r_newB {xs : List V} {H : Hp} {Q : VK} (hn : xs.length ≤ sizeLine) (q : ∀ p H', H p = none → Same H H' → BareT H' p xs → Q (.ref p) H') : uNewB xs H Q :=
  ⟨hn, fun p o hp ho => q p _ hp (Keep.same (Keep.new hp)) ⟨o, upd_same, ho⟩⟩
def tTupB (t : TA) : TE := fun σ H Q => t σ H fun xs H1 => uNewB xs H1 Q
section
variable {X : Cx} {es : List Expr} {t : TA} {pos : Pos} {σ : St} {H : Hp} {Q : VK}
theorem pe_tupB {x1} (h : PA X es t) : PE X (.Tuple es x1 pos) (tTupB t) := by
  refine ⟨fun pins s σ H Q I hq => ?_⟩
  refine wpAny_Tuple_spliced (thn (h.run pos pins s σ H _ I hq) fun us s1 ⟨xs, H1, I1, r, z, q⟩ => ⟨by rw [← r.length]; exact z, ?_⟩)
  have hf : H1 s1.heap.objs.size = none := I1.hok.fresh (Nat.le_refl _)
  refine ⟨.ref s1.heap.objs.size, upd H1 s1.heap.objs.size (.frz { cls := .type "tuple", data := .seq us.toArray } (.tup xs)), I1.laid (t' := s1.toks) (fun b u e => Heap.get?_push_of_some _ e) (Nat.le_refl _) ?_, rfl, q _ _ hf rfl⟩
  exact ⟨Heap.get?_push_size _ rfl, z, us, r, ⟨_, Heap.get?_push_size _ rfl, rfl, _, rfl⟩⟩
theorem r_tupB (q : t σ H fun xs H1 => uNewB xs H1 Q) : tTupB t σ H Q := q
/-- a + b of tuples, b not empty -/
def rCatB (K : PySem.W.Frag) : V → V → Hp → VK → Prop := fun x y H Q => ∃ a b xs ys, x = .ref a ∧ y = .ref b ∧ SqT K H a xs ∧ SqT K H b ys ∧ ys ≠ [] ∧ xs.length + ys.length ≤ sizeLine ∧ (xs = [] → Q (.ref b) H) ∧ (xs ≠ [] → uNewB (xs ++ ys) H Q)
theorem op_catB : OpR X (binaryOp .Add) (rCatB X.K) := by
  intro pins s σ H x y v u Q I rx ry h
  obtain ⟨a, b, xs, ys, rfl, rfl, ha, hb, hy, hz, q1, q2⟩ := h
  cases rx
  cases ry
  obtain ⟨its, r1, p1, _⟩ := I.tuple ha
  obtain ⟨its2, r2, p2, _⟩ := I.tuple hb
  by_cases hx : xs = []
  · subst hx
    cases r1
    exact cat_tup0 p1 p2 ⟨.ref b, H, I, rfl, q1 rfl⟩
  · refine HT.cat_tup p1 p2 (fun z => hx (r1.nil_iff.mp z)) (fun z => absurd (r2.nil_iff.mp z) hy) (fun z => ?_) (by rw [← r1.length, ← r2.length]; exact hz)
    refine ⟨.ref s.heap.objs.size, upd H s.heap.objs.size (.frz { cls := .type "tuple", data := .seq (its ++ its2).toArray } (.tup (xs ++ ys))), I.laid (t' := s.toks) (fun b ob q => Heap.get?_push_of_some _ q) (Nat.le_refl _) ?_, rfl, (q2 hx).2 _ _ (I.hok.fresh (Nat.le_refl _)) rfl⟩
    exact ⟨Heap.get?_push_size _ rfl, by rw [List.length_append]; exact hz, _, r1.append r2, IsTup.new _ _⟩
theorem r_catB {K : PySem.W.Frag} {a b : Addr} {xs ys : List V} (ha : SqT K H a xs) (hb : BareT H b ys) (hy : ys ≠ []) (hz : xs.length + ys.length ≤ 16777216) (q : ∀ p H', Same H H' → BareT H' p (xs ++ ys) → Q (.ref p) H') : rCatB K (.ref a) (.ref b) H Q := by
  refine ⟨a, b, xs, ys, rfl, rfl, ha, hb.sqt, hy, sz_le hz, fun h => ?_, fun _ => r_newB (sz_le (by rw [List.length_append]; exact hz)) fun p H' _ s e => q p H' s e⟩
  subst h
  exact q b H (Same.refl _) hb
theorem log2_b {i : Int} {n : Nat} (h : i.natAbs < 2 ^ n) (hn : n ≤ 1920 := by decide) : i.natAbs.log2 < 1920 := by
  by_cases z : i.natAbs = 0
  · rw [z]; decide
  · exact Nat.lt_of_lt_of_le ((Nat.log2_lt z).mpr h) hn
/-- tuple(a list) -/
def uTupleB (K : PySem.W.Frag) : List V → Hp → VK → Prop := fun xs H Q => ∃ p ys, xs = [.ref p] ∧ SqL K H p ys ∧ ∀ l o, H l = none → o.dict = none → Q (.ref l) (upd H l (.frz o (.tup ys)))
theorem c_tupleB : CallR X (.type "tuple") (uTupleB X.K) := by
  intro pins s σ H xs us Q I r h
  obtain ⟨p, ys, rfl, hq, q⟩ := h
  obtain ⟨u, rfl, rx⟩ := vals1 r
  cases rx
  obtain ⟨its, r', pl, hz⟩ := I.list hq
  have hlen := r'.length
  refine call_tuple_list pl.isList (fun h' kp => ?_) (by simp only [List.size_toArray] <;> omega)
  have I1 : Inv X pins σ H { s with heap := h' } := I.kept (t' := s.toks) kp
  exact ⟨.ref h'.objs.size, _, I1.laid (t' := s.toks) (fun b o e => Heap.get?_push_of_some _ e) (Nat.le_refl _) (show ObjOk X.prog X.w _ _ _ (.frz _ (.tup ys)) from ⟨Heap.get?_push_size _ rfl, hz, its, r', IsTup.new _ _⟩), rfl, q _ _ (I1.hok.fresh (Nat.le_refl _)) (by rfl)⟩
theorem r_tupleB {K : PySem.W.Frag} {p : Addr} {ys : List V} (h : SqL K H p ys) (q : ∀ l H', H l = none → Same H H' → BareT H' l ys → Q (.ref l) H') : uTupleB K [.ref p] H Q :=
  ⟨p, ys, rfl, h, fun l o hl ho => q l _ hl (Keep.same (Keep.new hl)) ⟨o, upd_same, ho⟩⟩
theorem pairs_of2 {pins : List (Addr × Obj)} {s : Shared} (I : Inv X pins σ H s) : ∀ {ps : List Addr} {kvs : List (Key × V)}, Paired (fun p kv => SqT X.K H p [kV kv.1, kv.2]) ps kvs →
    ∃ (prs : List (Key × Value)) (us : List (Value × Value)), KV kvs prs ∧ prs.length = ps.length ∧ us.length = ps.length ∧ ∀ (j : Nat) (k v : Value), us[j]? = some (k, v) → ∃ (b : Addr) (key : Key), ps[j]? = some b ∧ prs[j]? = some (key, v) ∧ IsTup s.heap b #[k, v] ∧ keyIs key k = true
  | _, _, .nil => ⟨[], [], .nil, rfl, rfl, fun j k v e => by simp at e⟩
  | _, _, .cons (a := p) (b := kv) h t => by
    obtain ⟨prs, us, r, hl, hl2, hp⟩ := pairs_of2 I t
    obtain ⟨its, rv, ht, _⟩ := I.tuple h
    obtain ⟨u, y, ei, ru, ry⟩ := vals2 rv
    subst ei
    refine ⟨(kv.1, y) :: prs, (u, y) :: us, .cons ⟨rfl, ry⟩ r, by simp [hl], by simp [hl2], fun j k v e => ?_⟩
    cases j with
    | zero =>
      have e' : (u, y) = (k, v) := Option.some.inj e
      cases e'
      exact ⟨p, kv.1, rfl, rfl, ht, kV_is (P := X.prog) (w := X.w) ru⟩
    | succ j =>
      obtain ⟨b, key, e1, e2, e3, e4⟩ := hp j k v (by simpa using e)
      exact ⟨b, key, by simpa using e1, by simpa using e2, e3, e4⟩
def uDictB (K : PySem.W.Frag) : List V → Hp → VK → Prop := fun xs H Q => ∃ (a : Addr) (ps : List Addr) (kvs : List (Key × V)), xs = [.ref a] ∧ BareT H a (ps.map V.ref) ∧ Paired (fun p kv => SqT K H p [kV kv.1, kv.2]) ps kvs ∧ ∀ p, H p = none → Q (.ref p) (upd H p (.dK (mergeK [] kvs)))
theorem c_dictB (hcalm : X.calm = true) : CallR X (.type "dict") (uDictB X.K) := by
  intro pins s σ H xs us Q I r q
  obtain ⟨a, ps, kvs, ex, ⟨o, ho, hod⟩, hp, q⟩ := q
  subst ex
  obtain ⟨u, eu, rx⟩ := vals1 r
  subst eu
  cases rx
  obtain ⟨hg, hz, its, rv, o', ho', hc, n, hd⟩ := I.hok _ _ ho
  rw [hg] at ho'
  cases ho'
  have ei := refs_at rv
  subst ei
  rw [List.length_map] at hz
  obtain ⟨prs, us, rel, hl, hl2, hpr⟩ := pairs_of2 I hp
  have hm : (s.heap.objs.size == sysModules) = false := beq_eq_false_iff_ne.mpr (Nat.ne_of_gt I.big)
  have hlen : (mergeK [] kvs).length ≤ sizeLine := by
    refine Nat.le_trans (length_mergeK kvs []) ?_
    rw [List.length_nil, Nat.zero_add, rel.length, hl]
    exact hz
  refine PySem.call_dict_pairs (knd := mixKind X.prog X.w) (kvs := prs) (PairArg.tuple a (ps.map Value.ref).toArray (fun j => ps.getD j 0) us) (I.ok.hd hcalm) ⟨⟨o, n, hg, hc, hod, hd⟩, by simp [hl2], fun j k v e => ?_⟩ ⟨by rw [hl, hl2], fun i key v e => ?_⟩ (by rw [hl2]; exact hz) fun h' tk hd' k => ?_
  · obtain ⟨b, ky, e1, e2, e3, e4⟩ := hpr j k v e
    have hb : ps.getD j 0 = b := by rw [List.getD_eq_getElem?_getD, e1]; rfl
    show (ps.map Value.ref).toArray[j]? = some (Value.ref (ps.getD j 0)) ∧ PairAt s.heap (ps.getD j 0) k v
    rw [hb]
    exact ⟨by simp [e1], .inl e3⟩
  · obtain ⟨b, ky, e1, e2, e3, e4⟩ := hpr i key v e
    exact ⟨ky, e2, e4⟩
  · exact ⟨.ref s.heap.objs.size, upd H s.heap.objs.size (.dK (mergeK [] kvs)), I.laid (t' := tk) (fun b o e => k b o (by simp) e) (Nat.le_refl _) (show ObjOk X.prog X.w _ _ _ (.dK (mergeK [] kvs)) from ⟨hlen, hm, merged [] prs, KV.merge rel .nil, hd'⟩), rfl, q _ (I.hok.fresh (Nat.le_refl _))⟩
theorem r_dictB {K : PySem.W.Frag} {a : Addr} {l : Prs} {ws : List V} (h : BareT H a ws) (hd : DpAll K H ws (l.map pairP)) (q : ∀ p H', H p = none → Same H H' → H' p = some (.dK ((mergeP [] l).map inj)) → Q (.ref p) H') : uDictB K [.ref a] H Q := by
  obtain ⟨ps, rfl, hp⟩ := dp_pairs hd
  refine ⟨a, ps, l.map inj, rfl, h, hp, fun p hn => q p _ hn (Keep.same (Keep.new hn)) ?_⟩
  rw [upd_same]
  congr 2
  exact merge_inj l []
end
end Fp
/-! dots of curves, in plain numbers -/
namespace Fp
open PySem PySem.Spec PyProof.Rows L2
def rowS (low tall : Int) (p : Int × Int) : Int := (p.2 - low) / tall
def rowP (low tall : Int) (p q : Int × Int) (t : Int) : Int := ((p.2 - low) * (q.1 - p.1) + (q.2 - p.2) * (t - p.1)) / ((q.1 - p.1) * tall)
def adjL (c : Prs) : List ((Int × Int) × (Int × Int)) := c.zip (c.drop 1)
def Adj (c : Prs) (p q : Int × Int) : Prop := (p, q) ∈ adjL c
abbrev Up (c : Prs) : Prop := c.Pairwise fun p q => p.1 < q.1
theorem up_lt {c : Prs} (up : Up c) {i j : Nat} {p q : Int × Int} (hi : c[i]? = some p) (hj : c[j]? = some q) (h : i < j) : p.1 < q.1 := by
  obtain ⟨i1, e1⟩ := List.getElem?_eq_some_iff.mp hi
  obtain ⟨j1, e2⟩ := List.getElem?_eq_some_iff.mp hj
  have := List.pairwise_iff_getElem.mp up i j i1 j1 h
  rw [e1, e2] at this
  exact this
theorem up_le {c : Prs} (up : Up c) {i j : Nat} {p q : Int × Int} (hi : c[i]? = some p) (hj : c[j]? = some q) (h : i ≤ j) : p.1 ≤ q.1 := by
  rcases Nat.lt_or_ge i j with z | z
  · exact Int.le_of_lt (up_lt up hi hj z)
  · have : i = j := by omega
    subst this
    rw [hi] at hj
    cases hj
    exact Int.le_refl _
theorem adj_at {c : Prs} {p q : Int × Int} : Adj c p q ↔ ∃ i, c[i]? = some p ∧ c[i + 1]? = some q := by
  unfold Adj adjL
  constructor
  · intro h
    obtain ⟨i, hi⟩ := List.getElem?_of_mem h
    rw [List.getElem?_zip_eq_some] at hi
    refine ⟨i, hi.1, ?_⟩
    have := hi.2
    rw [List.getElem?_drop, Nat.add_comm] at this
    exact this
  · rintro ⟨i, h1, h2⟩
    refine List.mem_of_getElem? (i := i) ?_
    rw [List.getElem?_zip_eq_some]
    exact ⟨h1, by rw [List.getElem?_drop, Nat.add_comm]; exact h2⟩
theorem adj_iff {c : Prs} (up : Up c) {p q : Int × Int} : Adj c p q ↔ p ∈ c ∧ q ∈ c ∧ p.1 < q.1 ∧ ∀ s ∈ c, s.1 ≤ p.1 ∨ q.1 ≤ s.1 := by
  rw [adj_at]
  constructor
  · rintro ⟨i, h1, h2⟩
    refine ⟨List.mem_of_getElem? h1, List.mem_of_getElem? h2, up_lt up h1 h2 (by omega), fun s hs => ?_⟩
    obtain ⟨j, hj⟩ := List.getElem?_of_mem hs
    by_cases h : j ≤ i
    · exact .inl (up_le up hj h1 h)
    · exact .inr (up_le up h2 hj (by omega))
  · rintro ⟨h1, h2, h3, h4⟩
    obtain ⟨i, hi⟩ := List.getElem?_of_mem h1
    obtain ⟨j, hj⟩ := List.getElem?_of_mem h2
    have hij : i < j := by
      rcases Nat.lt_or_ge i j with z | z
      · exact z
      · have := up_le up hj hi z
        omega
    obtain ⟨j1, _⟩ := List.getElem?_eq_some_iff.mp hj
    have e1 : c[i + 1]? = some (c[i + 1]'(by omega)) := List.getElem?_eq_getElem _
    rcases Nat.lt_or_ge (i + 1) j with z | z
    · have a := up_lt up hi e1 (by omega)
      have b := up_lt up e1 hj z
      rcases h4 _ (List.mem_of_getElem? e1) with y | y <;> omega
    · have : j = i + 1 := by omega
      subst this
      exact ⟨i, hi, hj⟩
/-- row r is met between x and z -/
def Met (c : Prs) (low tall x z r : Int) : Prop := (∃ p ∈ c, (x ≤ p.1 ∧ p.1 < z) ∧ r = rowS low tall p) ∨
  (∃ p q, Adj c p q ∧ (p.1 < z ∧ x < q.1) ∧ (r = rowP low tall p q (max x p.1) ∨ r = rowP low tall p q (min z q.1)))
/-- a dot stands in row r -/
def Dot (R : Int → Prop) (n r : Int) : Prop := 0 ≤ r ∧ r < n ∧ (∃ a, R a ∧ a ≤ r) ∧ ∃ b, R b ∧ r ≤ b
def IsRun (D : Int → Prop) : Option (Int × Int) → Prop
  | none => ∀ r, ¬ D r
  | some (a, b) => a ≤ b ∧ ∀ r, D r ↔ a ≤ r ∧ r ≤ b
theorem IsRun.uniq {D : Int → Prop} {o o' : Option (Int × Int)} (h : IsRun D o) (h' : IsRun D o') : o = o' := by
  cases o with
  | none =>
    cases o' with
    | none => rfl
    | some ab => exact absurd ((h'.2 ab.1).mpr ⟨Int.le_refl _, h'.1⟩) (h ab.1)
  | some ab =>
    cases o' with
    | none => exact absurd ((h.2 ab.1).mpr ⟨Int.le_refl _, h.1⟩) (h' ab.1)
    | some cd =>
      obtain ⟨a, b⟩ := ab
      obtain ⟨c, d⟩ := cd
      obtain ⟨h1, h2⟩ := h
      obtain ⟨h3, h4⟩ := h'
      have e1 := (h4 a).mp ((h2 a).mpr ⟨Int.le_refl _, h1⟩)
      have e2 := (h4 b).mp ((h2 b).mpr ⟨h1, Int.le_refl _⟩)
      have e3 := (h2 c).mp ((h4 c).mpr ⟨Int.le_refl _, h3⟩)
      have e4 := (h2 d).mp ((h4 d).mpr ⟨h3, Int.le_refl _⟩)
      have : a = c := by omega
      have : b = d := by omega
      subst a b
      rfl
theorem IsRun.congr {D D' : Int → Prop} {o : Option (Int × Int)} (h : IsRun D o) (e : ∀ r, D r ↔ D' r) : IsRun D' o := by
  cases o with
  | none => exact fun r z => h r ((e r).mpr z)
  | some ab => exact ⟨h.1, fun r => (e r).symm.trans (h.2 r)⟩
/-- what the program tells of the least and the greatest row -/
theorem run_some {R : Int → Prop} {n mn mx : Int} (h1 : R mn) (h2 : ∀ r, R r → mn ≤ r) (h3 : R mx) (h4 : ∀ r, R r → r ≤ mx) (hn : 1 ≤ n) : IsRun (Dot R n) (if min (n - 1) mx < max 0 mn then none else some (max 0 mn, min (n - 1) mx)) := by
  have key : ∀ r, Dot R n r ↔ max 0 mn ≤ r ∧ r ≤ min (n - 1) mx := fun r => by
    unfold Dot
    constructor
    · rintro ⟨a, b, ⟨x, hx, hxr⟩, y, hy, hyr⟩
      have := h2 x hx
      have := h4 y hy
      omega
    · rintro ⟨a, b⟩
      exact ⟨by omega, by omega, ⟨mn, h1, by omega⟩, mx, h3, by omega⟩
  split
  · intro r hr
    have := (key r).mp hr
    omega
  · exact ⟨by omega, key⟩
theorem run_none {R : Int → Prop} {n : Int} (h : ∀ r, ¬ R r) : IsRun (Dot R n) none := fun r ⟨_, _, ⟨a, ha, _⟩, _⟩ => h a ha
/-! ### kept samples draw alike -/
def Sand (A B : Int → Prop) : Prop := ∀ r, A r → (∃ a, B a ∧ a ≤ r) ∧ ∃ b, B b ∧ r ≤ b
theorem dot_sand {A B : Int → Prop} {n : Int} (h1 : Sand A B) (h2 : Sand B A) (r : Int) : Dot A n r ↔ Dot B n r := by
  have go : ∀ {A B : Int → Prop}, Sand A B → Dot A n r → Dot B n r := by
    rintro A B h ⟨a, b, ⟨x, hx, hxr⟩, y, hy, hyr⟩
    obtain ⟨⟨x1, h3, h4⟩, _⟩ := h x hx
    obtain ⟨_, y1, h5, h6⟩ := h y hy
    exact ⟨a, b, ⟨x1, h3, by omega⟩, y1, h5, by omega⟩
  exact ⟨go h1, go h2⟩
structure Keeps (b w : Int) (S T : Prs) : Prop where
  up : Up S
  up' : Up T
  sub : ∀ p ∈ T, p ∈ S
  first : ∀ p ∈ S, ∃ f ∈ T, (f.1 - b) / w = (p.1 - b) / w ∧ f.1 ≤ p.1
  last : ∀ p ∈ S, ∃ f ∈ T, (f.1 - b) / w = (p.1 - b) / w ∧ p.1 ≤ f.1
  low : ∀ p ∈ S, ∃ f ∈ T, (f.1 - b) / w = (p.1 - b) / w ∧ f.2 ≤ p.2
  high : ∀ p ∈ S, ∃ f ∈ T, (f.1 - b) / w = (p.1 - b) / w ∧ p.2 ≤ f.2
theorem col_iff {b w t k : Int} (hw : 0 < w) : (t - b) / w = k ↔ b + k * w ≤ t ∧ t < b + k * w + w := by
  constructor
  · intro h
    have h1 := Int.ediv_mul_le (t - b) (show w ≠ 0 by omega)
    have h2 := Int.lt_ediv_add_one_mul_self (t - b) hw
    rw [h] at h1 h2
    rw [Int.add_mul, Int.one_mul] at h2
    omega
  · rintro ⟨h1, h2⟩
    exact div_is hw (by omega) (by omega)
theorem col_mono {b w t u : Int} (hw : 0 < w) (h : t ≤ u) : (t - b) / w ≤ (u - b) / w := Int.ediv_le_ediv hw (by omega)
theorem up_eq {S : Prs} (up : Up S) {p q : Int × Int} (hp : p ∈ S) (hq : q ∈ S) (h : p.1 = q.1) : p = q := by
  obtain ⟨i, hi⟩ := List.getElem?_of_mem hp
  obtain ⟨j, hj⟩ := List.getElem?_of_mem hq
  rcases Nat.lt_trichotomy i j with z | z | z
  · have := up_lt up hi hj z; omega
  · subst z; rw [hi] at hj; exact Option.some.inj hj
  · have := up_lt up hj hi z; omega
theorem rowP_start {low tall : Int} {p q : Int × Int} (ht : 0 < tall) (h : p.1 < q.1) : rowP low tall p q p.1 = rowS low tall p := by
  unfold rowP rowS
  rw [Int.sub_self, Int.mul_zero, Int.add_zero, Int.mul_comm (p.2 - low)]
  exact Int.mul_ediv_mul_of_pos _ _ (by omega)
theorem rowP_stop {low tall : Int} {p q : Int × Int} (ht : 0 < tall) (h : p.1 < q.1) : rowP low tall p q q.1 = rowS low tall q := by
  unfold rowP rowS
  rw [← Int.add_mul, Int.mul_comm _ (q.1 - p.1), show p.2 - low + (q.2 - p.2) = q.2 - low by omega]
  exact Int.mul_ediv_mul_of_pos _ _ (by omega)
theorem rowS_mono {low tall : Int} {p q : Int × Int} (ht : 0 < tall) (h : p.2 ≤ q.2) : rowS low tall p ≤ rowS low tall q := Int.ediv_le_ediv ht (by omega)
section
variable {b w low tall k : Int} {S T : Prs}
/-- a piece within one column meets its samples' rows alone -/
theorem piece_in (hw : 0 < w) (ht : 0 < tall) {p q : Int × Int} (hpq : p.1 < q.1) (e : (p.1 - b) / w = (q.1 - b) / w) (h1 : p.1 < b + k * w + w) (h2 : b + k * w < q.1) :
    (p.1 - b) / w = k ∧ (q.1 - b) / w = k ∧ rowP low tall p q (max (b + k * w) p.1) = rowS low tall p ∧ rowP low tall p q (min (b + k * w + w) q.1) = rowS low tall q := by
  have a1 : (p.1 - b) / w < k + 1 := (Int.ediv_lt_iff_lt_mul hw).mpr (by rw [Int.add_mul, Int.one_mul]; omega)
  have a2 : k ≤ (q.1 - b) / w := (Int.le_ediv_iff_mul_le hw).mpr (by omega)
  have a3 : (p.1 - b) / w = k := by omega
  have a4 : (q.1 - b) / w = k := by omega
  have b1 := (col_iff hw).mp a3
  have b2 := (col_iff hw).mp a4
  rw [show max (b + k * w) p.1 = p.1 by omega, show min (b + k * w + w) q.1 = q.1 by omega]
  exact ⟨a3, a4, rowP_start ht hpq, rowP_stop ht hpq⟩
theorem sand_sample (hw : 0 < w) (ht : 0 < tall) (K : Keeps b w S T) {p : Int × Int} (hp : p ∈ S) (e : (p.1 - b) / w = k) :
    (∃ a, Met T low tall (b + k * w) (b + k * w + w) a ∧ a ≤ rowS low tall p) ∧ ∃ a, Met T low tall (b + k * w) (b + k * w + w) a ∧ rowS low tall p ≤ a := by
  obtain ⟨f, hf, e1, h1⟩ := K.low p hp
  obtain ⟨g, hg, e2, h2⟩ := K.high p hp
  exact ⟨⟨_, .inl ⟨f, hf, (col_iff hw).mp (e1.trans e), rfl⟩, rowS_mono ht h1⟩, _, .inl ⟨g, hg, (col_iff hw).mp (e2.trans e), rfl⟩, rowS_mono ht h2⟩
theorem keeps_adj (hw : 0 < w) (K : Keeps b w S T) {p q : Int × Int} (ne : (p.1 - b) / w ≠ (q.1 - b) / w) : Adj S p q ↔ Adj T p q := by
  rw [adj_iff K.up, adj_iff K.up']
  constructor
  · rintro ⟨h1, h2, h3, h4⟩
    have hp : p ∈ T := by
      obtain ⟨l, hl, e, h⟩ := K.last p h1
      rcases h4 l (K.sub l hl) with z | z
      · rw [up_eq K.up h1 (K.sub l hl) (by omega)]; exact hl
      · have := col_mono (b := b) hw z
        have := col_mono (b := b) hw (Int.le_of_lt h3)
        omega
    have hq : q ∈ T := by
      obtain ⟨f, hf, e, h⟩ := K.first q h2
      rcases h4 f (K.sub f hf) with z | z
      · have := col_mono (b := b) hw z
        have := col_mono (b := b) hw (Int.le_of_lt h3)
        omega
      · rw [up_eq K.up h2 (K.sub f hf) (by omega)]; exact hf
    exact ⟨hp, hq, h3, fun s hs => h4 s (K.sub s hs)⟩
  · rintro ⟨h1, h2, h3, h4⟩
    refine ⟨K.sub p h1, K.sub q h2, h3, fun s hs => ?_⟩
    by_cases z1 : s.1 ≤ p.1
    · exact .inl z1
    by_cases z2 : q.1 ≤ s.1
    · exact .inr z2
    exfalso
    have m1 := col_mono (b := b) hw (show p.1 ≤ s.1 by omega)
    have m2 := col_mono (b := b) hw (show s.1 ≤ q.1 by omega)
    obtain ⟨f, hf, ef, hf2⟩ := K.first s hs
    obtain ⟨l, hl, el, hl2⟩ := K.last s hs
    rcases h4 f hf with y | y
    · rcases h4 l hl with x | x
      · omega
      · have a := col_mono (b := b) hw y
        have c := col_mono (b := b) hw x
        omega
    · omega
theorem met_sand (hw : 0 < w) (ht : 0 < tall) (K : Keeps b w S T) : Sand (Met S low tall (b + k * w) (b + k * w + w)) (Met T low tall (b + k * w) (b + k * w + w)) := by
  rintro r (⟨p, hp, hx, rfl⟩ | ⟨p, q, ha, hx, hr⟩)
  · exact sand_sample hw ht K hp ((col_iff hw).mpr hx)
  · by_cases e : (p.1 - b) / w = (q.1 - b) / w
    · obtain ⟨h1, h2, h3, _⟩ := (adj_iff K.up).mp ha
      obtain ⟨e1, e2, r1, r2⟩ := piece_in (low := low) hw ht h3 e hx.1 hx.2
      rcases hr with rfl | rfl
      · rw [r1]; exact sand_sample hw ht K h1 e1
      · rw [r2]; exact sand_sample hw ht K h2 e2
    · have m : Met T low tall (b + k * w) (b + k * w + w) r := .inr ⟨p, q, (keeps_adj hw K e).mp ha, hx, hr⟩
      exact ⟨⟨r, m, Int.le_refl _⟩, r, m, Int.le_refl _⟩
theorem met_back (hw : 0 < w) (ht : 0 < tall) (K : Keeps b w S T) : Sand (Met T low tall (b + k * w) (b + k * w + w)) (Met S low tall (b + k * w) (b + k * w + w)) := by
  have it : ∀ {r : Int}, Met S low tall (b + k * w) (b + k * w + w) r → (∃ a, Met S low tall (b + k * w) (b + k * w + w) a ∧ a ≤ r) ∧ ∃ c, Met S low tall (b + k * w) (b + k * w + w) c ∧ r ≤ c := fun {r} m => ⟨⟨r, m, Int.le_refl _⟩, r, m, Int.le_refl _⟩
  rintro r (⟨p, hp, hx, rfl⟩ | ⟨p, q, ha, hx, hr⟩)
  · exact it (.inl ⟨p, K.sub p hp, hx, rfl⟩)
  · by_cases e : (p.1 - b) / w = (q.1 - b) / w
    · obtain ⟨h1, h2, h3, _⟩ := (adj_iff K.up').mp ha
      obtain ⟨e1, e2, r1, r2⟩ := piece_in (low := low) hw ht h3 e hx.1 hx.2
      rcases hr with rfl | rfl
      · rw [r1]; exact it (.inl ⟨p, K.sub p h1, (col_iff hw).mp e1, rfl⟩)
      · rw [r2]; exact it (.inl ⟨q, K.sub q h2, (col_iff hw).mp e2, rfl⟩)
    · exact it (.inr ⟨p, q, (keeps_adj hw K e).mpr ha, hx, hr⟩)
/-- the dots of the kept samples are those of all -/
theorem keeps_dots (hw : 0 < w) (ht : 0 < tall) (K : Keeps b w S T) (n r : Int) : Dot (Met S low tall (b + k * w) (b + k * w + w)) n r ↔ Dot (Met T low tall (b + k * w) (b + k * w + w)) n r := dot_sand (met_sand hw ht K) (met_back hw ht K) r
end

/-! ### the run of dots -/
open Classical in
noncomputable def runOf (D : Int → Prop) : Option (Int × Int) := if h : ∃ o, IsRun D o then h.choose else none
theorem runOf_eq {D : Int → Prop} {o : Option (Int × Int)} (h : IsRun D o) : runOf D = o := by
  have z : ∃ o, IsRun D o := ⟨o, h⟩
  unfold runOf
  rw [dif_pos z]
  exact z.choose_spec.uniq h
theorem runOf_congr {D D' : Int → Prop} (e : ∀ r, D r ↔ D' r) : runOf D = runOf D' := by
  have : D = D' := funext fun r => propext (e r)
  rw [this]
def runD : Option (Int × Int) → PyData
  | none => .none
  | some p => pairP p
theorem imm_run (o : Option (Int × Int)) : imm (runD o) = true := by
  cases o with
  | none => rfl
  | some p => exact imm_pair p
theorem shp_run (o : Option (Int × Int)) : Shp 1 (runD o) := by
  cases o with
  | none => exact .none
  | some p => exact shp_pair p
/-- the column's dots -/
noncomputable def colRun (c : Prs) (b w low tall n : Int) (k : Int) : Option (Int × Int) := runOf (Dot (Met c low tall (b + k * w) (b + k * w + w)) n)
noncomputable def dotsL (c : Prs) (b w m low tall n : Int) : List (Option (Int × Int)) := (List.range m.toNat).map fun k : Nat => colRun (partL c b (b + w * m)) b w low tall n k
noncomputable def dotsD (c : Prs) (b w m low tall n : Int) : PyData := .tuple ((dotsL c b w m low tall n).map runD)
theorem imm_dots (c : Prs) (b w m low tall n : Int) : imm (dotsD c b w m low tall n) = true := by
  unfold dotsD
  simp only [imm]
  exact immAll_map _ imm_run _
theorem shp_dots (c : Prs) (b w m low tall n : Int) : Shp 2 (dotsD c b w m low tall n) := Shp.tupleM shp_run
theorem keeps_run {b w low tall n k : Int} {S T : Prs} (hw : 0 < w) (ht : 0 < tall) (K : Keeps b w S T) : colRun S b w low tall n k = colRun T b w low tall n k := runOf_congr (keeps_dots hw ht K n)
/-! ### lists of met rows -/
theorem partL_snoc' (l : Prs) (p : Int × Int) (b e : Int) : partL (l ++ [p]) b e = partL l b e ++ (if b ≤ p.1 ∧ p.1 < e then [p] else []) := by
  unfold partL
  rw [List.filter_append]
  congr 1
  by_cases h : b ≤ p.1 ∧ p.1 < e
  · simp [h.1, h.2]
  · rw [if_neg h]
    simp
    omega
def metS (c : Prs) (low tall x z : Int) : List Int := (partL c x z).map (rowS low tall)
def pieceL (low tall x z : Int) (pq : (Int × Int) × (Int × Int)) : List Int := if pq.1.1 < z ∧ x < pq.2.1 then [rowP low tall pq.1 pq.2 (max x pq.1.1), rowP low tall pq.1 pq.2 (min z pq.2.1)] else []
def metL (c : Prs) (a : List ((Int × Int) × (Int × Int))) (low tall x z : Int) : List Int := metS c low tall x z ++ a.flatMap (pieceL low tall x z)
theorem metL_mem {c : Prs} {low tall x z r : Int} : r ∈ metL c (adjL c) low tall x z ↔ Met c low tall x z r := by
  unfold metL metS Met Adj
  rw [List.mem_append, List.mem_map, List.mem_flatMap]
  constructor
  · rintro (⟨p, hp, rfl⟩ | ⟨pq, hpq, hr⟩)
    · unfold partL at hp
      rw [List.mem_filter] at hp
      exact .inl ⟨p, hp.1, by simpa using hp.2, rfl⟩
    · unfold pieceL at hr
      split at hr
      · rename_i hc
        refine .inr ⟨pq.1, pq.2, hpq, hc, ?_⟩
        simpa using hr
      · simp at hr
  · rintro (⟨p, hp, hx, rfl⟩ | ⟨p, q, hpq, hx, hr⟩)
    · refine .inl ⟨p, ?_, rfl⟩
      unfold partL
      rw [List.mem_filter]
      exact ⟨hp, by simpa using hx⟩
    · refine .inr ⟨(p, q), hpq, ?_⟩
      unfold pieceL
      rw [if_pos hx]
      simpa using hr
theorem metS_snoc (l : Prs) (p : Int × Int) (low tall x z : Int) : metS (l ++ [p]) low tall x z = metS l low tall x z ++ (if x ≤ p.1 ∧ p.1 < z then [rowS low tall p] else []) := by
  unfold metS
  rw [partL_snoc', List.map_append]
  split <;> rfl
theorem metL_snoc (c : Prs) (a : List ((Int × Int) × (Int × Int))) (pq : (Int × Int) × (Int × Int)) (low tall x z : Int) : metL c (a ++ [pq]) low tall x z = metL c a low tall x z ++ pieceL low tall x z pq := by
  unfold metL
  rw [List.flatMap_append, List.append_assoc]
  simp
theorem piece_len (low tall x z : Int) (pq : (Int × Int) × (Int × Int)) : (pieceL low tall x z pq).length ≤ 2 := by
  unfold pieceL
  split <;> simp
theorem metL_len (c : Prs) (low tall x z : Int) : ∀ a : List ((Int × Int) × (Int × Int)), (metL c a low tall x z).length ≤ c.length + 2 * a.length := by
  have h1 : (metS c low tall x z).length ≤ c.length := by
    unfold metS
    rw [List.length_map]
    exact partL_len _ _ _
  have h2 : ∀ a : List ((Int × Int) × (Int × Int)), (a.flatMap (pieceL low tall x z)).length ≤ 2 * a.length := by
    intro a
    induction a with
    | nil => simp
    | cons p r ih =>
      rw [List.flatMap_cons, List.length_append, List.length_cons]
      have := piece_len low tall x z p
      omega
  intro a
  unfold metL
  rw [List.length_append]
  have := h2 a
  omega
theorem metL_nil (c : Prs) (low tall x z : Int) : metL c [] low tall x z = metS c low tall x z := by
  unfold metL
  simp
/-! ### fractions -/
def frac (low tall : Int) (x : Int × Int) : Int := (x.1 - low * x.2) / (x.2 * tall)
theorem frac_le {low tall r : Int} {x : Int × Int} (ht : 0 < tall) (hx : 0 < x.2) : x.1 < (low + (r + 1) * tall) * x.2 ↔ frac low tall x ≤ r := by
  have hd : 0 < x.2 * tall := Int.mul_pos hx ht
  have e : (low + (r + 1) * tall) * x.2 = low * x.2 + (r + 1) * (x.2 * tall) := by
    rw [Int.add_mul, Int.mul_assoc, Int.mul_comm tall]
  unfold frac
  rw [e, ← Int.lt_add_one_iff, Int.ediv_lt_iff_lt_mul hd]
  omega
theorem frac_ge {low tall r : Int} {x : Int × Int} (ht : 0 < tall) (hx : 0 < x.2) : ¬ x.1 < (low + r * tall) * x.2 ↔ r ≤ frac low tall x := by
  have hd : 0 < x.2 * tall := Int.mul_pos hx ht
  have e : (low + r * tall) * x.2 = low * x.2 + r * (x.2 * tall) := by
    rw [Int.add_mul, Int.mul_assoc, Int.mul_comm tall]
  unfold frac
  rw [e, Int.le_ediv_iff_mul_le hd]
  omega
def lessF (x y : Int × Int) : Prop := x.1 * y.2 < y.1 * x.2
theorem frac_mono {low tall : Int} {x y : Int × Int} (ht : 0 < tall) (hx : 0 < x.2) (hy : 0 < y.2) (h : ¬ lessF x y) : frac low tall y ≤ frac low tall x := by
  refine (frac_le ht hy).mp ?_
  have h1 := (frac_le (low := low) (r := frac low tall x) ht hx).mpr (Int.le_refl _)
  have h2 : y.1 * x.2 ≤ x.1 * y.2 := by
    unfold lessF at h
    omega
  generalize low + (frac low tall x + 1) * tall = c at *
  have h3 : x.1 * y.2 < c * x.2 * y.2 := Int.mul_lt_mul_of_pos_right h1 hy
  have h4 : y.1 * x.2 < c * y.2 * x.2 := by
    rw [Int.mul_right_comm c]
    omega
  exact Int.lt_of_mul_lt_mul_right h4 (Int.le_of_lt hx)
theorem lessF_trans {x y z : Int × Int} (hx : 0 < x.2) (hy : 0 < y.2) (hz : 0 < z.2) (h1 : ¬ lessF y x) (h2 : ¬ lessF z y) : ¬ lessF z x := by
  unfold lessF at *
  intro h
  have a1 : x.1 * y.2 ≤ y.1 * x.2 := by omega
  have a2 : y.1 * z.2 ≤ z.1 * y.2 := by omega
  have b1 : x.1 * y.2 * z.2 ≤ y.1 * x.2 * z.2 := Int.mul_le_mul_of_nonneg_right a1 (Int.le_of_lt hz)
  have b2 : y.1 * z.2 * x.2 ≤ z.1 * y.2 * x.2 := Int.mul_le_mul_of_nonneg_right a2 (Int.le_of_lt hx)
  have b3 : z.1 * x.2 * y.2 < x.1 * z.2 * y.2 := Int.mul_lt_mul_of_pos_right h hy
  rw [Int.mul_right_comm x.1] at b1
  rw [Int.mul_right_comm y.1] at b2
  rw [Int.mul_right_comm z.1] at b2
  omega
/-! ### lists by numbers -/
section
variable {K : PySem.W.Frag} {σ : St} {H H' H0 H1 : Hp} {Q : VK} {td ty tx : TE} {d a : Addr} {f : Int → List Int} {z : Nat}
structure Bags (H0 H : Hp) (d : Addr) (f : Int → List Int) (z : Nat) : Prop where
  same : Same H0 H
  ex : ∃ kvs : List (Key × V), H d = some (.dK kvs) ∧ kvs.length ≤ z ∧ (∀ k : Int, (valV kvs (Sum.inl k) = none ∧ f k = []) ∨ ∃ a, valV kvs (Sum.inl k) = some (.ref a) ∧ H a = some (.lst ((f k).map V.int)) ∧ H0 a = none) ∧
    ∀ (k k' : Int) (a : Addr), valV kvs (Sum.inl k) = some (.ref a) → valV kvs (Sum.inl k') = some (.ref a) → k = k'
  new : H0 d = none
theorem Bags.to (B : Bags H0 H d f z) (s : Same H H') : Bags H0 H' d f z := by
  obtain ⟨kvs, e, l, h1, h2⟩ := B.ex
  refine ⟨B.same.trans s, ⟨kvs, s _ _ e, l, fun k => ?_, h2⟩, B.new⟩
  rcases h1 k with h | ⟨a, q1, q2, q3⟩
  · exact .inl h
  · exact .inr ⟨a, q1, s _ _ q2, q3⟩
theorem Bags.more {z' : Nat} (B : Bags H0 H d f z) (h : z ≤ z') : Bags H0 H d f z' := by
  obtain ⟨kvs, e, l, r⟩ := B.ex
  exact ⟨B.same, ⟨kvs, e, Nat.le_trans l h, r⟩, B.new⟩
theorem Bags.new_ (hn : H d = none) (s : Same H H') (e : H' d = some (.dK [])) : Bags H H' d (fun _ => []) 0 := ⟨s, ⟨[], e, Nat.le_refl _, fun k => .inl ⟨rfl, rfl⟩, fun k k' a h => by simp [valV] at h⟩, hn⟩
def uDSetb (a : Addr) (y z : V) (H : Hp) (Q : VK) : Prop := ∃ (kvs : List (Key × V)) (k : Key), H a = some (.dK kvs) ∧ y = kV k ∧ kvs.length < sizeLine ∧ (∀ v, valV kvs k = some v → Q v H) ∧ (valV kvs k = none → Q z (upd H a (.dK (putK kvs k z))))
def uDSet (ty tx : TE) (σ : St) (x : V) (H : Hp) (Q : VK) : Prop := ∃ a, x = .ref a ∧ IsD H a ∧ ty σ H fun y H2 => tx σ H2 fun z H3 => uDSetb a y z H3 Q
theorem r_dset (q : td σ H fun x H1 => uDSet ty tx σ x H1 Q) : tDSetd td ty tx σ H Q := q
theorem r_dseti (B : Bags H0 H d f z) (q : ty σ H fun y H2 => tx σ H2 fun z H3 => uDSetb d y z H3 Q) : uDSet ty tx σ (.ref d) H Q := by
  obtain ⟨kvs, e, _⟩ := B.ex
  exact ⟨d, rfl, .inl ⟨_, .inl e⟩, q⟩
/-- d.setdefault(k, []), the list being made just now -/
theorem bags_set {k : Int} {p : Addr} (B : Bags H0 H1 d f z) (hz : z < 16777216) (n : H1 p = none) (s : Same H1 H) (e : H p = some (.lst []))
    (q : ∀ (a : Addr) (H' : Hp), TExt H1 H' → H0 a = none → H' a = some (.lst ((f k).map V.int)) → (∀ ys H'', Keep (At a) H' H'' → H'' a = some (.lst (ys.map V.int)) → Bags H0 H'' d (fun j => if j = k then ys else f j) (z + 1)) → Q (.ref a) H') : uDSetb d (.int k) (.ref p) H Q := by
  have BH := B.to s
  obtain ⟨kvs, e1, l, h1, h2⟩ := BH.ex
  have hpn : ∀ (k : Int) (a : Addr), valV kvs (Sum.inl k) = some (.ref a) → a ≠ p := fun k a h => by
    obtain ⟨kvs', e1', _, h1', _⟩ := B.ex
    have ek : kvs' = kvs := by
      have := s _ _ e1'
      rw [e1] at this
      injection this with this
      injection this with this
      exact this.symm
    subst ek
    rcases h1' k with h3 | ⟨a', q1, q2, q3⟩
    · rw [h3.1] at h; cases h
    · rw [h] at q1
      cases q1
      exact ne_of_none q2 n
  have pd : p ≠ d := ne_of e e1 (by intro z; cases z)
  have p0 : H0 p = none := (Keep.of_same (F := No) B.same).back n (fun z => z)
  have fin : ∀ (a : Addr) (H2 : Hp) (kvs2 : List (Key × V)), Same H0 H2 → H2 d = some (.dK kvs2) → kvs2.length ≤ z + 1 → valV kvs2 (Sum.inl k) = some (.ref a) → H2 a = some (.lst ((f k).map V.int)) → H0 a = none →
      (∀ j, j ≠ k → valV kvs2 (Sum.inl j) = valV kvs (Sum.inl j)) → (∀ j b, j ≠ k → valV kvs (Sum.inl j) = some (.ref b) → b ≠ a ∧ H2 b = some (.lst ((f j).map V.int))) →
      ∀ ys H'', Keep (At a) H2 H'' → H'' a = some (.lst (ys.map V.int)) → Bags H0 H'' d (fun j => if j = k then ys else f j) (z + 1) := by
    intro a H2 kvs2 s2 hd2 l2 v2 ha2 a0 o2 b2 ys H'' k'' e''
    have ad : d ≠ a := ne_of hd2 ha2 (by intro z; cases z)
    refine ⟨fun b o eb => k'' b o (s2 b o eb) (ne_of_none eb a0), ⟨kvs2, k'' _ _ hd2 ad, l2, fun j => ?_, fun j j' c hj hj' => ?_⟩, B.new⟩
    · by_cases hjk : j = k
      · subst hjk
        exact .inr ⟨a, v2, by rw [if_pos rfl]; exact e'', a0⟩
      · rw [o2 j hjk, if_neg hjk]
        rcases h1 j with h3 | ⟨b, q1, q2, q3⟩
        · exact .inl h3
        · obtain ⟨g1, g2⟩ := b2 j b hjk q1
          exact .inr ⟨b, q1, k'' _ _ g2 g1, q3⟩
    · by_cases hjk : j = k
      · by_cases hjk' : j' = k
        · rw [hjk, hjk']
        · subst hjk
          rw [v2] at hj
          cases hj
          rw [o2 j' hjk'] at hj'
          exact absurd rfl (b2 j' _ hjk' hj').1
      · by_cases hjk' : j' = k
        · subst hjk'
          rw [v2] at hj'
          cases hj'
          rw [o2 j hjk] at hj
          exact absurd rfl (b2 j _ hjk hj).1
        · rw [o2 j hjk] at hj
          rw [o2 j' hjk'] at hj'
          exact h2 j j' c hj hj'
  refine ⟨kvs, Sum.inl k, e1, rfl, by rw [sizeLine_eq]; omega, fun v hv => ?_, fun hv => ?_⟩
  · rcases h1 k with h3 | ⟨a, q1, q2, q3⟩
    · rw [h3.1] at hv; cases hv
    · rw [hv] at q1
      cases q1
      refine q a H (TExt.of_same s) q3 q2 (fin a H kvs BH.same e1 (by omega) hv q2 q3 (fun _ _ => rfl) fun j b hjk hb => ?_)
      rcases h1 j with h3 | ⟨b', q1', q2', q3'⟩
      · rw [h3.1] at hb; cases hb
      · rw [hb] at q1'
        cases q1'
        exact ⟨fun z => hjk (h2 j k b hb (by rw [z]; exact hv)), q2'⟩
  · have fk : f k = [] := by
      rcases h1 k with h3 | ⟨a, q1, _⟩
      · exact h3.2
      · rw [hv] at q1; cases q1
    have kd : Keep (At d) H (upd H d (.dK (putK kvs (Sum.inl k) (.ref p)))) := Keep.at_
    have ep : upd H d (.dK (putK kvs (Sum.inl k) (.ref p))) p = some (.lst []) := kd _ _ e pd
    have tx : TExt H1 (upd H d (.dK (putK kvs (Sum.inl k) (.ref p)))) := (TExt.of_same s).trans (kd.text fun b hb => by rw [show b = d from hb, e1]; trivial)
    have s2 : Same H0 (upd H d (.dK (putK kvs (Sum.inl k) (.ref p)))) := fun b o eb => kd b o (BH.same b o eb) (ne_of_none eb B.new)
    refine q p _ tx p0 (by rw [ep, fk]; rfl) (fin p _ (putK kvs (Sum.inl k) (.ref p)) s2 upd_same ?_ (by rw [valV_put, if_pos rfl]) (by rw [ep, fk]; rfl) p0 (fun j hjk => by rw [valV_put, if_neg (by simpa using hjk)]) fun j b hjk hb => ?_)
    · have := length_putK kvs (Sum.inl k) (.ref p)
      omega
    · rcases h1 j with h3 | ⟨b', q1', q2', q3'⟩
      · rw [h3.1] at hb; cases hb
      · rw [hb] at q1'
        cases q1'
        exact ⟨hpn j b hb, kd _ _ q2' (ne_of q2' e1 (by intro z; cases z))⟩
theorem mul_abs {x y : Int} {n m : Nat} (h1 : x.natAbs < 2 ^ n) (h2 : y.natAbs < 2 ^ m) : (x * y).natAbs < 2 ^ (n + m) := by
  rw [Int.natAbs_mul, Nat.pow_add]
  exact Nat.mul_lt_mul'' h1 h2
/-- min, max of a list of numbers -/
theorem r_min {ns : List Int} (h : SqL K H a (ns.map V.int)) (h0 : ns ≠ []) (q : ∀ m, m ∈ ns → (∀ y, y ∈ ns → m ≤ y) → Q (.int m) H) : rMin K [.ref a] H Q := ⟨a, ns, rfl, h, List.length_pos_iff.mpr h0, q⟩
theorem r_max {ns : List Int} (h : SqL K H a (ns.map V.int)) (h0 : ns ≠ []) (q : ∀ m, m ∈ ns → (∀ y, y ∈ ns → y ≤ m) → Q (.int m) H) : rMax K [.ref a] H Q := ⟨a, ns, rfl, h, List.length_pos_iff.mpr h0, q⟩
end
/-! ### what is kept -/
theorem low_all : ∀ (r : Prs) (f : Int × Int), r.foldl lowP f ∈ f :: r ∧ ∀ p ∈ f :: r, (r.foldl lowP f).2 ≤ p.2
  | [], f => ⟨List.mem_cons_self .., fun p hp => by rw [List.mem_singleton.mp hp]; exact Int.le_refl _⟩
  | g :: r, f => by
    obtain ⟨h1, h2⟩ := low_all r (lowP f g)
    have e : (lowP f g = f ∨ lowP f g = g) ∧ (lowP f g).2 ≤ f.2 ∧ (lowP f g).2 ≤ g.2 := by
      unfold lowP
      split
      · exact ⟨.inr rfl, by omega, Int.le_refl _⟩
      · exact ⟨.inl rfl, Int.le_refl _, by omega⟩
    have h3 := h2 _ (List.mem_cons_self ..)
    refine ⟨?_, fun p hp => ?_⟩
    · rw [List.foldl_cons]
      rcases List.mem_cons.mp h1 with z | z
      · rw [z]
        rcases e.1 with y | y
        · rw [y]; exact List.mem_cons_self ..
        · rw [y]; exact List.mem_cons_of_mem _ (List.mem_cons_self ..)
      · exact List.mem_cons_of_mem _ (List.mem_cons_of_mem _ z)
    · rw [List.foldl_cons]
      rcases List.mem_cons.mp hp with rfl | hp
      · exact Int.le_trans h3 e.2.1
      · rcases List.mem_cons.mp hp with rfl | hp
        · exact Int.le_trans h3 e.2.2
        · exact h2 _ (List.mem_cons_of_mem _ hp)
theorem high_all : ∀ (r : Prs) (f : Int × Int), r.foldl highP f ∈ f :: r ∧ ∀ p ∈ f :: r, p.2 ≤ (r.foldl highP f).2
  | [], f => ⟨List.mem_cons_self .., fun p hp => by rw [List.mem_singleton.mp hp]; exact Int.le_refl _⟩
  | g :: r, f => by
    obtain ⟨h1, h2⟩ := high_all r (highP f g)
    have e : (highP f g = f ∨ highP f g = g) ∧ f.2 ≤ (highP f g).2 ∧ g.2 ≤ (highP f g).2 := by
      unfold highP
      split
      · exact ⟨.inr rfl, by omega, Int.le_refl _⟩
      · exact ⟨.inl rfl, Int.le_refl _, by omega⟩
    have h3 := h2 _ (List.mem_cons_self ..)
    refine ⟨?_, fun p hp => ?_⟩
    · rw [List.foldl_cons]
      rcases List.mem_cons.mp h1 with z | z
      · rw [z]
        rcases e.1 with y | y
        · rw [y]; exact List.mem_cons_self ..
        · rw [y]; exact List.mem_cons_of_mem _ (List.mem_cons_self ..)
      · exact List.mem_cons_of_mem _ (List.mem_cons_of_mem _ z)
    · rw [List.foldl_cons]
      rcases List.mem_cons.mp hp with rfl | hp
      · exact Int.le_trans e.2.1 h3
      · rcases List.mem_cons.mp hp with rfl | hp
        · exact Int.le_trans e.2.2 h3
        · exact h2 _ (List.mem_cons_of_mem _ hp)
structure FourIn (c : Prs) (F : Four) : Prop where
  f : F.f ∈ c
  l : F.l ∈ c
  lo : F.lo ∈ c
  hi : F.hi ∈ c
  first : Up c → ∀ p ∈ c, F.f.1 ≤ p.1
  last : Up c → ∀ p ∈ c, p.1 ≤ F.l.1
  low : ∀ p ∈ c, F.lo.2 ≤ p.2
  high : ∀ p ∈ c, p.2 ≤ F.hi.2
theorem four_in {c : Prs} {F : Four} (h : fourL c = some F) : FourIn c F := by
  cases c with
  | nil => rw [fourL_nil] at h; cases h
  | cons f r =>
    rw [fourL_eq] at h
    cases h
    refine ⟨List.mem_cons_self .., ?_, (low_all r f).1, (high_all r f).1, fun up p hp => ?_, fun up p hp => ?_, (low_all r f).2, (high_all r f).2⟩
    · show (r.getLast?).getD f ∈ f :: r
      cases hr : r.getLast? with
      | none => exact List.mem_cons_self ..
      | some x => exact List.mem_cons_of_mem _ (List.mem_of_getLast? hr)
    · rcases List.mem_cons.mp hp with rfl | hp
      · exact Int.le_refl _
      · exact Int.le_of_lt ((List.pairwise_cons.mp up).1 p hp)
    · show p.1 ≤ ((r.getLast?).getD f).1
      rcases List.eq_nil_or_concat r with rfl | ⟨i, l, rfl⟩
      · rw [List.mem_singleton.mp hp]; exact Int.le_refl _
      · rw [List.concat_eq_append] at *
        rw [show ((i ++ [l]).getLast?).getD f = l by simp]
        have up2 : Up ((f :: i) ++ [l]) := up
        rcases List.mem_append.mp (show p ∈ (f :: i) ++ [l] from hp) with z | z
        · exact Int.le_of_lt ((List.pairwise_append.mp up2).2.2 p z l (List.mem_singleton.mpr rfl))
        · rw [List.mem_singleton.mp z]; exact Int.le_refl _
theorem four_some {c : Prs} {p : Int × Int} (h : p ∈ c) : ∃ F, fourL c = some F := by
  cases c with
  | nil => simp at h
  | cons f r => exact ⟨_, fourL_eq f r⟩
theorem mem_partL {c : Prs} {x z : Int} {p : Int × Int} : p ∈ partL c x z ↔ p ∈ c ∧ x ≤ p.1 ∧ p.1 < z := by
  unfold partL
  rw [List.mem_filter]
  simp
/-- T are samples of c within the window, among them each column's four -/
structure Kin (c : Prs) (b w m : Int) (T : Prs) : Prop where
  up : Up T
  sub : ∀ p ∈ T, p ∈ partL c b (b + w * m)
  has : ∀ k, 0 ≤ k → k < m → ∀ F, fourL (partL c (b + k * w) (b + k * w + w)) = some F → F.f ∈ T ∧ F.l ∈ T ∧ F.lo ∈ T ∧ F.hi ∈ T
theorem col_in {c : Prs} {b w m : Int} {p : Int × Int} (hw : 0 < w) (h : p ∈ partL c b (b + w * m)) : 0 ≤ (p.1 - b) / w ∧ (p.1 - b) / w < m ∧ p ∈ partL c (b + (p.1 - b) / w * w) (b + (p.1 - b) / w * w + w) := by
  obtain ⟨h1, h2, h3⟩ := mem_partL.mp h
  exact ⟨Int.ediv_nonneg (by omega) (by omega), (Int.ediv_lt_iff_lt_mul hw).mpr (by rw [Int.mul_comm]; omega), mem_partL.mpr ⟨h1, (col_iff hw).mp rfl⟩⟩
theorem Kin.keeps {c : Prs} {b w m : Int} {T : Prs} (h : Kin c b w m T) (up : Up c) (hw : 0 < w) : Keeps b w (partL c b (b + w * m)) T := by
  have key : ∀ p ∈ partL c b (b + w * m), ∃ F, FourIn (partL c (b + (p.1 - b) / w * w) (b + (p.1 - b) / w * w + w)) F ∧ (F.f ∈ T ∧ F.l ∈ T ∧ F.lo ∈ T ∧ F.hi ∈ T) ∧ p ∈ partL c (b + (p.1 - b) / w * w) (b + (p.1 - b) / w * w + w) := fun p hp => by
    obtain ⟨h1, h2, h3⟩ := col_in hw hp
    obtain ⟨F, hF⟩ := four_some h3
    exact ⟨F, four_in hF, h.has _ h1 h2 F hF, h3⟩
  have upC : ∀ k : Int, Up (partL c (b + k * w) (b + k * w + w)) := fun k => up.sublist List.filter_sublist
  have col : ∀ {q : Int × Int} {k : Int}, q ∈ partL c (b + k * w) (b + k * w + w) → (q.1 - b) / w = k := fun {q k} hq => (col_iff hw).mpr (mem_partL.mp hq).2
  refine ⟨up.sublist List.filter_sublist, h.up, h.sub, fun p hp => ?_, fun p hp => ?_, fun p hp => ?_, fun p hp => ?_⟩
  · obtain ⟨F, hF, t, m⟩ := key p hp
    exact ⟨F.f, t.1, col hF.f, hF.first (upC _) p m⟩
  · obtain ⟨F, hF, t, m⟩ := key p hp
    exact ⟨F.l, t.2.1, col hF.l, hF.last (upC _) p m⟩
  · obtain ⟨F, hF, t, m⟩ := key p hp
    exact ⟨F.lo, t.2.2.1, col hF.lo, hF.low p m⟩
  · obtain ⟨F, hF, t, m⟩ := key p hp
    exact ⟨F.hi, t.2.2.2, col hF.hi, hF.high p m⟩
theorem Kin.self {c : Prs} {b w m : Int} {T : Prs} (h : Kin c b w m T) : partL T b (b + w * m) = T := by
  unfold partL
  refine List.filter_eq_self.mpr fun p hp => ?_
  obtain ⟨_, h1, h2⟩ := mem_partL.mp (h.sub p hp)
  rw [decide_eq_true h1, decide_eq_true h2]
  rfl
theorem Kin.dots {c : Prs} {b w m low tall n : Int} {T : Prs} (h : Kin c b w m T) (up : Up c) (hw : 0 < w) (ht : 0 < tall) : dotsD T b w m low tall n = dotsD c b w m low tall n := by
  unfold dotsD dotsL
  rw [h.self]
  congr 2
  exact List.map_congr_left fun k _ => (keeps_run hw ht (h.keeps up hw)).symm
theorem up_sub_len {l l' : Prs} (u : Up l) (u' : Up l') (h : ∀ p ∈ l, p ∈ l') : l.length ≤ l'.length := by
  have e : l = l'.filter fun p => decide (p ∈ l) := up_ext u (u'.sublist List.filter_sublist) fun p => by
    rw [List.mem_filter]
    simp
    exact h p
  rw [e]
  exact List.length_filter_le _ _
theorem Kin.sub_len {c : Prs} {b w m : Int} {T : Prs} (h : Kin c b w m T) (up : Up c) : T.length ≤ (partL c b (b + w * m)).length := up_sub_len h.up (up.sublist List.filter_sublist) h.sub
/-- two such are one -/
theorem Kin.uniq {c : Prs} {b w m : Int} {T : Prs} (h : Kin c b w m T) {T' : Prs} (up : Up T') (e : ∀ p, p ∈ T' ↔ p ∈ T) : T' = T := up_ext up h.up e
theorem TExt.dK {H H' : Hp} {p : Addr} {m : List (Key × V)} (k : Keep (At p) H H') (h : H p = some (.dK m)) : TExt H H' := k.text fun b e => by rw [show b = p from e, h]; trivial
theorem dp_lastD {K : PySem.W.Frag} {H : Hp} {y0 : V} {yr : List V} {f : Int × Int} {r : Prs} (d0 : Dp K H y0 (pairP f)) (dr : DpAll K H yr (r.map pairP)) : ∃ yl, atI (y0 :: yr) (-1) = some yl ∧ Dp K H yl (pairP ((r.getLast?).getD f)) := by
  have hyl : yr.length = r.length := by rw [dpAll_len dr, List.length_map]
  rcases List.eq_nil_or_concat yr with rfl | ⟨yi, yl, rfl⟩
  · have : r = [] := List.length_eq_zero_iff.mp (by simpa using hyl.symm)
    subst this
    exact ⟨y0, atI_last [] y0, d0⟩
  · rw [List.concat_eq_append] at *
    refine ⟨yl, atI_last (y0 :: yi) yl, ?_⟩
    obtain ⟨q, hq, hd⟩ := dpAll_map_at dr (i := yi.length) (x := yl) (by simp)
    have : r.getLast? = some q := by
      rw [List.getLast?_eq_getElem?]
      have : r.length - 1 = yi.length := by simp at hyl; omega
      rw [this]
      exact hq
    rw [this]
    exact hd
end Fp
/-! sets of pairs of ints: set(a list of pairs), sorted(such a set), len(such a set) -/
namespace Fp
open PySem PySem.Spec PyProof.Rows L2
def two (p : Int × Int) : List Int := [p.1, p.2]
theorem two_inj {p q : Int × Int} (h : two p = two q) : p = q := by
  obtain ⟨a, b⟩ := p
  obtain ⟨c, d⟩ := q
  simp [two] at h
  obtain ⟨rfl, rfl⟩ := h
  rfl
theorem mem_two {x : Int × Int} {l : Prs} : two x ∈ l.map two ↔ x ∈ l := by
  constructor
  · intro h
    obtain ⟨y, hy, e⟩ := List.mem_map.mp h
    rw [← two_inj e]
    exact hy
  · intro h
    exact List.mem_map.mpr ⟨x, h, rfl⟩
theorem dp_keys {K : PySem.W.Frag} {H : Hp} : ∀ {ws : List V} {ps : Prs}, DpAll K H ws (ps.map pairP) → ∃ ks : List (Addr × List Int), ws = ks.map (fun p => V.ref p.1) ∧ ks.map (·.2) = ps.map two ∧ ∀ p ∈ ks, SqT K H p.1 (p.2.map V.int)
  | [], [], _ => ⟨[], rfl, rfl, fun p h => by cases h⟩
  | w0 :: ws, p0 :: ps, .cons h1 h2 => by
    obtain ⟨ks, e1, e2, e3⟩ := dp_keys h2
    obtain ⟨a, e, ha⟩ := dp_pair h1
    refine ⟨(a, two p0) :: ks, by rw [e, e1]; rfl, by rw [List.map_cons, e2]; rfl, fun p hp => ?_⟩
    rcases List.mem_cons.mp hp with rfl | hp
    · exact ha
    · exact e3 p hp
theorem keys_dp {K : PySem.W.Frag} {H : Hp} {L : List (Addr × List Int)} {s : Prs} (e : L.map (·.2) = s.map two) (h : ∀ p ∈ L, SqT K H p.1 (p.2.map V.int)) {q : Addr × List Int} (hq : q ∈ L) : ∃ p, q.2 = two p ∧ p ∈ s ∧ Dp K H (.ref q.1) (pairP p) := by
  have : q.2 ∈ s.map two := by rw [← e]; exact List.mem_map.mpr ⟨q, hq, rfl⟩
  obtain ⟨p, hp, ep⟩ := List.mem_map.mp this
  refine ⟨p, ep.symm, hp, ?_⟩
  have z := h q hq
  rw [← ep] at z
  exact dp_of_pair z
section
variable {X : Cx}
def uSetP (P : Program) (w : World) (K : PySem.W.Frag) : List V → Hp → VK → Prop := fun vs H Q => ∃ (l : Addr) (ws : List V) (ps : Prs), vs = [.ref l] ∧ SqL K H l ws ∧ DpAll K H ws (ps.map pairP) ∧ ps.length < 64 ∧
  ∀ (a : Addr) (L : List (Addr × List Int)) (s : Prs), H a = none → L.map (·.2) = s.map two → (∀ p ∈ L, SqT K H p.1 (p.2.map V.int)) → s.Nodup → (∀ x, x ∈ s ↔ x ∈ ps) → Q (.ref a) (upd H a (SetTO P w a L))
theorem c_setP (hc : X.calm = true) (hu : X.A.units + 64 < cLine) : CallR X (.type "set") (uSetP X.prog X.w X.K) := by
  intro pins s σ H xs us Q I r h
  obtain ⟨l, ws, ps, rfl, hl, hd, hf, q⟩ := h
  obtain ⟨ks, rfl, e2, e3⟩ := dp_keys hd
  rw [Vals.ref1 r]
  obtain ⟨its, rv, pl, hz⟩ := I.list hl
  have hn : H s.heap.objs.size = none := I.hok.fresh (Nat.le_refl _)
  have hkl : ks.length = ps.length := by
    have := congrArg List.length e2
    simpa using this
  refine call_set_tups (P := X.prog) (w := X.w) ks (I.ok.hd hc) pl.isList (by simpa using refs_of_vals rv) (fun p hp => I.isT (e3 p hp)) (by omega) (by omega) fun h' tk L es ep t R g k => ?_
  have sub : ∀ p ∈ L, p ∈ ks := fun p hp => List.mem_of_mem_take (g.sub p hp)
  have all : ∀ p ∈ ks, p.2 ∈ L.map (·.2) := fun p hp => g.all p (by rw [List.take_length]; exact hp)
  have el : L.map (·.2) = (L.map fun p => (p.2.getD 0 0, p.2.getD 1 0)).map two := by
    rw [List.map_map]
    refine List.map_congr_left fun p hp => ?_
    have : p.2 ∈ ps.map two := by rw [← e2]; exact List.mem_map.mpr ⟨p, sub p hp, rfl⟩
    obtain ⟨y, _, ey⟩ := List.mem_map.mp this
    show p.2 = two (p.2.getD 0 0, p.2.getD 1 0)
    rw [← ey]
    rfl
  refine ⟨.ref s.heap.objs.size, upd H s.heap.objs.size (SetTO X.prog X.w s.heap.objs.size L), I.laid (t' := tk) k (Nat.le_refl _) (setTO_new R.t0), rfl, q _ L _ hn el (fun p hp => e3 p (sub p hp)) ?_ fun x => ?_⟩
  · have nd := R.nd
    rw [el] at nd
    exact nodup_of_map nd
  · rw [← mem_two, ← el, ← mem_two (l := ps), ← e2]
    constructor
    · intro hx
      obtain ⟨p, hp, ep⟩ := List.mem_map.mp hx
      exact List.mem_map.mpr ⟨p, sub p hp, ep⟩
    · intro hx
      obtain ⟨p, hp, ep⟩ := List.mem_map.mp hx
      rw [← ep]
      exact all p hp
def uLenSP (P : Program) (w : World) (K : PySem.W.Frag) : List V → Hp → VK → Prop := fun vs H Q => ∃ (a : Addr) (L : List (Addr × List Int)), vs = [.ref a] ∧ H a = some (SetTO P w a L) ∧ (∀ p ∈ L, SqT K H p.1 (p.2.map V.int)) ∧ Q (.int L.length) H
theorem c_lenSP : CallR X (.builtin "len") (uLenSP X.prog X.w X.K) := by
  intro pins s σ H vs us Q I r h
  obtain ⟨a, L, rfl, ha, hk, q⟩ := h
  have R0 : SetT0 X.prog X.w s.heap a L := (I.hok a _ ha).1
  obtain ⟨es, ep, t, R⟩ := R0.full fun p hp => I.isT (hk p hp)
  rw [Vals.ref1 r]
  obtain ⟨o, ho, hex, hd⟩ := R.ob
  have hs := R.size
  have hf := R.few
  exact call_len_set ho hex hd R.fits (by omega) ⟨.int L.length, H, I.tok _, ⟨_, by rw [hs]⟩, q⟩
def uSortedSP (P : Program) (w : World) (K : PySem.W.Frag) : List V → Hp → VK → Prop := fun vs H Q => ∃ (a : Addr) (L : List (Addr × List Int)) (s : Prs), vs = [.ref a] ∧ H a = some (SetTO P w a L) ∧ L.map (·.2) = s.map two ∧ (∀ p ∈ L, SqT K H p.1 (p.2.map V.int)) ∧
  ∀ (ys : List V) (l' : Prs) (p : Addr), Lex l' → l'.Perm s → DpAll K H ys (l'.map pairP) → H p = none → Q (.ref p) (upd H p (.lst ys))
theorem c_sortedSP (hc : X.calm = true) : CallR X (.builtin "sorted") (uSortedSP X.prog X.w X.K) := by
  intro pins s σ H vs us Q I r h
  obtain ⟨a, L, sp, rfl, ha, el, hk, q⟩ := h
  have R0 : SetT0 X.prog X.w s.heap a L := (I.hok a _ ha).1
  obtain ⟨es, ep, t, R⟩ := R0.full fun p hp => I.isT (hk p hp)
  rw [Vals.ref1 r]
  obtain ⟨o, ho, hex, hd⟩ := R.ob
  have hs := R.size
  have hf := R.few
  refine Calls.call_function_entry PyProof.Rows.kind_sorted PyProof.Rows.plain_sorted PyProof.Rows.entry_sorted (PyProof.Rows.args_sorted1 _) ?_
  unfold Builtin.«sorted»
  refine wpAny_bind (m := checkCount "sorted" 1 1 _) (wpAny_pure ?_)
  refine wpAny_bind (collect_set (A := X.A.in1) (I.ok.hd hc) ⟨o, ho, hex.1, hd⟩ R.fits (by unfold scanBound; omega) R.tab.ris R.led fun s1 its k1 hz g1 o1 pm => ?_)
  have hes : es.toList.map (·.2) = L.map fun q => Value.ref q.1 := by
    rw [R.rows, show rowsOf X.prog X.w L = L.map fun p => (thash X.prog X.w p.2, Value.ref p.1) from rfl, List.map_map]
    rfl
  rw [hes] at pm
  have e2 : ∀ v ∈ its, ∃ q ∈ L, v = Value.ref q.1 := fun v hv => by
    obtain ⟨q, hq, e⟩ := List.mem_map.mp (pm.mem_iff.mp hv)
    exact ⟨q, hq, e.symm⟩
  have hil : its.length = L.length := by rw [pm.length_eq, List.length_map]
  have hz' : its.length ≤ sizeLine := by rw [sizeLine_eq]; omega
  refine wpAny_bind (wpAny_newList ?_ hz')
  have old : ∀ b o, s.heap.get? b = some o → (s1.heap.push (seqObj "list" its.toArray 0)).get? b = some o := fun b o e => Heap.get?_push_of_some _ (k1 b o e)
  have hoL : (s1.heap.push (seqObj "list" its.toArray 0)).get? s1.heap.objs.size = some (seqObj "list" its.toArray 0) := Heap.get?_push_size _ rfl
  have isv : ∀ v ∈ its, Srt.IsPair (s1.heap.push (seqObj "list" its.toArray 0)) v (keyOf X.K H (backV v)).1 (keyOf X.K H (backV v)).2 := fun v hv => by
    obtain ⟨g, hg, rfl⟩ := e2 v hv
    obtain ⟨p, _, _, hp⟩ := keys_dp el hk hg
    show Srt.IsPair _ (.ref g.1) (keyOf X.K H (.ref g.1)).1 (keyOf X.K H (.ref g.1)).2
    rw [keyOf_is I hp]
    exact (isPair_of I hp).keeps fun b o e _ => old b o e
  refine wpAny_bind (wpAny_holding (wpAny_call_entry PyProof.Rows.slot_list_sort ⟨_, hoL, rfl⟩ PyProof.Rows.entry_list_sort
    (SrtO.list_sort_ord (s := { s1 with heap := s1.heap.push (seqObj "list" its.toArray 0) }) (ltv := fun v u => SrtO.lexB (keyOf X.K H (backV v)) (keyOf X.K H (backV u))) (SrtO.swo_lex _) hoL hz'
      (fun _ => SrtO.pairs_sortableO (s := { s1 with heap := s1.heap.push (seqObj "list" its.toArray 0) }) (by omega) isv fun o e => ?_) fun out a1 a2 => ⟨_, rfl, ?_⟩) (PyProof.Rows.args_list_sort _)))
  · have e' : some o = some (seqObj "list" its.toArray 0) := e.symm.trans hoL
    cases e'
    intro c
    exact absurd (Value.type.inj c) (by decide)
  have h3 : ∀ u ∈ out, ∃ a, u = Value.ref a := fun u hu => by
    obtain ⟨q, _, e⟩ := e2 u (a2.perm.mem_iff.mp hu)
    exact ⟨_, e⟩
  obtain ⟨n, hn⟩ := PyProof.Rows.sortedHeap_at (vs := its) (out := out.toArray) hoL
  have hfr : H s1.heap.objs.size = none := I.hok.fresh hz
  have kp : ∀ b o, s.heap.get? b = some o → (PyProof.Rows.sortedHeap (s1.heap.push (seqObj "list" its.toArray 0)) s1.heap.objs.size its out.toArray).get? b = some o := fun b o e => by
    have e1 := k1 b o e
    have hlt := Heap.lt_size e1
    rw [PyProof.Rows.sortedHeap_old (Nat.ne_of_lt hlt) (by rw [size_push']; exact Nat.lt_succ_of_lt hlt)]
    exact Heap.get?_push_of_some _ e1
  have pmk : ((out.map backV).map (keyOf X.K H)).Perm sp := by
    have p1 : (out.map fun v => keyOf X.K H (backV v)).Perm (its.map fun v => keyOf X.K H (backV v)) := a2.perm.map _
    have p2 := pm.map fun v => keyOf X.K H (backV v)
    have e3 : (L.map fun q => Value.ref q.1).map (fun v => keyOf X.K H (backV v)) = sp := by
      rw [List.map_map]
      have : (L.map ((fun v => keyOf X.K H (backV v)) ∘ fun q => Value.ref q.1)).map two = sp.map two := by
        rw [← el, List.map_map]
        refine List.map_congr_left fun q hq => ?_
        obtain ⟨p, ep, _, hp⟩ := keys_dp el hk hq
        show two (keyOf X.K H (.ref q.1)) = q.2
        rw [keyOf_is I hp, ep]
      exact (List.map_inj_right (fun _ _ z => two_inj z)).mp this
    rw [e3] at p2
    rw [List.map_map]
    exact p1.trans p2
  have hlen : (out.map backV).length ≤ sizeLine := by rw [List.length_map, a2.perm.length_eq]; exact hz'
  have J : Inv X pins σ (upd H s1.heap.objs.size (.lst (out.map backV))) { s with heap := PyProof.Rows.sortedHeap (s1.heap.push (seqObj "list" its.toArray 0)) s1.heap.objs.size its out.toArray, gens := s1.gens, drawn := s1.drawn, toks := s1.toks } :=
    I.call (ch := []) (Un.laid kp hz hfr) (I.hok.laid kp hz ⟨hlen, out, n, vals_back h3, hn⟩) (by rw [g1]; exact I.bare) (fun _ z => nomatch z)
  have e : ({ s1 with heap := PyProof.Rows.sortedHeap (s1.heap.push (seqObj "list" its.toArray 0)) s1.heap.objs.size its out.toArray } : Shared) = { s with heap := PyProof.Rows.sortedHeap (s1.heap.push (seqObj "list" its.toArray 0)) s1.heap.objs.size its out.toArray, gens := s1.gens, drawn := s1.drawn, toks := s1.toks } := by
    cases s1
    cases s
    cases o1
    rfl
  rw [e]
  refine wpAny_pure ⟨_, rfl, .ref s1.heap.objs.size, _, J, rfl, q _ ((out.map backV).map (keyOf X.K H)) _ ?_ pmk (dpAll_of_keys _ fun x hx => ?_) hfr⟩
  · rw [List.map_map]
    exact SrtO.srtd_map a1
  · obtain ⟨u, hu, rfl⟩ := List.mem_map.mp hx
    obtain ⟨g, hg, rfl⟩ := e2 u (a2.perm.mem_iff.mp hu)
    obtain ⟨p, _, _, hp⟩ := keys_dp el hk hg
    show Dp X.K H (.ref g.1) (pairP (keyOf X.K H (.ref g.1)))
    rw [keyOf_is I hp]
    exact hp
end
section
variable {P : Program} {w : World} {K : PySem.W.Frag} {H : Hp} {Q : VK}
/-- a set of pairs stands at a -/
structure PSet (P : Program) (w : World) (K : PySem.W.Frag) (H : Hp) (a : Addr) (s : Prs) : Prop where
  ex : ∃ L, H a = some (SetTO P w a L) ∧ L.map (·.2) = s.map two ∧ ∀ p ∈ L, SqT K H p.1 (p.2.map V.int)
  nd : s.Nodup
theorem r_setP {l : Addr} {ws : List V} {ps : Prs} (h : SqL K H l ws) (hd : DpAll K H ws (ps.map pairP)) (hl : ps.length < 64) (q : ∀ (a : Addr) (s : Prs) H', H a = none → Same H H' → PSet P w K H' a s → (∀ x, x ∈ s ↔ x ∈ ps) → Q (.ref a) H') : uSetP P w K [.ref l] H Q :=
  ⟨l, ws, ps, rfl, h, hd, hl, fun a L s h1 h2 h3 h4 h5 => q a s _ h1 (Keep.same (Keep.new h1)) ⟨⟨L, upd_same, h2, fun p hp => SqT.text (TExt.of_same (Keep.same (Keep.new h1))) (h3 p hp)⟩, h4⟩ h5⟩
theorem r_lenSP {a : Addr} {s : Prs} (h : PSet P w K H a s) (q : Q (.int s.length) H) : uLenSP P w K [.ref a] H Q := by
  obtain ⟨L, h1, h2, h3⟩ := h.ex
  have e : L.length = s.length := by
    have := congrArg List.length h2
    simpa using this
  exact ⟨a, L, rfl, h1, h3, by rw [e]; exact q⟩
theorem r_sortedSP {a : Addr} {s : Prs} (h : PSet P w K H a s) (q : ∀ (ys : List V) (l' : Prs) p H', Lex l' → l'.Perm s → H p = none → Same H H' → H' p = some (.lst ys) → DpAll K H' ys (l'.map pairP) → Q (.ref p) H') : uSortedSP P w K [.ref a] H Q := by
  obtain ⟨L, h1, h2, h3⟩ := h.ex
  exact ⟨a, L, s, rfl, h1, h2, h3, fun ys l' p g1 g2 g3 g4 => q ys l' p _ g1 g2 g4 (Keep.same (Keep.new g4)) upd_same (DpAll.same (Keep.same (Keep.new g4)) _ _ g3)⟩
end
end Fp
/-! a list grown by a tuple's things -/
namespace Fp
open PySem PySem.Spec PyProof.Rows L2
open PySem.SeqAt PySem.AutoSeq1 PySem.MeetsSeq PySem.MeetsSeq2 PySem.MeetsSeq3 in
theorem ext_tup (l : Addr) (items : Array Value) (n : Nat) (b : Addr) (items2 : Array Value) (n2 : Nat) (dd : Option Addr) (sl : Array (Option Value)) (hs0 : ¬(!items.isEmpty && Builtin.List.listTooLong (items.size + items2.size)) = true) (hs1 : items.size ≤ sizeLine) (hs2 : items.size + items2.size ≤ sizeLine + 1) :
    Meets (Builtin.«list.extend» ⟨[.ref l, .ref b], []⟩) (fun _ R s => s.heap.get? l = some { cls := .type "list", dict := none, data := .seq items n, slots := #[] } ∧ s.heap.get? b = some { cls := .type "tuple", dict := dd, data := .seq items2 n2, slots := sl } ∧ R (.ok (.ret Value.none)) { s with heap := s.heap.update l (Obj.mapSeq fun x => x ++ items2), toks := s.toks }) :=
  .of_wp fun prog w A R s h => by
    obtain ⟨hp, g, d, tk, os⟩ := s; obtain ⟨hl, hb, h⟩ := h; have f1 := idx_int; have f2 := AutoSeq1.sub_tuple_tuple; have f3 := AutoSeq1.sub_list_list; have f4 := AutoSeq1.sub_tuple_list; have f5 := AutoSeq1.sub_list_tuple
    have hz' : (items ++ items2).size ≤ sizeLine + 1 := by rw [Array.size_append]; exact hs2
    wp_walk using (wpAny_updateSeq hl rfl (hz := hs1) (_hz' := hz')), wpAny_loadPart' hl, wpAny_loadPart' hb; exact ⟨_, rfl, h⟩
section
variable {X : Cx}
def rExtT (K : PySem.W.Frag) : V → List V → Hp → VK → Prop := fun x vs H Q => ∃ l b xs zs, x = .ref l ∧ vs = [.ref b] ∧ H l = some (.lst xs) ∧ SqT K H b zs ∧ xs.length + zs.length ≤ sizeLine ∧ Q .non (upd H l (.lst (xs ++ zs)))
theorem mt_extT : MtM X "list.extend" (rExtT X.K) := by
  intro pins s σ H x vs v us Q I rx rv h
  obtain ⟨l, b, xs, zs, rfl, rfl, hH, hB, hz, q⟩ := h
  cases rx
  obtain ⟨u, rfl, ru⟩ := rv.one
  cases ru
  obtain ⟨z, its, n, r, hl, e⟩ := I.lstM hH
  obtain ⟨its2, r2, ⟨o, hg, hc, n2, hd⟩, z2⟩ := I.tuple hB
  have hl2 := r2.length
  have hsz : its.toArray.size + its2.toArray.size ≤ sizeLine := by rw [List.size_toArray, List.size_toArray]; omega
  have hlong : ¬ (!its.toArray.isEmpty && Builtin.List.listTooLong (its.toArray.size + its2.toArray.size)) = true := by
    rw [notLongL hsz, Bool.and_false]
    exact Bool.false_ne_true
  have e2 : s.heap.get? b = some { cls := .type "tuple", dict := o.dict, data := .seq its2.toArray n2, slots := o.slots } := by
    rw [hg]
    obtain ⟨oc, od, oa, os⟩ := o
    cases hc
    cases hd
    rfl
  refine call_meets F.slot_list_extend ⟨_, e, rfl⟩ F.entry_list_extend (F.args_list_extend_2 _ _)
    (ext_tup l its.toArray n b its2.toArray n2 o.dict o.slots hlong (by rw [List.size_toArray]; omega) (by omega)) ⟨e, e2, ?_⟩
  refine ⟨.non, _, I.lset (its' := its ++ its2) hH e (by simp) (r.append r2) ?_, rfl, q⟩
  rw [List.length_append]
  omega
theorem r_extT {K : PySem.W.Frag} {H : Hp} {Q : VK} {a b : Addr} {xs ys : List V} (h : H a = some (.lst xs)) (h2 : SqT K H b ys) (hz : xs.length + ys.length ≤ 16777216) (q : ∀ H', Keep (At a) H H' → H' a = some (.lst (xs ++ ys)) → Q .non H') : rExtT K (.ref a) [.ref b] H Q := ⟨a, b, xs, ys, rfl, rfl, h, h2, by rw [sizeLine_eq]; exact hz, q _ Keep.at_ upd_same⟩
end
end Fp
/-! texts of numbers, of curves -/
namespace Fp
open PySem PySem.Spec PyProof.Rows L2
open TL (tl tl_append mk_tl tl_mk numL numL_digits numL_ne numL_free numL_val numL_len numL_step numL_lt tl_num spl spl_part1 spl_last1 tl_ofString map_tl_inj split_spl kind_ok)
def numT (i : Int) : List Nat := if i < 0 then 45 :: numL i.natAbs else numL i.natAbs
def numS (i : Int) : Str := ⟨(numT i).toArray⟩
theorem tl_numS (i : Int) : tl (numS i) = numT i := tl_mk _
theorem tl_str_int (i : Int) : tl (Str.ofString (toString i)) = numT i := by
  cases i with
  | ofNat n =>
    show tl (Str.ofString (toString ((n : Nat) : Int))) = numT ((n : Nat) : Int)
    rw [tl_num]
    unfold numT
    rw [if_neg (by omega)]
    simp
  | negSucc n =>
    have h : toString (Int.negSucc n) = "-" ++ toString (((n + 1 : Nat) : Int)) := rfl
    rw [h, tl_ofString, String.toList_append, List.map_append, ← tl_ofString, ← tl_ofString, tl_num]
    unfold numT
    rw [if_pos (by omega), show tl (Str.ofString "-") = [45] by decide +kernel]
    rfl
theorem str_int (i : Int) : Str.ofString (toString i) = numS i := tl_inj (by rw [tl_str_int, tl_numS])
theorem numT_free {i : Int} {s : Nat} (h0 : s ≠ 45) (h : s < 48 ∨ 57 < s) : s ∉ numT i := by
  unfold numT
  split
  · intro z
    rcases List.mem_cons.mp z with z | z
    · exact h0 z
    · exact numL_free h z
  · exact numL_free h
theorem pow10_nat (k : Nat) : ((10 ^ k : Nat) : Int) = (10 : Int) ^ k := by exact_mod_cast rfl
theorem numT_len {i : Int} {k : Nat} (hk : 0 < k) (h : i.natAbs < 10 ^ k) : (numT i).length ≤ k + 1 := by
  have := numL_len (n := i.natAbs) hk h
  unfold numT
  split
  · simp only [List.length_cons]; omega
  · omega
theorem int_of_numS {i : Int} (h : (numT i).length ≤ 4300) : intText? (numS i) = some i := by
  unfold numS
  unfold numT at h ⊢
  by_cases z : i < 0
  · rw [if_pos z] at h ⊢
    simp only [List.length_cons] at h
    rw [PySem.intText_neg (cs := numL i.natAbs) (by rfl) (numL_digits _) (numL_ne _) (by simp [Str.length]; omega), numL_val]
    congr 1
    omega
  · rw [if_neg z] at h ⊢
    rw [PySem.intText_digits (by exact numL_digits _) (by exact numL_ne _) (by simp [Str.length]; omega)]
    show some (((NumText.digitsVal (numL i.natAbs) : Nat) : Int)) = some i
    rw [numL_val]
    congr 1
    omega
/-- a line, a text -/
def lineT (p : Int × Int) : List Nat := numT p.1 ++ 32 :: numT p.2
def lineOf (p : Int × Int) : Str := ⟨(lineT p).toArray⟩
def lineNl (p : Int × Int) : Str := ⟨(lineT p ++ [10]).toArray⟩
theorem tl_lineNl (p : Int × Int) : tl (lineNl p) = lineT p ++ [10] := tl_mk _
def textN (c : Prs) : List Nat := (c.map fun p => lineT p ++ [10]).flatten
def textS (c : Prs) : Str := ⟨(textN c).toArray⟩
theorem tl_lineOf (p : Int × Int) : tl (lineOf p) = lineT p := tl_mk _
theorem tl_textS (c : Prs) : tl (textS c) = textN c := tl_mk _
theorem lineT_free (p : Int × Int) : (10 : Nat) ∉ lineT p := by
  unfold lineT
  intro z
  rcases List.mem_append.mp z with z | z
  · exact numT_free (by decide) (by decide) z
  · rcases List.mem_cons.mp z with z | z
    · exact absurd z (by decide)
    · exact numT_free (by decide) (by decide) z
theorem spl_text : ∀ c : Prs, spl [10] 0 [] (textN c) = c.map lineT ++ [[]]
  | [] => by simp [textN, TL.spl_nil]
  | p :: c => by
    have e : textN (p :: c) = lineT p ++ ([10] ++ textN c) := by simp [textN]
    rw [e, spl_part1 (s := 10) (S := []) (lineT_free p), spl_text c]
    rfl
theorem split_text (c : Prs) : Txt.split (textS c) ("\n" : Str) = c.map lineOf ++ [("" : Str)] := by
  refine map_tl_inj ?_
  rw [split_spl _ _ (by decide +kernel) (kind_ok (by decide +kernel)), tl_textS, show tl ("\n" : Str) = [10] by decide +kernel, spl_text, List.map_append, List.map_map]
  congr 1
theorem split_line (p : Int × Int) : Txt.split (lineOf p) (" " : Str) = [numS p.1, numS p.2] := by
  refine map_tl_inj ?_
  rw [split_spl _ _ (by decide +kernel) (kind_ok (by decide +kernel)), tl_lineOf, show tl (" " : Str) = [32] by decide +kernel]
  have e : lineT p = numT p.1 ++ ([32] ++ numT p.2) := by simp [lineT]
  rw [e, spl_part1 (s := 32) (S := []) (numT_free (by decide) (by decide)), spl_last1 (numT_free (by decide) (by decide))]
  simp [tl_numS]
theorem text_snoc {c : Prs} {i : Nat} {p : Int × Int} (h : c[i]? = some p) : textN (c.take (i + 1)) = textN (c.take i) ++ (numT p.1 ++ [32] ++ numT p.2 ++ [10]) := by
  unfold textN
  rw [take_snoc h, List.map_append, List.flatten_append]
  simp [lineT]
/-- numbers of at most k digits -/
structure Bdk (k : Nat) (p : Int × Int) : Prop where
  t : p.1.natAbs < 10 ^ k
  h : p.2.natAbs < 10 ^ k
theorem lineT_len {k : Nat} {p : Int × Int} (hk : 0 < k) (h : Bdk k p) : (lineT p).length ≤ 2 * k + 3 := by
  have h1 := numT_len hk h.t
  have h2 := numT_len hk h.h
  unfold lineT
  simp only [List.length_append, List.length_cons]
  omega
theorem textN_len {k : Nat} (hk : 0 < k) : ∀ {c : Prs}, (∀ p ∈ c, Bdk k p) → (textN c).length ≤ c.length * (2 * k + 4)
  | [], _ => by simp [textN]
  | p :: c, h => by
    have h1 := lineT_len hk (h p (List.mem_cons_self ..))
    have h2 := textN_len hk fun q hq => h q (List.mem_cons_of_mem _ hq)
    have e : textN (p :: c) = lineT p ++ ([10] ++ textN c) := by simp [textN]
    rw [e]
    simp only [List.length_append, List.length_cons, List.length_nil, Nat.add_mul, Nat.one_mul]
    omega
theorem bdk_of {p : Int × Int} (h : Bd p) : Bdk 61 p := by
  have e : (10 : Nat) ^ 61 = 10000000000000000000000000000000000000000000000000000000000000 := by decide
  have h1 := h.t
  have h2 := h.h
  unfold big at h1 h2
  exact ⟨by rw [e]; omega, by rw [e]; omega⟩
/-! ### rules of texts -/
section
variable {X : Cx} {K : PySem.W.Frag} {σ : St} {H H' : Hp} {Q : VK} {te : TE}
theorem r_str {i : Int} (h : i.natAbs < 2 ^ 1920) (q : Q (.str (numS i)) H) : uStr [.int i] H Q := by
  refine ⟨i, rfl, ?_, by rw [show ((toString i : String) : Str) = numS i from str_int i]; exact q⟩
  by_cases z : i.natAbs = 0
  · rw [z]; decide
  · exact (Nat.log2_lt z).mpr h
def uSplit : V → List V → Hp → VK → Prop := fun x xs H Q => ∃ a b, x = .str a ∧ xs = [.str b] ∧ (b.length == 0) = false ∧ a.length + 2 ≤ sizeLine ∧ rNewStrs (Txt.split a b) H Q
theorem pe_splitU {o e : Expr} {to te : TE} {apos pos : Pos} (ho : PE X o to) (he : PE X e te) (hs : starEach [e] X.env = [(false, eval e X.env)] := by rfl) (hbase : attributeBase o "split" X.env (eval o X.env) = eval o X.env := by rfl) (hline : (apos.endLine == pos.line) = true := by rfl) :
    PE X (.Call (.Attribute o "split" apos) [e] [] pos) (tM1 uSplit to te) := pe_split ho he hs hbase hline
theorem r_split {a b : Str} (hb : (b.length == 0) = false) (ha : a.length + 2 ≤ sizeLine) (q : ∀ p H', H p = none → Same H H' → H' p = some (.lst ((Txt.split a b).map V.str)) → Q (.ref p) H') : uSplit (.str a) [.str b] H Q :=
  ⟨a, b, rfl, rfl, hb, ha, fun p hp => q p _ hp (Keep.same (Keep.new hp)) upd_same⟩
def uRep01 : R2 := fun x y H Q => ∃ (z : Str) (k : Int), x = .str z ∧ y = .int k ∧ ((k = 0 ∧ Q (.str Str.empty) H) ∨ (k = 1 ∧ Q (.str z) H))
theorem o_rep01 : OpR X (binaryOp .Mult) uRep01 := by
  intro pins s σ H x y v u Q I rx ry h
  obtain ⟨z, k, rfl, rfl, hq⟩ := h
  obtain ⟨t, rfl⟩ := rx
  obtain ⟨t', rfl⟩ := ry
  rcases hq with ⟨rfl, q⟩ | ⟨rfl, q⟩
  · exact PySem.P.mul_str_none (by decide) (by decide) ⟨.str Str.empty, H, I.tok _, ⟨_, rfl⟩, q⟩
  · refine PySem.P.mul_str (by decide) (fun _ w => by simp at w) (fun _ w => by simp at w) ?_
    rw [if_neg (by decide), if_pos (by simp)]
    exact ⟨.str z, H, I, ⟨_, rfl⟩, q⟩
theorem r_rep0 {z : Str} {k : Int} (e : k = 0) (q : Q (.str ("" : Str)) H) : uRep01 (.str z) (.int k) H Q := ⟨z, k, rfl, rfl, .inl ⟨e, q⟩⟩
theorem r_rep1 {z : Str} {k : Int} (e : k = 1) (q : Q (.str z) H) : uRep01 (.str z) (.int k) H Q := ⟨z, k, rfl, rfl, .inr ⟨e, q⟩⟩
def uInS : R2 := fun x y H Q => ∃ (c : Nat) (z : Str), x = .str ⟨#[c]⟩ ∧ y = .str z ∧ Q (.bl (decide (c ∈ z.cps.toList))) H
theorem o_inS : OpR X (compareOp .In) uInS := op_in_sign
theorem r_inS {c : Nat} {z : Str} (q : Q (.bl (decide (c ∈ tl z))) H) : uInS (.str ⟨#[c]⟩) (.str z) H Q := ⟨c, z, rfl, rfl, q⟩
def uIntS : List V → Hp → VK → Prop := fun xs H Q => ∃ a n, xs = [.str a] ∧ PySem.intText? a = some n ∧ a.length ≤ 640 ∧ Q (.int n) H
theorem c_intS : CallR X (.type "int") uIntS := call_int_str
theorem r_intS {i : Int} (h : (numT i).length ≤ 640) (q : Q (.int i) H) : uIntS [.str (numS i)] H Q := ⟨numS i, i, rfl, int_of_numS (by omega), by rw [len_tl, tl_numS]; exact h, q⟩
def uSlS : V → Option Int → Option Int → Hp → VK → Prop := fun x lo hi H Q => ∃ z, x = .str z ∧ z.length ≤ sizeLine ∧ Q (.str (cutS z lo hi)) H
theorem o_slS : SlR X uSlS := sl_str
theorem r_slS {z : Str} {lo hi : Option Int} (h : z.length ≤ sizeLine) (q : Q (.str (cutS z lo hi)) H) : uSlS (.str z) lo hi H Q := ⟨z, rfl, h, q⟩
theorem cutS_head {c : Nat} {l : List Nat} : cutS (⟨(c :: l).toArray⟩ : Str) none (some 1) = ⟨#[c]⟩ := by
  apply tl_inj
  unfold cutS
  simp [HT.sIx, Str.length, tl]
theorem cutS_tail {c : Nat} {l : List Nat} : cutS (⟨(c :: l).toArray⟩ : Str) (some 1) none = ⟨l.toArray⟩ := by
  apply tl_inj
  unfold cutS
  simp [HT.sIx, Str.length, tl]
def uStrW (v : V) (H : Hp) (R : It → Hp → Prop) : Prop := ∃ x, v = .str x ∧ R (Its x) H
def iStrU (te : TE) : TI := fun σ H R => te σ H fun v H1 => uStrW v H1 R
theorem pi_strU {tg e : Expr} (he : PE X e te) : PI X tg e (iStrU te) := pi_str he
theorem r_istrU {R : It → Hp → Prop} (q : te σ H fun v H1 => uStrW v H1 R) : iStrU te σ H R := q
theorem r_strW {x : Str} {R : It → Hp → Prop} (q : R (Its x) H) : uStrW (.str x) H R := ⟨x, rfl, q⟩
theorem wk_str {x : Str} : Wk (Its x) (tl x).length (fun _ => True) (fun i H v H' => H' = H ∧ ∃ c, (tl x)[i]? = some c ∧ v = .str ⟨#[c]⟩) where
  go := fun i H _ hi => by show i < x.cps.size; simpa [tl] using hi
  stop := fun i H _ hi => by show x.cps.size ≤ i; simpa [tl] using hi
  yld := fun i H v H' _ y => by
    obtain ⟨e, c, h1, h2⟩ := y
    exact ⟨e, c, by simpa [tl] using h1, h2⟩
end
end Fp
/-! boards: stores by names -/
namespace Fp
open PySem PySem.Spec PyProof.Rows L2
/-! ### dicts by texts, whatever they hold -/
section
variable {K : PySem.W.Frag} {H : Hp} {Q : VK} {a : Addr} {kvs : List (Key × V)} {s : Str}
theorem r_dputS {x : V} {R : Hp → Prop} (hd : H a = some (.dK kvs)) (hl : kvs.length ≤ 1000000) (q : ∀ H', Keep (At a) H H' → H' a = some (.dK (putK kvs (Sum.inr s) x)) → R H') : uDPut (.ref a) (.str s) x H R :=
  ⟨a, _, rfl, DPut.k (k := Sum.inr s) hd (by rw [sizeLine_eq]; omega), q _ Keep.at_ upd_same⟩
theorem r_dgetS {x : V} (hd : H a = some (.dK kvs)) (e : valV kvs (Sum.inr s) = some x) (q : Q x H) : uDGet (.ref a) (.str s) H Q := by
  refine ⟨a, x, rfl, ?_, q⟩
  have z := DGet.k (k := Sum.inr s) hd
  rw [e] at z
  exact z
theorem r_dnotinS (hd : H a = some (.dK kvs)) (q : Q (.bl (!(valV kvs (Sum.inr s)).isSome)) H) : uDNotIn (.str s) (.ref a) H Q := ⟨a, _, rfl, DGet.k (k := Sum.inr s) hd, q⟩
/-- sorted(d), d by texts -/
def uSortedDS : List V → Hp → VK → Prop := fun xs H Q => ∃ (a : Addr) (kvs : List (Key × V)) (ks : List Str), xs = [.ref a] ∧ Rd H a (.dK kvs) ∧ kvs.map (·.1) = ks.map Sum.inr ∧ ks.length < 64 ∧
    ∀ ys p, ys.Perm ks → sortedS ys = true → H p = none → Q (.ref p) (upd H p (.lst (ys.map V.str)))
theorem c_sortedDS {X : Cx} (hc : X.calm = true) : CallR X (.builtin "sorted") uSortedDS := call_sortedD hc
theorem r_sortedDS {ks : List Str} (hd : H a = some (.dK kvs)) (e : kvs.map (·.1) = ks.map Sum.inr) (hl : ks.length < 64) (q : ∀ (ys : List Str) p H', ys.Perm ks → sortedS ys = true → H p = none → Same H H' → H' p = some (.lst (ys.map V.str)) → Q (.ref p) H') : uSortedDS [.ref a] H Q :=
  ⟨a, kvs, ks, rfl, .inl hd, e, hl, fun ys p h1 h2 h3 => q ys p _ h1 h2 h3 (Keep.same (Keep.new h3)) upd_same⟩
/-- 'a' <= sign -/
def uLeS : R2 := fun x y H Q => ∃ i j, x = .str i ∧ y = .str j ∧ Q (.bl (!decide (j.cps.toList < i.cps.toList))) H
theorem o_leS {X : Cx} : OpR X (compareOp .LtE) uLeS := op_le_str
theorem one_lt {c d : Nat} : (([c] : List Nat) < [d]) ↔ c < d := by
  constructor
  · intro h
    cases h with
    | rel h => exact h
    | cons h => cases h
  · exact fun h => .rel h
theorem r_leS1 {c d : Nat} (q : Q (.bl (decide (c ≤ d))) H) : uLeS (.str ⟨#[c]⟩) (.str ⟨#[d]⟩) H Q := by
  refine ⟨_, _, rfl, rfl, ?_⟩
  have e : (!decide (([d] : List Nat) < [c])) = decide (c ≤ d) := by
    rw [Bool.eq_iff_iff]
    simp [one_lt]
  show Q (.bl (!decide (([d] : List Nat) < [c]))) H
  rw [e]
  exact q
end
theorem val_not {κ : Type} [DecidableEq κ] {k : κ} : ∀ {kvs : List (κ × V)}, k ∉ kvs.map (·.1) → valV kvs k = none
  | [], _ => rfl
  | p :: r, h => by
    rw [List.map_cons, List.mem_cons, not_or] at h
    rw [valV_neg (fun z => h.1 z.symm)]
    exact val_not h.2
theorem val_mem {κ : Type} [DecidableEq κ] {k : κ} {x : V} : ∀ {kvs : List (κ × V)}, (kvs.map (·.1)).Nodup → (k, x) ∈ kvs → valV kvs k = some x
  | p :: r, nd, h => by
    rw [List.map_cons, List.nodup_cons] at nd
    rcases List.mem_cons.mp h with rfl | h
    · exact valV_pos rfl
    · rw [valV_neg fun z => nd.1 (by rw [z]; exact List.mem_map.mpr ⟨_, h, rfl⟩)]
      exact val_mem nd.2 h
theorem put_not {κ : Type} [DecidableEq κ] {k : κ} {x : V} {kvs : List (κ × V)} (h : k ∉ kvs.map (·.1)) : putK kvs k x = kvs ++ [(k, x)] := by
  unfold putK
  rw [if_neg]
  intro z
  obtain ⟨q, hq, e⟩ := List.any_eq_true.mp z
  exact h (List.mem_map.mpr ⟨q, hq, of_decide_eq_true e⟩)
/-! ### a board -/
structure Ent where
  name : Str
  a : SA
  c : Prs
  hs : List (Int × Prs)
  ts : List Int
  ws : List Watch
  z : Nat
def namesE (es : List Ent) : List Str := es.map (·.name)
def dkv (es : List Ent) : List (Key × V) := es.map fun e => (Sum.inr e.name, V.ref e.a.p)
theorem dkv_keys (es : List Ent) : (dkv es).map (·.1) = (namesE es).map Sum.inr := by
  unfold dkv namesE
  rw [List.map_map, List.map_map]
  rfl
theorem inr_nodup {l : List Str} (h : l.Nodup) : (l.map (fun s => (Sum.inr s : Key))).Nodup := List.pairwise_map.mpr (h.imp fun {a b} ne e => ne (by injection e))
theorem dkv_some {es : List Ent} (nd : (namesE es).Nodup) {e : Ent} (h : e ∈ es) : valV (dkv es) (Sum.inr e.name) = some (.ref e.a.p) :=
  val_mem (by rw [dkv_keys]; exact inr_nodup nd) (List.mem_map.mpr ⟨e, h, rfl⟩)
theorem dkv_none {es : List Ent} {s : Str} (h : s ∉ namesE es) : valV (dkv es) (Sum.inr s) = none :=
  val_not (by rw [dkv_keys]; exact fun z => by obtain ⟨t, ht, e⟩ := List.mem_map.mp z; injection e with e; exact h (by rw [← e]; exact ht))
theorem dkv_put {es : List Ent} {s : Str} (h : s ∉ namesE es) (a : SA) : putK (dkv es) (Sum.inr s) (.ref a.p) = dkv (es ++ [⟨s, a, [], [], [], [], 0⟩]) := by
  rw [put_not (by rw [dkv_keys]; exact fun z => by obtain ⟨t, ht, e⟩ := List.mem_map.mp z; injection e with e; exact h (by rw [← e]; exact ht))]
  unfold dkv
  rw [List.map_append]
  rfl
def bAll (p sd : Addr) (es : List Ent) : List Addr := p :: sd :: es.flatMap fun e => e.a.all
structure BoardAt (K : PySem.W.Frag) (CB CS : Addr) (H : Hp) (p sd : Addr) (es : List Ent) : Prop where
  ob : ∃ dx, H p = some (.ins CB dx [("stores", .ref sd)])
  dd : H sd = some (.dK (dkv es))
  nd : (namesE es).Nodup
  st : ∀ e ∈ es, StoreAt K CS H e.a e.c e.hs e.ts e.ws e.z
  sep : es.Pairwise fun e f => ∀ x ∈ e.a.all, x ∉ f.a.all
  own : ∀ e ∈ es, p ∉ e.a.all ∧ sd ∉ e.a.all
  len : es.length ≤ 60
section
variable {K : PySem.W.Frag} {CB CS : Addr} {H H' : Hp} {p sd : Addr} {es : List Ent} {F : Addr → Prop}
theorem mem_ball {x : Addr} : x ∈ bAll p sd es ↔ x = p ∨ x = sd ∨ ∃ e ∈ es, x ∈ e.a.all := by simp [bAll]
theorem BoardAt.keep (B : BoardAt K CB CS H p sd es) (k : Keep F H H') (t : TExt H H') (n : ∀ x ∈ bAll p sd es, ¬ F x) : BoardAt K CB CS H' p sd es := by
  obtain ⟨⟨dx, ob⟩, dd, nd, st, sep, own, len⟩ := B
  exact ⟨⟨dx, k _ _ ob (n _ (mem_ball.mpr (.inl rfl)))⟩, k _ _ dd (n _ (mem_ball.mpr (.inr (.inl rfl)))), nd, fun e he => (st e he).keep k t fun x hx => n x (mem_ball.mpr (.inr (.inr ⟨e, he, hx⟩))), sep, own, len⟩
theorem BoardAt.same (B : BoardAt K CB CS H p sd es) (s : Same H H') : BoardAt K CB CS H' p sd es := B.keep (F := No) (Keep.of_same s) (TExt.of_same s) (fun _ _ z => z)
theorem BoardAt.live (B : BoardAt K CB CS H p sd es) {x : Addr} (h : x ∈ bAll p sd es) : H x ≠ none := by
  obtain ⟨dx, ob⟩ := B.ob
  rcases mem_ball.mp h with rfl | rfl | ⟨e, he, hx⟩
  · rw [ob]; simp
  · rw [B.dd]; simp
  · exact (B.st e he).live hx
theorem BoardAt.new_not (B : BoardAt K CB CS H p sd es) {q : Addr} (h : H q = none) : q ∉ bAll p sd es := fun z => B.live z h
theorem BoardAt.text (B : BoardAt K CB CS H p sd es) (k : Keep (· ∈ bAll p sd es) H H') : TExt H H' := by
  obtain ⟨dx, ob⟩ := B.ob
  refine k.text fun x hx => ?_
  rcases mem_ball.mp hx with rfl | rfl | ⟨e, he, hx⟩
  · rw [ob]; trivial
  · rw [B.dd]; trivial
  · exact (B.st e he).mut hx
theorem BoardAt.other (B : BoardAt K CB CS H p sd es) {q : Addr} (k : Keep (At q) H H') (t : TExt H H') (n : q ∉ bAll p sd es) : BoardAt K CB CS H' p sd es := B.keep k t fun x hx z => n (by rw [← show x = q from z]; exact hx)
theorem BoardAt.ne (B : BoardAt K CB CS H p sd es) : p ≠ sd := by
  obtain ⟨dx, ob⟩ := B.ob
  exact ne_of ob B.dd (by intro z; cases z)
theorem sep_at : ∀ {es : List Ent} {i j : Nat} {e f : Ent}, es.Pairwise (fun e f => ∀ x ∈ e.a.all, x ∉ f.a.all) → es[i]? = some e → es[j]? = some f → i ≠ j → ∀ x ∈ e.a.all, x ∉ f.a.all := by
  intro es i j e f h hi hj ne x hx hy
  obtain ⟨li, ei⟩ := List.getElem?_eq_some_iff.mp hi
  obtain ⟨lj, ej⟩ := List.getElem?_eq_some_iff.mp hj
  subst ei ej
  rcases Nat.lt_or_ge i j with z | z
  · exact List.pairwise_iff_getElem.mp h i j li lj z x hx hy
  · exact List.pairwise_iff_getElem.mp h j i lj li (by omega) x hy hx
theorem names_set {es : List Ent} {i : Nat} {e e' : Ent} (hi : es[i]? = some e) (hn : e'.name = e.name) : namesE (es.set i e') = namesE es := by
  unfold namesE
  refine List.ext_getElem? fun j => ?_
  rw [List.getElem?_map, List.getElem?_map, List.getElem?_set]
  split
  · next h =>
    subst h
    obtain ⟨l, _⟩ := List.getElem?_eq_some_iff.mp hi
    try rw [if_pos l]
    rw [hi]
    simp [hn]
  · rfl
/-- one of the stores has changed -/
theorem BoardAt.one (B : BoardAt K CB CS H p sd es) {i : Nat} {e e' : Ent} (hi : es[i]? = some e) (hn : e'.name = e.name) (hp : e'.a.p = e.a.p) (hS : StoreAt K CS H' e'.a e'.c e'.hs e'.ts e'.ws e'.z) (k : Keep (· ∈ e.a.all) H H') (t : TExt H H') (fr : ∀ x ∈ e'.a.all, x ∈ e.a.all ∨ H x = none) : BoardAt K CB CS H' p sd (es.set i e') := by
  obtain ⟨⟨dx, ob⟩, dd, nd, st, sep, own, len⟩ := id B
  have he := List.mem_of_getElem? hi
  obtain ⟨li, ei⟩ := List.getElem?_eq_some_iff.mp hi
  have memS : ∀ f ∈ es.set i e', f = e' ∨ ∃ j, j ≠ i ∧ es[j]? = some f := fun f hf => by
    obtain ⟨j, hj⟩ := List.getElem?_of_mem hf
    rw [List.getElem?_set] at hj
    split at hj
    · next h =>
      try rw [if_pos li] at hj
      exact .inl (Option.some.inj hj).symm
    · next h => exact .inr ⟨j, fun z => h z.symm, hj⟩
  have outF : ∀ {j : Nat} {f : Ent}, j ≠ i → es[j]? = some f → ∀ x ∈ f.a.all, x ∉ e.a.all := fun {j f} ne hj x hx hy => sep_at sep hi hj (Ne.symm ne) x hy hx
  have outN : ∀ {j : Nat} {f : Ent}, j ≠ i → es[j]? = some f → ∀ x ∈ f.a.all, x ∉ e'.a.all := fun {j f} ne hj x hx hy => by
    rcases fr x hy with z | z
    · exact outF ne hj x hx z
    · exact (st f (List.mem_of_getElem? hj)).live hx z
  refine ⟨⟨dx, k _ _ ob (own e he).1⟩, ?_, by rw [names_set hi hn]; exact nd, fun f hf => ?_, ?_, fun f hf => ?_, by rw [List.length_set]; exact len⟩
  · rw [k _ _ dd (own e he).2]
    congr 2
    unfold dkv
    refine List.ext_getElem? fun j => ?_
    rw [List.getElem?_map, List.getElem?_map, List.getElem?_set]
    split
    · next h =>
      subst h
      try rw [if_pos li]
      rw [hi]
      simp [hn, hp]
    · rfl
  · rcases memS f hf with rfl | ⟨j, ne, hj⟩
    · exact hS
    · exact (st f (List.mem_of_getElem? hj)).keep k t (outF ne hj)
  · refine List.pairwise_iff_getElem.mpr fun a b ha hb hab x hx hy => ?_
    rw [List.length_set] at ha hb
    rw [List.getElem_set] at hx hy
    split at hx
    · next h1 =>
      subst h1
      rw [if_neg (by omega)] at hy
      exact outN (by omega) (List.getElem?_eq_getElem hb) x hy hx
    · next h1 =>
      split at hy
      · next h2 =>
        subst h2
        exact outN (by omega) (List.getElem?_eq_getElem ha) x hx hy
      · exact List.pairwise_iff_getElem.mp sep a b ha hb hab x hx hy
  · rcases memS f hf with rfl | ⟨j, ne, hj⟩
    · refine ⟨fun z => ?_, fun z => ?_⟩
      · rcases fr p z with z | z
        · exact (own e he).1 z
        · rw [ob] at z; cases z
      · rcases fr sd z with z | z
        · exact (own e he).2 z
        · rw [dd] at z; cases z
    · exact own f (List.mem_of_getElem? hj)
/-- a new store -/
theorem BoardAt.more (B : BoardAt K CB CS H p sd es) {s : Str} {a : SA} (hs : s ∉ namesE es) (hl : es.length < 60) (hS : StoreAt K CS H' a [] [] [] [] 0) (k : Keep (At sd) H H') (t : TExt H H') (e' : H' sd = some (.dK (dkv (es ++ [⟨s, a, [], [], [], [], 0⟩])))) (fr : ∀ x ∈ a.all, H x = none) : BoardAt K CB CS H' p sd (es ++ [⟨s, a, [], [], [], [], 0⟩]) := by
  obtain ⟨⟨dx, ob⟩, dd, nd, st, sep, own, len⟩ := id B
  refine ⟨⟨dx, k _ _ ob B.ne⟩, e', ?_, fun f hf => ?_, ?_, fun f hf => ?_, by rw [List.length_append]; show es.length + 1 ≤ 60; omega⟩
  · unfold namesE
    rw [List.map_append]
    refine List.nodup_append.mpr ⟨nd, by simp, fun x hx y hy => ?_⟩
    have ey : y = s := by simpa using hy
    rw [ey]
    exact fun z => hs (by rw [← z]; exact hx)
  · rcases List.mem_append.mp hf with hf | hf
    · exact (st f hf).other k t (own f hf).2
    · rw [List.mem_singleton.mp hf]
      exact hS
  · refine List.pairwise_append.mpr ⟨sep, by simp, fun f hf g hg x hx hy => ?_⟩
    rw [List.mem_singleton.mp hg] at hy
    exact (st f hf).live hx (fr x hy)
  · rcases List.mem_append.mp hf with hf | hf
    · exact own f hf
    · rw [List.mem_singleton.mp hf]
      exact ⟨(fun z => by have := fr p z; rw [ob] at this; cases this), (fun z => by have := fr sd z; rw [dd] at this; cases this)⟩
end
end Fp
/-! a comprehension over a dict's own keys -/
namespace Fp
open PySem PySem.Spec PyProof.Rows L2
section
variable {K : PySem.W.Frag} {σ : St} {H : Hp} {Q : VK} {d : Addr}
/-- the dict is held fast while it is walked -/
theorem r_lockE {t : TE} {u : List (Key × V)} (hd : H d = some (.dK u)) (q : ∀ od H1, H1 d = some (.frz od (.dK u)) → (∀ b, b ≠ d → H1 b = H b) → t σ H1 fun v H' => H' d = some (.frz od (.dK u)) ∧ Q v (upd H' d (.dK u))) : tLockE t σ H Q :=
  ⟨d, .dK u, hd, trivial, fun od => q od _ upd_same fun b hb => upd_ne hb⟩
def uKeys (x : V) (H : Hp) (R : It → Hp → Prop) : Prop := ∃ d o, x = .ref d ∧ ((∃ kvs, H d = some (.frz o (.dK kvs)) ∧ R (Itk d o kvs) H) ∨ ∃ kvs, H d = some (.frz o (.dT kvs)) ∧ R (Itkt d o kvs) H)
theorem r_ikeys {td : TE} {R : It → Hp → Prop} (q : td σ H fun x H1 => uKeys x H1 R) : iKeys td σ H R := q
theorem r_keys {od : Obj} {u : List (Key × V)} {R : It → Hp → Prop} (hd : H d = some (.frz od (.dK u))) (q : R (Itk d od u) H) : uKeys (.ref d) H R := ⟨d, od, rfl, .inl ⟨u, hd, q⟩⟩
theorem wk_keys {od : Obj} {u : List (Key × V)} : Wk (Itk d od u) u.length (fun H => H d = some (.frz od (.dK u))) (fun i H x H' => H' = H ∧ ∃ k v, u[i]? = some (k, v) ∧ x = kV k) :=
  ⟨fun _ _ e h => ⟨e, h⟩, fun _ _ e h => ⟨e, h⟩, fun _ _ _ _ _ y => y⟩
theorem lc_keysD {J : Obj} {m : Prs} {g : TG} {tt : TT} {te : TE} {vs : List Nat} (hd : H d = some (.frz J (.dK (m.map inj)))) (hn : m.length ≤ 16777216) (f : Int × Int → Bool) (fx : Int × Int → PyData) (hi : ∀ c, imm (fx c) = true)
    (hs : ∀ c H2 (S : VK) (N : Hp → Prop), c ∈ m → Same H H2 → (f c = true → ∀ y H3, Same H2 H3 → Dp K H3 y (fx c) → S y H3) → (f c = false → ∀ H3, Same H2 H3 → N H3) →
      g (.int c.1) (wipe σ vs) H2 fun σ2 H3 => wipe σ2 vs = wipe σ vs ∧ tt σ2 H3 fun b H4 => if b = true then te σ2 H4 S else N H4)
    (q : ∀ D H' ys, H D = none → Same H H' → H' D = some (.lst ys) → DpAll K H' ys ((m.filter f).map fx) → Q (.ref D) H') : LcW (Itk d J (m.map inj)) g tt te vs σ H Q := by
  have w : Wk (Itk d J (m.map inj)) m.length (fun H' => H' d = some (.frz J (.dK (m.map inj)))) (fun i H2 x H' => H' = H2 ∧ ∃ k v, (m.map inj)[i]? = some (k, v) ∧ x = kV k) := by
    have := wk_keys (d := d) (od := J) (u := m.map inj)
    rwa [List.length_map] at this
  refine lc_gen m (fun c x _ => x = .int c.1) w (fun i H2 x H' hi' h => ?_) (fun H' s => s _ _ hd) hn f (fun H c y => Dp K H y (fx c)) (fun H H' c y e h => Dp.text e _ _ (hi c) h)
    (fun c x H2 S N hc s hx k1 k2 => by rw [hx]; exact hs c H2 S N hc s k1 k2) (fun D H' ys hD s e p => q D H' ys hD s e (paired_dp p))
  obtain ⟨rfl, k, v, e, rfl⟩ := h
  rw [List.getElem?_map] at e
  obtain ⟨c, hc, e2⟩ := Option.map_eq_some_iff.mp e
  cases e2
  exact ⟨c, hc, Same.refl _, rfl⟩
theorem r_dgetf {m : Prs} {od : Obj} {t h : Int} (hd : H d = some (.frz od (.dK (m.map inj)))) (e : valP m t = some h) (q : Q (.int h) H) : uDGet (.ref d) (.int t) H Q := by
  refine ⟨d, .int h, rfl, ?_, q⟩
  have z : DGet H d (kV (Sum.inl t)) (valV (m.map inj) (Sum.inl t)) := .inl ⟨m.map inj, Sum.inl t, .inr ⟨od, hd⟩, rfl, rfl⟩
  rw [val_inj, e] at z
  exact z
/-- the dict is free again -/
theorem unlock_pair {H' : Hp} {od : Obj} {u : List (Key × V)} (hd : H' d = some (.frz od (.dK u))) {v : V} {p : Int × Int} (h : Dp K H' v (pairP p)) : Dp K (upd H' d (.dK u)) v (pairP p) := by
  obtain ⟨a, rfl, sq⟩ := dp_pair h
  clear h
  refine dp_of_pair ?_
  unfold SqT Rd at sq
  rcases sq with (h | ⟨o, h⟩) | h
  · exact .inl (.inl (by rw [upd_ne (fun z => by rw [z, hd] at h; cases h)]; exact h))
  · exact .inl (.inr ⟨o, by rw [upd_ne (fun z => by rw [z, hd] at h; cases h)]; exact h⟩)
  · exact .inr h
theorem unlock_pairs {H' : Hp} {od : Obj} {u : List (Key × V)} (hd : H' d = some (.frz od (.dK u))) : ∀ {ys : List V} {l : Prs}, DpAll K H' ys (l.map pairP) → DpAll K (upd H' d (.dK u)) ys (l.map pairP)
  | [], [], _ => .nil
  | _ :: _, _ :: _, .cons h1 h2 => .cons (unlock_pair hd h1) (unlock_pairs hd h2)
theorem unlock_same {H1 H' : Hp} {u : List (Key × V)} (hd : H d = some (.dK u)) (e : ∀ b, b ≠ d → H1 b = H b) (s : Same H1 H') : Same H (upd H' d (.dK u)) := fun b o hb => by
  by_cases z : b = d
  · subst z
    rw [hd] at hb
    rw [upd_same]
    exact hb
  · rw [upd_ne z]
    exact s b o (by rw [e b z]; exact hb)
end
end Fp
/-! a dict walked by its keys is free again: what stands beside it stays (the tuples stay, what was locked need not) -/
namespace Fp
open PySem PySem.Spec PyProof.Rows L2
def TupT (H H' : Hp) : Prop := ∀ a xs, Rd H a (.tup xs) → Rd H' a (.tup xs)
theorem TupT.unlock {H : Hp} {d : Addr} {od : Obj} {u : HO} (hd : H d = some (.frz od u)) (hu : ∀ xs, u ≠ .tup xs) : TupT H (upd H d u) := fun a xs h => by
  have ne : a ≠ d := fun z => by
    rw [z] at h
    rcases h with h | ⟨o, h⟩
    · rw [hd] at h; cases h
    · rw [hd] at h
      injection h with h
      injection h with h1 h2
      exact hu xs h2
  rcases h with h | ⟨o, h⟩
  · exact .inl (by rw [upd_ne ne]; exact h)
  · exact .inr ⟨o, by rw [upd_ne ne]; exact h⟩
theorem SqT.tt {K : PySem.W.Frag} {H H' : Hp} {a : Addr} {xs : List V} (e : TupT H H') (h : SqT K H a xs) : SqT K H' a xs := by
  rcases h with h | h
  · exact .inl (e a xs h)
  · exact .inr h
section
variable {K : PySem.W.Frag} {H H' : Hp}
mutual
theorem Dp.tt (e : TupT H H') : ∀ (d : PyData) (v : V), imm d = true → Dp K H v d → Dp K H' v d
  | .none, _, _, h => by cases h; exact .non
  | .bool b, _, _, h => by cases h; exact .bl b
  | .int i, _, _, h => by cases h; exact .int i
  | .str x, _, _, h => by cases h; exact .str x
  | .list _, _, hi, _ => by simp [imm] at hi
  | .dict _, _, hi, _ => by simp [imm] at hi
  | .tuple ds, _, hi, h => by
    cases h with
    | tup hs ha => exact .tup (SqT.tt e hs) (DpAll.tt e ds _ (by simpa [imm] using hi) ha)
theorem DpAll.tt (e : TupT H H') : ∀ (ds : List PyData) (vs : List V), immAll ds = true → DpAll K H vs ds → DpAll K H' vs ds
  | [], _, _, h => by cases h; exact .nil
  | d :: ds, _, hi, h => by
    have hi2 : imm d = true ∧ immAll ds = true := by simpa [immAll] using hi
    cases h with
    | cons h1 h2 => exact .cons (Dp.tt e d _ hi2.1 h1) (DpAll.tt e ds _ hi2.2 h2)
end
end
theorem Fits.tt {K : PySem.W.Frag} {H H' : Hp} {o : Option V} {F : Option Four} (h : Fits K H o F) (e : TupT H H') : Fits K H' o F := by
  cases h with
  | none => exact .none
  | some d => exact .some (Dp.tt e _ _ (imm_four (Option.some _)) d)
theorem WatchAt.tt {K : PySem.W.Frag} {H H' : Hp} {x : Addr} {W : Watch} {F : Addr → Prop} (h : WatchAt K H x W) (k : Keep F H H') (t : TupT H H') (n : ¬ F x) : WatchAt K H' x W := by
  obtain ⟨wn, y, e, h1, h2⟩ := h.ex
  exact ⟨⟨wn, y, k _ _ e n, SqT.tt t h1, Dp.tt t _ _ (imm_foursS ..) h2⟩, h.win, h.crv⟩
theorem CoreAt.tt {K : PySem.W.Frag} {H H' : Hp} {hd bd : Addr} {c : Prs} {z : Nat} {F : Addr → Prop} (h : CoreAt K H hd bd c z) (k : Keep F H H') (t : TupT H H') (n1 : ¬ F hd) (n2 : ¬ F bd) : CoreAt K H' hd bd c z := by
  obtain ⟨⟨m, h1, h2⟩, ⟨kvs, b1, b2, b3⟩, cr⟩ := h
  exact ⟨⟨m, k _ _ h1 n1, h2⟩, ⟨kvs, k _ _ b1 n2, fun l s hl => (b2 l s hl).tt t, b3⟩, cr⟩
section
variable {K : PySem.W.Frag} {C : Addr} {H H' : Hp} {a : SA} {c : Prs} {hs : List (Int × Prs)} {ts : List Int} {ws : List Watch} {z : Nat} {F : Addr → Prop}
theorem StoreAt.tt (S : StoreAt K C H a c hs ts ws z) (k : Keep F H H') (t : TupT H H') (n : ∀ b ∈ a.all, ¬ F b) : StoreAt K C H' a c hs ts ws z := by
  obtain ⟨⟨dx, ob⟩, core, ⟨vs, d1, d2⟩, tl, ⟨w1, w2⟩, ne, ch, sz⟩ := S
  have nn : ∀ {b}, (b = a.p ∨ b = a.hd ∨ b = a.bd ∨ b = a.dd ∨ b = a.td ∨ b = a.wd ∨ b ∈ a.was) → ¬ F b := fun h => n _ (mem_all.mpr h)
  refine ⟨⟨dx, k _ _ ob (nn (by simp))⟩, core.tt k t (nn (by simp)) (nn (by simp)), ⟨vs, k _ _ d1 (nn (by simp)), DpAll.tt t _ _ (immAll_map _ imm_deed _) d2⟩, k _ _ tl (nn (by simp)), ⟨k _ _ w1 (nn (by simp)), ?_⟩, ne, ch, sz⟩
  have go : ∀ {l : List Addr} {m : List Watch}, Paired (fun b W => WatchAt K H b W) l m → (∀ b ∈ l, ¬ F b) → Paired (fun b W => WatchAt K H' b W) l m := by
    intro l m h
    induction h with
    | nil => intro _; exact .nil
    | cons h1 _ ih => intro hn; exact .cons (h1.tt k t (hn _ (List.mem_cons_self ..))) (ih fun b hb => hn b (List.mem_cons_of_mem _ hb))
  exact go w2 fun b hb => nn (by simp [hb])
end
section
variable {K : PySem.W.Frag} {CB CS : Addr} {H H' : Hp} {p sd : Addr} {es : List Ent} {F : Addr → Prop}
theorem BoardAt.tt (B : BoardAt K CB CS H p sd es) (k : Keep F H H') (t : TupT H H') (n : ∀ x ∈ bAll p sd es, ¬ F x) : BoardAt K CB CS H' p sd es := by
  obtain ⟨⟨dx, ob⟩, dd, nd, st, sep, own, len⟩ := B
  exact ⟨⟨dx, k _ _ ob (n _ (mem_ball.mpr (.inl rfl)))⟩, k _ _ dd (n _ (mem_ball.mpr (.inr (.inl rfl)))), nd, fun e he => (st e he).tt k t fun x hx => n x (mem_ball.mpr (.inr (.inr ⟨e, he, hx⟩))), sep, own, len⟩
/-- a locked thing beside the board is free again -/
theorem BoardAt.unlock (B : BoardAt K CB CS H p sd es) {d : Addr} {od : Obj} {u : HO} (hd : H d = some (.frz od u)) (hu : ∀ xs, u ≠ .tup xs) (n : d ∉ bAll p sd es) : BoardAt K CB CS (upd H d u) p sd es :=
  B.tt (F := At d) Keep.at_ (TupT.unlock hd hu) fun x hx z => n (by rw [← show x = d from z]; exact hx)
end
/-- a statement runs while a thing is locked -/
theorem r_lock {t : TS} {Dn : Ends} {σ : L2.St} {H : Hp} {d : Addr} {u : HO} (hd : H d = some u) (m : Mut (some u)) (q : ∀ od H1, H1 d = some (.frz od u) → (∀ b, b ≠ d → H1 b = H b) →
    t ⟨fun σ' H' => H' d = some (.frz od u) ∧ Dn.nx σ' (upd H' d u), fun v H' => H' d = some (.frz od u) ∧ Dn.rt v (upd H' d u), fun σ' H' => H' d = some (.frz od u) ∧ Dn.bk σ' (upd H' d u), fun σ' H' => H' d = some (.frz od u) ∧ Dn.ct σ' (upd H' d u)⟩ σ H1) : tLock t Dn σ H :=
  ⟨d, u, hd, m, fun od => q od _ upd_same fun b hb => upd_ne hb⟩
theorem r_dgetSf {H : Hp} {Q : VK} {d : Addr} {kvs : List (Key × V)} {od : Obj} {s : Str} {x : V} (hd : H d = some (.frz od (.dK kvs))) (e : valV kvs (Sum.inr s) = some x) (q : Q x H) : uDGet (.ref d) (.str s) H Q := by
  refine ⟨d, x, rfl, ?_, q⟩
  have z : DGet H d (kV (Sum.inr s)) (valV kvs (Sum.inr s)) := .inl ⟨kvs, Sum.inr s, .inr ⟨od, hd⟩, rfl, rfl⟩
  rw [e] at z
  exact z
end Fp
/-! pictures of several curves, plainly -/
namespace Fp
open PySem PySem.Spec PyProof.Rows L2
theorem dot_mid {R : Int → Prop} {n a b r : Int} (ha : Dot R n a) (hb : Dot R n b) (h1 : a ≤ r) (h2 : r ≤ b) : Dot R n r := by
  obtain ⟨a0, a1, ⟨x, hx, hxa⟩, _⟩ := ha
  obtain ⟨b0, b1, _, y, hy, hyb⟩ := hb
  exact ⟨by omega, by omega, ⟨x, hx, by omega⟩, y, hy, by omega⟩
theorem least_of {D : Int → Prop} : ∀ (m : Nat), (∃ r, D r ∧ 0 ≤ r ∧ r < m) → (∀ r, D r → 0 ≤ r) → ∃ a, D a ∧ ∀ r, D r → a ≤ r
  | 0, ⟨r, _, h1, h2⟩, _ => by omega
  | m + 1, ⟨r, hr, h1, h2⟩, hp => by
    by_cases h : ∃ r, D r ∧ 0 ≤ r ∧ r < (m : Int)
    · exact least_of m h hp
    · have hm : r = m := Classical.byContradiction fun z => h ⟨r, hr, h1, by omega⟩
      exact ⟨r, hr, fun s hs => Classical.byContradiction fun z => h ⟨s, hs, hp s hs, by omega⟩⟩
theorem most_of {D : Int → Prop} {n : Int} (h : ∃ r, D r) (h0 : ∀ r, D r → 0 ≤ r ∧ r < n) : ∃ b, D b ∧ ∀ r, D r → r ≤ b := by
  obtain ⟨r, hr⟩ := h
  have := h0 r hr
  obtain ⟨a, ha, hm⟩ := least_of (D := fun s => D (n - 1 - s)) n.toNat ⟨n - 1 - r, by show D (n - 1 - (n - 1 - r)); rw [show n - 1 - (n - 1 - r) = r by omega]; exact hr, by omega, by omega⟩ (fun s hs => by have := h0 _ hs; omega)
  refine ⟨n - 1 - a, ha, fun s hs => ?_⟩
  have := hm (n - 1 - s) (by show D (n - 1 - (n - 1 - s)); rw [show n - 1 - (n - 1 - s) = s by omega]; exact hs)
  omega
theorem isrun_dot (R : Int → Prop) (n : Int) : ∃ o, IsRun (Dot R n) o := by
  by_cases h : ∃ r, Dot R n r
  · obtain ⟨r, hr⟩ := id h
    obtain ⟨a, ha, hal⟩ := least_of (D := Dot R n) n.toNat ⟨r, hr, hr.1, by have := hr.1; have := hr.2.1; omega⟩ (fun s hs => hs.1)
    obtain ⟨b, hb, hbm⟩ := most_of (D := Dot R n) (n := n) h (fun s hs => ⟨hs.1, hs.2.1⟩)
    exact ⟨some (a, b), hbm a ha, fun s => ⟨fun z => ⟨hal s z, hbm s z⟩, fun z => dot_mid ha hb z.1 z.2⟩⟩
  · exact ⟨none, fun r z => h ⟨r, z⟩⟩
def inRun : Option (Int × Int) → Int → Bool
  | none, _ => false
  | some ab, row => decide (ab.1 ≤ row) && decide (row ≤ ab.2)
theorem inRun_dot (R : Int → Prop) (n row : Int) : inRun (runOf (Dot R n)) row = true ↔ Dot R n row := by
  obtain ⟨o, ho⟩ := isrun_dot R n
  rw [runOf_eq ho]
  cases o with
  | none => exact ⟨(fun z => Bool.noConfusion z), fun z => absurd z (ho row)⟩
  | some ab =>
    unfold inRun
    rw [Bool.and_eq_true, decide_eq_true_eq, decide_eq_true_eq]
    exact (ho.2 row).symm
/-! ### signs -/
def headC (s : Str) : Nat := (TL.tl s).headD 46
def oneS (c : Nat) : Str := ⟨#[c]⟩
def signC : List (Nat × Option (Int × Int)) → Int → Nat
  | [], _ => 46
  | (c, o) :: r, row => if inRun o row = true then c else signC r row
theorem signC_hit {c : Nat} {ab : Int × Int} {r : List (Nat × Option (Int × Int))} {row : Int} (h1 : ab.1 ≤ row) (h2 : row ≤ ab.2) : signC ((c, some ab) :: r) row = c := by
  unfold signC
  rw [if_pos]
  simp [inRun, h1, h2]
theorem signC_miss {c : Nat} {ab : Int × Int} {r : List (Nat × Option (Int × Int))} {row : Int} (h : ¬ (ab.1 ≤ row ∧ row ≤ ab.2)) : signC ((c, some ab) :: r) row = signC r row := by
  rw [signC, if_neg]
  simpa [inRun] using h
theorem signC_none {c : Nat} {r : List (Nat × Option (Int × Int))} {row : Int} : signC ((c, none) :: r) row = signC r row := by
  rw [signC, if_neg]
  simp [inRun]
/-- by names, and where each has dots -/
def signN (ys : List Str) (on : Str → Bool) : Nat := match ys with
  | [] => 46
  | s :: r => if on s = true then headC s else signN r on
theorem signC_N (run : Str → Option (Int × Int)) (row : Int) : ∀ ys : List Str, signC (ys.map fun s => (headC s, run s)) row = signN ys fun s => inRun (run s) row
  | [] => rfl
  | s :: r => by
    rw [List.map_cons]
    unfold signC signN
    rw [signC_N run row r]
theorem signN_congr {on on' : Str → Bool} : ∀ {ys : List Str}, (∀ s ∈ ys, on s = on' s) → signN ys on = signN ys on'
  | [], _ => rfl
  | s :: r, h => by
    unfold signN
    rw [h s (List.mem_cons_self ..), signN_congr fun t ht => h t (List.mem_cons_of_mem _ ht)]
/-! ### the text -/
def lineC (sg : Nat → Nat) (m : Nat) : List Nat := (List.range m).map sg
/-- the rows from the highest one down to row j -/
def picC (sg : Int → Nat → Nat) (m : Nat) (n : Int) (i : Nat) : List Nat := (List.range i).flatMap fun (j : Nat) => lineC (sg (n - 1 - (j : Int))) m ++ [10]
def txt (l : List Nat) : Str := ⟨l.toArray⟩
theorem tl_txt (l : List Nat) : TL.tl (txt l) = l := TL.tl_mk _
theorem txt_app (l l' : List Nat) : txt l ++ txt l' = txt (l ++ l') := by
  apply tl_inj
  rw [TL.tl_append, tl_txt, tl_txt, tl_txt]
theorem len_txt (l : List Nat) : (txt l).length = l.length := by rw [len_tl, tl_txt]
theorem line_succ (sg : Nat → Nat) (m : Nat) : lineC sg (m + 1) = lineC sg m ++ [sg m] := by
  unfold lineC
  rw [List.range_succ, List.map_append]
  rfl
theorem line_len (sg : Nat → Nat) (m : Nat) : (lineC sg m).length = m := by unfold lineC; rw [List.length_map, List.length_range]
theorem pic_succ (sg : Int → Nat → Nat) (m : Nat) (n : Int) (i : Nat) : picC sg m n (i + 1) = picC sg m n i ++ (lineC (sg (n - 1 - i)) m ++ [10]) := by
  unfold picC
  rw [List.range_succ, List.flatMap_append]
  simp
theorem pic_len (sg : Int → Nat → Nat) (m : Nat) (n : Int) : ∀ i, (picC sg m n i).length = i * (m + 1)
  | 0 => by simp [picC]
  | i + 1 => by
    rw [pic_succ, List.length_append, pic_len sg m n i, List.length_append, line_len, Nat.succ_mul]
    rfl
theorem pic_congr {sg sg' : Int → Nat → Nat} {m : Nat} {n : Int} {i : Nat} (h : ∀ row k, k < m → sg row k = sg' row k) : picC sg m n i = picC sg' m n i := by
  unfold picC lineC
  congr 1
  funext j
  congr 1
  exact List.map_congr_left fun k hk => h _ k (List.mem_range.mp hk)
/-- the other way round: lines set ahead -/
theorem pic_up (sg : Int → Nat → Nat) (m : Nat) : ∀ i : Nat, picC sg m i i = (List.range i).foldl (fun acc (j : Nat) => lineC (sg (j : Int)) m ++ [10] ++ acc) []
  | 0 => by simp [picC]
  | i + 1 => by
    rw [List.range_succ, List.foldl_append, List.foldl_cons, List.foldl_nil, ← pic_up sg m i]
    unfold picC
    rw [List.range_succ_eq_map, List.flatMap_cons, List.flatMap_map]
    congr 1
    · rw [show ((i + 1 : Nat) : Int) - 1 - ((0 : Nat) : Int) = (i : Int) by omega]
    · congr 1
      funext j
      rw [show ((i + 1 : Nat) : Int) - 1 - ((j + 1 : Nat) : Int) = (i : Int) - 1 - j by omega]
/-! ### sorted names are one list -/
theorem str_nlt_trans {x y z : Str} (h1 : ¬ y.cps.toList < x.cps.toList) (h2 : ¬ z.cps.toList < y.cps.toList) : ¬ z.cps.toList < x.cps.toList :=
  List.not_lt.mpr (List.le_trans (List.not_lt.mp h1) (List.not_lt.mp h2))
theorem str_anti {x y : Str} (h1 : ¬ y.cps.toList < x.cps.toList) (h2 : ¬ x.cps.toList < y.cps.toList) : x = y :=
  tl_inj (List.le_antisymm (List.not_lt.mp h1) (List.not_lt.mp h2))
theorem rising_pw : ∀ {l : List Str} {x : Str}, risingS x l = true → (x :: l).Pairwise fun a b => ¬ b.cps.toList < a.cps.toList
  | [], x, _ => by simp
  | y :: r, x, h => by
    unfold risingS at h
    rw [Bool.and_eq_true, ltCps_eq] at h
    have h1 : ¬ y.cps.toList < x.cps.toList := by simpa using h.1
    have ih := rising_pw h.2
    refine List.pairwise_cons.mpr ⟨fun z hz => ?_, ih⟩
    rcases List.mem_cons.mp hz with rfl | hz
    · exact h1
    · exact str_nlt_trans h1 ((List.pairwise_cons.mp ih).1 z hz)
theorem sorted_pw {l : List Str} (h : sortedS l = true) : l.Pairwise fun a b => ¬ b.cps.toList < a.cps.toList := by
  cases l with
  | nil => simp
  | cons x r => exact rising_pw h
theorem sorted_uniq {l l' : List Str} (p : l.Perm l') (h : sortedS l = true) (h' : sortedS l' = true) : l = l' :=
  p.eq_of_pairwise (fun a b _ _ h1 h2 => str_anti h1 h2) (sorted_pw h) (sorted_pw h')
theorem paired_getR {α β : Type} {G : α → β → Prop} : ∀ {l1 : List α} {l2 : List β}, Paired G l1 l2 → ∀ {i : Nat} {b : β}, l2[i]? = some b → ∃ a, l1[i]? = some a ∧ G a b
  | _, _, .nil, _, _, h => by simp at h
  | _, _, .cons (a := a) h1 h2, 0, b, h => ⟨a, rfl, by cases h; exact h1⟩
  | _, _, .cons h1 h2, i + 1, b, h => by
    obtain ⟨a, e, g⟩ := paired_getR h2 (i := i) (b := b) (by simpa using h)
    exact ⟨a, by simpa using e, g⟩
theorem signN_hit {s : Str} {r : List Str} {on : Str → Bool} (h : on s = true) : signN (s :: r) on = headC s := by rw [signN, if_pos h]
theorem signN_miss {s : Str} {r : List Str} {on : Str → Bool} (h : on s = false) : signN (s :: r) on = signN r on := by rw [signN, if_neg (by rw [h]; decide)]
open Classical in
noncomputable def srt (l : List Str) : List Str := if h : ∃ ys, ys.Perm l ∧ sortedS ys = true then h.choose else []
theorem srt_eq {l ys : List Str} (p : ys.Perm l) (h : sortedS ys = true) : ys = srt l := by
  have z : ∃ ys, ys.Perm l ∧ sortedS ys = true := ⟨ys, p, h⟩
  unfold srt
  rw [dif_pos z]
  exact sorted_uniq (p.trans z.choose_spec.1.symm) h z.choose_spec.2
theorem pic_step (sg : Int → Nat → Nat) (m i : Nat) : picC sg m ((i + 1 : Nat) : Int) (i + 1) = lineC (sg (i : Int)) m ++ [10] ++ picC sg m (i : Int) i := by
  rw [pic_up, pic_up, List.range_succ, List.foldl_append]
  rfl
theorem join_line (l : List Nat) : Txt.join ("" : Str) (l.map oneS) = txt l := by
  apply tl_inj
  rw [tl_join0, tl_txt, List.map_map]
  induction l with
  | nil => rfl
  | cons x r ih =>
    rw [List.map_cons, List.flatten_cons, ih]
    rfl
end Fp
namespace Lk81
open PySem PySem.Spec PyProof.Rows L2 Fp
/-! steps by their head -/
local macro_rules | `(tactic| walk_at "s") => `(tactic| first
  | (with_reducible refine' r_seq ?_)
  | (with_reducible refine' r_cons ?_)
  | ((with_reducible refine' r_var ?hvv ?_); (case hvv => exact rfl))
  | (with_reducible refine' r_c ?_)
  | (with_reducible refine' r_nil ?_)
  | (with_reducible refine' r_op ?_)
  | (with_reducible refine' r_tup ?_)
  | (with_reducible refine' r_lst ?_)
  | (with_reducible refine' r_I0 ?_)
  | (with_reducible refine' r_asg ?_)
  | (with_reducible refine' r_fn ?_)
  | (with_reducible refine' r_fnS ?_)
  | (with_reducible refine' r_CB ?_)
  | (with_reducible refine' r_ret ?_)
  | (with_reducible refine' r_ifS ?_)
  | (with_reducible refine' r_test ?_)
  | (with_reducible refine' r_B ?_)
  | (with_reducible refine' r_bl ?_)
  | (with_reducible refine' r_and ?_)
  | (with_reducible refine' r_or ?_)
  | (with_reducible refine' r_not ?_)
  | (with_reducible refine' r_yes ?_)
  | (with_reducible refine' r_andV ?_)
  | (with_reducible refine' r_orV ?_)
  | (with_reducible refine' r_notV ?_)
  | (with_reducible refine' r_if ?_)
  | (with_reducible refine' r_chain ?_)
  | (with_reducible refine' r_eq_i ?_)
  | (with_reducible refine' r_ne_i ?_)
  | (with_reducible refine' r_un ?_)
  | (with_reducible refine' r_U ?_)
  | (with_reducible refine' r_int_i ?_)
  | (with_reducible refine' r_int_b ?_)
  | (with_reducible refine' r_abs ?_)
  | (with_reducible refine' r_max2 ?_)
  | (with_reducible refine' r_min2 ?_)
  | (with_reducible refine' r_isB ?_)
  | (with_reducible refine' r_notB ?_)
  | (with_reducible refine' r_isN_n ?_)
  | (with_reducible refine' r_isN_i ?_)
  | (with_reducible refine' r_isN_r ?_)
  | (with_reducible refine' r_isN_s ?_)
  | (with_reducible refine' r_notN_n ?_)
  | (with_reducible refine' r_notN_i ?_)
  | (with_reducible refine' r_notN_r ?_)
  | (with_reducible refine' r_notN_s ?_)
  | ((with_reducible refine' r_isN ?hvv ?_); (case hvv => exact rfl))
  | ((with_reducible refine' r_notN ?hvv ?_); (case hvv => exact rfl))
  | ((with_reducible refine' r_aug ?hvv ?_); (case hvv => exact rfl))
  | (with_reducible refine' r_ipI ?_)
  | (with_reducible refine' r_next ?_)
  | (with_reducible refine' r_par ?_)
  | (with_reducible refine' r_par2 ?_)
  | (with_reducible refine' r_drop ?_)
  | (with_reducible refine' r_gname ?_)
  | (with_reducible refine' r_asgG ?_)
  | (with_reducible refine' r_gsub ?_)
  | (with_reducible refine' r_gcons ?_)
  | (with_reducible refine' r_gnil ?_)
  | (with_reducible refine' r_retN ?_)
  | (with_reducible refine' r_for ?_)
  | (with_reducible refine' r_lc ?_)
  | (with_reducible refine' r_ilist ?_)
  | (with_reducible refine' r_itup ?_)
  | (with_reducible refine' r_irng1 ?_)
  | (with_reducible refine' r_irng2 ?_)
  | (with_reducible refine' r_izip ?_)
  | (with_reducible refine' r_sl ?_)
  | (with_reducible refine' r_nopart ?_)
  | (with_reducible refine' r_part ?_)
  | (with_reducible refine' r_parti ?_)
  | (with_reducible refine' r_bm ?_)
  | (with_reducible refine' r_m1 ?_)
  | (with_reducible refine' r_m1s ?_)
  | (with_reducible refine' r_irngU ?_)
  | (with_reducible refine' r_bm0 ?_)
  | (with_reducible refine' r_revL ?_)
  | (with_reducible refine' r_isi_ii ?_)
  | (with_reducible refine' r_isi_ib ?_)
  | (with_reducible refine' r_isi_it ?_)
  | (with_reducible refine' r_isi_is ?_)
  | (with_reducible refine' r_isi_ni ?_)
  | (with_reducible refine' r_isi_nt ?_)
  | (with_reducible refine' r_isi_bb ?_)
  | (with_reducible refine' r_isi_bi ?_)
  | (with_reducible refine' r_isi_ss ?_)
  | (with_reducible refine' r_isi_si ?_)
  | (with_reducible refine' r_isi_st ?_)
  | (with_reducible refine' r_brk ?_)
  | (with_reducible refine' r_cont ?_)
  | (with_reducible refine' i_T ?_)
  | (with_reducible refine' i_F ?_)
  | (with_reducible refine' i_NT ?_)
  | (with_reducible refine' i_NF ?_)
  | fail)
/-! sides -/
local macro_rules | `(tactic| walk_at "mul") => `(tactic| first
  | exact mul_r (by decide) (by decide)
  | exact mul_l (by decide) (by decide)
  | exact mul_r (by omega) (by omega)
  | exact mul_l (by omega) (by omega)
  | exact mul_b (n := 256) (m := 256) (by omega) (by omega)
  | fail)
local macro_rules | `(tactic| walk_at "div") => `(tactic| first
  | exact div_b (n := 64) (by decide) (by decide)
  | exact div_b (n := 64) (by omega) (by omega)
  | exact div_b (n := 256) (by omega) (by omega)
  | fail)
local macro_rules | `(tactic| walk_at "ix") => `(tactic| first
  | rfl
  | assumption
  | fail)
/-- what a tuple, a list at an address is: by what is known, the heaps between going on -/
local macro_rules | `(tactic| walk_at "kp") => `(tactic| first
  | assumption
  | exact Keep.of_same (by assumption)
  | exact Keep.refl _
  | (refine' Keep.trans ?hk1 ?hk2; (case hk2 => first | assumption | exact Keep.of_same (by assumption)); (case hk1 => walk_at "kp"))
  | fail)
local macro_rules | `(tactic| walk_at "sm") => `(tactic| first
  | assumption
  | exact Same.refl _
  | (refine' Same.trans ?hk1 ?hk2; (case hk2 => assumption); (case hk1 => walk_at "sm"))
  | fail)
local macro_rules | `(tactic| walk_at "lk") => `(tactic| first
  | assumption
  | (refine' same_app ?hk1 ?hk2; (case hk1 => assumption); (case hk2 => walk_at "lk"))
  | (refine' Keep.app ?hk1 ?hk2 ?hk3; (case hk1 => assumption); (case hk2 => walk_at "lk"); (case hk3 => walk_at "ne"))
  | fail)
local macro_rules | `(tactic| walk_at "sqt") => `(tactic| first
  | assumption
  | (refine' SqT.of ?hk1; (case hk1 => walk_at "lk"))
  | walk_at "st"
  | fail)
local macro_rules | `(tactic| walk_at "sql") => `(tactic| first
  | assumption
  | (refine' SqL.of ?hk1; (case hk1 => walk_at "lk"))
  | (refine' Same.seq ?hk1 ?hk2; (case hk1 => assumption); (case hk2 => walk_at "sql"))
  | (refine' scr_sql ?hk1 ?hk2; (case hk1 => assumption); (case hk2 => walk_at "te"))
  | fail)
local macro_rules | `(tactic| walk_at "i") => `(tactic| first
  | ((with_reducible refine' r_ix01 ?hva ?_); (case hva => walk_at "sql"); intro _ _)
  | ((with_reducible refine' r_gtup ?hva ?hvb ?_); (case hva => walk_at "sqt"); (case hvb => exact rfl))
  | ((with_reducible refine' r_glst ?hva ?hvb ?_); (case hva => walk_at "sql"); (case hvb => exact rfl))
  | ((with_reducible refine' r_new ?hvv ?_); (case hvv => exact sz_lit rfl); intro _ _ _ _ _)
  | ((with_reducible refine' r_I ?hvv ?_); (case hvv => first | (with_reducible show IntMulOk _ _; walk_at "mul") | (with_reducible show CDivW _ _; walk_at "div") | (with_reducible show (0 : Int) < _; first | omega | exact two_pos _) | decide))
  | ((with_reducible refine' r_ixl ?hva ?hvb ?_); (case hva => walk_at "sql"); (case hvb => walk_at "ix"))
  | ((with_reducible refine' r_ixt ?hva ?hvb ?_); (case hva => walk_at "sqt"); (case hvb => walk_at "ix"))
  | ((with_reducible refine' r_len_l ?hva ?hvb ?_); (case hva => walk_at "sql"); (case hvb => first | (simp only [List.length_cons, List.length_nil, List.length_map, Nat.reduceAdd, Nat.zero_add]; exact rfl) | exact rfl))
  | ((with_reducible refine' r_len_t ?hva ?hvb ?_); (case hva => walk_at "sqt"); (case hvb => first | (simp only [List.length_cons, List.length_nil, List.length_map, Nat.reduceAdd, Nat.zero_add]; exact rfl) | exact rfl))
  | ((with_reducible refine' r_isi_tt ?hva ?_); (case hva => walk_at "sqt"))
  | ((with_reducible refine' r_isi_ti ?hva ?_); (case hva => walk_at "sqt"))
  | ((with_reducible refine' r_sll ?hva ?_); (case hva => walk_at "sql"); intro _ _ _ _ _)
  | ((with_reducible refine' r_revl ?hva ?_); (case hva => walk_at "sql"); intro _ _ _ _ _)
  | ((with_reducible refine' r_sla ?hva ?_); (case hva => walk_at "sqt"); intro _ _ _ _)
  | ((with_reducible refine' r_cat ?hva ?hvb ?hvc ?_); (case hva => walk_at "lk"); (case hvb => walk_at "lk"); (case hvc => first | exact sz_lit rfl | (refine sz_le ?_; omega)); intro _ _ _ _ _)
  | ((with_reducible refine' r_catA ?hva ?hvb ?hvc ?_); (case hva => walk_at "sqt"); (case hvb => walk_at "sqt"); (case hvc => first | exact sz_lit rfl | (refine sz_le ?_; omega)); intro _ _ _ _)
  | ((with_reducible refine' r_tuple_l ?hva ?_); (case hva => walk_at "sql"); intro _ _ _ _ _)
  | ((with_reducible refine' r_tuple_t ?hva ?_); (case hva => walk_at "sqt"))
  | ((with_reducible refine' r_list_l ?hva ?_); (case hva => walk_at "sql"); intro _ _ _ _ _)
  | ((with_reducible refine' r_list_t ?hva ?_); (case hva => walk_at "sqt"); intro _ _ _ _ _)
  | ((with_reducible refine' r_shl1 ?hva ?_); (case hva => omega))
  | ((with_reducible refine' r_shl2 ?hva ?_); (case hva => omega))
  | ((with_reducible refine' r_shl ?hva ?_); (case hva => omega))
  | (with_reducible refine' r_shr ?_)
  | ((with_reducible refine' i_pos ?hvv ?_); (case hvv => first | decide | omega))
  | ((with_reducible refine' i_neg ?hvv ?_); (case hvv => first | decide | omega))
  | ((with_reducible refine' i_npos ?hvv ?_); (case hvv => first | decide | omega))
  | ((with_reducible refine' i_nneg ?hvv ?_); (case hvv => first | decide | omega))
  | ((with_reducible refine' r_rng1 ?hva ?hvb ?_); (case hva => omega); (case hvb => omega))
  | ((with_reducible refine' r_rng2 ?hva ?hvb ?hvc ?hvd ?_); (case hva => omega); (case hvb => omega); (case hvc => omega); (case hvd => omega))
  | ((with_reducible refine' r_wl ?hva ?_); (case hva => walk_at "sql"))
  | ((with_reducible refine' r_wt ?hva ?_); (case hva => walk_at "sqt"))
  | fail)
local macro_rules | `(tactic| walk_at "call") => `(tactic| fail)
local macro_rules | `(tactic| walk_at "a") => `(tactic| repeat' (first | walk_at "s" | walk_at "i" | walk_at "call" | fail))

/-! steps of classes -/
local macro_rules | `(tactic| walk_at "flk") => `(tactic| first
  | exact lk_here
  | (refine' lk_next ?hk1 ?hk2; (case hk1 => decide +kernel); (case hk2 => walk_at "flk"))
  | exact lk_nil
  | fail)
local macro_rules | `(tactic| walk_at "fput") => `(tactic| first
  | exact pf_nil
  | exact pf_here
  | (refine' pf_next ?hk1 ?hk2; (case hk1 => decide +kernel); (case hk2 => walk_at "fput"))
  | fail)
local macro_rules | `(tactic| walk_at "call") => `(tactic| first
  | (with_reducible refine' r_meth ?_)
  | ((with_reducible refine' r_methi ?hva ?hvb ?_); (case hva => walk_at "lk"); (case hvb => walk_at "flk"))
  | (with_reducible refine' r_make ?_)
  | (with_reducible refine' r_makeKw ?_)
  | (with_reducible refine' r_makeKi ?_)
  | (with_reducible refine' r_fld ?_)
  | ((with_reducible refine' r_fldi ?hva ?hvb ?hvc ?hvd ?_); (case hvc => walk_at "lk"); (case hva => first | exact ClT.cl (by assumption)); (case hvb => assumption); (case hvd => walk_at "flk"))
  | (with_reducible refine' r_sfld ?_)
  | ((with_reducible refine' r_sfldi ?hva ?hvb ?hvc ?hvd ?hve ?_); (case hvc => walk_at "lk"); (case hva => first | exact ClT.cl (by assumption)); (case hvb => assumption); (case hvd => first | decide | (simp; done)); (case hve => walk_at "fput"); intro _ _ _)
  | (with_reducible refine' r_faug ?_)
  | ((with_reducible refine' r_faugi ?hva ?hvb ?hvc ?hvd ?_); (case hvc => walk_at "lk"); (case hva => first | exact ClT.cl (by assumption)); (case hvb => assumption); (case hvd => walk_at "flk"))
  | ((with_reducible refine' r_enda ?hva ?hvb ?hvc ?_); (case hva => walk_at "lk"); (case hvb => first | decide | (simp; done)); (case hvc => walk_at "fput"); intro _ _ _)
  | (with_reducible refine' r_orT ?_)
  | (with_reducible refine' r_orTn ?_)
  | ((with_reducible refine' r_dnewT ?_); intro _ _ _ _ _)
  | (with_reducible refine' r_revT ?_)
  | ((with_reducible refine' r_revt ?hva ?_); (case hva => walk_at "sqt"); intro _ _ _ _ _)
  | (with_reducible refine' r_dget ?_)
  | (with_reducible refine' r_dget1 ?_)
  | ((with_reducible refine' r_dg1T ?hva ?_); (case hva => walk_at "lk"))
  | ((with_reducible refine' r_dg2T ?hva ?hvb ?_); (case hva => walk_at "lk"); (case hvb => walk_at "lk"))
  | (with_reducible refine' r_dput ?_)
  | ((with_reducible refine' r_dnew ?_); intro _ _ _ _ _)
  | fail)

/-! steps of dicts by numbers -/
local macro_rules | `(tactic| walk_at "call") => `(tactic| first
  | (with_reducible refine' r_dpop1 ?_)
  | (with_reducible refine' r_dpop2 ?_)
  | (with_reducible refine' r_din ?_)
  | (with_reducible refine' r_dnotin ?_)
  | (with_reducible refine' r_dget2 ?_)
  | ((with_reducible refine' r_dpop1i ?hva ?_); (case hva => walk_at "lk"))
  | ((with_reducible refine' r_dpop2i ?hva ?_); (case hva => walk_at "lk"))
  | ((with_reducible refine' r_dget2i ?hva ?_); (case hva => walk_at "lk"))
  | ((with_reducible refine' r_dg1K ?hva ?_); (case hva => walk_at "lk"))
  | ((with_reducible refine' r_dini ?hva ?_); (case hva => walk_at "lk"))
  | ((with_reducible refine' r_dnotini ?hva ?_); (case hva => walk_at "lk"))
  | ((with_reducible refine' r_eqNil ?hva ?hvb ?_); (case hva => walk_at "sql"); (case hvb => walk_at "sql"))
  | ((with_reducible refine' r_neNil ?hva ?hvb ?_); (case hva => walk_at "sql"); (case hvb => walk_at "sql"))
  | fail)

/-! steps of try -/
local macro_rules | `(tactic| walk_at "call") => `(tactic| first
  | (with_reducible refine' r_tryAs ?_)
  | (with_reducible refine' r_tryOnly ?_)
  | (with_reducible refine' r_methS ?_)
  | (with_reducible refine' r_makeS ?_)
  | fail)

def top (i : Nat) : Stmt := PySem.Challenge.pw_fourpoints_k81_stores_by_names.main.body.getD i (.Pass ⟨0, 0, 0, 0⟩)
abbrev s_wall : Stmt := top 0
abbrev s_is_number : Stmt := top 12
abbrev s_times_of : Stmt := top 13
abbrev s_lower_of : Stmt := top 15
abbrev s_higher_of : Stmt := top 16
abbrev s_joined : Stmt := top 17
abbrev s_is_end : Stmt := top 22
abbrev s_want_time : Stmt := top 23
abbrev s_level_from : Stmt := top 24
abbrev s_stretches : Stmt := top 25
abbrev s_Store___init : Stmt := inClass (top 27) 0
abbrev s_Store_set_height : Stmt := inClass (top 27) 1
abbrev s_Store_set_four : Stmt := inClass (top 27) 2
abbrev s_Store_put : Stmt := inClass (top 27) 3
abbrev s_Store_take : Stmt := inClass (top 27) 4
abbrev s_Store_height : Stmt := inClass (top 27) 5
abbrev s_Store_four : Stmt := inClass (top 27) 6
abbrev s_Store_fours : Stmt := inClass (top 27) 7
abbrev s_Store_told : Stmt := inClass (top 27) 8
abbrev s_Store_watch : Stmt := inClass (top 27) 9
abbrev s_Store_news : Stmt := inClass (top 27) 10
abbrev s_Store_undo : Stmt := inClass (top 27) 11
abbrev s_Store_times : Stmt := inClass (top 27) 12
abbrev s_is_name : Stmt := top 30
abbrev s_Board___init : Stmt := inClass (top 31) 0
abbrev s_Board_store : Stmt := inClass (top 31) 1
abbrev s_Board_names : Stmt := inClass (top 31) 2
abbrev s_Board_picture : Stmt := inClass (top 31) 3
abbrev s_Board_kept : Stmt := inClass (top 31) 4
abbrev s_law_cell : Stmt := top 33
abbrev s_law_purse : Stmt := top 34
abbrev s_law_draw : Stmt := top 35
abbrev s_law_named : Stmt := top 36
abbrev s_law_no_name : Stmt := top 37
abbrev s_law_other : Stmt := top 38
abbrev s_law_refused : Stmt := top 39
abbrev s_law : Stmt := top 40
theorem sc_wall : FnScope ["k"] ["k"] (defScope s_wall) := ⟨rfl, rfl, rfl, by decide +kernel, rfl, by decide +kernel, by decide +kernel⟩
theorem sc_is_number : FnScope ["thing"] ["thing"] (defScope s_is_number) := ⟨rfl, rfl, rfl, by decide +kernel, rfl, by decide +kernel, by decide +kernel⟩
theorem sc_times_of : FnScope ["window", "k", "begin", "wide", "many", "first"] ["window", "k"] (defScope s_times_of) := ⟨rfl, rfl, rfl, by decide +kernel, rfl, by decide +kernel, by decide +kernel⟩
theorem sc_lower_of : FnScope ["one", "other"] ["one", "other"] (defScope s_lower_of) := ⟨rfl, rfl, rfl, by decide +kernel, rfl, by decide +kernel, by decide +kernel⟩
theorem sc_higher_of : FnScope ["one", "other"] ["one", "other"] (defScope s_higher_of) := ⟨rfl, rfl, rfl, by decide +kernel, rfl, by decide +kernel, by decide +kernel⟩
theorem sc_joined : FnScope ["one", "other"] ["one", "other"] (defScope s_joined) := ⟨rfl, rfl, rfl, by decide +kernel, rfl, by decide +kernel, by decide +kernel⟩
theorem sc_is_end : FnScope ["thing"] ["thing"] (defScope s_is_end) := ⟨rfl, rfl, rfl, by decide +kernel, rfl, by decide +kernel, by decide +kernel⟩
theorem sc_want_time : FnScope ["t"] ["t"] (defScope s_want_time) := ⟨rfl, rfl, rfl, by decide +kernel, rfl, by decide +kernel, by decide +kernel⟩
theorem sc_level_from : FnScope ["begin", "end", "level"] ["begin", "end"] (defScope s_level_from) := ⟨rfl, rfl, rfl, by decide +kernel, rfl, by decide +kernel, by decide +kernel⟩
theorem sc_stretches : FnScope ["begin", "end", "found", "level"] ["begin", "end"] (defScope s_stretches) := ⟨rfl, rfl, rfl, by decide +kernel, rfl, by decide +kernel, by decide +kernel⟩
theorem sc_Store___init : FnScope ["self", "curve", "t", "h"] ["self", "curve"] (defScope s_Store___init) := ⟨rfl, rfl, rfl, by decide +kernel, rfl, by decide +kernel, by decide +kernel⟩
theorem sc_Store_set_height : FnScope ["self", "t", "h", "level", "s", "one", "other"] ["self", "t", "h"] (defScope s_Store_set_height) := ⟨rfl, rfl, rfl, by decide +kernel, rfl, by decide +kernel, by decide +kernel⟩
theorem sc_Store_set_four : FnScope ["self", "stretch", "found"] ["self", "stretch", "found"] (defScope s_Store_set_four) := ⟨rfl, rfl, rfl, by decide +kernel, rfl, by decide +kernel, by decide +kernel⟩
theorem sc_Store_put : FnScope ["self", "t", "h", "before"] ["self", "t", "h"] (defScope s_Store_put) := ⟨rfl, rfl, rfl, by decide +kernel, rfl, by decide +kernel, by decide +kernel⟩
theorem sc_Store_take : FnScope ["self", "t"] ["self", "t"] (defScope s_Store_take) := ⟨rfl, rfl, rfl, by decide +kernel, rfl, by decide +kernel, by decide +kernel⟩
theorem sc_Store_height : FnScope ["self", "t"] ["self", "t"] (defScope s_Store_height) := ⟨rfl, rfl, rfl, by decide +kernel, rfl, by decide +kernel, by decide +kernel⟩
theorem sc_Store_four : FnScope ["self", "begin", "end", "found", "stretch"] ["self", "begin", "end"] (defScope s_Store_four) := ⟨rfl, rfl, rfl, by decide +kernel, rfl, by decide +kernel, by decide +kernel⟩
theorem sc_Store_fours : FnScope ["self", "window", "begin", "wide", "many", "ends", "k", "first", "behind"] ["self", "window"] (defScope s_Store_fours) := ⟨rfl, rfl, rfl, by decide +kernel, rfl, by decide +kernel, by decide +kernel⟩
theorem sc_Store_told : FnScope ["self", "t"] ["self"] (defScope s_Store_told) := ⟨rfl, rfl, rfl, by decide +kernel, rfl, by decide +kernel, by decide +kernel⟩
theorem sc_Store_watch : FnScope ["self", "window"] ["self", "window"] (defScope s_Store_watch) := ⟨rfl, rfl, rfl, by decide +kernel, rfl, by decide +kernel, by decide +kernel⟩
theorem sc_Store_news : FnScope ["self", "number"] ["self", "number"] (defScope s_Store_news) := ⟨rfl, rfl, rfl, by decide +kernel, rfl, by decide +kernel, by decide +kernel⟩
theorem sc_Store_undo : FnScope ["self"] ["self"] (defScope s_Store_undo) := ⟨rfl, rfl, rfl, by decide +kernel, rfl, by decide +kernel, by decide +kernel⟩
theorem sc_Store_times : FnScope ["self"] ["self"] (defScope s_Store_times) := ⟨rfl, rfl, rfl, by decide +kernel, rfl, by decide +kernel, by decide +kernel⟩
theorem sc_is_name : FnScope ["thing", "sign"] ["thing"] (defScope s_is_name) := ⟨rfl, rfl, rfl, by decide +kernel, rfl, by decide +kernel, by decide +kernel⟩
theorem sc_Board___init : FnScope ["self"] ["self"] (defScope s_Board___init) := ⟨rfl, rfl, rfl, by decide +kernel, rfl, by decide +kernel, by decide +kernel⟩
theorem sc_Board_store : FnScope ["self", "name"] ["self", "name"] (defScope s_Board_store) := ⟨rfl, rfl, rfl, by decide +kernel, rfl, by decide +kernel, by decide +kernel⟩
theorem sc_Board_names : FnScope ["self"] ["self"] (defScope s_Board_names) := ⟨rfl, rfl, rfl, by decide +kernel, rfl, by decide +kernel, by decide +kernel⟩
theorem sc_Board_picture : FnScope ["self", "window", "heights"] ["self", "window", "heights"] (defScope s_Board_picture) := ⟨rfl, rfl, rfl, by decide +kernel, rfl, by decide +kernel, by decide +kernel⟩
theorem sc_Board_kept : FnScope ["self", "window"] ["self", "window"] (defScope s_Board_kept) := ⟨rfl, rfl, rfl, by decide +kernel, rfl, by decide +kernel, by decide +kernel⟩
theorem sc_law_cell : FnScope ["_law_script", "_law_k"] ["_law_script", "_law_k"] (defScope s_law_cell) := ⟨rfl, rfl, rfl, by decide +kernel, rfl, by decide +kernel, by decide +kernel⟩
theorem sc_law_purse : FnScope ["_law_cell_here", "_law_k"] ["_law_cell_here", "_law_k"] (defScope s_law_purse) := ⟨rfl, rfl, rfl, by decide +kernel, rfl, by decide +kernel, by decide +kernel⟩
theorem sc_law_draw : FnScope ["_law_purse_here", "_law_many", "_law_digit"] ["_law_purse_here", "_law_many"] (defScope s_law_draw) := ⟨rfl, rfl, rfl, by decide +kernel, rfl, by decide +kernel, by decide +kernel⟩
theorem sc_law_named : FnScope ["_law_purse_here", "_law_name", "_law_k"] ["_law_purse_here"] (defScope s_law_named) := ⟨rfl, rfl, rfl, by decide +kernel, rfl, by decide +kernel, by decide +kernel⟩
theorem sc_law_no_name : FnScope ["_law_purse_here", "_law_name", "_law_some"] ["_law_purse_here", "_law_name"] (defScope s_law_no_name) := ⟨rfl, rfl, rfl, by decide +kernel, rfl, by decide +kernel, by decide +kernel⟩
theorem sc_law_other : FnScope ["_law_e"] ["_law_e"] (defScope s_law_other) := ⟨rfl, rfl, rfl, by decide +kernel, rfl, by decide +kernel, by decide +kernel⟩
theorem sc_law_refused : FnScope ["_law_board", "_law_thing", "_law_word", "_law_e"] ["_law_board", "_law_thing"] (defScope s_law_refused) := ⟨rfl, rfl, rfl, by decide +kernel, rfl, by decide +kernel, by decide +kernel⟩
theorem sc_law : FnScope ["_law_script", "_law_k", "_law_purse_here", "_law_board", "_law_other_here", "_law_stores", "_law_curves", "_law_j", "_law_name", "_law_found", "_law_held", "_law_time", "_law_told"] ["_law_script"] (defScope s_law) := ⟨rfl, rfl, rfl, by decide +kernel, rfl, by decide +kernel, by decide +kernel⟩
/-! script[k] or 0 -/
def sp_nth (K : PySem.W.Frag) : Sp := fun vs H Q _ => ∃ (a : Addr) (ns : List Int) (k : Nat), vs = [.ref a, .int k] ∧ SqL K H a (ns.map V.int) ∧ Q (.int (ns.getD k 0)) H
theorem getD_map_int {ns : List Int} {k : Nat} (h : k < ns.length) : (ns.map V.int)[k]? = some (V.int (ns.getD k 0)) := by
  rw [List.getElem?_map, List.getElem?_eq_getElem h]
  simp [List.getD, h]
section
variable {P : Program} {w : World} {K : PySem.W.Frag} {mg : Str → Option Value} {base : Heap}
theorem ok_law_cell (B : Blt mg) (D : Def K mg "_law_cell" s_law_cell ["_law_script", "_law_k"]) :
    Fn P w K mg base 1 "_law_cell" ["_law_script", "_law_k"] (sp_nth K) := by
  refine D.ok sc_law_cell (fun vs H Q E h => ?_) (fun f cdv A outer s H vs Q E hr h => ?_)
  · obtain ⟨a, ns, k, rfl, hS, q⟩ := h
    rfl
  · obtain ⟨a, ns, k, rfl, hS, q⟩ := h
    refine ⟨_, (pss_one (ps_ret (pe_ifExp (pt_cmpR op_lt (pv 1) (pe_callB (crK K c_len) rfl B.len (by decide +kernel) (pa_cons (pv 0) pa_nil)) (nomark _)) (pe_ix (ixK K ix_seq) (pv 0) (pv 1) (fun _ _ => rfl)) pe_int))), ?_⟩
    refine r_start (σ' := [some (.ref a), some (.int k)]) rfl ?_
    walk_at "a"
    refine i_cases (fun hk => ?_) (fun hk => ?_)
    · walk_at "a"
      exact r_ixl hS (at_of rfl (getD_map_int (by omega))) q
    · walk_at "a"
      have e0 : ns.getD k 0 = 0 := by
        have h1 : ns.length ≤ k := by omega
        simp [List.getD, h1]
      rw [e0] at q
      exact q
end
theorem use_nth {K : PySem.W.Frag} {H : Hp} {Q : VK} {E : XK} {a : Addr} {ns : List Int} {z : Int} (h : SqL K H a (ns.map V.int)) (h0 : 0 ≤ z) (q : Q (.int (ns.getD z.toNat 0)) H) : sp_nth K [.ref a, .int z] H Q E :=
  ⟨a, ns, z.toNat, by rw [Int.toNat_of_nonneg h0], h, q⟩
local macro_rules | `(tactic| walk_at "call") => `(tactic| ((with_reducible refine' use_nth ?hva ?hvb ?_); (case hva => walk_at "sql"); (case hvb => omega)))

/-! the purse: a list of three numbers -/
structure Pot (H : Hp) (p : Addr) : Prop where
  ex : ∃ a b c : Int, H p = some (.lst [.int a, .int b, .int c]) ∧ 0 ≤ a ∧ 0 ≤ b ∧ 0 ≤ c ∧ c < 4294967296
theorem Pot.keep {H H' : Hp} {p : Addr} {F : Addr → Prop} (h : Pot H p) (k : Keep F H H') (n : ¬ F p) : Pot H' p := by
  obtain ⟨a, b, c, e, r⟩ := h.ex
  exact ⟨a, b, c, k p _ e n, r⟩
theorem Pot.same {H H' : Hp} {p : Addr} (h : Pot H p) (k : Same H H') : Pot H' p := by
  obtain ⟨a, b, c, e, r⟩ := h.ex
  exact ⟨a, b, c, k p _ e, r⟩
theorem Pot.text {H H' : Hp} {p : Addr} (h : Pot H p) (k : Keep (At p) H H') : TExt H H' := by
  obtain ⟨a, b, c, e, r⟩ := h.ex
  exact TExt.lst k e
theorem Pot.ne_new {H : Hp} {p q : Addr} (h : Pot H p) (hn : H q = none) : q ≠ p := by
  obtain ⟨a, b, c, e, r⟩ := h.ex
  exact fun z => by rw [z, e] at hn; cases hn
def sp_pot (K : PySem.W.Frag) : Sp := fun vs H Q _ => ∃ c k : Int, vs = [.int c, .int k] ∧ 0 ≤ k ∧ k ≤ 1000 ∧ ∀ (p : Addr) (H' : Hp), H p = none → Same H H' → Pot H' p → Q (.ref p) H'
def sp_take (K : PySem.W.Frag) : Sp := fun vs H Q _ => ∃ (p : Addr) (n : Int), vs = [.ref p, .int n] ∧ Pot H p ∧ 0 < n ∧ n ≤ 1000000000000000000000000000000000000000000000000000000000000000000000000000 ∧
  ∀ (r : Int) (H' : Hp), Keep (At p) H H' → Pot H' p → 0 ≤ r → r < n → Q (.int r) H'
section
variable {P : Program} {w : World} {K : PySem.W.Frag} {mg : Str → Option Value} {base : Heap}
theorem ok_law_purse (B : Blt mg) (D : Def K mg "_law_purse" s_law_purse ["_law_cell_here", "_law_k"]) :
    Fn P w K mg base 1 "_law_purse" ["_law_cell_here", "_law_k"] (sp_pot K) := by
  refine D.ok sc_law_purse (fun vs H Q E h => ?_) (fun f cdv A outer s H vs Q E hr h => ?_)
  · obtain ⟨c, k, rfl, k0, k1, q⟩ := h
    rfl
  · obtain ⟨c, k, rfl, k0, k1, q⟩ := h
    refine ⟨_, (pss_cons (ps_if (pt_cmpR op_ge (pv 0) (pe_powC (z := 1000000000000000000) (by decide +kernel) (by decide +kernel)) (nomark _))
      (pss_one (ps_ret (pe_lst (pa_cons (pv 0) (pa_cons pe_int (pa_cons (pe_op op_add (pe_op op_mulY pe_int (pv 1)) pe_int) pa_nil))))))
      pss_nil)
      (pss_one (ps_ret (pe_lst (pa_cons pe_int (pa_cons pe_int (pa_cons (pe_op op_mod (pe_op op_add (pe_op op_add (pe_op op_add (pe_op op_mulY (pe_op op_mod (pe_callB c_abs rfl B.abs (by decide +kernel) (pa_cons (pv 0) pa_nil)) (pe_powC (z := 10000000000000000000000000000000000000000) (by decide +kernel) (by decide +kernel))) pe_int) (pe_op op_mulY (pe_op op_mulY pe_int (pv 1)) (pv 1))) (pe_op op_mulY pe_int (pv 1))) pe_int) pe_int) pa_nil))))))), ?_⟩
    refine r_start (σ' := [some (.int c), some (.int k)]) rfl ?_
    walk_at "a"
    refine i_cases (fun h => ?_) (fun h => ?_)
    · walk_at "a"
      rename_i p H' hn h1 h2
      exact q p H' hn h1 ⟨_, _, _, h2, by omega, by omega, by omega, by omega⟩
    · walk_at "a"
      rename_i p H' hn h1 h2
      exact q p H' hn h1 ⟨_, _, _, h2, by omega, by omega, Int.emod_nonneg _ (by decide), by have := Int.emod_lt_of_pos ((if c < 0 then -c else c) % 10000000000000000000000000000000000000000 * 48271 + 10007 * k * k + 613 * k + 5) (show (0 : Int) < 2147483629 by decide); omega⟩
end
section
variable {P : Program} {w : World} {K : PySem.W.Frag} {mg : Str → Option Value} {base : Heap}
theorem ok_law_draw (B : Blt mg) (D : Def K mg "_law_draw" s_law_draw ["_law_purse_here", "_law_many"]) :
    Fn P w K mg base 1 "_law_draw" ["_law_purse_here", "_law_many"] (sp_take K) := by
  refine D.ok sc_law_draw (fun vs H Q E h => ?_) (fun f cdv A outer s H vs Q E hr h => ?_)
  · obtain ⟨p, n, rfl, hp, hn, hb, q⟩ := h
    rfl
  · obtain ⟨p, n, rfl, hp, hn, hb, q⟩ := h
    refine ⟨_, (pss_cons (ps_if (pt_cmpR op_gt (pe_ix (ixK K ix_seq) (pv 0) pe_int (fun _ _ => rfl)) pe_int (nomark _))
      (pss_cons (ps_set (i := 2) sc_law_draw.nd rfl (Or.inl rfl) (pe_op op_mod (pe_ix (ixK K ix_seq) (pv 0) pe_int (fun _ _ => rfl)) (pv 1)))
      (pss_cons (ps_asg (pe_op op_fdivW (pe_ix (ixK K ix_seq) (pv 0) pe_int (fun _ _ => rfl)) (pv 1)) (pg_sub (pv 0) pe_int set_list))
      (pss_one (ps_ret (pv 2)))))
      pss_nil)
      (pss_cons (ps_asg (pe_op op_add (pe_ix (ixK K ix_seq) (pv 0) pe_int (fun _ _ => rfl)) pe_int) (pg_sub (pv 0) pe_int set_list))
      (pss_cons (ps_asg (pe_op op_mod (pe_op op_add (pe_op op_mulY (pe_ix (ixK K ix_seq) (pv 0) pe_int (fun _ _ => rfl)) pe_int) (pe_op op_mulY pe_int (pe_ix (ixK K ix_seq) (pv 0) pe_int (fun _ _ => rfl)))) pe_int) (pg_sub (pv 0) pe_int set_list))
      (pss_one (ps_ret (pe_op op_mod (pe_op op_fdivW (pe_op op_mod (pe_op op_mulY (pe_ix (ixK K ix_seq) (pv 0) pe_int (fun _ _ => rfl)) (pe_ix (ixK K ix_seq) (pv 0) pe_int (fun _ _ => rfl))) pe_int) pe_int) (pv 1))))))), ?_⟩
    refine r_start (σ' := [some (.ref p), some (.int n), none]) rfl ?_
    obtain ⟨a, b, c, hp, ha, hb0, hc0, hc1⟩ := hp.ex
    walk_at "a"
    refine i_cases (fun hk => ?_) (fun hk => ?_)
    · walk_at "a"
      refine r_setl hp rfl fun H' h1 h2 => ?_
      walk_at "a"
      exact q _ H' h1 ⟨_, _, _, h2, Int.ediv_nonneg ha (by omega), hb0, hc0, hc1⟩ (Int.emod_nonneg _ (by omega)) (Int.emod_lt_of_pos _ hn)
    · walk_at "a"
      refine r_setl hp rfl fun H' h1 e2 => ?_
      have e2 : H' p = some (.lst [.int a, .int (b + 1), .int c]) := e2
      walk_at "a"
      refine r_setl e2 rfl fun H2 h3 e3 => ?_
      have e3 : H2 p = some (.lst [.int a, .int (b + 1), .int ((c * 39373 + 8191 * (b + 1)) % 2147483587)]) := e3
      generalize hc : (c * 39373 + 8191 * (b + 1)) % 2147483587 = d at e3
      have d0 : 0 ≤ d := by omega
      have d1 : d < 4294967296 := by omega
      clear hc
      walk_at "a"
      exact q _ H2 (h1.trans h3) ⟨_, _, _, e3, ha, by omega, d0, d1⟩ (Int.emod_nonneg _ (by omega)) (Int.emod_lt_of_pos _ hn)
end
theorem use_pot {K : PySem.W.Frag} {H : Hp} {Q : VK} {E : XK} {c k : Int} (h : 0 ≤ k ∧ k ≤ 1000) (q : ∀ (p : Addr) (H' : Hp), H p = none → Same H H' → Pot H' p → Q (.ref p) H') : sp_pot K [.int c, .int k] H Q E := ⟨c, k, rfl, h.1, h.2, q⟩
theorem use_take {K : PySem.W.Frag} {H : Hp} {Q : VK} {E : XK} {p : Addr} {n : Int} (h : Pot H p) (h0 : 0 < n) (h1 : n ≤ 1000000000000000000000000000000000000000000000000000000000000000000000000000) (q : ∀ (r : Int) (H' : Hp), Keep (At p) H H' → Pot H' p → 0 ≤ r → r < n → Q (.int r) H') : sp_take K [.ref p, .int n] H Q E :=
  ⟨p, n, rfl, h, h0, h1, q⟩
local macro_rules | `(tactic| walk_at "call") => `(tactic| ((with_reducible refine' use_take ?hva ?hvb ?hvc ?_); (case hva => walk_at "pot"); (case hvb => omega); (case hvc => omega); intro _ _ _ _ _ _))
local macro_rules | `(tactic| walk_at "call") => `(tactic| ((with_reducible refine' use_pot ?hva ?_); (case hva => omega); intro _ _ _ _ _))
local macro_rules | `(tactic| walk_at "pot") => `(tactic| first
  | assumption
  | (refine' Pot.same ?hk1 ?hk2; (case hk2 => assumption); (case hk1 => walk_at "pot"))
  | (refine' Pot.keep ?hk1 ?hk2 ?hk3; (case hk2 => assumption); (case hk1 => walk_at "pot"); (case hk3 => walk_at "ne"))
  | fail)
local macro_rules | `(tactic| walk_at "te") => `(tactic| first
  | assumption
  | exact TExt.refl _
  | exact TExt.of_same (by assumption)
  | (refine' Pot.text ?hk1 ?hk2; (case hk2 => assumption); (case hk1 => assumption))
  | (refine' TExt.trans ?hk1 ?hk2; (case hk2 => first | exact TExt.of_same (by assumption) | (refine' Pot.text ?hk3 ?hk4; (case hk4 => assumption); (case hk3 => walk_at "pot"))); (case hk1 => walk_at "te"))
  | fail)
/-- a tuple through the heaps -/
local macro_rules | `(tactic| walk_at "st") => `(tactic| first
  | assumption
  | exact SqT.of (by assumption)
  | (refine' SqT.text ?hk1 ?hk2; (case hk1 => first | exact TExt.of_same (by assumption) | (refine' Pot.text ?hk3 ?hk4; (case hk4 => assumption); (case hk3 => walk_at "pot"))); (case hk2 => walk_at "st"))
  | fail)
local macro_rules | `(tactic| walk_at "ne") => `(tactic| first
  | assumption
  | exact Ne.symm (by assumption)
  | (refine' Pot.ne_new ?hk1 ?hk2; (case hk2 => assumption); (case hk1 => walk_at "pot"))
  | fail)
/-! the law's promise -/
def sp_law (K : PySem.W.Frag) : Sp := fun vs H Q _ => ∃ a ns, vs = [.ref a] ∧ Scr K H a ns ∧ ns.length ≤ 63 ∧ ∀ H', Q (.bl true) H'
theorem sp_law_top {K : PySem.W.Frag} {H : Hp} {a : Addr} {ns : List Int} {E : XK} (hl : ns.length ≤ 63) (hb : ∀ z ∈ ns, Builtin.Int.intBits z ≤ 1048576) (hO : Only H) (hS : SqL K H a (ns.map V.int)) : sp_law K [.ref a] H (fun v _ => v = .bl true) E :=
  ⟨a, ns, rfl, Scr.of hO hS, hl, fun _ => rfl⟩
/-- a drawn number -/
def sp_drawn (lo hi : Int) (K : PySem.W.Frag) : Sp := fun vs H Q _ => ∃ p, vs = [.ref p] ∧ Pot H p ∧ ∀ (z : Int) (H' : Hp), Keep (At p) H H' → Pot H' p → lo ≤ z → z ≤ hi → Q (.int z) H'
theorem use_drawn {lo hi : Int} {K : PySem.W.Frag} {H : Hp} {Q : VK} {E : XK} {p : Addr} (h : Pot H p) (q : ∀ (z : Int) (H' : Hp), Keep (At p) H H' → Pot H' p → lo ≤ z → z ≤ hi → Q (.int z) H') : sp_drawn lo hi K [.ref p] H Q E := ⟨p, rfl, h, q⟩
local macro_rules | `(tactic| walk_at "call") => `(tactic| ((with_reducible refine' use_drawn ?hva ?_); (case hva => walk_at "pot"); intro _ _ _ _ _ _))
/-- a comprehension over range(n) that draws from the pot -/
theorem lc_pot {σ : L2.St} {H : Hp} {Q : VK} {n : Nat} {lo : Int} {p : Addr} {te : TE} {j : Nat} (hp : Pot H p) (hn : n ≤ 16777216) (R : Hp → Nat → V → Prop) (hR : ∀ H H' i y, TExt H H' → R H i y → R H' i y)
    (hs : ∀ (i : Nat) H2 (S : VK), i < n → Keep (At p) H H2 → Pot H2 p → (∀ y H3, Keep (At p) H2 H3 → Pot H3 p → R H3 i y → S y H3) → te ((wipe σ [j]).set j (some (.int (lo + i)))) H2 S)
    (q : ∀ D H' ys, H D = none → Keep (At p) H H' → Pot H' p → H' D = some (.lst ys) → Paired (R H') (List.range n) ys → Q (.ref D) H') : LcW (Itr lo n) (gName j) tYes te [j] σ H Q :=
  lc_rngK (fun H => Pot H p) hp (fun D hD => hp.ne_new hD) (fun H1 H2 h e => by obtain ⟨a, b, c, z, r⟩ := h.ex; exact ⟨a, b, c, by rw [e]; exact z, r⟩) (fun H1 H2 h k => h.text k) hn R hR hs q

/-! whether a thing is a whole number -/
def numV : V → Bool
  | .int _ => true
  | _ => false
theorem numV_dp {K : PySem.W.Frag} {H : Hp} {v : V} {d : PyData} (h : Dp K H v d) : (isT "int" d && !isT "bool" d) = numV v := by
  cases h <;> simp [isT, isK, tyN, numV]
def sp_is_number (K : PySem.W.Frag) : Sp := fun vs H Q _ => ∃ v d, vs = [v] ∧ Dp K H v d ∧ Q (.bl (numV v)) H
section
variable {P : Program} {w : World} {K : PySem.W.Frag} {mg : Str → Option Value} {base : Heap}
theorem ok_is_number (B : Blt mg) (D : Def K mg "is_number" s_is_number ["thing"]) :
    Fn P w K mg base 1 "is_number" ["thing"] (sp_is_number K) := by
  refine D.ok sc_is_number (fun vs H Q E h => ?_) (fun f cdv A outer s H vs Q E hr h => ?_)
  · obtain ⟨v, d, rfl, hd, q⟩ := h
    rfl
  · obtain ⟨v, d, rfl, hd, q⟩ := h
    refine ⟨_, (pss_one (ps_ret (pe_and (pe_callB (crK K call_isi) rfl B.isinstance (by decide +kernel) (pa_cons (pv 0) (pa_cons (pe_bltn (v := .ty "int") rfl B.int (by decide +kernel) rfl) pa_nil))) (pe_one (pe_not (pe_callB (crK K call_isi) rfl B.isinstance (by decide +kernel) (pa_cons (pv 0) (pa_cons (pe_bltn (v := .ty "bool") rfl B.bool (by decide +kernel) rfl) pa_nil)))))))), ?_⟩
    refine r_start (σ' := [some (v)]) rfl ?_
    rw [← numV_dp hd] at q
    walk_at "a"
    refine r_isi hd (by decide) ?_
    walk_at "a"
    cases h1 : isT "int" d with
    | false =>
      rw [h1] at q
      walk_at "a"
      exact q
    | true =>
      rw [h1] at q
      walk_at "a"
      refine r_isi hd (by decide) ?_
      walk_at "a"
      exact q
end
theorem use_is_number {K : PySem.W.Frag} {H : Hp} {Q : VK} {E : XK} {v : V} {d : PyData} (h : Dp K H v d) (q : Q (.bl (numV v)) H) : sp_is_number K [v] H Q E := ⟨v, d, rfl, h, q⟩
theorem use_is_number_i {K : PySem.W.Frag} {H : Hp} {Q : VK} {E : XK} {i : Int} (q : Q (.bl true) H) : sp_is_number K [.int i] H Q E := ⟨_, .int i, rfl, .int i, q⟩
local macro_rules | `(tactic| walk_at "call") => `(tactic| ((with_reducible refine' use_is_number_i ?_)))

/-! ### times_of -/
def sp_times_of (K : PySem.W.Frag) (C : Addr) : Sp := fun vs H Q E => ∃ (a : Addr) (b w m : Int) (v : V) (d : PyData), vs = [.ref a, v] ∧ SqT K H a [.int b, .int w, .int m] ∧ Dp K H v d ∧ -1000000000000000000000000000000000000000000000000000000000000000000000000000 ≤ w ∧ w ≤ 1000000000000000000000000000000000000000000000000000000000000000000000000000 ∧
  m ≤ 1000000000000000000000000000000000000000000000000000000000000000000000000000 ∧
  (∀ k, v = .int k → 0 ≤ k → k < m → ∀ (p : Addr) (H' : Hp), Same H H' → H' p = some (.tup [.int (b + k * w), .int (b + k * w + w)]) → Q (.ref p) H') ∧
  ((∀ k, v = .int k → ¬ (0 ≤ k ∧ k < m)) → E (.ref C) none H)
section
variable {P : Program} {w : World} {K : PySem.W.Frag} {mg : Str → Option Value} {base : Heap}
theorem ok_times_of (B : Blt mg) (D : Def K mg "times_of" s_times_of ["window", "k"]) {E_NoColumn : Addr} (X_NoColumn : Exc K mg "NoColumn" E_NoColumn) (G_is_number : Fn P w K mg base 1 "is_number" ["thing"] (sp_is_number K)) :
    Fn P w K mg base 2 "times_of" ["window", "k"] (sp_times_of K E_NoColumn) := by
  refine D.okX sc_times_of (fun vs H Q E h => ?_) (fun f cdv A outer s H vs Q E hr h => ?_)
  · obtain ⟨a, b, w', m, v, d, rfl, hw, hd, h0, h1, h2, q, e⟩ := h
    rfl
  · obtain ⟨a, b, w', m, v, d, rfl, hw, hd, h0, h1, h2, q, e⟩ := h
    refine ⟨_, (pss_cons (ps_asg (pv 0) (pgK_tup K (n := 3) rfl (pgs_cons (pg_name (i := 2) sc_times_of.nd rfl (Or.inl rfl)) (pgs_cons (pg_name (i := 3) sc_times_of.nd rfl (Or.inl rfl)) (pgs_cons (pg_name (i := 4) sc_times_of.nd rfl (Or.inl rfl)) pgs_nil)))))
      (pss_cons (ps_if (PW.pt (pw_or (pt_not (pt_val (pe_fn G_is_number hr (pa_cons (pv 1) pa_nil)))) (pw_or (pt_cmpR op_lt (pv 1) pe_int (nomark _)) (pw_or1 (pt_cmpR op_ge (pv 1) (pv 4) (nomark _))))))
      (pss_one (ps_rs X_NoColumn (takes_of rfl rfl rfl rfl)))
      pss_nil)
      (pss_cons (ps_set (i := 5) sc_times_of.nd rfl (Or.inl rfl) (pe_op op_add (pv 2) (pe_op op_mulY (pv 1) (pv 3))))
      (pss_one (ps_ret (pe_tup (pa_cons (pv 5) (pa_cons (pe_op op_add (pv 5) (pv 3)) pa_nil)))))))), ?_⟩
    refine r_start (σ' := [some (.ref a), some (v), none, none, none, none]) rfl ?_
    have hn : numV v = true ∨ numV v = false := by cases numV v <;> simp
    walk_at "a"
    refine use_is_number hd ?_
    rcases hn with hn | hn
    · rw [hn]
      obtain ⟨k, rfl⟩ : ∃ k, v = .int k := by cases v <;> simp [numV] at hn; exact ⟨_, rfl⟩
      walk_at "a"
      refine i_cases (fun h3 => ?_) (fun h3 => ?_)
      · walk_at "a"
        exact e (fun j hj hk => by cases hj; omega)
      · walk_at "a"
        refine i_cases (fun h4 => ?_) (fun h4 => ?_)
        · walk_at "a"
          exact e (fun j hj hk => by cases hj; omega)
        · walk_at "a"
          rename_i p H' hn hs hp
          exact q k rfl (by omega) (by omega) p H' hs hp
    · rw [hn]
      walk_at "a"
      exact e (fun j hj hk => by subst hj; simp [numV] at hn)
end
theorem use_times_of {K : PySem.W.Frag} {C : Addr} {H : Hp} {Q : VK} {E : XK} {a : Addr} {b w m k : Int} (hw : SqT K H a [.int b, .int w, .int m]) (h0 : -1000000000000000000000000000000000000000000000000000000000000000000000000000 ≤ w) (h1 : w ≤ 1000000000000000000000000000000000000000000000000000000000000000000000000000)
    (h2 : m ≤ 1000000000000000000000000000000000000000000000000000000000000000000000000000) (h3 : 0 ≤ k) (h4 : k < m)
    (q : ∀ (p : Addr) (H' : Hp), Same H H' → H' p = some (.tup [.int (b + k * w), .int (b + k * w + w)]) → Q (.ref p) H') : sp_times_of K C [.ref a, .int k] H Q E :=
  ⟨a, b, w, m, _, _, rfl, hw, .int k, h0, h1, h2, fun j hj _ _ => by cases hj; exact q, fun n => absurd ⟨h3, h4⟩ (n k rfl)⟩
local macro_rules | `(tactic| walk_at "call") => `(tactic| ((with_reducible refine' use_times_of ?hva ?hvb ?hvc ?hvd ?hve ?hvf ?_); (case hva => walk_at "sqt"); (case hvb => omega); (case hvc => omega); (case hvd => omega); (case hve => omega); (case hvf => omega); intro _ _ _ _))

/-! ends of times, levels, stretches -/
def endV : V → Bool
  | .int i => decide (-1099511627776 ≤ i) && decide (i ≤ 1099511627776)
  | _ => false
theorem endV_true {i : Int} (h : -1099511627776 ≤ i ∧ i ≤ 1099511627776) : endV (.int i) = true := by
  show (decide (-1099511627776 ≤ i) && decide (i ≤ 1099511627776)) = true
  rw [decide_eq_true h.1, decide_eq_true h.2]
  rfl
theorem endV_false {i : Int} (h : ¬ (-1099511627776 ≤ i ∧ i ≤ 1099511627776)) : endV (.int i) = false := by
  show (decide (-1099511627776 ≤ i) && decide (i ≤ 1099511627776)) = false
  simp
  omega
def sp_is_end (K : PySem.W.Frag) : Sp := fun vs H Q _ => ∃ v d, vs = [v] ∧ Dp K H v d ∧ Q (.bl (endV v)) H
section
variable {P : Program} {w : World} {K : PySem.W.Frag} {mg : Str → Option Value} {base : Heap}
theorem ok_is_end (B : Blt mg) (D : Def K mg "is_end" s_is_end ["thing"]) {tk_FIRST : Tok} (C_FIRST : mg "FIRST" = some (.int (-1099511627776) tk_FIRST)) {tk_BEHIND : Tok} (C_BEHIND : mg "BEHIND" = some (.int (1099511627776) tk_BEHIND)) :
    Fn P w K mg base 1 "is_end" ["thing"] (sp_is_end K) := by
  refine D.ok sc_is_end (fun vs H Q E h => ?_) (fun f cdv A outer s H vs Q E hr h => ?_)
  · obtain ⟨v, d, rfl, hd, q⟩ := h
    rfl
  · obtain ⟨v, d, rfl, hd, q⟩ := h
    refine ⟨_, (pss_one (ps_ret (pe_and (pe_callB (crK K call_isi) rfl B.isinstance (by decide +kernel) (pa_cons (pv 0) (pa_cons (pe_bltn (v := .ty "int") rfl B.int (by decide +kernel) rfl) pa_nil))) (pe_and (pe_not (pe_callB (crK K call_isi) rfl B.isinstance (by decide +kernel) (pa_cons (pv 0) (pa_cons (pe_bltn (v := .ty "bool") rfl B.bool (by decide +kernel) rfl) pa_nil)))) (pe_one (pe_chain op_le op_le (pe_glob (v := .int (-1099511627776)) rfl C_FIRST ⟨_, rfl⟩) (pv 0) (pe_glob (v := .int (1099511627776)) rfl C_BEHIND ⟨_, rfl⟩))))))), ?_⟩
    refine r_start (σ' := [some (v)]) rfl ?_
    walk_at "a"
    refine r_isi hd (by decide) ?_
    cases hd with
    | int i =>
      rw [show isT "int" (.int i) = true by simp [isT, isK, tyN]]
      have q : Q (.bl (decide (-1099511627776 ≤ i) && decide (i ≤ 1099511627776))) H := q
      walk_at "a"
      refine i_cases (fun h1 => ?_) (fun h1 => ?_)
      · rw [decide_eq_true h1, Bool.true_and] at q
        walk_at "a"
        exact q
      · rw [decide_eq_false h1, Bool.false_and] at q
        exact q
    | bl b =>
      rw [show isT "int" (.bool b) = true by simp [isT, isK, tyN]]
      walk_at "a"
      exact q
    | non =>
      walk_at "a"
      exact q
    | str s =>
      rw [show isT "int" (.str s) = false by simp [isT, isK, tyN]]
      walk_at "a"
      exact q
    | lst h1 h2 =>
      rw [show isT "int" (.list _) = false by simp [isT, isK, tyN]]
      walk_at "a"
      exact q
    | tup h1 h2 =>
      rw [show isT "int" (.tuple _) = false by simp [isT, isK, tyN]]
      walk_at "a"
      exact q
end
theorem use_is_end {K : PySem.W.Frag} {H : Hp} {Q : VK} {E : XK} {v : V} {d : PyData} (h : Dp K H v d) (q : Q (.bl (endV v)) H) : sp_is_end K [v] H Q E := ⟨v, d, rfl, h, q⟩
def sp_level_from (K : PySem.W.Frag) : Sp := fun vs H Q _ => ∃ b e : Int, vs = [.int b, .int e] ∧ Q (.int ((lvl b e : Nat) : Int)) H
section
variable {P : Program} {w : World} {K : PySem.W.Frag} {mg : Str → Option Value} {base : Heap}
theorem ok_level_from (B : Blt mg) (D : Def K mg "level_from" s_level_from ["begin", "end"]) {tk_MOST_LEVEL : Tok} (C_MOST_LEVEL : mg "MOST_LEVEL" = some (.int (40) tk_MOST_LEVEL)) :
    Fn P w K mg base 1 "level_from" ["begin", "end"] (sp_level_from K) := by
  refine D.ok sc_level_from (fun vs H Q E h => ?_) (fun f cdv A outer s H vs Q E hr h => ?_)
  · obtain ⟨b, e, rfl, q⟩ := h
    rfl
  · obtain ⟨b, e, rfl, q⟩ := h
    refine ⟨_, (pss_cons (ps_set (i := 2) sc_level_from.nd rfl (Or.inl rfl) pe_int)
      (pss_cons (ps_while PassesOwn.never (PW.pt (pw_and (pt_cmpR op_lt (pv 2) (pe_glob (v := .int (40)) rfl C_MOST_LEVEL ⟨_, rfl⟩) (nomark _)) (pw_and (pt_cmpR (opK K (o_eq hr.units)) (pe_op op_mod (pv 0) (pe_op o_shl pe_int (pv 2))) pe_int (nomark _)) (pw_and1 (pt_cmpR op_le (pe_op op_add (pv 0) (pe_op o_shl pe_int (pv 2))) (pv 1) (nomark _))))))
      (pss_one (ps_aug (i := 2) sc_level_from.nd rfl (Or.inl rfl) pe_int ip_add)))
      (pss_one (ps_ret (pv 2))))), ?_⟩
    refine r_start (σ' := [some (.int b), some (.int e), none]) rfl ?_
    walk_at "a"
    refine ⟨fun m σ H' => ∃ k : Nat, σ = [some (.int b), some (.int e), some (.int (k : Int))] ∧ H' = H ∧ m + k = 40 ∧ lvlF b e m k = lvl b e, ⟨40, 0, rfl, rfl, rfl, rfl⟩, ?_⟩
    rintro m σ H' ⟨k, rfl, rfl, hm, hk⟩
    have stop : k = lvl b e → tRet (tVar 2) { nx := fun x H' => Q V.non H', rt := Q } [some (.int b), some (.int e), some (.int (k : Int))] H' := fun h => by
      rw [← h] at q
      walk_at "a"
      exact q
    walk_at "a"
    refine i_cases (fun h1 => ?_) (fun h1 => ?_)
    · obtain ⟨m', rfl⟩ : ∃ m', m = m' + 1 := ⟨m - 1, by omega⟩
      have hk' : (if b % 2 ^ (k + 1) = 0 ∧ b + 2 ^ (k + 1) ≤ e then lvlF b e m' (k + 1) else k) = lvl b e := hk
      walk_at "a"
      refine i_cases (fun h2 => ?_) (fun h2 => ?_)
      · walk_at "a"
        refine i_cases (fun h3 => ?_) (fun h3 => ?_)
        · refine ⟨_, fun _ _ h => h, ?_⟩
          walk_at "a"
          rw [if_pos ⟨h2, h3⟩] at hk'
          exact ⟨m', by omega, k + 1, rfl, rfl, by omega, hk'⟩
        · rw [if_neg (fun z => h3 z.2)] at hk'
          exact stop hk'
      · rw [if_neg (fun z => h2 z.1)] at hk'
        exact stop hk'
    · have : m = 0 := by omega
      subst this
      exact stop hk
end
theorem use_level_from {K : PySem.W.Frag} {H : Hp} {Q : VK} {E : XK} {b e : Int} (q : Q (.int ((lvl b e : Nat) : Int)) H) : sp_level_from K [.int b, .int e] H Q E := ⟨b, e, rfl, q⟩
def sp_stretches (K : PySem.W.Frag) (C : Addr) : Sp := fun vs H Q E => ∃ (x y : V) (dx dy : PyData), vs = [x, y] ∧ Dp K H x dx ∧ Dp K H y dy ∧
  (endV x = true → endV y = true → ∀ b e : Int, x = .int b → y = .int e → ∀ p ws H', Same H H' → H' p = some (.tup ws) → RawP H' ws (strL b e) → Q (.ref p) H') ∧ ((endV x && endV y) = false → E (.ref C) none H)
theorem endV_int {v : V} (h : endV v = true) : ∃ i : Int, v = .int i ∧ -1099511627776 ≤ i ∧ i ≤ 1099511627776 := by
  cases v with
  | int i => exact ⟨i, rfl, by simpa [endV] using h⟩
  | _ => simp [endV] at h
section
variable {P : Program} {w : World} {K : PySem.W.Frag} {mg : Str → Option Value} {base : Heap}
theorem ok_stretches (B : Blt mg) {A_Store : Addr} (T_Store : ClT K mg "Store" A_Store) (N_Store_heights : NoAttr K A_Store "heights") (N_Store_by_stretches : NoAttr K A_Store "by_stretches") (N_Store_deeds : NoAttr K A_Store "deeds") (N_Store_deed_times : NoAttr K A_Store "deed_times") (N_Store_watches : NoAttr K A_Store "watches") {A_Board : Addr} (T_Board : ClT K mg "Board" A_Board) (N_Board_stores : NoAttr K A_Board "stores") (D : Def K mg "stretches" s_stretches ["begin", "end"]) {E_OutOfTimes : Addr} (X_OutOfTimes : Exc K mg "OutOfTimes" E_OutOfTimes) (G_level_from : Fn P w K mg base 1 "level_from" ["begin", "end"] (sp_level_from K)) (G_is_end : Fn P w K mg base 1 "is_end" ["thing"] (sp_is_end K)) :
    Fn P w K mg base 2 "stretches" ["begin", "end"] (sp_stretches K E_OutOfTimes) := by
  refine D.okX sc_stretches (fun vs H Q E h => ?_) (fun f cdv A outer s H vs Q E hr h => ?_)
  · obtain ⟨x, y, dx, dy, rfl, hx, hy, q, e⟩ := h
    rfl
  · obtain ⟨x, y, dx, dy, rfl, hx, hy, q, e⟩ := h
    refine ⟨_, (pss_cons (ps_if (PW.pt (pw_or (pt_not (pt_val (pe_fn G_is_end hr (pa_cons (pv 0) pa_nil)))) (pw_or1 (pt_not (pt_val (pe_fn G_is_end hr (pa_cons (pv 1) pa_nil)))))))
      (pss_one (ps_rs X_OutOfTimes (takes_of rfl rfl rfl rfl)))
      pss_nil)
      (pss_cons (ps_set (i := 2) sc_stretches.nd rfl (Or.inl rfl) (pe_lst pa_nil))
      (pss_cons (ps_while (passes_of rfl) (pt_cmpR op_lt (pv 0) (pv 1) (nomark _))
      (pss_cons (ps_set (i := 3) sc_stretches.nd rfl (Or.inl rfl) (pe_fn G_level_from hr (pa_cons (pv 0) (pa_cons (pv 1) pa_nil))))
      (pss_cons (ps_expr (peK_bm K PySem.F.plainAttrs_list PySem.F.slot_list_append PySem.F.type_list_append mt_append (pv 2) (pa_cons (pe_tup (pa_cons (pv 3) (pa_cons (pe_op o_shr (pv 0) (pv 3)) pa_nil))) pa_nil)))
      (pss_one (ps_aug (i := 0) sc_stretches.nd rfl (Or.inl rfl) (pe_op o_shl pe_int (pv 3)) ip_add)))))
      (pss_one (ps_ret (pe_callTy (crK K c_tuple) rfl B.tuple (by decide +kernel) (pa_cons (pv 2) pa_nil))))))), ?_⟩
    refine r_start (σ' := [some (x), some (y), none, none]) rfl ?_
    walk_at "a"
    refine use_is_end hx ?_
    cases h1 : endV x with
    | false =>
      walk_at "a"
      exact e (by rw [h1]; rfl)
    | true =>
    walk_at "a"
    refine use_is_end hy ?_
    cases h2 : endV y with
    | false =>
      walk_at "a"
      exact e (by rw [h1, h2]; rfl)
    | true =>
    obtain ⟨b, rfl, b0, b1⟩ := endV_int h1
    obtain ⟨e', rfl, e0, e1⟩ := endV_int h2
    have q := q h1 h2 b e' rfl rfl
    have hln := str_len (b := b) (e := e') b0 e1
    walk_at "a"
    rename_i f Hf nf sf ef
    refine ⟨fun m σ H' => (∃ v1 : Option V, ∃ c : Int, σ = [some (.int c), some (.int e'), some (.ref f), v1]) ∧ ∃ c : Int, σ[0]? = some (some (.int c)) ∧ m = (e' - c).toNat ∧ Same H H' ∧ ∃ ws pre, H' f = some (.lst ws) ∧ RawP H' ws pre ∧ strL b e' = pre ++ strL c e', ⟨_, ⟨_, b, rfl⟩, b, rfl, rfl, sf, [], [], ef, .nil, rfl⟩, ?_⟩
    rintro m σ H1 ⟨⟨v1, c, rfl⟩, c2, hc2, rfl, s1, ws, pre, ew, dw, hs⟩
    cases Option.some.inj (Option.some.inj hc2)
    have hwl : ws.length ≤ 80 := by
      rw [dw.len]
      have := congrArg List.length hs
      rw [List.length_append] at this
      omega
    walk_at "a"
    refine i_cases (fun h3 => ?_) (fun h3 => ?_)
    · rw [str_cons h3] at hs
      have hlv := lvl_le c e'
      refine ⟨_, fun _ _ h => h, ?_⟩
      walk_at "a"
      refine use_level_from ?_
      walk_at "a"
      refine r_bml (SqL.of ew) ?_
      walk_at "a"
      rename_i p2 H2 n2 s2 e2
      refine r_append (s2 _ _ ew) (by rw [sizeLine_eq]; omega) fun H3 k3 e3 => ?_
      have t3 := TExt.lst k3 (s2 _ _ ew)
      walk_at "a"
      have hp := two_pos (lvl c e')
      refine ⟨(e' - (c + 2 ^ lvl c e')).toNat, by omega, ⟨_, _, rfl⟩, _, rfl, rfl, same_at (s1.trans s2) nf k3, _, pre ++ [((lvl c e' : Int), c / 2 ^ lvl c e')], e3, ?_, ?_⟩
      · have d3 := (dw.same s2).keep k3 fun b hb => by rw [show b = f from hb, s2 _ _ ew]; trivial
        exact Paired.snoc d3 ⟨_, rfl, k3 _ _ e2 (ne_of e2 (s2 _ _ ew) (by intro z; cases z))⟩
      · rw [List.append_assoc]
        exact hs
    · rw [str_nil h3, List.append_nil] at hs
      walk_at "a"
      rename_i p2 H2 n2 s2 e2
      rw [← hs] at dw
      exact q p2 ws H2 (s1.trans s2) e2 (dw.same s2)
end
theorem use_stretchesR {K : PySem.W.Frag} {H : Hp} {Q : VK} {E : XK} {C : Addr} {b e : Int} (h : -1099511627776 ≤ b ∧ b ≤ 1099511627776 ∧ -1099511627776 ≤ e ∧ e ≤ 1099511627776) (q : ∀ p ws H', Same H H' → H' p = some (.tup ws) → RawP H' ws (strL b e) → Q (.ref p) H') : sp_stretches K C [.int b, .int e] H Q E :=
  ⟨_, _, .int b, .int e, rfl, .int b, .int e, fun _ _ x y hx hy => by cases hx; cases hy; exact q, fun z => by simp [endV] at z; omega⟩
theorem use_stretches {K : PySem.W.Frag} {H : Hp} {Q : VK} {E : XK} {C : Addr} {b e : Int} (h : -1099511627776 ≤ b ∧ b ≤ 1099511627776 ∧ -1099511627776 ≤ e ∧ e ≤ 1099511627776) (q : ∀ p H', Same H H' → Dp K H' (.ref p) (prsD (strL b e)) → Q (.ref p) H') : sp_stretches K C [.int b, .int e] H Q E :=
  use_stretchesR h fun p ws H' s ep hr => q p H' s (.tup (SqT.of ep) hr.dp)

/-! fours joined -/
def sp_lower (K : PySem.W.Frag) : Sp := fun vs H Q _ => ∃ (x y : V) (a b : Int × Int), vs = [x, y] ∧ Dp K H x (pairP a) ∧ Dp K H y (pairP b) ∧ ∀ v, Dp K H v (pairP (lowP a b)) → Q v H
section
variable {P : Program} {w : World} {K : PySem.W.Frag} {mg : Str → Option Value} {base : Heap}
theorem ok_lower_of (B : Blt mg) (D : Def K mg "lower_of" s_lower_of ["one", "other"]) :
    Fn P w K mg base 1 "lower_of" ["one", "other"] (sp_lower K) := by
  refine D.ok sc_lower_of (fun vs H Q E h => ?_) (fun f cdv A outer s H vs Q E hr h => ?_)
  · obtain ⟨x, y, a, b, rfl, hx, hy, q⟩ := h
    rfl
  · obtain ⟨x, y, a, b, rfl, hx, hy, q⟩ := h
    refine ⟨_, (pss_cons (ps_if (pt_cmpR op_lt (pe_ix (ixK K ix_seq) (pv 1) pe_int (fun _ _ => rfl)) (pe_ix (ixK K ix_seq) (pv 0) pe_int (fun _ _ => rfl)) (nomark _))
      (pss_one (ps_ret (pv 1)))
      pss_nil)
      (pss_one (ps_ret (pv 0)))), ?_⟩
    refine r_start (σ' := [some (x), some (y)]) rfl ?_
    obtain ⟨px, rfl, ha⟩ := dp_pair hx
    obtain ⟨py, rfl, hb⟩ := dp_pair hy
    unfold lowP at q
    walk_at "a"
    refine i_cases (fun h => ?_) (fun h => ?_)
    · rw [if_pos h] at q
      walk_at "a"
      exact q _ hy
    · rw [if_neg h] at q
      walk_at "a"
      exact q _ hx
end
theorem use_lower {K : PySem.W.Frag} {H : Hp} {Q : VK} {E : XK} {x y : V} {a b : Int × Int} (hx : Dp K H x (pairP a)) (hy : Dp K H y (pairP b)) (q : ∀ v, Dp K H v (pairP (lowP a b)) → Q v H) : sp_lower K [x, y] H Q E := ⟨x, y, a, b, rfl, hx, hy, q⟩
def sp_higher (K : PySem.W.Frag) : Sp := fun vs H Q _ => ∃ (x y : V) (a b : Int × Int), vs = [x, y] ∧ Dp K H x (pairP a) ∧ Dp K H y (pairP b) ∧ ∀ v, Dp K H v (pairP (highP a b)) → Q v H
section
variable {P : Program} {w : World} {K : PySem.W.Frag} {mg : Str → Option Value} {base : Heap}
theorem ok_higher_of (B : Blt mg) (D : Def K mg "higher_of" s_higher_of ["one", "other"]) :
    Fn P w K mg base 1 "higher_of" ["one", "other"] (sp_higher K) := by
  refine D.ok sc_higher_of (fun vs H Q E h => ?_) (fun f cdv A outer s H vs Q E hr h => ?_)
  · obtain ⟨x, y, a, b, rfl, hx, hy, q⟩ := h
    rfl
  · obtain ⟨x, y, a, b, rfl, hx, hy, q⟩ := h
    refine ⟨_, (pss_cons (ps_if (pt_cmpR op_gt (pe_ix (ixK K ix_seq) (pv 1) pe_int (fun _ _ => rfl)) (pe_ix (ixK K ix_seq) (pv 0) pe_int (fun _ _ => rfl)) (nomark _))
      (pss_one (ps_ret (pv 1)))
      pss_nil)
      (pss_one (ps_ret (pv 0)))), ?_⟩
    refine r_start (σ' := [some (x), some (y)]) rfl ?_
    obtain ⟨px, rfl, ha⟩ := dp_pair hx
    obtain ⟨py, rfl, hb⟩ := dp_pair hy
    unfold highP at q
    walk_at "a"
    refine i_cases (fun h => ?_) (fun h => ?_)
    · rw [if_pos h] at q
      walk_at "a"
      exact q _ hy
    · rw [if_neg h] at q
      walk_at "a"
      exact q _ hx
end
theorem use_higher {K : PySem.W.Frag} {H : Hp} {Q : VK} {E : XK} {x y : V} {a b : Int × Int} (hx : Dp K H x (pairP a)) (hy : Dp K H y (pairP b)) (q : ∀ v, Dp K H v (pairP (highP a b)) → Q v H) : sp_higher K [x, y] H Q E := ⟨x, y, a, b, rfl, hx, hy, q⟩
def sp_joined (K : PySem.W.Frag) : Sp := fun vs H Q _ => ∃ (x y : V) (a b : Option Four), vs = [x, y] ∧ Dp K H x (fourD a) ∧ Dp K H y (fourD b) ∧ ∀ v H', Same H H' → Dp K H' v (fourD (joinF a b)) → Q v H'
section
variable {P : Program} {w : World} {K : PySem.W.Frag} {mg : Str → Option Value} {base : Heap}
theorem ok_joined (B : Blt mg) (D : Def K mg "joined" s_joined ["one", "other"]) (G_lower_of : Fn P w K mg base 1 "lower_of" ["one", "other"] (sp_lower K)) (G_higher_of : Fn P w K mg base 1 "higher_of" ["one", "other"] (sp_higher K)) :
    Fn P w K mg base 2 "joined" ["one", "other"] (sp_joined K) := by
  refine D.ok sc_joined (fun vs H Q E h => ?_) (fun f cdv A outer s H vs Q E hr h => ?_)
  · obtain ⟨x, y, a, b, rfl, hx, hy, q⟩ := h
    rfl
  · obtain ⟨x, y, a, b, rfl, hx, hy, q⟩ := h
    refine ⟨_, (pss_cons (ps_if (pt_cmpR o_isN (pv 0) pe_non (nomark _))
      (pss_one (ps_ret (pv 1)))
      pss_nil)
      (pss_cons (ps_if (pt_cmpR o_isN (pv 1) pe_non (nomark _))
      (pss_one (ps_ret (pv 0)))
      pss_nil)
      (pss_one (ps_ret (pe_tup (pa_cons (pe_ix (ixK K ix_seq) (pv 0) pe_int (fun _ _ => rfl)) (pa_cons (pe_ix (ixK K ix_seq) (pv 1) pe_int (fun _ _ => rfl)) (pa_cons (pe_fn G_lower_of hr (pa_cons (pe_ix (ixK K ix_seq) (pv 0) pe_int (fun _ _ => rfl)) (pa_cons (pe_ix (ixK K ix_seq) (pv 1) pe_int (fun _ _ => rfl)) pa_nil))) (pa_cons (pe_fn G_higher_of hr (pa_cons (pe_ix (ixK K ix_seq) (pv 0) pe_int (fun _ _ => rfl)) (pa_cons (pe_ix (ixK K ix_seq) (pv 1) pe_int (fun _ _ => rfl)) pa_nil))) pa_nil))))))))), ?_⟩
    refine r_start (σ' := [some (x), some (y)]) rfl ?_
    cases a with
    | none =>
      cases dp_non hx
      walk_at "a"
      exact q _ _ (Same.refl _) hy
    | some F =>
    obtain ⟨px, wx, rfl, hsx, hwx⟩ := dp_tup hx
    cases b with
    | none =>
      cases dp_non hy
      walk_at "a"
      exact q _ _ (Same.refl _) hx
    | some G =>
    obtain ⟨py, wy, rfl, hsy, hwy⟩ := dp_tup hy
    obtain ⟨x0, x1, x2, x3, rfl, d0, d1, d2, d3⟩ := dp4 hwx
    obtain ⟨y0, y1, y2, y3, rfl, e0, e1, e2, e3⟩ := dp4 hwy
    walk_at "a"
    refine use_lower d2 e2 fun v hv => ?_
    walk_at "a"
    refine use_higher d3 e3 fun u hu => ?_
    walk_at "a"
    rename_i p H1 n1 s1 h1
    exact q _ H1 s1 (.tup (SqT.of h1) (DpAll.same s1 _ _ (.cons d0 (.cons e1 (.cons hv (.cons hu .nil))))))
end
theorem use_joined {K : PySem.W.Frag} {H : Hp} {Q : VK} {E : XK} {x y : V} {a b : Option Four} (hx : Dp K H x (fourD a)) (hy : Dp K H y (fourD b)) (q : ∀ v H', Same H H' → Dp K H' v (fourD (joinF a b)) → Q v H') : sp_joined K [x, y] H Q E := ⟨x, y, a, b, rfl, hx, hy, q⟩

/-! ### tree times wanted -/
def timeV (v : V) : Bool := endV v && !decide (v = .int 1099511627776)
def sp_want_time (K : PySem.W.Frag) (C : Addr) : Sp := fun vs H Q E => ∃ v d, vs = [v] ∧ Dp K H v d ∧ (timeV v = true → Q .non H) ∧ (timeV v = false → E (.ref C) none H)
section
variable {P : Program} {w : World} {K : PySem.W.Frag} {mg : Str → Option Value} {base : Heap}
theorem ok_want_time (B : Blt mg) (D : Def K mg "want_time" s_want_time ["t"]) {tk_BEHIND : Tok} (C_BEHIND : mg "BEHIND" = some (.int (1099511627776) tk_BEHIND)) {E_OutOfTimes : Addr} (X_OutOfTimes : Exc K mg "OutOfTimes" E_OutOfTimes) (G_is_end : Fn P w K mg base 1 "is_end" ["thing"] (sp_is_end K)) :
    Fn P w K mg base 2 "want_time" ["t"] (sp_want_time K E_OutOfTimes) := by
  refine D.okX sc_want_time (fun vs H Q E h => ?_) (fun f cdv A outer s H vs Q E hr h => ?_)
  · obtain ⟨v, d, rfl, hd, q, e⟩ := h
    rfl
  · obtain ⟨v, d, rfl, hd, q, e⟩ := h
    refine ⟨_, (pss_one (ps_if (PW.pt (pw_or (pt_not (pt_val (pe_fn G_is_end hr (pa_cons (pv 0) pa_nil)))) (pw_or1 (pt_cmpR (opK K (o_eq hr.units)) (pv 0) (pe_glob (v := .int (1099511627776)) rfl C_BEHIND ⟨_, rfl⟩) (nomark _)))))
      (pss_one (ps_rs X_OutOfTimes (takes_of rfl rfl rfl rfl)))
      pss_nil)), ?_⟩
    refine r_start (σ' := [some (v)]) rfl ?_
    walk_at "a"
    refine use_is_end hd ?_
    cases h1 : endV v with
    | false =>
      walk_at "a"
      exact e (by unfold timeV; rw [h1]; rfl)
    | true =>
      obtain ⟨i, rfl, i0, i1⟩ := endV_int h1
      walk_at "a"
      refine i_cases (fun h2 => ?_) (fun h2 => ?_)
      · walk_at "a"
        exact e (by unfold timeV; rw [h1, h2]; rfl)
      · walk_at "a"
        exact q (by unfold timeV; rw [h1, decide_eq_false (by simpa using h2)]; rfl)
end
theorem timeV_int {i : Int} (h : -1099511627776 ≤ i ∧ i < 1099511627776) : timeV (.int i) = true := by
  show ((decide (-1099511627776 ≤ i) && decide (i ≤ 1099511627776)) && !decide (V.int i = V.int 1099511627776)) = true
  rw [decide_eq_true h.1, decide_eq_true (show i ≤ 1099511627776 by omega), decide_eq_false (show ¬ V.int i = V.int 1099511627776 by simp; omega)]
  rfl
theorem use_want_time {K : PySem.W.Frag} {C : Addr} {H : Hp} {Q : VK} {E : XK} {i : Int} (h : -1099511627776 ≤ i ∧ i < 1099511627776) (q : Q .non H) : sp_want_time K C [.int i] H Q E :=
  ⟨_, .int i, rfl, .int i, fun _ => q, fun z => by rw [timeV_int h] at z; cases z⟩
theorem timeV_false {i : Int} (h : ¬ (-1099511627776 ≤ i ∧ i < 1099511627776)) : timeV (.int i) = false := by
  show ((decide (-1099511627776 ≤ i) && decide (i ≤ 1099511627776)) && !decide (V.int i = V.int 1099511627776)) = false
  by_cases h1 : i = 1099511627776
  · subst h1; decide
  · rw [Bool.and_eq_false_iff, Bool.and_eq_false_iff]
    by_cases h2 : -1099511627776 ≤ i
    · exact .inl (.inr (decide_eq_false (by omega)))
    · exact .inl (.inl (decide_eq_false h2))
theorem use_no_time {K : PySem.W.Frag} {C : Addr} {H : Hp} {Q : VK} {E : XK} {i : Int} (h : ¬ (-1099511627776 ≤ i ∧ i < 1099511627776)) (e : E (.ref C) none H) : sp_want_time K C [.int i] H Q E :=
  ⟨_, .int i, rfl, .int i, fun z => (by rw [timeV_false h] at z; cases z), fun _ => e⟩

/-! ### the class Store -/
def sp_set_four (K : PySem.W.Frag) (C : Addr) : Sp := fun vs H Q _ => ∃ (p hd bd dx b : Addr) (x3 x4 x5 : V) (kvs : List (List Key × V)) (i j : Int) (v : V) (F : Option Four), vs = [.ref p, .ref b, v] ∧
  H p = some (.ins C dx [("heights", .ref hd), ("by_stretches", .ref bd), ("deeds", x3), ("deed_times", x4), ("watches", x5)]) ∧ H bd = some (.dT kvs) ∧ kvs.length ≤ 1000000 ∧ H b = some (.tup [.int i, .int j]) ∧ Dp K H v (fourD F) ∧
  ∀ kvs' H', Keep (At bd) H H' → H' bd = some (.dT kvs') → kvs'.length ≤ kvs.length + 1 → Fits K H' (valV kvs' [Sum.inl i, Sum.inl j]) F → (∀ k, k ≠ [Sum.inl i, Sum.inl j] → valV kvs' k = valV kvs k) → Q .non H'
section
variable {P : Program} {w : World} {K : PySem.W.Frag} {mg : Str → Option Value} {base : Heap}
theorem ok_Store_set_four (B : Blt mg) {A_Store : Addr} (T_Store : ClT K mg "Store" A_Store) (N_Store_heights : NoAttr K A_Store "heights") (N_Store_by_stretches : NoAttr K A_Store "by_stretches") (N_Store_deeds : NoAttr K A_Store "deeds") (N_Store_deed_times : NoAttr K A_Store "deed_times") (N_Store_watches : NoAttr K A_Store "watches") {A_Board : Addr} (T_Board : ClT K mg "Board" A_Board) (N_Board_stores : NoAttr K A_Board "stores") (D : MDef K A_Store "set_four" "Store.set_four" s_Store_set_four ["self", "stretch", "found"]) :
    MFn P w K mg base 1 A_Store "set_four" ["self", "stretch", "found"] (sp_set_four K A_Store) := by
  refine D.ok sc_Store_set_four (fun vs H Q E h => ?_) (fun f cdv A outer s H vs Q E hr h => ?_)
  · obtain ⟨p, hd, bd, dx, b, x3, x4, x5, kvs, i, j, v, F, rfl, ob, hb, hl, hk, hv, q⟩ := h
    rfl
  · obtain ⟨p, hd, bd, dx, b, x3, x4, x5, kvs, i, j, v, F, rfl, ob, hb, hl, hk, hv, q⟩ := h
    refine ⟨_, (pss_one (ps_if (pt_cmpR o_isN (pv 2) pe_non (nomark _))
      (pss_one (ps_expr (peK_bm K PySem.F.plainAttrs_dict PySem.F.slot_dict_pop PySem.F.type_dict_pop (L2.DX.mt_popT (hu_of hr)) (peK_fld K (pv 0)) (pa_cons (pv 1) (pa_cons pe_non pa_nil)))))
      (pss_one (ps_dput (hu_of hr) (peK_fld K (pv 0)) (pv 1) (pv 2) rfl)))), ?_⟩
    refine r_start (σ' := [some (.ref p), some (.ref b), some (v)]) rfl ?_
    cases F with
    | none =>
      cases dp_non hv
      walk_at "a"
      refine r_bmdT hb ?_
      walk_at "a"
      refine r_popT hb hk (fun v H' e k' e' => ?_) (fun e => ?_)
      · walk_at "a"
        refine q _ H' k' e' (Nat.le_succ_of_le (dropK_len _ _)) ?_ fun k hk' => ?_
        · rw [valV_drop, if_pos rfl]
          exact .none
        · rw [valV_drop, if_neg hk']
      · walk_at "a"
        refine q _ H (Keep.refl _) hb (Nat.le_succ _) ?_ fun k _ => rfl
        rw [e]
        exact .none
    | some F =>
      obtain ⟨px, wx, rfl, hsx, hwx⟩ := dp_tup hv
      walk_at "a"
      refine r_dputT hb hk (by omega) fun H' k' e' => ?_
      have hl' := length_putK kvs [Sum.inl i, Sum.inl j] (.ref px)
      walk_at "a"
      refine q _ H' k' e' hl' ?_ fun k hk' => ?_
      · rw [valV_put, if_pos rfl]
        exact .some (Dp.text (k'.text fun z hz => by rw [show z = bd from hz, hb]; trivial) _ _ (imm_four (some F)) hv)
      · rw [valV_put, if_neg hk']
end
theorem use_set_four {K : PySem.W.Frag} {C : Addr} {H : Hp} {Q : VK} {E : XK} {p hd bd dx b : Addr} {x3 x4 x5 : V} {kvs : List (List Key × V)} {i j : Int} {v : V} {F : Option Four} (ob : H p = some (.ins C dx [("heights", .ref hd), ("by_stretches", .ref bd), ("deeds", x3), ("deed_times", x4), ("watches", x5)])) (hb : H bd = some (.dT kvs))
    (hl : kvs.length ≤ 1000000) (hk : H b = some (.tup [.int i, .int j])) (hv : Dp K H v (fourD F))
    (q : ∀ kvs' H', Keep (At bd) H H' → H' bd = some (.dT kvs') → kvs'.length ≤ kvs.length + 1 → Fits K H' (valV kvs' [Sum.inl i, Sum.inl j]) F → (∀ k, k ≠ [Sum.inl i, Sum.inl j] → valV kvs' k = valV kvs k) → Q .non H') : sp_set_four K C [.ref p, .ref b, v] H Q E :=
  ⟨p, hd, bd, dx, b, x3, x4, x5, kvs, i, j, v, F, rfl, ob, hb, hl, hk, hv, q⟩
abbrev Two (hd bd : Addr) : Addr → Prop := fun b => b = hd ∨ b = bd
def sp_set_height (K : PySem.W.Frag) (C : Addr) : Sp := fun vs H Q _ => ∃ (p hd bd dx : Addr) (x3 x4 x5 : V) (c : Prs) (z : Nat) (t : Int) (o : Option Int), vs = [.ref p, .int t, optV o] ∧
  H p = some (.ins C dx [("heights", .ref hd), ("by_stretches", .ref bd), ("deeds", x3), ("deed_times", x4), ("watches", x5)]) ∧ CoreAt K H hd bd c z ∧ z ≤ 20000 ∧ (-1099511627776 ≤ t ∧ t < 1099511627776) ∧ (o = none → (valP c t).isSome = true) ∧
  ∀ H', Keep (Two hd bd) H H' → CoreAt K H' hd bd (setC c t o) (z + 1) → Q .non H'
section
variable {P : Program} {w : World} {K : PySem.W.Frag} {mg : Str → Option Value} {base : Heap}
theorem ok_Store_set_height (B : Blt mg) {A_Store : Addr} (T_Store : ClT K mg "Store" A_Store) (N_Store_heights : NoAttr K A_Store "heights") (N_Store_by_stretches : NoAttr K A_Store "by_stretches") (N_Store_deeds : NoAttr K A_Store "deeds") (N_Store_deed_times : NoAttr K A_Store "deed_times") (N_Store_watches : NoAttr K A_Store "watches") {A_Board : Addr} (T_Board : ClT K mg "Board" A_Board) (N_Board_stores : NoAttr K A_Board "stores") (D : MDef K A_Store "set_height" "Store.set_height" s_Store_set_height ["self", "t", "h"]) {tk_MOST_LEVEL : Tok} (C_MOST_LEVEL : mg "MOST_LEVEL" = some (.int (40) tk_MOST_LEVEL)) (G_Store_set_four : MFn P w K mg base 1 A_Store "set_four" ["self", "stretch", "found"] (sp_set_four K A_Store)) (G_joined : Fn P w K mg base 2 "joined" ["one", "other"] (sp_joined K)) :
    MFn P w K mg base 3 A_Store "set_height" ["self", "t", "h"] (sp_set_height K A_Store) := by
  refine D.ok sc_Store_set_height (fun vs H Q E h => ?_) (fun f cdv A outer s H vs Q E hr h => ?_)
  · obtain ⟨p, hd, bd, dx, x3, x4, x5, c, z, t, o, rfl, ob, core, hz, ht, ho, q⟩ := h
    rfl
  · obtain ⟨p, hd, bd, dx, x3, x4, x5, c, z, t, o, rfl, ob, core, hz, ht, ho, q⟩ := h
    refine ⟨_, (Evl.pss_cut (ps_if (pt_cmpR o_isN (pv 2) pe_non (nomark _))
      (pss_cons (ps_expr (pe_dpop1 (peK_fld K (pv 0)) (pv 1) ⟨rfl, rfl, rfl, rfl⟩))
      (pss_one (ps_expr (pe_methN G_Store_set_four hr T_Store.cl (pv 0) (pa_cons (pe_tup (pa_cons pe_int (pa_cons (pv 1) pa_nil))) (pa_cons pe_non pa_nil))))))
      (pss_cons (ps_dput (hu_of hr) (peK_fld K (pv 0)) (pv 1) (pv 2) rfl)
      (pss_one (ps_expr (pe_methN G_Store_set_four hr T_Store.cl (pv 0) (pa_cons (pe_tup (pa_cons pe_int (pa_cons (pv 1) pa_nil))) (pa_cons (pe_tup (pa_cons (pe_tup (pa_cons (pv 1) (pa_cons (pv 2) pa_nil))) (pa_cons (pe_tup (pa_cons (pv 1) (pa_cons (pv 2) pa_nil))) (pa_cons (pe_tup (pa_cons (pv 1) (pa_cons (pv 2) pa_nil))) (pa_cons (pe_tup (pa_cons (pv 1) (pa_cons (pv 2) pa_nil))) pa_nil))))) pa_nil)))))))
      (pss_one (ps_for PassesOwn.never rfl (pi_range2 rfl B.range (pa_cons pe_int (pa_cons (pe_op op_add (pe_glob (v := .int (40)) rfl C_MOST_LEVEL ⟨_, rfl⟩) pe_int) pa_nil))) (pg_name (i := 3) sc_Store_set_height.nd rfl (Or.inl rfl))
      (pss_cons (ps_set (i := 4) sc_Store_set_height.nd rfl (Or.inl rfl) (pe_op o_shr (pv 1) (pv 3)))
      (pss_cons (ps_set (i := 5) sc_Store_set_height.nd rfl (Or.inl rfl) (pe_dget1 (hu_of hr) (peK_fld K (pv 0)) (pe_tup (pa_cons (pe_op op_sub (pv 3) pe_int) (pa_cons (pe_op op_mulY pe_int (pv 4)) pa_nil))) ⟨rfl, rfl, rfl, rfl⟩))
      (pss_cons (ps_set (i := 6) sc_Store_set_height.nd rfl (Or.inl rfl) (pe_dget1 (hu_of hr) (peK_fld K (pv 0)) (pe_tup (pa_cons (pe_op op_sub (pv 3) pe_int) (pa_cons (pe_op op_add (pe_op op_mulY pe_int (pv 4)) pe_int) pa_nil))) ⟨rfl, rfl, rfl, rfl⟩))
      (pss_one (ps_expr (pe_methN G_Store_set_four hr T_Store.cl (pv 0) (pa_cons (pe_tup (pa_cons (pv 3) (pa_cons (pv 4) pa_nil))) (pa_cons (pe_fn G_joined hr (pa_cons (pv 5) (pa_cons (pv 6) pa_nil))) pa_nil))))))))))), ?_⟩
    refine r_start (σ' := [some (.ref p), some (.int t), some (optV o), none, none, none, none]) rfl ?_
    obtain ⟨⟨m, h1, h2, h3, h4⟩, ⟨kvs, b1, b2, b3⟩, crv⟩ := id core
    have hpb : p ≠ bd := ne_of ob b1 (by intro z; cases z)
    have hph : p ≠ hd := ne_of ob h1 (by intro z; cases z)
    have hhb : hd ≠ bd := ne_of h1 b1 (by intro z; cases z)
    have hc' := setC_up crv.up t o
    have hb' := setC_beside crv.up t o
    have hk0 : ([Sum.inl 0, Sum.inl t] : List Key) = skey 0 (t / 2 ^ 0) := by simp [skey]
    refine r_cut (fun σ' H' => σ' = [some (.ref p), some (.int t), some (optV o), none, none, none, none] ∧ Keep (Two hd bd) H H' ∧ (∃ m' : Prs, H' hd = some (.dK (m'.map inj)) ∧ (m'.map (·.1)).Nodup ∧ (∀ q, q ∈ m' ↔ q ∈ setC c t o) ∧ m'.length ≤ z + 1) ∧
        ∃ ks, H' bd = some (.dT ks) ∧ Mix K H' ks c (setC c t o) 1 ∧ ks.length ≤ kvs.length + 1) ?_ ?_
    · cases o with
      | none =>
        obtain ⟨h, hh⟩ := Option.isSome_iff_exists.mp (ho rfl)
        have hv : valP m t = some h := by rw [val_ext h2 (up_nodup crv.up) h3]; exact hh
        walk_at "a"
        refine r_dpop1k h1 hv fun H1 k1 e1 => ?_
        have T1 : TExt H H1 := k1.text fun b hb => by rw [show b = hd from hb, h1]; trivial
        have ob1 := k1 _ _ ob hph
        have b11 := k1 _ _ b1 (Ne.symm hhb)
        walk_at "a"
        rename_i p2 H2 n2 s2 e2
        refine use_set_four (F := none) (s2 _ _ ob1) (s2 _ _ b11) (by omega) e2 .non fun ks H3 k3 e3 l3 f3 o3 => ?_
        walk_at "a"
        have T3 : TExt H H3 := (T1.trans (TExt.of_same s2)).trans (k3.text fun b hb => by rw [show b = bd from hb, s2 _ _ b11]; trivial)
        refine ⟨rfl, fun b o e n => k3 b o (s2 _ _ (k1 b o e fun z => n (.inl z))) fun z => n (.inr z), ⟨_, k3 _ _ (s2 _ _ e1) hhb, nd_drop t h2, fun y => ?_, Nat.le_succ_of_le (Nat.le_trans (len_drop _ _) h4)⟩, ks, e3, ?_, l3⟩
        · show y ∈ dropP m t ↔ y ∈ dropP c t
          rw [mem_drop, mem_drop, h3]
        · refine Mix.step hb' (b2.zero _) T3 (fun j hj => o3 j (by rw [hk0]; exact hj)) ?_
          rw [hk0] at f3
          rw [show t / 2 ^ 0 = t by simp] at f3 ⊢
          have ez : fourL (seg (setC c t none) 0 t) = none := by
            show fourL (seg (dropP c t) 0 t) = none
            rw [seg_zero_not fun y hy => (mem_drop.mp hy).2]
            rfl
          rw [ez]
          exact f3
      | some h =>
        simp only [show optV (some h) = V.int h from rfl]
        walk_at "a"
        refine r_dputi h1 (by omega) fun H1 k1 e1 => ?_
        have T1 : TExt H H1 := k1.text fun b hb => by rw [show b = hd from hb, h1]; trivial
        have ob1 := k1 _ _ ob hph
        have b11 := k1 _ _ b1 (Ne.symm hhb)
        walk_at "a"
        rename_i pk Hk nk sk ek p2 H2 n2 s2 e2 p3 H3 n3 s3 e3 p4 H4 n4 s4 e4 p5 H5 n5 s5 e5 p6 H6 n6 s6 e6
        have sa := ((((sk.trans s2).trans s3).trans s4).trans s5).trans s6
        have e2' := s6 _ _ (s5 _ _ (s4 _ _ (s3 _ _ e2)))
        have e3' := s6 _ _ (s5 _ _ (s4 _ _ e3))
        have e4' := s6 _ _ (s5 _ _ e4)
        have e5' := s6 _ _ e5
        have ek' := s6 _ _ (s5 _ _ (s4 _ _ (s3 _ _ (s2 _ _ ek))))
        refine use_set_four (F := some ⟨(t, h), (t, h), (t, h), (t, h)⟩) (sa _ _ ob1) (sa _ _ b11) (by omega) ek' (.tup (SqT.of e6) (.cons (dp_of_pair (SqT.of e2')) (.cons (dp_of_pair (SqT.of e3')) (.cons (dp_of_pair (SqT.of e4')) (.cons (dp_of_pair (SqT.of e5')) .nil))))) fun ks H7 k7 e7 l7 f7 o7 => ?_
        walk_at "a"
        have T7 : TExt H H7 := (T1.trans (TExt.of_same sa)).trans (k7.text fun b hb => by rw [show b = bd from hb, sa _ _ b11]; trivial)
        refine ⟨rfl, fun b o e n => k7 b o (sa _ _ (k1 b o e fun z => n (.inl z))) fun z => n (.inr z), ⟨_, k7 _ _ (sa _ _ e1) hhb, nd_put t h h2, fun y => ?_, by have := len_put m t h; omega⟩, ks, e7, ?_, l7⟩
        · show y ∈ putP m t h ↔ y ∈ insC c t h
          rw [mem_put, insC_mem, h3]
        · refine Mix.step hb' (b2.zero _) T7 (fun j hj => o7 j (by rw [hk0]; exact hj)) ?_
          rw [hk0] at f7
          rw [show t / 2 ^ 0 = t by simp] at f7 ⊢
          have ez : fourL (seg (setC c t (some h)) 0 t) = oneF (t, h) := by
            rw [seg_zero_mem hc' (show (t, h) ∈ setC c t (some h) from insC_mem.mpr (.inl rfl))]
            rfl
          rw [ez]
          exact f7
    · rintro σ' H1 ⟨rfl, k1, hm1, ks1, b11, mix1, l1⟩
      have ob1 := k1 _ _ ob (fun z => by rcases z with z | z; exact hph z; exact hpb z)
      have tx : ∀ {b' : Hp}, Keep (Two hd bd) H b' → TExt H b' := fun k => k.text fun b hb => by
        rcases hb with rfl | rfl
        · rw [h1]; trivial
        · rw [b1]; trivial
      walk_at "a"
      have e40 : ((40 : Int) + 1 - 1).toNat = 40 := by decide
      rw [e40]
      refine for_wk wk_rng (fun i σ H' => (∃ v1 v2 v3 v4 : Option V, σ = [some (.ref p), some (.int t), some (optV o), v1, v2, v3, v4]) ∧ Keep (Two hd bd) H H' ∧ H' p = some (.ins A_Store dx [("heights", .ref hd), ("by_stretches", .ref bd), ("deeds", x3), ("deed_times", x4), ("watches", x5)]) ∧
          (∃ m' : Prs, H' hd = some (.dK (m'.map inj)) ∧ (m'.map (·.1)).Nodup ∧ (∀ q, q ∈ m' ↔ q ∈ setC c t o) ∧ m'.length ≤ z + 1) ∧ ∃ ks, H' bd = some (.dT ks) ∧ Mix K H' ks c (setC c t o) (i + 1) ∧ ks.length ≤ kvs.length + 1 + i)
        ⟨⟨_, _, _, _, rfl⟩, k1, ob1, hm1, ks1, b11, mix1, l1⟩ (fun _ _ _ _ _ => trivial) ?_ ?_
      · rintro i x σ H7 H7' hi ⟨⟨v1, v2, v3, v4, rfl⟩, k7, ob7, ⟨m7, h17, nd7, mm7, ml7⟩, ks, b7, mix7, l7⟩ ⟨rfl, rfl⟩
        have ei : (1 : Int) + (i : Int) = ((i + 1 : Nat) : Int) := by omega
        rw [ei]
        walk_at "a"
        rename_i pa Ha na sa ea pb Hb nb sb eb pc Hc nc sc ec
        have ei2 : ((i + 1 : Nat) : Int) - 1 = (i : Int) := by omega
        rw [ei2]
        obtain ⟨f1, f2⟩ := mix7.two (by omega) (t / 2 ^ (i + 1))
        have sabc := (sa.trans sb).trans sc
        refine use_joined ((f1.text (TExt.of_same sabc)).getD) ((f2.text (TExt.of_same sabc)).getD) fun v Hd sd dv => ?_
        have obd := sd _ _ (sabc _ _ ob7)
        have bd' := sd _ _ (sabc _ _ b7)
        walk_at "a"
        rw [← fourL_app, ← seg_succ hc'] at dv
        refine use_set_four obd bd' (by omega) (sd _ _ ec) dv fun ks' He ke ee le fe oe => ?_
        have hk : ([Sum.inl ((i + 1 : Nat) : Int), Sum.inl (t / 2 ^ (i + 1))] : List Key) = skey (i + 1) (t / 2 ^ (i + 1)) := rfl
        rw [hk] at fe oe
        refine ⟨⟨_, _, _, _, rfl⟩, ?_, ?_, ⟨m7, ?_, nd7, mm7, ml7⟩, ks', ee, ?_, by omega⟩
        · exact fun b o e nb => ke b o (sd _ _ (sabc _ _ (k7 b o e nb))) fun z => nb (.inr z)
        · exact ke _ _ obd hpb
        · exact ke _ _ (sd _ _ (sabc _ _ h17)) hhb
        · exact Mix.step hb' mix7 ((TExt.of_same (sabc.trans sd)).trans (ke.text fun b hb => by rw [show b = bd from hb, bd']; trivial)) oe fe
      · rintro σ H7 ⟨⟨v1, v2, v3, v4, rfl⟩, k7, ob7, hm7, ks, b7, mix7, l7⟩
        exact q H7 k7 ⟨hm7, ⟨ks, b7, mix7.full, by omega⟩, setC_crv crv ht o⟩
end
theorem use_set_height {K : PySem.W.Frag} {C : Addr} {H : Hp} {Q : VK} {E : XK} {p hd bd dx : Addr} {x3 x4 x5 : V} {c : Prs} {z : Nat} {t : Int} {o : Option Int} (ob : H p = some (.ins C dx [("heights", .ref hd), ("by_stretches", .ref bd), ("deeds", x3), ("deed_times", x4), ("watches", x5)])) (core : CoreAt K H hd bd c z) (hz : z ≤ 20000)
    (ht : -1099511627776 ≤ t ∧ t < 1099511627776) (ho : o = none → (valP c t).isSome = true) (q : ∀ H', Keep (Two hd bd) H H' → CoreAt K H' hd bd (setC c t o) (z + 1) → Q .non H') : sp_set_height K C [.ref p, .int t, optV o] H Q E := ⟨p, hd, bd, dx, x3, x4, x5, c, z, t, o, rfl, ob, core, hz, ht, ho, q⟩
/-! making -/
abbrev InT (t : Int) : Prop := -1099511627776 ≤ t ∧ t < 1099511627776
def sp_s_init (K : PySem.W.Frag) (C X : Addr) : Sp := fun vs H Q E => ∃ (p dx : Addr) (v : V) (c : Prs), vs = [.ref p, v] ∧ H p = some (.ins C dx []) ∧ ((v = .non ∧ c = []) ∨ Dp K H v (prsD c)) ∧ (c.Pairwise fun p q => p.1 < q.1) ∧ c.length ≤ 5000 ∧
  ((∀ q ∈ c, InT q.1) → ∀ a H', a.p = p → a.was = [] → (∀ b ∈ a.all, b ≠ p → H b = none) → Keep (At p) H H' → StoreAt K C H' a c [] [] [] c.length → Q .non H') ∧ (¬ (∀ q ∈ c, InT q.1) → ∀ H', Keep (At p) H H' → E (.ref X) none H')
section
variable {P : Program} {w : World} {K : PySem.W.Frag} {mg : Str → Option Value} {base : Heap}
theorem ok_Store___init (B : Blt mg) {A_Store : Addr} (T_Store : ClT K mg "Store" A_Store) (N_Store_heights : NoAttr K A_Store "heights") (N_Store_by_stretches : NoAttr K A_Store "by_stretches") (N_Store_deeds : NoAttr K A_Store "deeds") (N_Store_deed_times : NoAttr K A_Store "deed_times") (N_Store_watches : NoAttr K A_Store "watches") {A_Board : Addr} (T_Board : ClT K mg "Board" A_Board) (N_Board_stores : NoAttr K A_Board "stores") (D : IDef K A_Store "Store.__init__" s_Store___init ["self", "curve"]) (G_want_time : Fn P w K mg base 2 "want_time" ["t"] (sp_want_time K E_OutOfTimes)) (G_Store_set_height : MFn P w K mg base 3 A_Store "set_height" ["self", "t", "h"] (sp_set_height K A_Store)) :
    IFn P w K mg base 4 A_Store ["self", "curve"] (sp_s_init K A_Store E_OutOfTimes) := by
  refine D.okX sc_Store___init (fun vs H Q E h => ?_) (fun f cdv A outer s H vs Q E hr h => ?_)
  · obtain ⟨p, dx, v, c, rfl, ob, hv, up, hl, q, e⟩ := h
    rfl
  · obtain ⟨p, dx, v, c, rfl, ob, hv, up, hl, q, e⟩ := h
    refine ⟨_, (pss_cons (psK_fld K (pv 0) pe_dnewK)
      (pss_cons (psK_fld K (pv 0) pe_dnewT)
      (pss_cons (psK_fld K (pv 0) (pe_lst pa_nil))
      (pss_cons (psK_fld K (pv 0) (pe_lst pa_nil))
      (pss_cons (psK_fld K (pv 0) (pe_lst pa_nil))
      (pss_one (ps_for (passes_of rfl) rfl (piK_tup K (peK_orT K (pv 1) (pe_one (pe_tup pa_nil)))) (pgK_tup K (n := 2) rfl (pgs_cons (pg_name (i := 2) sc_Store___init.nd rfl (Or.inl rfl)) (pgs_cons (pg_name (i := 3) sc_Store___init.nd rfl (Or.inl rfl)) pgs_nil)))
      (pss_cons (ps_expr (pe_fnX G_want_time hr (takes_of rfl rfl rfl rfl) (pa_cons (pv 2) pa_nil)))
      (pss_one (ps_expr (pe_methN G_Store_set_height hr T_Store.cl (pv 0) (pa_cons (pv 2) (pa_cons (pv 3) pa_nil))))))))))))), ?_⟩
    refine r_start (σ' := [some (.ref p), some (v), none, none]) rfl ?_
    walk_at "a"
    rename_i hd H1 n1 s1 e1 H2 k2 e2 bd H3 n3 s3 e3 H4 k4 e4 dd H5 n5 s5 e5 H6 k6 e6 td H7 n7 s7 e7 H8 k8 e8 wd H9 n9 s9 e9 H10 k10 e10
    have hph : p ≠ hd := ne_of_none ob n1
    have hpb : p ≠ bd := ne_of_none e2 n3
    have hpd : p ≠ dd := ne_of_none e4 n5
    have hpt : p ≠ td := ne_of_none e6 n7
    have hpw : p ≠ wd := ne_of_none e8 n9
    have j9 : Keep (At p) H9 H10 := k10
    have j7 : Keep (At p) H7 H10 := (k8.trans (Keep.of_same s9)).trans j9
    have j5 : Keep (At p) H5 H10 := (k6.trans (Keep.of_same s7)).trans j7
    have j3 : Keep (At p) H3 H10 := (k4.trans (Keep.of_same s5)).trans j5
    have j1 : Keep (At p) H1 H10 := (k2.trans (Keep.of_same s3)).trans j3
    have j0 : Keep (At p) H H10 := (Keep.of_same s1).trans j1
    have hh : H10 hd = some (.dK []) := j1 _ _ e1 (Ne.symm hph)
    have hb : H10 bd = some (.dT []) := j3 _ _ e3 (Ne.symm hpb)
    have hdd : H10 dd = some (.lst []) := j5 _ _ e5 (Ne.symm hpd)
    have htd : H10 td = some (.lst []) := j7 _ _ e7 (Ne.symm hpt)
    have hwd : H10 wd = some (.lst []) := j9 _ _ e9 (Ne.symm hpw)
    have b2 : Keep (At p) H H2 := (Keep.of_same s1).trans k2
    have b4 : Keep (At p) H H4 := (b2.trans (Keep.of_same s3)).trans k4
    have b6 : Keep (At p) H H6 := (b4.trans (Keep.of_same s5)).trans k6
    have b8 : Keep (At p) H H8 := (b6.trans (Keep.of_same s7)).trans k8
    have fb := b2.back n3 (Ne.symm hpb)
    have fd := b4.back n5 (Ne.symm hpd)
    have ft := b6.back n7 (Ne.symm hpt)
    have fw := b8.back n9 (Ne.symm hpw)
    have ndt : dd ≠ td := ne_of_none (k6 _ _ e5 (Ne.symm hpd)) n7
    have e7' := k8 _ _ e7 (Ne.symm hpt)
    have ntw : td ≠ wd := ne_of_none e7' n9
    have ndw : dd ≠ wd := ne_of_none (k8 _ _ (s7 _ _ (k6 _ _ e5 (Ne.symm hpd))) (Ne.symm hpd)) n9
    have t0 : TExt H H10 := j0.text fun b hb => by rw [show b = p from hb, ob]; trivial
    have core0 : CoreAt K H10 hd bd [] 0 := ⟨⟨[], hh, by simp, by simp, by simp⟩, ⟨[], hb, fourInv_nil K H10, by simp⟩, Crv.nil⟩
    have new : ∀ b o, H b = some o → b ≠ p → b ≠ hd ∧ b ≠ bd ∧ b ≠ dd ∧ b ≠ td ∧ b ≠ wd := fun b o eb _ => ⟨ne_of_none eb n1, ne_of_none eb fb, ne_of_none eb fd, ne_of_none eb ft, ne_of_none eb fw⟩
    have tx : ∀ {H11 H' : Hp}, Same H10 H11 → Keep (Two hd bd) H11 H' → TExt H11 H' := fun s k => k.text fun b hb' => by
      rcases hb' with rfl | rfl
      · rw [s _ _ hh]; trivial
      · rw [s _ _ hb]; trivial
    have back : ∀ {H11 H' : Hp}, Same H10 H11 → Keep (Two hd bd) H11 H' → Keep (At p) H H' := fun s k b o eb nb => k b o (s _ _ (j0 b o eb nb)) fun z => by
      have := new b o eb nb
      rcases z with z | z
      · exact this.1 z
      · exact this.2.1 z
    have loop : ∀ (x : Addr) (ws : List V) (H11 : Hp), Same H10 H11 → SqT K H11 x ws → DpAll K H11 ws (c.map pairP) → ForW (Itt K x) (gTup K 2 (gCons (gName 2) (gCons (gName 3) gNil)))
        (tSeq (tDrop (tFn (sp_want_time K E_OutOfTimes) E (tCons (tVar 2) tNil))) (tDrop (tMethU A_Store "set_height" (sp_set_height K A_Store) E0 (tVar 0) (tCons (tVar 2) (tCons (tVar 3) tNil))))) { nx := fun x H' => Q V.non H', rt := Q } [some (V.ref p), some v, none, none] H11 := by
      intro x ws H11 s11 hx hw
      have hwl : ws.length = c.length := by rw [dpAll_len hw, List.length_map]
      have core11 := core0.keep (F := No) (Keep.of_same s11) (TExt.of_same s11) (fun z => z) (fun z => z)
      refine for_wk wk_tup (fun i σ H' => (∃ v1 v2 : Option V, σ = [some (.ref p), some v, v1, v2]) ∧ Keep (Two hd bd) H11 H' ∧ CoreAt K H' hd bd (c.take i) i ∧ ∀ q ∈ c.take i, InT q.1) ⟨⟨_, _, rfl⟩, Keep.refl _, core11, by simp⟩ (fun i σ H' _ z => SqT.text (tx s11 z.2.1) hx) ?_ ?_
      · rintro i y σ H12 H12' hi ⟨⟨v1, v2, rfl⟩, k12, core12, r12⟩ ⟨rfl, hy⟩
        obtain ⟨pc, hpc, hdx⟩ := dpAll_map_at (DpAll.text (tx s11 k12) _ _ (imm_all c) hw) hy
        obtain ⟨px, rfl, hpx⟩ := dp_pair hdx
        have ob12 := k12 _ _ (s11 _ _ e10) fun z => by rcases z with z | z; exact hph z; exact hpb z
        walk_at "a"
        by_cases hr' : InT pc.1
        · refine use_want_time hr' ?_
          walk_at "a"
          refine use_set_height (o := some pc.2) ob12 core12 (by omega) hr' (fun z => by cases z) fun H13 k13 core13 => ?_
          refine ⟨⟨_, _, rfl⟩, k12.trans k13, ?_, fun y hy' => ?_⟩
          · rw [show setC (c.take i) pc.1 (some pc.2) = c.take (i + 1) from insC_take up hpc] at core13
            exact core13
          · rw [take_snoc hpc, List.mem_append, List.mem_singleton] at hy'
            rcases hy' with hy' | rfl
            · exact r12 _ hy'
            · exact hr'
        · exact use_no_time hr' (e (fun z => hr' (z _ (List.mem_of_getElem? hpc))) _ (back s11 k12))
      · rintro σ H12 ⟨⟨v1, v2, rfl⟩, k12, core12, r12⟩
        rw [List.take_of_length_le (by omega)] at core12 r12
        rw [hwl] at core12
        have n12 : ∀ b, b ≠ hd → b ≠ bd → ¬ Two hd bd b := fun b h1 h2 z => by rcases z with z | z; exact h1 z; exact h2 z
        have kd : ∀ b l, H10 b = some (.lst l) → ¬ Two hd bd b := fun b l h => n12 b (fun z => by rw [z, hh] at h; cases h) (fun z => by rw [z, hb] at h; cases h)
        refine q r12 ⟨p, hd, bd, dd, td, wd, []⟩ H12 rfl rfl (fun b hb' nb => ?_) (back s11 k12) ⟨⟨dx, k12 _ _ (s11 _ _ e10) (n12 _ hph hpb)⟩, core12, ⟨[], k12 _ _ (s11 _ _ hdd) (kd _ _ hdd), .nil⟩, k12 _ _ (s11 _ _ htd) (kd _ _ htd), ⟨k12 _ _ (s11 _ _ hwd) (kd _ _ hwd), .nil⟩, ⟨ndt, ndw, ntw, by simp⟩, ⟨up, r12⟩, ⟨by simp, by simp, by simp, by omega⟩⟩
        rcases mem_all.mp hb' with rfl | rfl | rfl | rfl | rfl | rfl | hb'
        · exact absurd rfl nb
        · exact n1
        · exact fb
        · exact fd
        · exact ft
        · exact fw
        · simp at hb'
    rcases hv with ⟨rfl, rfl⟩ | hv
    · walk_at "a"
      rename_i p6 H11 n11 s11 e11
      exact loop p6 [] H11 s11 (SqT.of e11) .nil
    · obtain ⟨x, ws, rfl, ha, hw⟩ := dp_tup (Dp.text t0 _ _ (imm_prs c) hv)
      refine r_orTt ha (fun _ => ?_) (fun hnil => ?_)
      · walk_at "a"
        exact loop x ws H10 (Same.refl _) ha hw
      · subst hnil
        have hc : c = [] := by
          have := dpAll_len hw
          simp at this
          exact List.length_eq_zero_iff.mp this.symm
        subst hc
        walk_at "a"
        rename_i p6 H11 n11 s11 e11
        exact loop p6 [] H11 s11 (SqT.of e11) .nil
end
theorem use_s_init {K : PySem.W.Frag} {C X : Addr} {H : Hp} {Q : VK} {E : XK} {p dx : Addr} {v : V} {c : Prs} (ob : H p = some (.ins C dx [])) (hv : (v = .non ∧ c = []) ∨ Dp K H v (prsD c)) (up : c.Pairwise fun p q => p.1 < q.1) (hl : c.length ≤ 5000) (rg : ∀ q ∈ c, InT q.1)
    (q : ∀ a H', a.p = p → a.was = [] → (∀ b ∈ a.all, b ≠ p → H b = none) → Keep (At p) H H' → StoreAt K C H' a c [] [] [] c.length → Q .non H') : sp_s_init K C X [.ref p, v] H Q E := ⟨p, dx, v, c, rfl, ob, hv, up, hl, fun _ => q, fun z => absurd rg z⟩
/-! deeds -/
def sp_s_put (K : PySem.W.Frag) (C X : Addr) : Sp := fun vs H Q E => ∃ (a : SA) (c : Prs) (hs : List (Int × Prs)) (ts : List Int) (ws : List Watch) (z : Nat) (t h : Int), vs = [.ref a.p, .int t, .int h] ∧ StoreAt K C H a c hs ts ws z ∧ z < 10000 ∧
  (InT t → ∀ H', Keep (· ∈ a.all) H H' → StoreAt K C H' a (insC c t h) ((t, c) :: hs) (ts ++ [t]) ws (z + 1) → Q (optV (valP c t)) H') ∧ (¬ InT t → E (.ref X) none H)
section
variable {P : Program} {w : World} {K : PySem.W.Frag} {mg : Str → Option Value} {base : Heap}
theorem ok_Store_put (B : Blt mg) {A_Store : Addr} (T_Store : ClT K mg "Store" A_Store) (N_Store_heights : NoAttr K A_Store "heights") (N_Store_by_stretches : NoAttr K A_Store "by_stretches") (N_Store_deeds : NoAttr K A_Store "deeds") (N_Store_deed_times : NoAttr K A_Store "deed_times") (N_Store_watches : NoAttr K A_Store "watches") {A_Board : Addr} (T_Board : ClT K mg "Board" A_Board) (N_Board_stores : NoAttr K A_Board "stores") (D : MDef K A_Store "put" "Store.put" s_Store_put ["self", "t", "h"]) (G_want_time : Fn P w K mg base 2 "want_time" ["t"] (sp_want_time K E_OutOfTimes)) (G_Store_set_height : MFn P w K mg base 3 A_Store "set_height" ["self", "t", "h"] (sp_set_height K A_Store)) :
    MFn P w K mg base 4 A_Store "put" ["self", "t", "h"] (sp_s_put K A_Store E_OutOfTimes) := by
  refine D.okX sc_Store_put (fun vs H Q E h => ?_) (fun f cdv A outer s H vs Q E hr h => ?_)
  · obtain ⟨a, c, hs, ts, ws, z, t, h, rfl, S, hz, q, e⟩ := h
    rfl
  · obtain ⟨a, c, hs, ts, ws, z, t, h, rfl, S, hz, q, e⟩ := h
    refine ⟨_, (pss_cons (ps_expr (pe_fnX G_want_time hr (takes_of rfl rfl rfl rfl) (pa_cons (pv 1) pa_nil)))
      (pss_cons (ps_set (i := 3) sc_Store_put.nd rfl (Or.inl rfl) (pe_dget1 (hu_of hr) (peK_fld K (pv 0)) (pv 1) ⟨rfl, rfl, rfl, rfl⟩))
      (pss_cons (ps_expr (peK_bm K PySem.F.plainAttrs_list PySem.F.slot_list_append PySem.F.type_list_append mt_append (peK_fld K (pv 0)) (pa_cons (pe_tup (pa_cons (pv 1) (pa_cons (pv 3) pa_nil))) pa_nil)))
      (pss_cons (ps_expr (peK_bm K PySem.F.plainAttrs_list PySem.F.slot_list_append PySem.F.type_list_append mt_append (peK_fld K (pv 0)) (pa_cons (pv 1) pa_nil)))
      (pss_cons (ps_expr (pe_methN G_Store_set_height hr T_Store.cl (pv 0) (pa_cons (pv 1) (pa_cons (pv 2) pa_nil))))
      (pss_one (ps_ret (pv 3)))))))), ?_⟩
    refine r_start (σ' := [some (.ref a.p), some (.int t), some (.int h), none]) rfl ?_
    obtain ⟨⟨dx, ob⟩, core, ⟨vs, d1, d2⟩, tl, ⟨w1, w2⟩, ne, ch, sz⟩ := id S
    obtain ⟨⟨m, h1, h2, h3, h4⟩, ⟨kvs, b1, b2, b3⟩, crv⟩ := id core
    walk_at "a"
    by_cases hr' : InT t
    case neg => exact use_no_time hr' (e hr')
    refine use_want_time hr' ?_
    walk_at "a"
    refine r_dg2K h1 ?_
    rw [opt_val, val_ext h2 (up_nodup crv.up) h3]
    walk_at "a"
    refine r_bml (SqL.of d1) ?_
    walk_at "a"
    rename_i p2 H2 n2 s2 e2
    have vl : vs.length = hs.length := by rw [dpAll_len d2, List.length_map, List.length_reverse]
    refine r_append (s2 _ _ d1) (by rw [sizeLine_eq]; omega) fun H3 k3 e3 => ?_
    have t3 : TExt H2 H3 := TExt.lst k3 (s2 _ _ d1)
    have hpd : a.p ≠ a.dd := ne_of ob d1 (by intro z; cases z)
    have hpt : a.p ≠ a.td := ne_of ob tl (by intro z; cases z)
    have ob3 := k3 _ _ (s2 _ _ ob) hpd
    have tl3 := k3 _ _ (s2 _ _ tl) (Ne.symm ne.1)
    walk_at "a"
    refine r_bml (SqL.of tl3) ?_
    walk_at "a"
    refine r_append tl3 (by rw [sizeLine_eq, List.length_map]; omega) fun H4 k4 e4 => ?_
    have t4 : TExt H3 H4 := TExt.lst k4 tl3
    have ob4 := k4 _ _ ob3 hpt
    have t24 : TExt H H4 := ((TExt.of_same s2).trans t3).trans t4
    have nn : ∀ b o, H b = some o → (∀ l, o ≠ .lst l) → b ≠ a.dd ∧ b ≠ a.td := fun b o e hn => ⟨fun z => by rw [z, d1] at e; cases e; exact hn _ rfl, fun z => by rw [z, tl] at e; cases e; exact hn _ rfl⟩
    have k24 : Keep (fun b => b = a.dd ∨ b = a.td) H H4 := fun b o e n => k4 _ _ (k3 _ _ (s2 _ _ e) fun z => n (.inl z)) fun z => n (.inr z)
    have core4 := core.keep k24 t24 (fun z => by have := nn _ _ h1 (by intros; intro z; cases z); rcases z with z | z; exact this.1 z; exact this.2 z) (fun z => by have := nn _ _ b1 (by intros; intro z; cases z); rcases z with z | z; exact this.1 z; exact this.2 z)
    walk_at "a"
    refine use_set_height (o := some h) ob4 core4 (by omega) hr' (fun z => by cases z) fun H5 k5 core5 => ?_
    have n5 : ∀ b l, H4 b = some (.lst l) → ¬ Two a.hd a.bd b := fun b l e z => by
      obtain ⟨⟨_, y1, _⟩, ⟨_, y2, _⟩, _⟩ := core4
      rcases z with rfl | rfl
      · rw [y1] at e; cases e
      · rw [y2] at e; cases e
    have t5 : TExt H4 H5 := k5.text fun b hb => by
      obtain ⟨⟨_, y1, _⟩, ⟨_, y2, _⟩, _⟩ := core4
      rcases hb with rfl | rfl
      · rw [y1]; trivial
      · rw [y2]; trivial
    walk_at "a"
    have e3' := k4 _ _ e3 ne.1
    have kk : Keep (fun b => b = a.hd ∨ b = a.bd ∨ b = a.dd ∨ b = a.td) H H5 := fun b o e n => k5 _ _ (k24 _ _ e fun z => n (by rcases z with z | z; exact .inr (.inr (.inl z)); exact .inr (.inr (.inr z)))) fun z => n (by rcases z with z | z; exact .inl z; exact .inr (.inl z))
    refine q hr' H5 (StoreAt.four_all kk) (S.step kk (t24.trans t5) core5 (k5 _ _ e3' (n5 _ _ e3')) ?_ (k5 _ _ (by rw [e4]; simp) (n5 _ _ e4)) ⟨setC_crv crv hr' (some h), hr', deed_put crv t h, ch⟩ (by simp; omega) (by simp; omega) (by omega))
    rw [List.reverse_cons, List.map_append]
    refine dpAll_snoc (DpAll.text (t24.trans t5) _ _ (immAll_map _ imm_deed _) d2) (.tup (SqT.text ((t3.trans t4).trans t5) (SqT.of e2)) (.cons (.int t) (.cons (dp_optV K _ _) .nil)))
end
theorem use_s_put {K : PySem.W.Frag} {C X : Addr} {H : Hp} {Q : VK} {E : XK} {a : SA} {c : Prs} {hs : List (Int × Prs)} {ts : List Int} {ws : List Watch} {z : Nat} {t h : Int} (S : StoreAt K C H a c hs ts ws z) (hz : z < 10000) (ht : InT t)
    (q : ∀ H', Keep (· ∈ a.all) H H' → StoreAt K C H' a (insC c t h) ((t, c) :: hs) (ts ++ [t]) ws (z + 1) → Q (optV (valP c t)) H') : sp_s_put K C X [.ref a.p, .int t, .int h] H Q E := ⟨a, c, hs, ts, ws, z, t, h, rfl, S, hz, fun _ => q, fun n => absurd ht n⟩
def sp_s_height (K : PySem.W.Frag) (C X : Addr) : Sp := fun vs H Q E => ∃ (a : SA) (c : Prs) (hs : List (Int × Prs)) (ts : List Int) (ws : List Watch) (z : Nat) (v : V) (d : PyData), vs = [.ref a.p, v] ∧ StoreAt K C H a c hs ts ws z ∧ Dp K H v d ∧
  (∀ t h, v = .int t → valP c t = some h → Q (.int h) H) ∧ ((∀ t, v = .int t → valP c t = none) → E (.ref X) none H)
section
variable {P : Program} {w : World} {K : PySem.W.Frag} {mg : Str → Option Value} {base : Heap}
theorem ok_Store_height (B : Blt mg) {A_Store : Addr} (T_Store : ClT K mg "Store" A_Store) (N_Store_heights : NoAttr K A_Store "heights") (N_Store_by_stretches : NoAttr K A_Store "by_stretches") (N_Store_deeds : NoAttr K A_Store "deeds") (N_Store_deed_times : NoAttr K A_Store "deed_times") (N_Store_watches : NoAttr K A_Store "watches") {A_Board : Addr} (T_Board : ClT K mg "Board" A_Board) (N_Board_stores : NoAttr K A_Board "stores") (D : MDef K A_Store "height" "Store.height" s_Store_height ["self", "t"]) {E_NoSample : Addr} (X_NoSample : Exc K mg "NoSample" E_NoSample) (G_is_end : Fn P w K mg base 1 "is_end" ["thing"] (sp_is_end K)) :
    MFn P w K mg base 2 A_Store "height" ["self", "t"] (sp_s_height K A_Store E_NoSample) := by
  refine D.okX sc_Store_height (fun vs H Q E h => ?_) (fun f cdv A outer s H vs Q E hr h => ?_)
  · obtain ⟨a, c, hs, ts, ws, z, v, d, rfl, S, hd, q, e⟩ := h
    rfl
  · obtain ⟨a, c, hs, ts, ws, z, v, d, rfl, S, hd, q, e⟩ := h
    refine ⟨_, (pss_cons (ps_if (PW.pt (pw_or (pt_not (pt_val (pe_fn G_is_end hr (pa_cons (pv 1) pa_nil)))) (pw_or1 (pt_cmp (pc_dnotin (hu_of hr) (pv 1) (peK_fld K (pv 0)))))))
      (pss_one (ps_rs X_NoSample (takes_of rfl rfl rfl rfl)))
      pss_nil)
      (pss_one (ps_ret (pe_dget (hu_of hr) (peK_fld K (pv 0)) (pv 1) (fun _ _ => rfl))))), ?_⟩
    refine r_start (σ' := [some (.ref a.p), some (v)]) rfl ?_
    obtain ⟨⟨dx, ob⟩, ⟨⟨m, h1, h2, h3, h4⟩, _, crv⟩, _⟩ := id S
    walk_at "a"
    refine use_is_end hd ?_
    cases hE : endV v with
    | false =>
      walk_at "a"
      refine e fun t et => ?_
      subst et
      cases hv : valP c t with
      | none => rfl
      | some h =>
        have := val_range crv hv
        rw [endV_true (by omega)] at hE
        cases hE
    | true =>
      obtain ⟨t, rfl, _, _⟩ := endV_int hE
      walk_at "a"
      rw [val_ext h2 (up_nodup crv.up) h3]
      cases hv : valP c t with
      | none =>
        rw [if_pos (by simp)]
        exact e fun t' et => by cases et; exact hv
      | some h =>
        rw [if_neg (by simp)]
        walk_at "a"
        refine r_dgeti h1 (by rw [val_ext h2 (up_nodup crv.up) h3]; exact hv) ?_
        exact q t h rfl hv
end
theorem use_s_height {K : PySem.W.Frag} {C X : Addr} {H : Hp} {Q : VK} {E : XK} {a : SA} {c : Prs} {hs : List (Int × Prs)} {ts : List Int} {ws : List Watch} {z : Nat} {t h : Int} (S : StoreAt K C H a c hs ts ws z) (hv : valP c t = some h) (q : Q (.int h) H) : sp_s_height K C X [.ref a.p, .int t] H Q E :=
  ⟨a, c, hs, ts, ws, z, _, .int t, rfl, S, .int t, fun t' h' e1 e2 => by cases e1; rw [hv] at e2; cases e2; exact q, fun n => by have := n t rfl; rw [hv] at this; cases this⟩
def sp_s_take (K : PySem.W.Frag) (C X : Addr) : Sp := fun vs H Q E => ∃ (a : SA) (c : Prs) (hs : List (Int × Prs)) (ts : List Int) (ws : List Watch) (z : Nat) (v : V) (d : PyData), vs = [.ref a.p, v] ∧ StoreAt K C H a c hs ts ws z ∧ z < 10000 ∧ Dp K H v d ∧
  (∀ t h, v = .int t → valP c t = some h → ∀ H', Keep (· ∈ a.all) H H' → StoreAt K C H' a (dropP c t) ((t, c) :: hs) (ts ++ [t]) ws (z + 1) → Q (.int h) H') ∧ ((∀ t, v = .int t → valP c t = none) → E (.ref X) none H)
theorem use_s_take {K : PySem.W.Frag} {C X : Addr} {H : Hp} {Q : VK} {E : XK} {a : SA} {c : Prs} {hs : List (Int × Prs)} {ts : List Int} {ws : List Watch} {z : Nat} {t h : Int} (S : StoreAt K C H a c hs ts ws z) (hz : z < 10000) (hv : valP c t = some h)
    (q : ∀ H', Keep (· ∈ a.all) H H' → StoreAt K C H' a (dropP c t) ((t, c) :: hs) (ts ++ [t]) ws (z + 1) → Q (.int h) H') : sp_s_take K C X [.ref a.p, .int t] H Q E :=
  ⟨a, c, hs, ts, ws, z, _, .int t, rfl, S, hz, .int t, fun t' h' e1 e2 => by cases e1; rw [hv] at e2; cases e2; exact q, fun n => by have := n t rfl; rw [hv] at this; cases this⟩
def sp_s_undo (K : PySem.W.Frag) (C : Addr) : Sp := fun vs H Q _ => ∃ (a : SA) (c : Prs) (hs : List (Int × Prs)) (ts : List Int) (ws : List Watch) (z : Nat), vs = [.ref a.p] ∧ StoreAt K C H a c hs ts ws z ∧ z < 10000 ∧
  (hs = [] → ∀ H', Same H H' → Q (.bl false) H') ∧ (∀ t c0 r, hs = (t, c0) :: r → ∀ H', Keep (· ∈ a.all) H H' → StoreAt K C H' a c0 r (ts ++ [t]) ws (z + 1) → Q (.bl true) H')
/-! telling -/
def sp_s_four (K : PySem.W.Frag) (C X : Addr) : Sp := fun vs H Q E => ∃ (a : SA) (c : Prs) (hs : List (Int × Prs)) (ts : List Int) (ws : List Watch) (z : Nat) (x y : V) (dx dy : PyData), vs = [.ref a.p, x, y] ∧ StoreAt K C H a c hs ts ws z ∧ Dp K H x dx ∧ Dp K H y dy ∧
  (∀ b e : Int, x = .int b → y = .int e → -1099511627776 ≤ b → b ≤ 1099511627776 → -1099511627776 ≤ e → e ≤ 1099511627776 → ∀ v H', Same H H' → Dp K H' v (fourD (fourL (partL c b e))) → Q v H') ∧ ((endV x && endV y) = false → E (.ref X) none H)
section
variable {P : Program} {w : World} {K : PySem.W.Frag} {mg : Str → Option Value} {base : Heap}
theorem ok_Store_four (B : Blt mg) {A_Store : Addr} (T_Store : ClT K mg "Store" A_Store) (N_Store_heights : NoAttr K A_Store "heights") (N_Store_by_stretches : NoAttr K A_Store "by_stretches") (N_Store_deeds : NoAttr K A_Store "deeds") (N_Store_deed_times : NoAttr K A_Store "deed_times") (N_Store_watches : NoAttr K A_Store "watches") {A_Board : Addr} (T_Board : ClT K mg "Board" A_Board) (N_Board_stores : NoAttr K A_Board "stores") (D : MDef K A_Store "four" "Store.four" s_Store_four ["self", "begin", "end"]) (G_stretches : Fn P w K mg base 2 "stretches" ["begin", "end"] (sp_stretches K E_OutOfTimes)) (G_joined : Fn P w K mg base 2 "joined" ["one", "other"] (sp_joined K)) :
    MFn P w K mg base 3 A_Store "four" ["self", "begin", "end"] (sp_s_four K A_Store E_OutOfTimes) := by
  refine D.okX sc_Store_four (fun vs H Q E h => ?_) (fun f cdv A outer s H vs Q E hr h => ?_)
  · obtain ⟨a, c, hs, ts, ws, z, x, y, dx, dy, rfl, S, hx, hy, q, e⟩ := h
    rfl
  · obtain ⟨a, c, hs, ts, ws, z, x, y, dx, dy, rfl, S, hx, hy, q, e⟩ := h
    refine ⟨_, (pss_cons (ps_set (i := 3) sc_Store_four.nd rfl (Or.inl rfl) pe_non)
      (pss_cons (ps_for (passes_of rfl) rfl (piK_tup K (pe_fnX G_stretches hr (takes_of rfl rfl rfl rfl) (pa_cons (pv 1) (pa_cons (pv 2) pa_nil)))) (pg_name (i := 4) sc_Store_four.nd rfl (Or.inl rfl))
      (pss_one (ps_set (i := 3) sc_Store_four.nd rfl (Or.inl rfl) (pe_fn G_joined hr (pa_cons (pv 3) (pa_cons (pe_dget1 (hu_of hr) (peK_fld K (pv 0)) (pv 4) ⟨rfl, rfl, rfl, rfl⟩) pa_nil))))))
      (pss_one (ps_ret (pv 3))))), ?_⟩
    refine r_start (σ' := [some (.ref a.p), some (x), some (y), none, none]) rfl ?_
    walk_at "a"
    refine ⟨_, _, dx, dy, rfl, hx, hy, fun h1 h2 b e' ex ey p2 vs H2 s2 e2 r2 => ?_, e⟩
    have hb : -1099511627776 ≤ b ∧ b ≤ 1099511627776 := by
      obtain ⟨i, ei, h⟩ := endV_int h1
      rw [ex] at ei; cases ei; exact h
    have he : -1099511627776 ≤ e' ∧ e' ≤ 1099511627776 := by
      obtain ⟨i, ei, h⟩ := endV_int h2
      rw [ey] at ei; cases ei; exact h
    have qq := q b e' ex ey hb.1 hb.2 he.1 he.2
    subst ex
    subst ey
    have S2 := S.same s2
    obtain ⟨⟨dx0, ob⟩, ⟨_, ⟨kvs, b1, b2, b3⟩, crv⟩, _⟩ := id S2
    let acc : Nat → Option Four := fun i => ((strL b e').take i).foldl (fun a q => joinF a (fourL (seg c q.1.toNat q.2))) none
    walk_at "a"
    refine for_wk wk_tup (fun i σ H' => ∃ v, (∃ v1 : Option V, σ = [some (.ref a.p), some (.int b), some (.int e'), some v, v1]) ∧ Same H2 H' ∧ Dp K H' v (fourD (acc i)))
      ⟨.non, ⟨_, rfl⟩, Same.refl _, .non⟩ (fun i σ H' _ z => by obtain ⟨_, _, k, _⟩ := z; exact SqT.text (TExt.of_same k) (SqT.of e2)) ?_ ?_
    · rintro i x σ H3 H3' hi ⟨v, ⟨v1, rfl⟩, s3, d3⟩ ⟨rfl, hx⟩
      obtain ⟨q', w, hq, rfl, hw⟩ := r2.at_ hx
      obtain ⟨l, hl, el⟩ := str_mem _ b rfl q' (List.mem_of_getElem? hq)
      have ob3 := s3 _ _ ob
      have hw3 := s3 _ _ hw
      have b13 := s3 _ _ b1
      walk_at "a"
      have f4 : Dp K H3' ((valV kvs [Sum.inl q'.1, Sum.inl q'.2]).getD .non) (fourD (fourL (seg c q'.1.toNat q'.2))) := by
        have := (b2 l q'.2 hl).text (TExt.of_same s3)
        rw [if_neg (by omega)] at this
        rw [el, show ((l : Nat) : Int).toNat = l from rfl]
        exact this.getD
      refine use_joined d3 f4 fun u H5 s5 d5 => ?_
      refine ⟨u, ⟨_, rfl⟩, s3.trans s5, ?_⟩
      show Dp K H5 u (fourD (((strL b e').take (i + 1)).foldl (fun a q => joinF a (fourL (seg c q.1.toNat q.2))) none))
      rw [take_snoc hq, List.foldl_append]
      exact d5
    · rintro σ H3 ⟨v, ⟨v1, rfl⟩, s3, d3⟩
      walk_at "a"
      refine qq v H3 (s2.trans s3) ?_
      have e1 : acc vs.length = fourL (partL c b e') := by
        show ((strL b e').take vs.length).foldl _ none = _
        rw [List.take_of_length_le (by rw [r2.len]; exact Nat.le_refl _)]
        exact str_four crv.up e' _ b rfl
      rw [e1] at d3
      exact d3
end
theorem use_s_four {K : PySem.W.Frag} {C X : Addr} {H : Hp} {Q : VK} {E : XK} {a : SA} {c : Prs} {hs : List (Int × Prs)} {ts : List Int} {ws : List Watch} {z : Nat} {b e : Int} (S : StoreAt K C H a c hs ts ws z) (h : -1099511627776 ≤ b ∧ b ≤ 1099511627776 ∧ -1099511627776 ≤ e ∧ e ≤ 1099511627776)
    (q : ∀ v H', Same H H' → Dp K H' v (fourD (fourL (partL c b e))) → Q v H') : sp_s_four K C X [.ref a.p, .int b, .int e] H Q E :=
  ⟨a, c, hs, ts, ws, z, _, _, .int b, .int e, rfl, S, .int b, .int e, fun b' e' h1 h2 _ _ _ _ => by cases h1; cases h2; exact q, fun z => by simp [endV] at z; omega⟩
abbrev InW (b w m : Int) : Prop := -1099511627776 ≤ b ∧ b ≤ 1099511627776 ∧ -1099511627776 ≤ b + w * m ∧ b + w * m ≤ 1099511627776
def sp_s_fours (K : PySem.W.Frag) (C X : Addr) : Sp := fun vs H Q E => ∃ (a : SA) (c : Prs) (hs : List (Int × Prs)) (ts : List Int) (ws : List Watch) (z : Nat) (wn : Addr) (b w m : Int), vs = [.ref a.p, .ref wn] ∧ StoreAt K C H a c hs ts ws z ∧ SqT K H wn [.int b, .int w, .int m] ∧
  0 ≤ m ∧ m ≤ 100000 ∧ 1 ≤ w ∧ w ≤ 100000000000000000000000000000000000000000000000000000000000000000000 ∧ -100000000000000000000000000000000000000000000000000000000000000000000 ≤ b ∧ b ≤ 100000000000000000000000000000000000000000000000000000000000000000000 ∧
  (InW b w m → ∀ v H', Same H H' → Dp K H' v (foursDS c b w m.toNat) → Q v H') ∧ (¬ InW b w m → E (.ref X) none H)
section
variable {P : Program} {w : World} {K : PySem.W.Frag} {mg : Str → Option Value} {base : Heap}
theorem ok_Store_fours (B : Blt mg) {A_Store : Addr} (T_Store : ClT K mg "Store" A_Store) (N_Store_heights : NoAttr K A_Store "heights") (N_Store_by_stretches : NoAttr K A_Store "by_stretches") (N_Store_deeds : NoAttr K A_Store "deeds") (N_Store_deed_times : NoAttr K A_Store "deed_times") (N_Store_watches : NoAttr K A_Store "watches") {A_Board : Addr} (T_Board : ClT K mg "Board" A_Board) (N_Board_stores : NoAttr K A_Board "stores") (D : MDef K A_Store "fours" "Store.fours" s_Store_fours ["self", "window"]) {E_OutOfTimes : Addr} (X_OutOfTimes : Exc K mg "OutOfTimes" E_OutOfTimes) (G_times_of : Fn P w K mg base 2 "times_of" ["window", "k"] (sp_times_of K E_NoColumn)) (G_is_end : Fn P w K mg base 1 "is_end" ["thing"] (sp_is_end K)) (G_Store_four : MFn P w K mg base 3 A_Store "four" ["self", "begin", "end"] (sp_s_four K A_Store E_OutOfTimes)) :
    MFn P w K mg base 4 A_Store "fours" ["self", "window"] (sp_s_fours K A_Store E_OutOfTimes) := by
  refine D.okX sc_Store_fours (fun vs H Q E h => ?_) (fun f cdv A outer s H vs Q E hr h => ?_)
  · obtain ⟨a, c, hs, ts, ws, z, wn, b, w', m, rfl, S, ha, m0, m1, w0, w1, b0, b1, q, e⟩ := h
    rfl
  · obtain ⟨a, c, hs, ts, ws, z, wn, b, w', m, rfl, S, ha, m0, m1, w0, w1, b0, b1, q, e⟩ := h
    refine ⟨_, (pss_cons (ps_asg (pv 1) (pgK_tup K (n := 3) rfl (pgs_cons (pg_name (i := 2) sc_Store_fours.nd rfl (Or.inl rfl)) (pgs_cons (pg_name (i := 3) sc_Store_fours.nd rfl (Or.inl rfl)) (pgs_cons (pg_name (i := 4) sc_Store_fours.nd rfl (Or.inl rfl)) pgs_nil)))))
      (pss_cons (ps_if (PW.pt (pw_or (pt_not (pt_val (pe_fn G_is_end hr (pa_cons (pv 2) pa_nil)))) (pw_or1 (pt_not (pt_val (pe_fn G_is_end hr (pa_cons (pe_op op_add (pv 2) (pe_op op_mulY (pv 3) (pv 4))) pa_nil)))))))
      (pss_one (ps_rs X_OutOfTimes (takes_of rfl rfl rfl rfl)))
      pss_nil)
      (pss_cons (ps_setLc (i := 5) (own := [("k", 6)]) (g := gName 6) (tt := tYes) rfl sc_Store_fours.nd rfl rfl (sw_true rfl rfl rfl (by decide +kernel)) (pi_range1 rfl B.range (pa_cons (pv 4) pa_nil)) (blkOk_by (N := ["self", "window", "begin", "wide", "many", "ends", "k", "first", "behind"]) (sc := defScope s_Store_fours) (by decide +kernel)) (fun _ _ _ _ _ => (pg_name (i := 6) sc_Store_fours.nd rfl (Or.inl rfl))) (fun _ _ _ _ _ => pts_nil) (fun _ _ _ _ _ => (pe_fn G_times_of hr (pa_cons (pv 1) (pa_cons (pv 6) pa_nil)))))
      (pss_one (ps_ret (pe_callTy (crK K c_tuple) rfl B.tuple (by decide +kernel) (pa_cons (pe_lc (own := [("first", 7), ("behind", 8)]) (g := gTup K 2 (gCons (gName 7) (gCons (gName 8) gNil))) (tt := tYes) rfl sc_Store_fours.nd (piK_list K (pv 5)) (blkOk_by (N := ["self", "window", "begin", "wide", "many", "ends", "k", "first", "behind"]) (sc := defScope s_Store_fours) (by decide +kernel)) (fun _ _ _ _ _ => (pgK_tup K (n := 2) rfl (pgs_cons (pg_name (i := 7) sc_Store_fours.nd rfl (Or.inl rfl)) (pgs_cons (pg_name (i := 8) sc_Store_fours.nd rfl (Or.inl rfl)) pgs_nil)))) (fun _ _ _ _ _ => pts_nil) (fun _ _ _ _ _ => (pe_methN G_Store_four hr T_Store.cl (pv 0) (pa_cons (pv 7) (pa_cons (pv 8) pa_nil))))) pa_nil))))))), ?_⟩
    refine r_start (σ' := [some (.ref a.p), some (.ref wn), none, none, none, none, none, none, none]) rfl ?_
    walk_at "a"
    refine use_is_end (.int b) ?_
    by_cases hb : ¬ (-1099511627776 ≤ b ∧ b ≤ 1099511627776)
    · rw [endV_false hb]
      walk_at "a"
      exact e (by omega)
    have hb := Decidable.not_not.mp hb
    rw [endV_true hb]
    walk_at "a"
    refine use_is_end (.int _) ?_
    by_cases he : ¬ (-1099511627776 ≤ b + w' * m ∧ b + w' * m ≤ 1099511627776)
    · rw [endV_false he]
      walk_at "a"
      exact e (by omega)
    have he := Decidable.not_not.mp he
    rw [endV_true he]
    walk_at "a"
    have hk : ∀ k : Nat, k < m.toNat → -1099511627776 ≤ (winS b w' k).1 ∧ (winS b w' k).1 ≤ 1099511627776 ∧ -1099511627776 ≤ (winS b w' k).2 ∧ (winS b w' k).2 ≤ 1099511627776 := by
      intro k hk
      have h1 : 0 ≤ (k : Int) * w' := Int.mul_nonneg (by omega) (by omega)
      have h2 : ((k : Int) + 1) * w' ≤ m * w' := Int.mul_le_mul_of_nonneg_right (by omega) (by omega)
      rw [Int.add_mul, Int.one_mul, Int.mul_comm m w'] at h2
      show -1099511627776 ≤ b + (k : Int) * w' ∧ b + (k : Int) * w' ≤ 1099511627776 ∧ -1099511627776 ≤ b + (k : Int) * w' + w' ∧ b + (k : Int) * w' + w' ≤ 1099511627776
      omega
    refine lc_rngD (K := K) (by omega) (fun _ => true) (fun k => pairP (winS b w' k)) (fun c => imm_pair _) (fun k H2 S2 N hk2 s2 k1 k2 => ?_) (fun D H2 ys hD s2 e2 p2 => ?_)
    · refine r_gname ⟨wipe_one, ?_⟩
      rw [Int.zero_add (k : Int)]
      have ha2 := SqT.text (TExt.of_same s2) ha
      walk_at "a"
      exact k1 rfl _ _ (by assumption) (dp_of_pair (SqT.of (by assumption)))
    rw [Fp.filter_all] at p2
    walk_at "a"
    have T2 := S.same s2
    have hyl : ys.length = m.toNat := by rw [dpAll_len p2]; simp
    refine lc_lstD (K := K) (as := List.range m.toNat) (fa := fun k => pairP (winS b w' k)) (SqL.of e2) p2 (by simp; omega) (fun _ => true) (fun k => fourD (fourL (partL c (winS b w' k).1 (winS b w' k).2))) (fun k => imm_four _) (fun k x H3 S3 N hkm s3 hx k1 k2 => ?_) (fun D3 H3 zs hD3 s3 e3 p3 => ?_)
    · obtain ⟨px, rfl, hpx⟩ := dp_pair hx
      have hk := hk k (by simpa using hkm)
      have T3 := T2.same s3
      obtain ⟨dx3, ob3⟩ := T3.ob
      walk_at "a"
      refine ⟨rfl, ?_⟩
      walk_at "a"
      exact use_s_four T3 hk fun v H4 s4 d4 => k1 rfl v H4 s4 d4
    · rw [Fp.filter_all] at p3
      walk_at "a"
      rename_i p4 H4 n4 s4 e4
      refine q ⟨hb.1, hb.2, he.1, he.2⟩ _ H4 ((s2.trans s3).trans s4) (.tup (SqT.of e4) ?_)
      have := DpAll.same s4 _ _ p3
      unfold foursS
      rw [List.map_map]
      exact this
end
theorem use_s_fours {K : PySem.W.Frag} {C X : Addr} {H : Hp} {Q : VK} {E : XK} {a : SA} {c : Prs} {hs : List (Int × Prs)} {ts : List Int} {ws : List Watch} {z : Nat} {wn : Addr} {b w m : Int} (S : StoreAt K C H a c hs ts ws z) (ha : SqT K H wn [.int b, .int w, .int m]) (h : -1099511627776 ≤ b ∧ b + w * m ≤ 1099511627776 ∧ 1 ≤ w ∧ w ≤ 1000000000000000 ∧ 1 ≤ m ∧ m ≤ 1000)
    (q : ∀ v H', Same H H' → Dp K H' v (foursDS c b w m.toNat) → Q v H') : sp_s_fours K C X [.ref a.p, .ref wn] H Q E := by
  obtain ⟨h1, h2, h3, h4, h5, h6⟩ := h
  have h0 : 0 ≤ w * m := Int.mul_nonneg (by omega) (by omega)
  exact ⟨a, c, hs, ts, ws, z, wn, b, w, m, rfl, S, ha, by omega, by omega, h3, by omega, by omega, by omega, fun _ => q, fun n => absurd ⟨h1, by omega, by omega, h2⟩ n⟩
def sp_s_told (K : PySem.W.Frag) (C : Addr) : Sp := fun vs H Q _ => ∃ (a : SA) (c : Prs) (hs : List (Int × Prs)) (ts : List Int) (ws : List Watch) (z : Nat), vs = [.ref a.p] ∧ StoreAt K C H a c hs ts ws z ∧ c.length < 5000 ∧ ∀ v H', Same H H' → Dp K H' v (prsD c) → Q v H'
theorem perm_len {m c : Prs} (nd : (m.map (·.1)).Nodup) (nd' : (c.map (·.1)).Nodup) (h : ∀ q, q ∈ m ↔ q ∈ c) : m.length = c.length := by
  have n1 : m.Nodup := List.Pairwise.of_map _ (fun a b h z => h (by rw [z])) nd
  have n2 : c.Nodup := List.Pairwise.of_map _ (fun a b h z => h (by rw [z])) nd'
  exact ((List.perm_ext_iff_of_nodup n1 n2).mpr h).length_eq
section
variable {P : Program} {w : World} {K : PySem.W.Frag} {mg : Str → Option Value} {base : Heap}
theorem ok_Store_told (B : Blt mg) {A_Store : Addr} (T_Store : ClT K mg "Store" A_Store) (N_Store_heights : NoAttr K A_Store "heights") (N_Store_by_stretches : NoAttr K A_Store "by_stretches") (N_Store_deeds : NoAttr K A_Store "deeds") (N_Store_deed_times : NoAttr K A_Store "deed_times") (N_Store_watches : NoAttr K A_Store "watches") {A_Board : Addr} (T_Board : ClT K mg "Board" A_Board) (N_Board_stores : NoAttr K A_Board "stores") (D : MDef K A_Store "told" "Store.told" s_Store_told ["self"]) :
    MFn P w K mg base 1 A_Store "told" ["self"] (sp_s_told K A_Store) := by
  refine D.ok sc_Store_told (fun vs H Q E h => ?_) (fun f cdv A outer s H vs Q E hr h => ?_)
  · obtain ⟨a, c, hs, ts, ws, z, rfl, S, hz, q⟩ := h
    rfl
  · obtain ⟨a, c, hs, ts, ws, z, rfl, S, hz, q⟩ := h
    refine ⟨_, (pss_one (ps_ret (pe_callTy (crK K c_tuple) rfl B.tuple (by decide +kernel) (pa_cons (pe_lc (own := [("t", 1)]) (g := gName 1) (tt := tYes) rfl sc_Store_told.nd (piK_list K (pe_callB (c_sortedDW rfl) rfl B.sorted (by decide +kernel) (pa_cons (peK_fld K (pv 0)) pa_nil))) (blkOk_by (N := ["self", "t"]) (sc := defScope s_Store_told) (by decide +kernel)) (fun _ _ _ _ _ => (pg_name (i := 1) sc_Store_told.nd rfl (Or.inl rfl))) (fun _ _ _ _ _ => pts_nil) (fun _ _ _ _ _ => (pe_tup (pa_cons (pv 1) (pa_cons (pe_dget (hu_of hr) (peK_fld K (pv 0)) (pv 1) (fun _ _ => rfl)) pa_nil))))) pa_nil)))), ?_⟩
    refine r_start (σ' := [some (.ref a.p), none]) rfl ?_
    obtain ⟨⟨dx, ob⟩, ⟨⟨m, h1, h2, h3, h4⟩, _, crv⟩, _⟩ := id S
    have up := crv.up
    have hml := perm_len h2 (up_nodup up) h3
    walk_at "a"
    refine r_sortedDW h1 (by omega) fun ys p2 H2 hp hs n2 s2 e2 => ?_
    walk_at "a"
    refine lc_lstD (K := K) (as := ys) (fa := PyData.int) (SqL.of e2) (dpAll_ints K _ ys) (by rw [hp.length_eq, List.length_map]; omega) (fun _ => true) (fun t => pairP (t, (valP m t).getD 0)) (fun c => imm_pair _) (fun t x H3 S N ht s3 hx k1 k2 => ?_) (fun D H3 ys2 hD s3 e3 p3 => ?_)
    · cases dp_int hx
      refine r_gname ⟨wipe_one, ?_⟩
      have ob3 := s3 _ _ (s2 _ _ ob)
      walk_at "a"
      obtain ⟨h, hh⟩ : ∃ h, valP m t = some h := by
        obtain ⟨q, hq, rfl⟩ := List.mem_map.mp (hp.mem_iff.mp ht)
        exact ⟨q.2, (valP_iff h2).mpr hq⟩
      refine r_dgeti (s3 _ _ (s2 _ _ h1)) hh ?_
      walk_at "a"
      rw [hh] at k1
      exact k1 rfl _ _ (by assumption) (dp_of_pair (SqT.of (by assumption)))
    · walk_at "a"
      rename_i p4 H4 n4 s4 e4
      have ec : outOf m ys = c := up_ext (out_up h2 hp hs) up fun p => by rw [out_mem h2 hp, h3]
      have e : ((ys.filter fun _ => true).map fun t => pairP (t, (valP m t).getD 0)) = c.map pairP := by
        rw [Fp.filter_all, ← ec]
        unfold outOf
        rw [List.map_map]
        rfl
      rw [e] at p3
      exact q _ H4 ((s2.trans s3).trans s4) (.tup (SqT.of e4) (DpAll.same s4 _ _ p3))
end
theorem use_s_told {K : PySem.W.Frag} {C : Addr} {H : Hp} {Q : VK} {E : XK} {a : SA} {c : Prs} {hs : List (Int × Prs)} {ts : List Int} {ws : List Watch} {z : Nat} (S : StoreAt K C H a c hs ts ws z) (hz : c.length < 5000) (q : ∀ v H', Same H H' → Dp K H' v (prsD c) → Q v H') : sp_s_told K C [.ref a.p] H Q E := ⟨a, c, hs, ts, ws, z, rfl, S, hz, q⟩
def sp_s_times (K : PySem.W.Frag) (C : Addr) : Sp := fun vs H Q _ => ∃ (a : SA) (c : Prs) (hs : List (Int × Prs)) (ts : List Int) (ws : List Watch) (z : Nat), vs = [.ref a.p] ∧ StoreAt K C H a c hs ts ws z ∧ ∀ x H', Same H H' → H' x = some (.tup (ts.map V.int)) → Q (.ref x) H'
section
variable {P : Program} {w : World} {K : PySem.W.Frag} {mg : Str → Option Value} {base : Heap}
theorem ok_Store_times (B : Blt mg) {A_Store : Addr} (T_Store : ClT K mg "Store" A_Store) (N_Store_heights : NoAttr K A_Store "heights") (N_Store_by_stretches : NoAttr K A_Store "by_stretches") (N_Store_deeds : NoAttr K A_Store "deeds") (N_Store_deed_times : NoAttr K A_Store "deed_times") (N_Store_watches : NoAttr K A_Store "watches") {A_Board : Addr} (T_Board : ClT K mg "Board" A_Board) (N_Board_stores : NoAttr K A_Board "stores") (D : MDef K A_Store "times" "Store.times" s_Store_times ["self"]) :
    MFn P w K mg base 1 A_Store "times" ["self"] (sp_s_times K A_Store) := by
  refine D.ok sc_Store_times (fun vs H Q E h => ?_) (fun f cdv A outer s H vs Q E hr h => ?_)
  · obtain ⟨a, c, hs, ts, ws, z, rfl, S, q⟩ := h
    rfl
  · obtain ⟨a, c, hs, ts, ws, z, rfl, S, q⟩ := h
    refine ⟨_, (pss_one (ps_ret (pe_callTy (crK K c_tuple) rfl B.tuple (by decide +kernel) (pa_cons (peK_fld K (pv 0)) pa_nil)))), ?_⟩
    refine r_start (σ' := [some (.ref a.p)]) rfl ?_
    obtain ⟨⟨dx, ob⟩, core, ⟨vs, d1, d2⟩, tl, _⟩ := id S
    walk_at "a"
    rename_i x H' n s e
    exact q x H' s e
end
theorem use_s_times {K : PySem.W.Frag} {C : Addr} {H : Hp} {Q : VK} {E : XK} {a : SA} {c : Prs} {hs : List (Int × Prs)} {ts : List Int} {ws : List Watch} {z : Nat} (S : StoreAt K C H a c hs ts ws z) (q : ∀ x H', Same H H' → H' x = some (.tup (ts.map V.int)) → Q (.ref x) H') : sp_s_times K C [.ref a.p] H Q E := ⟨a, c, hs, ts, ws, z, rfl, S, q⟩

abbrev N60 (i : Int) : Prop := -1000000000000000000000000000000000000000000000000000000000000 ≤ i ∧ i ≤ 1000000000000000000000000000000000000000000000000000000000000
abbrev N60p (p : Int × Int) : Prop := N60 p.1 ∧ N60 p.2
/-! ### the program's kept samples -/
def fs4 : Option Four → Prs
  | none => []
  | some G => [G.f, G.l, G.lo, G.hi]
theorem fs4_len (F : Option Four) : (fs4 F).length ≤ 4 := by cases F <;> simp [fs4]
theorem flat4_len : ∀ (Fs : List (Option Four)), (Fs.flatMap fs4).length ≤ 4 * Fs.length
  | [] => by simp
  | F :: Fs => by
    rw [List.flatMap_cons, List.length_append, List.length_cons]
    have := fs4_len F
    have := flat4_len Fs
    omega
/-- all samples that stand in the fours, sorted -/
structure KeptOf (Fs : List (Option Four)) (T : Prs) : Prop where
  lex : Lex T
  nd : T.Nodup
  mem : ∀ p, p ∈ T ↔ p ∈ Fs.flatMap fs4
def sp_kept_of (K : PySem.W.Frag) : Sp := fun vs H Q _ => ∃ (v : V) (Fs : List (Option Four)), vs = [v] ∧ Dp K H v (.tuple (Fs.map fourD)) ∧ Fs.length ≤ 15 ∧ ∀ (T : Prs) (x : Addr) H', Same H H' → KeptOf Fs T → Dp K H' (.ref x) (prsD T) → Q (.ref x) H'
theorem use_kept_of {K : PySem.W.Frag} {H : Hp} {Q : VK} {E : XK} {v : V} {Fs : List (Option Four)} (hv : Dp K H v (.tuple (Fs.map fourD))) (lF : Fs.length ≤ 15) (q : ∀ (T : Prs) (x : Addr) H', Same H H' → KeptOf Fs T → Dp K H' (.ref x) (prsD T) → Q (.ref x) H') : sp_kept_of K [v] H Q E := ⟨v, Fs, rfl, hv, lF, q⟩

/-! ### the class Board -/
def goodName (s : Str) : Prop := 1 ≤ s.length ∧ s.length ≤ 8 ∧ ∀ c ∈ TL.tl s, 97 ≤ c ∧ c ≤ 122
def sp_is_name (K : PySem.W.Frag) : Sp := fun vs H Q _ => ∃ (v : V) (d : PyData), vs = [v] ∧ Dp K H v d ∧ (∀ s, v = .str s → s.length ≤ 1000000) ∧ ∀ (b : Bool) H', Same H H' → (b = true ↔ ∃ s, v = .str s ∧ goodName s) → Q (.bl b) H'
theorem isStr_dp {d : PyData} : isT "str" d = (match d with | .str _ => true | _ => false) := by
  cases d with
  | none => exact show isK "str" "NoneType" = false by decide +kernel
  | bool b => exact show isK "str" "bool" = false by decide +kernel
  | int i => exact show isK "str" "int" = false by decide +kernel
  | str s => exact show isK "str" "str" = true by decide +kernel
  | list l => exact show isK "str" "list" = false by decide +kernel
  | tuple l => exact show isK "str" "tuple" = false by decide +kernel
  | dict l => exact show isK "str" "dict" = false by decide +kernel
theorem paired_fn {α : Type} {f : α → V} : ∀ {as : List α} {ys : List V}, Paired (fun c y => y = f c) as ys → ys = as.map f
  | _, _, .nil => rfl
  | _, _, .cons h1 h2 => by rw [h1, paired_fn h2]; rfl
section
variable {P : Program} {w : World} {K : PySem.W.Frag} {mg : Str → Option Value} {base : Heap}
theorem ok_is_name (B : Blt mg) (D : Def K mg "is_name" s_is_name ["thing"]) {tk_LONGEST : Tok} (C_LONGEST : mg "LONGEST" = some (.int (8) tk_LONGEST)) :
    Fn P w K mg base 1 "is_name" ["thing"] (sp_is_name K) := by
  refine D.ok sc_is_name (fun vs H Q E h => ?_) (fun f cdv A outer s H vs Q E hr h => ?_)
  · obtain ⟨v, d, rfl, hd, hl, q⟩ := h
    rfl
  · obtain ⟨v, d, rfl, hd, hl, q⟩ := h
    refine ⟨_, (pss_cons (ps_if (PW.pt (pw_or (pt_not (pt_val (pe_callB (crK K call_isi) rfl B.isinstance (by decide +kernel) (pa_cons (pv 0) (pa_cons (pe_bltn (v := .ty "str") rfl B.str (by decide +kernel) rfl) pa_nil))))) (pw_or1 (pt_not (pt_chain op_le op_le pe_int (pe_callB (crK K c_len) rfl B.len (by decide +kernel) (pa_cons (pv 0) pa_nil)) (pe_glob (v := .int (8)) rfl C_LONGEST ⟨_, rfl⟩))))))
      (pss_one (ps_ret pe_bl))
      pss_nil)
      (pss_one (ps_ret (pe_callB (crK K (cr_all rfl)) rfl B.all (by decide +kernel) (pa_cons (pe_lc (own := [("sign", 1)]) (g := gName 1) (tt := tYes) rfl sc_is_name.nd (pi_strU (pv 0)) (blkOk_by (N := ["thing", "sign"]) (sc := defScope s_is_name) (by decide +kernel)) (fun _ _ _ _ _ => (pg_name (i := 1) sc_is_name.nd rfl (Or.inl rfl))) (fun _ _ _ _ _ => pts_nil) (fun _ _ _ _ _ => (pe_chain o_leS o_leS pe_str (pv 1) pe_str))) pa_nil))))), ?_⟩
    refine r_start (σ' := [some (v), none]) rfl ?_
    walk_at "a"
    refine r_isi hd (by decide) ?_
    rw [isStr_dp]
    have no : (∀ s, v ≠ .str s) → ∀ H', Same H H' → Q (.bl false) H' := fun h H' s => q false H' s ⟨fun z => absurd z (by simp), fun ⟨t, e, _⟩ => absurd e (h t)⟩
    cases d with
    | str s =>
      have hv := dp_str hd
      subst hv
      have hl := hl s rfl
      walk_at "a"
      have nog : ¬ goodName s → ∀ H', Same H H' → Q (.bl false) H' := fun h H' s1 => q false H' s1 ⟨fun z => absurd z (by simp), fun ⟨t, e, g⟩ => absurd (by cases e; exact g) h⟩
      refine r_len_s (by rw [sizeLine_eq]; omega) ?_
      walk_at "a"
      refine i_cases (fun h1 => ?_) (fun h1 => ?_)
      rotate_left
      · walk_at "a"
        exact nog (fun g => h1 (by have := g.1; omega)) _ (Same.refl _)
      walk_at "a"
      by_cases h2 : (s.length : Int) ≤ 8
      rotate_left
      · rw [decide_eq_false h2]
        walk_at "a"
        exact nog (fun g => h2 (by have := g.2.1; omega)) _ (Same.refl _)
      rw [decide_eq_true h2]
      walk_at "a"
      refine r_istrU ?_
      walk_at "a"
      refine r_strW ?_
      refine lc_gen (as := TL.tl s) (fun c v _ => v = .str ⟨#[c]⟩) (src := fun _ => True) (item := fun i H v H' => H' = H ∧ ∃ c, (TL.tl s)[i]? = some c ∧ v = .str ⟨#[c]⟩) wk_str
        (fun i H2 v H' hi h => by obtain ⟨rfl, c, hc, rfl⟩ := h; exact ⟨c, hc, Same.refl _, rfl⟩) (fun _ _ => trivial) (by rw [← len_tl]; omega) (fun _ => true) (fun _ c y => y = .bl (decide (97 ≤ c) && decide (c ≤ 122))) (fun _ _ _ _ _ h => h) (fun c v H2 S N hc s2 hv k1 k2 => ?_) (fun D H2 ys hD s2 e2 p2 => ?_)
      · subst hv
        refine r_gname ⟨wipe_one, ?_⟩
        walk_at "a"
        rw [show Str.ofString "a" = (⟨#[97]⟩ : Str) by decide +kernel, show Str.ofString "z" = (⟨#[122]⟩ : Str) by decide +kernel]
        refine r_leS1 ?_
        refine ⟨_, rfl, ?_⟩
        by_cases h97 : 97 ≤ c
        · rw [decide_eq_true h97] at k1 ⊢
          refine r_leS1 ?_
          exact k1 rfl _ _ (Same.refl _) rfl
        · rw [decide_eq_false h97] at k1 ⊢
          exact k1 rfl _ _ (Same.refl _) rfl
      · have ey : ys = ((TL.tl s).map fun c => (decide (97 ≤ c) && decide (c ≤ 122))).map V.bl := by
          rw [Fp.filter_all] at p2
          rw [List.map_map]
          exact paired_fn p2
        rw [ey] at e2
        refine r_all (SqL.of e2) ?_
        refine q _ _ s2 ?_
        rw [List.all_map, List.all_eq_true]
        have hlen : (TL.tl s).length = s.length := (len_tl s).symm
        constructor
        · intro z
          refine ⟨s, rfl, by omega, by omega, fun c hc => ?_⟩
          simpa using z c hc
        · rintro ⟨t, e, g⟩
          cases e
          intro c hc
          simpa using g.2.2 c hc
    | none => cases dp_non hd; walk_at "a"; exact no (by intro s z; cases z) H (Same.refl _)
    | int i => cases dp_int hd; walk_at "a"; exact no (by intro s z; cases z) H (Same.refl _)
    | bool b => cases hd; walk_at "a"; exact no (by intro s z; cases z) H (Same.refl _)
    | list ds => cases hd; walk_at "a"; exact no (by intro s z; cases z) H (Same.refl _)
    | tuple ds => cases hd; walk_at "a"; exact no (by intro s z; cases z) H (Same.refl _)
    | dict ds => cases hd
end
theorem use_is_name {K : PySem.W.Frag} {H : Hp} {Q : VK} {E : XK} {v : V} {d : PyData} (hd : Dp K H v d) (hl : ∀ s, v = .str s → s.length ≤ 1000000) (q : ∀ (b : Bool) H', Same H H' → (b = true ↔ ∃ s, v = .str s ∧ goodName s) → Q (.bl b) H') : sp_is_name K [v] H Q E := ⟨v, d, rfl, hd, hl, q⟩
def sp_want_window (K : PySem.W.Frag) (X : Addr) : Sp := fun vs H Q E => ∃ (wn : Addr) (b w m : Int), vs = [.ref wn] ∧ SqT K H wn [.int b, .int w, .int m] ∧
  0 ≤ m ∧ m ≤ 100000 ∧ 1 ≤ w ∧ w ≤ 100000000000000000000000000000000000000000000000000000000000000000000 ∧ -100000000000000000000000000000000000000000000000000000000000000000000 ≤ b ∧ b ≤ 100000000000000000000000000000000000000000000000000000000000000000000 ∧
  (InW b w m → ∀ H', Same H H' → Q .non H') ∧ (¬ InW b w m → ∀ H', Same H H' → E (.ref X) none H')
def sp_b_init (K : PySem.W.Frag) (C : Addr) : Sp := fun vs H Q _ => ∃ (p dx : Addr), vs = [.ref p] ∧ H p = some (.ins C dx []) ∧ ∀ sd H', H sd = none → Keep (At p) H H' → H' p = some (.ins C dx [("stores", .ref sd)]) → H' sd = some (.dK []) → Q .non H'
section
variable {P : Program} {w : World} {K : PySem.W.Frag} {mg : Str → Option Value} {base : Heap}
theorem ok_Board___init (B : Blt mg) {A_Store : Addr} (T_Store : ClT K mg "Store" A_Store) (N_Store_heights : NoAttr K A_Store "heights") (N_Store_by_stretches : NoAttr K A_Store "by_stretches") (N_Store_deeds : NoAttr K A_Store "deeds") (N_Store_deed_times : NoAttr K A_Store "deed_times") (N_Store_watches : NoAttr K A_Store "watches") {A_Board : Addr} (T_Board : ClT K mg "Board" A_Board) (N_Board_stores : NoAttr K A_Board "stores") (D : PDef K A_Board "Board.__init__" s_Board___init ["self"]) :
    PFn P w K mg base 1 A_Board ["self"] (sp_b_init K A_Board) := by
  refine D.ok sc_Board___init (fun vs H Q E h => ?_) (fun f cdv A outer s H vs Q E hr h => ?_)
  · obtain ⟨p, dx, rfl, ob, q⟩ := h
    rfl
  · obtain ⟨p, dx, rfl, ob, q⟩ := h
    refine ⟨_, (pss_one (psK_fld K (pv 0) pe_dnewK)), ?_⟩
    refine r_start (σ' := [some (.ref p)]) rfl ?_
    walk_at "a"
    rename_i sd H1 n1 s1 e1 H2 k2 e2
    exact q sd H2 n1 ((Keep.of_same s1).trans k2) e2 (k2 _ _ e1 (Ne.symm (ne_of_none ob n1)))
end
theorem use_b_init {K : PySem.W.Frag} {C : Addr} {H : Hp} {Q : VK} {E : XK} {p dx : Addr} (ob : H p = some (.ins C dx [])) (q : ∀ sd H', H sd = none → Keep (At p) H H' → H' p = some (.ins C dx [("stores", .ref sd)]) → H' sd = some (.dK []) → Q .non H') : sp_b_init K C [.ref p] H Q E := ⟨p, dx, rfl, ob, q⟩

theorem none_back {H H' : Hp} {x : Addr} (s : Same H H') (h : H' x = none) : H x = none := by
  cases e : H x with
  | none => rfl
  | some o => rw [s _ _ e] at h; cases h
def sp_b_store (K : PySem.W.Frag) (CB CS X : Addr) : Sp := fun vs H Q E => ∃ (p sd : Addr) (es : List Ent) (v : V) (d : PyData), vs = [.ref p, v] ∧ BoardAt K CB CS H p sd es ∧ Dp K H v d ∧ (∀ s, v = .str s → s.length ≤ 1000000) ∧ es.length < 60 ∧
  ((¬ ∃ s, v = .str s ∧ goodName s) → ∀ H', Same H H' → E (.ref X) none H') ∧
  (∀ s, v = .str s → goodName s → ∀ e ∈ es, e.name = s → ∀ H', Same H H' → Q (.ref e.a.p) H') ∧
  (∀ s, v = .str s → goodName s → s ∉ namesE es → ∀ a H', Keep (At sd) H H' → TExt H H' → BoardAt K CB CS H' p sd (es ++ [⟨s, a, [], [], [], [], 0⟩]) → (∀ x ∈ a.all, H x = none) → Q (.ref a.p) H')
section
variable {P : Program} {w : World} {K : PySem.W.Frag} {mg : Str → Option Value} {base : Heap}
theorem ok_Board_store (B : Blt mg) {A_Store : Addr} (T_Store : ClT K mg "Store" A_Store) (N_Store_heights : NoAttr K A_Store "heights") (N_Store_by_stretches : NoAttr K A_Store "by_stretches") (N_Store_deeds : NoAttr K A_Store "deeds") (N_Store_deed_times : NoAttr K A_Store "deed_times") (N_Store_watches : NoAttr K A_Store "watches") {A_Board : Addr} (T_Board : ClT K mg "Board" A_Board) (N_Board_stores : NoAttr K A_Board "stores") (D : MDef K A_Board "store" "Board.store" s_Board_store ["self", "name"]) {E_NoName : Addr} (X_NoName : Exc K mg "NoName" E_NoName) (G_is_name : Fn P w K mg base 1 "is_name" ["thing"] (sp_is_name K)) (G_Store___init : IFn P w K mg base 4 A_Store ["self", "curve"] (sp_s_init K A_Store E_OutOfTimes)) :
    MFn P w K mg base 6 A_Board "store" ["self", "name"] (sp_b_store K A_Board A_Store E_NoName) := by
  refine D.okX sc_Board_store (fun vs H Q E h => ?_) (fun f cdv A outer s H vs Q E hr h => ?_)
  · obtain ⟨p, sd, es, v, d, rfl, Bo, hd, hl, hn, e, qo, qn⟩ := h
    rfl
  · obtain ⟨p, sd, es, v, d, rfl, Bo, hd, hl, hn, e, qo, qn⟩ := h
    refine ⟨_, (pss_cons (ps_if (pt_not (pt_val (pe_fn G_is_name hr (pa_cons (pv 1) pa_nil))))
      (pss_one (ps_rs X_NoName (takes_of rfl rfl rfl rfl)))
      pss_nil)
      (pss_cons (ps_if (pt_cmp (pc_dnotin (hu_of hr) (pv 1) (peK_fld K (pv 0))))
      (pss_one (ps_dput (hu_of hr) (peK_fld K (pv 0)) (pv 1) (pe_make0E G_Store___init T_Store hr (by decide) rfl (passes_call (takes_of rfl rfl rfl rfl) fun _ _ _ _ h => h)) rfl))
      pss_nil)
      (pss_one (ps_ret (pe_dget (hu_of hr) (peK_fld K (pv 0)) (pv 1) (fun _ _ => rfl)))))), ?_⟩
    refine r_start (σ' := [some (.ref p), some (v)]) rfl ?_
    obtain ⟨dx, ob⟩ := Bo.ob
    walk_at "a"
    refine use_is_name hd hl fun b H1 s1 hb => ⟨_, rfl, ?_⟩
    cases b with
    | false => exact e (fun z => absurd (hb.mpr z) (by simp)) _ s1
    | true =>
      obtain ⟨n, rfl, gn⟩ := hb.mp rfl
      have B1 := Bo.same s1
      have ob1 := s1 _ _ ob
      have kl : (dkv es).length ≤ 1000000 := by unfold dkv; rw [List.length_map]; omega
      walk_at "a"
      refine r_dnotinS B1.dd ?_
      by_cases hin : n ∈ namesE es
      · obtain ⟨f, hf, ef⟩ := List.mem_map.mp hin
        have hv := dkv_some Bo.nd hf
        rw [ef] at hv
        rw [hv, show (!(some (V.ref f.a.p)).isSome) = false from rfl]
        walk_at "a"
        refine r_dgetS B1.dd hv ?_
        exact qo n rfl gn f hf ef _ s1
      · rw [dkv_none hin, show (!(none : Option V).isSome) = true from rfl]
        walk_at "a"
        refine r_makei fun st dx7 H7 n7 nx7 _ s7 ob7 => ?_
        refine use_s_init ob7 (.inl ⟨rfl, rfl⟩) List.Pairwise.nil (by decide) (by simp) fun a H8 ea was fr k8 S8 => ⟨rfl, ?_⟩
        have s8 : Same H1 H8 := fun b o e => k8 _ _ (s7 _ _ e) (ne_of_none e n7)
        have B8 := B1.same s8
        have ob8 := s8 _ _ ob1
        walk_at "a"
        refine r_dputS B8.dd kl fun H9 k9 e9 => ?_
        have t9 : TExt H8 H9 := k9.text fun x hx => by rw [show x = sd from hx, B8.dd]; trivial
        have ob9 := k9 _ _ ob8 Bo.ne
        have fresh : ∀ x ∈ a.all, H x = none := fun x hx => by
          by_cases z : x = st
          · exact none_back s1 (by rw [z]; exact n7)
          · exact none_back (s1.trans s7) (fr x hx z)
        rw [← ea, dkv_put hin] at e9
        have B9 : BoardAt K A_Board A_Store H9 p sd (es ++ [⟨n, a, [], [], [], [], 0⟩]) := by
          refine Bo.more hin hn (S8.keep k9 t9 fun x hx z => ?_) ?_ ?_ e9 fresh
          · have := fresh x hx
            rw [show x = sd from z, Bo.dd] at this
            cases this
          · exact (Keep.of_same (s1.trans s8)).trans k9
          · exact (TExt.of_same (s1.trans s8)).trans t9
        have hv : valV (dkv (es ++ [⟨n, a, [], [], [], [], 0⟩])) (Sum.inr n) = some (.ref a.p) := dkv_some (e := ⟨n, a, [], [], [], [], 0⟩) B9.nd (by simp)
        walk_at "a"
        refine r_dgetS B9.dd hv ?_
        exact qn n rfl gn hin a _ ((Keep.of_same (s1.trans s8)).trans k9) ((TExt.of_same (s1.trans s8)).trans t9) B9 fresh
end
def sp_b_names (K : PySem.W.Frag) (CB CS : Addr) : Sp := fun vs H Q _ => ∃ (p sd : Addr) (es : List Ent), vs = [.ref p] ∧ BoardAt K CB CS H p sd es ∧ ∀ (ys : List Str) q H', ys.Perm (namesE es) → sortedS ys = true → H q = none → Same H H' → H' q = some (.lst (ys.map V.str)) → Q (.ref q) H'
section
variable {P : Program} {w : World} {K : PySem.W.Frag} {mg : Str → Option Value} {base : Heap}
theorem ok_Board_names (B : Blt mg) {A_Store : Addr} (T_Store : ClT K mg "Store" A_Store) (N_Store_heights : NoAttr K A_Store "heights") (N_Store_by_stretches : NoAttr K A_Store "by_stretches") (N_Store_deeds : NoAttr K A_Store "deeds") (N_Store_deed_times : NoAttr K A_Store "deed_times") (N_Store_watches : NoAttr K A_Store "watches") {A_Board : Addr} (T_Board : ClT K mg "Board" A_Board) (N_Board_stores : NoAttr K A_Board "stores") (D : MDef K A_Board "names" "Board.names" s_Board_names ["self"]) :
    MFn P w K mg base 1 A_Board "names" ["self"] (sp_b_names K A_Board A_Store) := by
  refine D.ok sc_Board_names (fun vs H Q E h => ?_) (fun f cdv A outer s H vs Q E hr h => ?_)
  · obtain ⟨p, sd, es, rfl, Bo, q⟩ := h
    rfl
  · obtain ⟨p, sd, es, rfl, Bo, q⟩ := h
    refine ⟨_, (pss_one (ps_ret (pe_callB (c_sortedDS rfl) rfl B.sorted (by decide +kernel) (pa_cons (peK_fld K (pv 0)) pa_nil)))), ?_⟩
    refine r_start (σ' := [some (.ref p)]) rfl ?_
    obtain ⟨dx, ob⟩ := Bo.ob
    walk_at "a"
    refine r_sortedDS Bo.dd (dkv_keys es) (by unfold namesE; rw [List.length_map]; have := Bo.len; omega) fun ys q2 H' hp hs n s2 e2 => ?_
    exact q ys q2 H' hp hs n s2 e2
end
theorem use_b_names {K : PySem.W.Frag} {CB CS : Addr} {H : Hp} {Q : VK} {E : XK} {p sd : Addr} {es : List Ent} (B : BoardAt K CB CS H p sd es) (q : ∀ (ys : List Str) q H', ys.Perm (namesE es) → sortedS ys = true → H q = none → Same H H' → H' q = some (.lst (ys.map V.str)) → Q (.ref q) H') : sp_b_names K CB CS [.ref p] H Q E := ⟨p, sd, es, rfl, B, q⟩

theorem use_b_known {K : PySem.W.Frag} {CB CS X : Addr} {H : Hp} {Q : VK} {E : XK} {p sd : Addr} {es : List Ent} {n : Str} (B : BoardAt K CB CS H p sd es) (g : goodName n) (hn : es.length < 60) {i : Nat} {e : Ent} (hi : es[i]? = some e) (he : e.name = n) (q : ∀ H', Same H H' → Q (.ref e.a.p) H') : sp_b_store K CB CS X [.ref p, .str n] H Q E := by
  refine ⟨p, sd, es, _, .str n, rfl, B, .str n, fun s z => by cases z; have := g.2.1; omega, hn, fun z => absurd ⟨n, rfl, g⟩ z, fun s z _ f hf ef H' s' => ?_, fun s z _ h => ?_⟩
  · cases z
    have := dkv_some B.nd hf
    have t := dkv_some B.nd (List.mem_of_getElem? hi)
    rw [ef] at this
    rw [he, this] at t
    have : f.a.p = e.a.p := by injection t with t; injection t
    rw [this]
    exact q _ s'
  · cases z
    exact absurd (List.mem_map.mpr ⟨e, List.mem_of_getElem? hi, he⟩) h
theorem use_b_new {K : PySem.W.Frag} {CB CS X : Addr} {H : Hp} {Q : VK} {E : XK} {p sd : Addr} {es : List Ent} {n : Str} (B : BoardAt K CB CS H p sd es) (g : goodName n) (hn : es.length < 60) (h : n ∉ namesE es)
    (q : ∀ a H', Keep (At sd) H H' → TExt H H' → BoardAt K CB CS H' p sd (es ++ [⟨n, a, [], [], [], [], 0⟩]) → (∀ x ∈ a.all, H x = none) → Q (.ref a.p) H') : sp_b_store K CB CS X [.ref p, .str n] H Q E := by
  refine ⟨p, sd, es, _, .str n, rfl, B, .str n, fun s z => by cases z; have := g.2.1; omega, hn, fun z => absurd ⟨n, rfl, g⟩ z, fun s z _ f hf ef H' s' => ?_, fun s z _ h => ?_⟩
  · cases z
    exact absurd (List.mem_map.mpr ⟨f, hf, ef⟩) h
  · cases z
    exact q

/-! how many samples are kept -/
def nub : Prs → Prs
  | [] => []
  | p :: r => if p ∈ nub r then nub r else p :: nub r
theorem nub_mem (p : Int × Int) : ∀ l : Prs, p ∈ nub l ↔ p ∈ l
  | [] => by simp [nub]
  | q :: r => by
    have := nub_mem p r
    have hq := nub_mem q r
    unfold nub
    split
    · next h =>
      rw [this, List.mem_cons]
      constructor
      · exact .inr
      · rintro (rfl | h2)
        · exact hq.mp h
        · exact h2
    · rw [List.mem_cons, List.mem_cons, this]
theorem nub_nodup : ∀ l : Prs, (nub l).Nodup
  | [] => by simp [nub]
  | q :: r => by
    have := nub_nodup r
    unfold nub
    split
    · exact this
    · next h => exact List.nodup_cons.mpr ⟨h, this⟩
theorem nub_len : ∀ l : Prs, (nub l).length ≤ l.length
  | [] => by simp [nub]
  | q :: r => by
    have := nub_len r
    unfold nub
    split
    · rw [List.length_cons]; omega
    · rw [List.length_cons, List.length_cons]; omega
theorem len_nub {T l : Prs} (nd : T.Nodup) (h : ∀ p, p ∈ T ↔ p ∈ l) : T.length = (nub l).length :=
  ((List.perm_ext_iff_of_nodup nd (nub_nodup l)).mpr fun p => by rw [h, nub_mem]).length_eq
theorem perm_sum {l l' : List Int} (h : l.Perm l') : l.sum = l'.sum := by
  induction h with
  | nil => rfl
  | cons x _ ih => rw [List.sum_cons, List.sum_cons, ih]
  | swap x y l => rw [List.sum_cons, List.sum_cons, List.sum_cons, List.sum_cons]; omega
  | trans _ _ h1 h2 => rw [h1, h2]
def cntF (c : Prs) (b w m : Int) : Nat := (nub ((foursS c b w m.toNat).flatMap fs4)).length
def keptAt (es : List Ent) (b w m : Int) (n : Str) : Int := match es.find? (fun e => decide (e.name = n)) with | some e => cntF e.c b w m | none => 0
def keptE (es : List Ent) (b w m : Int) : Int := (es.map fun e => (cntF e.c b w m : Int)).sum
theorem keptAt_of {es : List Ent} {b w m : Int} (nd : (namesE es).Nodup) {e : Ent} (he : e ∈ es) : keptAt es b w m e.name = cntF e.c b w m := by
  induction es with
  | nil => cases he
  | cons f r ih =>
    unfold keptAt
    rw [List.find?_cons]
    unfold namesE at nd
    rw [List.map_cons, List.nodup_cons] at nd
    rcases List.mem_cons.mp he with rfl | h
    · simp
    · have ne : f.name ≠ e.name := fun z => nd.1 (by rw [z]; exact List.mem_map.mpr ⟨e, h, rfl⟩)
      rw [decide_eq_false ne]
      exact ih nd.2 h
theorem keptE_eq {es : List Ent} {b w m : Int} (nd : (namesE es).Nodup) {ys : List Str} (h : ys.Perm (namesE es)) : (ys.map (keptAt es b w m)).sum = keptE es b w m := by
  rw [perm_sum (h.map _)]
  unfold namesE keptE
  rw [List.map_map]
  congr 1
  exact List.map_congr_left fun e he => keptAt_of nd he
def sp_b_kept (K : PySem.W.Frag) (CB CS X : Addr) : Sp := fun vs H Q E => ∃ (p sd : Addr) (es : List Ent) (wn : Addr) (b w m : Int), vs = [.ref p, .ref wn] ∧ BoardAt K CB CS H p sd es ∧ SqT K H wn [.int b, .int w, .int m] ∧
  0 ≤ m ∧ m ≤ 15 ∧ 1 ≤ w ∧ w ≤ 100000000000000000000000000000000000000000000000000000000000000000000 ∧ -100000000000000000000000000000000000000000000000000000000000000000000 ≤ b ∧ b ≤ 100000000000000000000000000000000000000000000000000000000000000000000 ∧
  (InW b w m → ∀ H', Same H H' → Q (.int (keptE es b w m)) H') ∧ (¬ InW b w m → ∀ H', Same H H' → E (.ref X) none H')
theorem use_b_kept {K : PySem.W.Frag} {CB CS X : Addr} {H : Hp} {Q : VK} {E : XK} {p sd : Addr} {es : List Ent} {wn : Addr} {b w m : Int} (B : BoardAt K CB CS H p sd es) (ha : SqT K H wn [.int b, .int w, .int m]) (h : InWin b w m) (hm : m ≤ 15)
    (q : ∀ H', Same H H' → Q (.int (keptE es b w m)) H') : sp_b_kept K CB CS X [.ref p, .ref wn] H Q E := by
  obtain ⟨h1, h2, h3, h4, h5, h6⟩ := h
  have h0 : 0 ≤ w * m := Int.mul_nonneg (by omega) (by omega)
  exact ⟨p, sd, es, wn, b, w, m, rfl, B, ha, by omega, hm, h3, by omega, by omega, by omega, fun _ => q, fun n => absurd ⟨h1, by omega, by omega, h2⟩ n⟩

/-! ### what the law holds: a dict of its own -/
structure HeldAt (H : Hp) (q : Addr) (c : Prs) : Prop where
  ex : ∃ m : Prs, H q = some (.dK (m.map inj)) ∧ (m.map (·.1)).Nodup ∧ (∀ p, p ∈ m ↔ p ∈ c)
  crv : Crv c
theorem HeldAt.keep {H H' : Hp} {q : Addr} {c : Prs} {F : Addr → Prop} (h : HeldAt H q c) (k : Keep F H H') (n : ¬ F q) : HeldAt H' q c := by
  obtain ⟨⟨m, e, r⟩, cr⟩ := h
  exact ⟨⟨m, k _ _ e n, r⟩, cr⟩
theorem HeldAt.same {H H' : Hp} {q : Addr} {c : Prs} (h : HeldAt H q c) (s : Same H H') : HeldAt H' q c := h.keep (F := No) (Keep.of_same s) (fun z => z)
theorem HeldAt.live {H : Hp} {q : Addr} {c : Prs} (h : HeldAt H q c) : H q ≠ none := by
  obtain ⟨⟨m, e, r⟩, cr⟩ := h
  rw [e]; simp
theorem HeldAt.text {H H' : Hp} {q : Addr} {c : Prs} (h : HeldAt H q c) (k : Keep (At q) H H') : TExt H H' := by
  obtain ⟨⟨m, e, r⟩, cr⟩ := h
  exact k.text fun b hb => by rw [show b = q from hb, e]; trivial
theorem HeldAt.pot {H H' : Hp} {q p : Addr} {c : Prs} (h : HeldAt H q c) (hp : Pot H p) (k : Keep (At p) H H') : HeldAt H' q c := by
  obtain ⟨_, _, _, e, _⟩ := hp.ex
  obtain ⟨m, e2, _⟩ := h.ex
  exact h.keep k (ne_of e2 e (by intro z; cases z))
theorem Pot.held {H H' : Hp} {q p : Addr} {c : Prs} (hp : Pot H p) (h : HeldAt H q c) (k : Keep (At q) H H') : Pot H' p := by
  obtain ⟨_, _, _, e, _⟩ := hp.ex
  obtain ⟨m, e2, _⟩ := h.ex
  exact hp.keep k (ne_of e e2 (by intro z; cases z))
/-- of the samples held: sorted, the heights -/
theorem held_put {m c : Prs} (h2 : (m.map (·.1)).Nodup) (h3 : ∀ p, p ∈ m ↔ p ∈ c) (crv : Crv c) {t h : Int} (ht : InT t) : ((putP m t h).map (·.1)).Nodup ∧ (∀ p, p ∈ putP m t h ↔ p ∈ insC c t h) ∧ Crv (insC c t h) :=
  ⟨nd_put t h h2, fun p => by rw [mem_put, insC_mem, h3], setC_crv crv ht (some h)⟩
theorem len_ins {c : Prs} (hc : c.Pairwise fun p q => p.1 < q.1) (t h : Int) : (insC c t h).length ≤ c.length + 1 := by
  have e : (insC c t h).length = (putP c t h).length := by
    refine (perm_len (nd_put t h (up_nodup hc)) (up_nodup (insC_up hc t h)) fun q => ?_).symm
    rw [mem_put, insC_mem]
  rw [e]
  exact len_put c t h

/-! ### curves by names: dicts in a dict -/
structure Cur where
  name : Str
  a : Addr
  c : Prs
def ckv (cs : List Cur) : List (Key × V) := cs.map fun e => (Sum.inr e.name, V.ref e.a)
theorem ckv_keys (cs : List Cur) : (ckv cs).map (·.1) = (cs.map (·.name)).map Sum.inr := by
  unfold ckv
  rw [List.map_map, List.map_map]
  rfl
structure CurvesAt (H : Hp) (D : Addr) (cs : List Cur) : Prop where
  dd : H D = some (.dK (ckv cs))
  nd : (cs.map (·.name)).Nodup
  st : ∀ e ∈ cs, HeldAt H e.a e.c
  sep : (cs.map (·.a)).Nodup
  own : ∀ e ∈ cs, e.a ≠ D
def cAll (D : Addr) (cs : List Cur) : List Addr := D :: cs.map (·.a)
theorem mem_call {D x : Addr} {cs : List Cur} : x ∈ cAll D cs ↔ x = D ∨ ∃ e ∈ cs, e.a = x := by simp [cAll]
theorem CurvesAt.keep {H H' : Hp} {D : Addr} {cs : List Cur} {F : Addr → Prop} (C : CurvesAt H D cs) (k : Keep F H H') (n : ∀ x ∈ cAll D cs, ¬ F x) : CurvesAt H' D cs :=
  ⟨k _ _ C.dd (n _ (mem_call.mpr (.inl rfl))), C.nd, fun e he => (C.st e he).keep k (n _ (mem_call.mpr (.inr ⟨e, he, rfl⟩))), C.sep, C.own⟩
theorem CurvesAt.same {H H' : Hp} {D : Addr} {cs : List Cur} (C : CurvesAt H D cs) (s : Same H H') : CurvesAt H' D cs := C.keep (F := No) (Keep.of_same s) (fun _ _ z => z)
theorem CurvesAt.live {H : Hp} {D x : Addr} {cs : List Cur} (C : CurvesAt H D cs) (h : x ∈ cAll D cs) : H x ≠ none := by
  rcases mem_call.mp h with rfl | ⟨e, he, rfl⟩
  · rw [C.dd]; simp
  · exact (C.st e he).live
theorem CurvesAt.pot {H H' : Hp} {D p : Addr} {cs : List Cur} (C : CurvesAt H D cs) (hp : Pot H p) (k : Keep (At p) H H') : CurvesAt H' D cs := by
  obtain ⟨_, _, _, e, _⟩ := hp.ex
  refine C.keep k fun x hx => ?_
  rcases mem_call.mp hx with rfl | ⟨f, hf, rfl⟩
  · exact ne_of C.dd e (by intro z; cases z)
  · obtain ⟨m, e2, _⟩ := (C.st f hf).ex
    exact ne_of e2 e (by intro z; cases z)
theorem CurvesAt.text {H H' : Hp} {D : Addr} {cs : List Cur} (C : CurvesAt H D cs) (k : Keep (· ∈ cAll D cs) H H') : TExt H H' := by
  refine k.text fun x hx => ?_
  rcases mem_call.mp hx with rfl | ⟨f, hf, rfl⟩
  · rw [C.dd]; trivial
  · obtain ⟨m, e2, _⟩ := (C.st f hf).ex
    rw [e2]; trivial
theorem CurvesAt.val {H : Hp} {D : Addr} {cs : List Cur} (C : CurvesAt H D cs) {e : Cur} (he : e ∈ cs) : valV (ckv cs) (Sum.inr e.name) = some (.ref e.a) :=
  val_mem (by rw [ckv_keys]; exact inr_nodup C.nd) (List.mem_map.mpr ⟨e, he, rfl⟩)
theorem ckv_has {cs : List Cur} {s : Str} {v : V} (h : valV (ckv cs) (Sum.inr s) = some v) : s ∈ cs.map (·.name) := by
  refine Classical.byContradiction fun z => ?_
  rw [val_not (by rw [ckv_keys]; exact fun y => by obtain ⟨t, ht, e⟩ := List.mem_map.mp y; injection e with e; exact z (by rw [← e]; exact ht))] at h
  cases h
theorem ckv_put {cs : List Cur} {s : Str} (h : s ∉ cs.map (·.name)) (a : Addr) : putK (ckv cs) (Sum.inr s) (.ref a) = ckv (cs ++ [⟨s, a, []⟩]) := by
  rw [put_not (by rw [ckv_keys]; exact fun z => by obtain ⟨t, ht, e⟩ := List.mem_map.mp z; injection e with e; exact h (by rw [← e]; exact ht))]
  unfold ckv
  rw [List.map_append]
  rfl
/-- one of the curves has another sample -/
theorem CurvesAt.one {H H' : Hp} {D : Addr} {cs : List Cur} (C : CurvesAt H D cs) {i : Nat} {e : Cur} (hi : cs[i]? = some e) {c' : Prs} (hS : HeldAt H' e.a c') (k : Keep (At e.a) H H') : CurvesAt H' D (cs.set i ⟨e.name, e.a, c'⟩) := by
  have he := List.mem_of_getElem? hi
  obtain ⟨li, ei⟩ := List.getElem?_eq_some_iff.mp hi
  have mapS : ∀ {β : Type} (f : Cur → β), f ⟨e.name, e.a, c'⟩ = f e → (cs.set i ⟨e.name, e.a, c'⟩).map f = cs.map f := fun f hf => by
    refine List.ext_getElem? fun j => ?_
    rw [List.getElem?_map, List.getElem?_map, List.getElem?_set]
    split
    · next h =>
      subst h
      try rw [if_pos li]
      rw [hi]
      simp [hf]
    · rfl
  have memS : ∀ f ∈ cs.set i ⟨e.name, e.a, c'⟩, f = ⟨e.name, e.a, c'⟩ ∨ (f ∈ cs ∧ f.a ≠ e.a) := fun f hf => by
    obtain ⟨j, hj⟩ := List.getElem?_of_mem hf
    rw [List.getElem?_set] at hj
    split at hj
    · next h =>
      try rw [if_pos li] at hj
      exact .inl (Option.some.inj hj).symm
    · next h =>
      refine .inr ⟨List.mem_of_getElem? hj, fun z => h ?_⟩
      obtain ⟨lj, ej⟩ := List.getElem?_eq_some_iff.mp hj
      have e1 : (cs.map (·.a))[i]'(by simpa using li) = e.a := by simp [ei]
      have e2 : (cs.map (·.a))[j]'(by simpa using lj) = f.a := by simp [ej]
      rcases Nat.lt_trichotomy i j with y | y | y
      · exact absurd (by rw [e1, e2, z]) (List.pairwise_iff_getElem.mp C.sep i j (by simpa using li) (by simpa using lj) y)
      · exact y
      · exact absurd (by rw [e1, e2, z]) (List.pairwise_iff_getElem.mp C.sep j i (by simpa using lj) (by simpa using li) y)
  refine ⟨?_, by rw [mapS (·.name) rfl]; exact C.nd, fun f hf => ?_, by rw [mapS (·.a) rfl]; exact C.sep, fun f hf => ?_⟩
  · rw [k _ _ C.dd (Ne.symm (C.own e he))]
    unfold ckv
    rw [mapS _ rfl]
  · rcases memS f hf with rfl | ⟨h1, h2⟩
    · exact hS
    · exact (C.st f h1).keep k h2
  · rcases memS f hf with rfl | ⟨h1, h2⟩
    · exact C.own e he
    · exact C.own f h1
theorem CurvesAt.put {H : Hp} {D : Addr} {cs : List Cur} {R : Hp → Prop} (C : CurvesAt H D cs) {i : Nat} {e : Cur} (hi : cs[i]? = some e) {t h : Int} (ht : InT t) (hl : e.c.length ≤ 100000)
    (q : ∀ H', Keep (At e.a) H H' → CurvesAt H' D (cs.set i ⟨e.name, e.a, insC e.c t h⟩) → R H') : uDPut (.ref e.a) (.int t) (.int h) H R := by
  obtain ⟨⟨m, h1, h2, h3⟩, cr⟩ := C.st e (List.mem_of_getElem? hi)
  refine r_dputi h1 (by rw [perm_len h2 (up_nodup cr.up) h3]; exact hl) fun H' k' e' => ?_
  obtain ⟨a1, a2, a3⟩ := held_put (h := h) h2 h3 cr ht
  exact q H' k' (C.one hi ⟨⟨_, e', a1, a2⟩, a3⟩ k')
theorem crv_nil : Crv [] := ⟨List.Pairwise.nil, by simp⟩
/-- curves.setdefault(name, {}), the dict being made just now -/
theorem curves_set {H1 H : Hp} {Q : VK} {D p : Addr} {cs : List Cur} {s : Str} (C : CurvesAt H1 D cs) (hz : cs.length < 16777216) (n : H1 p = none) (sm : Same H1 H) (e : H p = some (.dK []))
    (q : ∀ (i : Nat) (f : Cur) (cs' : List Cur) H', Keep (At D) H H' → CurvesAt H' D cs' → cs'[i]? = some f → f.name = s → cs'.length ≤ cs.length + 1 → (∀ g ∈ cs', g ∈ cs ∨ g = ⟨s, p, []⟩) → Q (.ref f.a) H') : uDSetb D (.str s) (.ref p) H Q := by
  have C2 := C.same sm
  refine ⟨ckv cs, Sum.inr s, C2.dd, rfl, by unfold ckv; rw [List.length_map, sizeLine_eq]; omega, fun v hv => ?_, fun hv => ?_⟩
  · obtain ⟨f, hf, ef⟩ := List.mem_map.mp (ckv_has hv)
    obtain ⟨i, hi⟩ := List.getElem?_of_mem hf
    have h2 := C.val hf
    rw [show f.name = s from ef, hv] at h2
    cases h2
    exact q i f cs H (Keep.refl _) C2 hi ef (by omega) (fun g hg => .inl hg)
  · have hn : s ∉ cs.map (·.name) := fun z => by
      obtain ⟨f, hf, ef⟩ := List.mem_map.mp z
      have h2 := C.val hf
      rw [show f.name = s from ef, hv] at h2
      cases h2
    have pd : p ≠ D := fun z => by rw [z] at n; exact C.live (mem_call.mpr (.inl rfl)) n
    have pn : ∀ f ∈ cs, f.a ≠ p := fun f hf z => by rw [← z] at n; exact (C.st f hf).live n
    have k : Keep (At D) H (upd H D (.dK (putK (ckv cs) (Sum.inr s) (.ref p)))) := Keep.at_
    refine q cs.length ⟨s, p, []⟩ (cs ++ [⟨s, p, []⟩]) _ k ⟨by rw [upd_same, ckv_put hn], ?_, fun f hf => ?_, ?_, fun f hf => ?_⟩ (by simp) rfl (by simp) (fun g hg => by simpa using hg)
    · rw [List.map_append]
      refine List.nodup_append.mpr ⟨C.nd, by simp, fun x hx y hy => ?_⟩
      have ey : y = s := by simpa using hy
      rw [ey]
      exact fun z => hn (by rw [← z]; exact hx)
    · rcases List.mem_append.mp hf with hf | hf
      · exact (C2.st f hf).keep k (C.own f hf)
      · rw [List.mem_singleton.mp hf]
        exact ⟨⟨[], k _ _ e pd, by simp, by simp⟩, crv_nil⟩
    · rw [List.map_append]
      refine List.nodup_append.mpr ⟨C.sep, by simp, fun x hx y hy => ?_⟩
      have ey : y = p := by simpa using hy
      obtain ⟨f, hf, ef⟩ := List.mem_map.mp hx
      rw [ey, ← ef]
      exact pn f hf
    · rcases List.mem_append.mp hf with hf | hf
      · exact C.own f hf
      · rw [List.mem_singleton.mp hf]
        exact pd
/-! drawing them -/
structure WinK (b w m : Int) : Prop where
  b : -1099511627595 ≤ b ∧ b ≤ 1099511627594
  w : 1 ≤ w ∧ w ≤ 9
  m : 1 ≤ m ∧ m ≤ 7
theorem WinK.wm {b w m : Int} (h : WinK b w m) : 1 ≤ w * m ∧ w * m ≤ 63 := by
  obtain ⟨_, ⟨w0, w1⟩, m0, m1⟩ := h
  obtain rfl | rfl | rfl | rfl | rfl | rfl | rfl : m = 1 ∨ m = 2 ∨ m = 3 ∨ m = 4 ∨ m = 5 ∨ m = 6 ∨ m = 7 := by omega
  all_goals omega
def sp_windowK (K : PySem.W.Frag) : Sp := fun vs H Q _ => ∃ p, vs = [.ref p] ∧ Pot H p ∧ ∀ (a : Addr) (b w m : Int) (H' : Hp), Keep (At p) H H' → Pot H' p → SqT K H' a [.int b, .int w, .int m] → WinK b w m → Q (.ref a) H'
theorem use_windowK {K : PySem.W.Frag} {H : Hp} {Q : VK} {E : XK} {p : Addr} (h : Pot H p) (q : ∀ (a : Addr) (b w m : Int) (H' : Hp), Keep (At p) H H' → Pot H' p → SqT K H' a [.int b, .int w, .int m] → WinK b w m → Q (.ref a) H') : sp_windowK K [.ref p] H Q E := ⟨p, rfl, h, q⟩
/-- what stands in a curve -/
structure CurB (e : Cur) (n : Nat) : Prop where
  g : goodName e.name
  l : e.c.length ≤ n
  r : ∀ q ∈ e.c, N60p q
def sp_curves (K : PySem.W.Frag) : Sp := fun vs H Q _ => ∃ (p a : Addr) (b w m : Int), vs = [.ref p, .ref a] ∧ Pot H p ∧ SqT K H a [.int b, .int w, .int m] ∧ WinK b w m ∧
  ∀ (D : Addr) (cs : List Cur) H', Keep (At p) H H' → Pot H' p → CurvesAt H' D cs → (∀ x ∈ cAll D cs, H x = none) → cs.length ≤ 4 → (∀ e ∈ cs, CurB e 28) → Q (.ref D) H'

theorem use_curves {K : PySem.W.Frag} {H : Hp} {Q : VK} {E : XK} {p a : Addr} {b w m : Int} (hp : Pot H p) (ha : SqT K H a [.int b, .int w, .int m]) (wk : WinK b w m)
    (q : ∀ (D : Addr) (cs : List Cur) H', Keep (At p) H H' → Pot H' p → CurvesAt H' D cs → (∀ x ∈ cAll D cs, H x = none) → cs.length ≤ 4 → (∀ e ∈ cs, CurB e 28) → Q (.ref D) H') : sp_curves K [.ref p, .ref a] H Q E := ⟨p, a, b, w, m, rfl, hp, ha, wk, q⟩
/-! the board that is made of them -/
def sp_board (K : PySem.W.Frag) (CB CS : Addr) : Sp := fun vs H Q _ => ∃ (D : Addr) (cs : List Cur), vs = [.ref D] ∧ CurvesAt H D cs ∧ cs.length ≤ 20 ∧ (∀ e ∈ cs, CurB e 60) ∧
  ∀ (p sd : Addr) (es : List Ent) H', Same H H' → BoardAt K CB CS H' p sd es → (∀ x ∈ bAll p sd es, H x = none) → es.map (fun f => (f.name, f.c)) = cs.map (fun e => (e.name, e.c)) → (∀ f ∈ es, f.z ≤ 100) → Q (.ref p) H'

/-! ### names -/
theorem good_snoc {s : Str} {c : Nat} (h : ∀ c ∈ TL.tl s, 97 ≤ c ∧ c ≤ 122) (hc : 97 ≤ c ∧ c ≤ 122) : ∀ d ∈ TL.tl (s ++ ⟨#[c]⟩), 97 ≤ d ∧ d ≤ 122 := fun d hd => by
  rw [TL.tl_append] at hd
  rcases List.mem_append.mp hd with z | z
  · exact h d z
  · have : d = c := by simpa [TL.tl] using z
    rw [this]; exact hc
def alphaS : Str := Str.ofString "abcdefghijklmnopqrstuvwxyz"
theorem alpha_at (i : Nat) (h : i < 26) : alphaS.cps.toList[i]? = some (97 + i) := by
  have : ∀ i < 26, alphaS.cps.toList[i]? = some (97 + i) := by decide +kernel
  exact this i h
def sp_named (K : PySem.W.Frag) : Sp := fun vs H Q _ => ∃ p, vs = [.ref p] ∧ Pot H p ∧ ∀ (s : Str) H', Keep (At p) H H' → Pot H' p → goodName s → Q (.str s) H'
section
variable {P : Program} {w : World} {K : PySem.W.Frag} {mg : Str → Option Value} {base : Heap}
theorem ok_law_named (B : Blt mg) (D : Def K mg "_law_named" s_law_named ["_law_purse_here"]) (G_law_draw : Fn P w K mg base 1 "_law_draw" ["_law_purse_here", "_law_many"] (sp_take K)) :
    Fn P w K mg base 2 "_law_named" ["_law_purse_here"] (sp_named K) := by
  refine D.ok sc_law_named (fun vs H Q E h => ?_) (fun f cdv A outer s H vs Q E hr h => ?_)
  · obtain ⟨p, rfl, hp, q⟩ := h
    rfl
  · obtain ⟨p, rfl, hp, q⟩ := h
    refine ⟨_, (pss_cons (ps_if (pt_cmpR (opK K (o_eq hr.units)) (pe_fn G_law_draw hr (pa_cons (pv 0) (pa_cons pe_int pa_nil))) pe_int (nomark _))
      (pss_one (ps_ret (pe_ix (ixK K ix_seq) (pe_lst (pa_cons pe_str (pa_cons pe_str (pa_cons pe_str (pa_cons pe_str (pa_cons pe_str (pa_cons pe_str pa_nil))))))) (pe_fn G_law_draw hr (pa_cons (pv 0) (pa_cons pe_int pa_nil))) (fun _ _ => rfl))))
      pss_nil)
      (pss_cons (ps_set (i := 1) sc_law_named.nd rfl (Or.inl rfl) pe_str)
      (pss_cons (ps_for PassesOwn.never rfl (pi_range1 rfl B.range (pa_cons (pe_op op_add pe_int (pe_fn G_law_draw hr (pa_cons (pv 0) (pa_cons pe_int pa_nil)))) pa_nil)) (pg_name (i := 2) sc_law_named.nd rfl (Or.inl rfl))
      (pss_one (ps_set (i := 1) sc_law_named.nd rfl (Or.inl rfl) (pe_op o_adds (pv 1) (pe_ix (ixK K ix_seq) pe_str (pe_fn G_law_draw hr (pa_cons (pv 0) (pa_cons pe_int pa_nil))) (fun _ _ => rfl))))))
      (pss_one (ps_ret (pv 1)))))), ?_⟩
    refine r_start (σ' := [some (.ref p), none, none]) rfl ?_
    walk_at "a"
    rename_i x H1 k1 hp1 x0 x1
    refine i_cases (fun h => ?_) (fun h => ?_)
    · walk_at "a"
      rename_i l2 H2 n2 s2 e2 j H3 k3 hp3 j0 j1
      obtain ⟨nm, hnm, gn⟩ : ∃ s : Str, atI [V.str (Str.ofString "a"), V.str (Str.ofString "b"), V.str (Str.ofString "aa"), V.str (Str.ofString "ab"), V.str (Str.ofString "zz"), V.str (Str.ofString "zzzzzzzz")] j = some (.str s) ∧ goodName s := by
        obtain rfl | rfl | rfl | rfl | rfl | rfl : j = 0 ∨ j = 1 ∨ j = 2 ∨ j = 3 ∨ j = 4 ∨ j = 5 := by omega
        all_goals exact ⟨_, rfl, by unfold goodName; decide +kernel⟩
      refine r_ixl (SqL.of (k3 _ _ e2 (hp1.ne_new n2))) hnm ?_
      exact q nm H3 ((k1.trans (Keep.of_same s2)).trans k3) hp3 gn
    · walk_at "a"
      rename_i n H2 k2 hp2 n0 n1
      refine for_wk wk_rng (fun i σ H' => (∃ (s : Str) (v : Option V), σ = [some (.ref p), some (.str s), v] ∧ s.length = i ∧ ∀ c ∈ TL.tl s, 97 ≤ c ∧ c ≤ 122) ∧ Keep (At p) H2 H' ∧ Pot H' p) ⟨⟨_, _, rfl, by decide +kernel, by decide +kernel⟩, Keep.refl _, hp2⟩ (fun _ _ _ _ _ => trivial) ?_ ?_
      · rintro i x σ H3 H3' hi ⟨⟨s, v, rfl, hs, gs⟩, k3, hp3⟩ ⟨rfl, rfl⟩
        walk_at "a"
        rename_i r H4 k4 hp4 r0 r1
        obtain ⟨c, hc, rfl⟩ : ∃ c : Nat, c < 26 ∧ r = (c : Int) := ⟨r.toNat, by omega, by omega⟩
        refine r_ixs (z := alphaS) (c := 97 + c) (by rw [sizeLine_eq]; decide +kernel) (atI_nat (alpha_at c hc)) ?_
        refine r_adds (by rw [sizeLine_eq]; show s.length + 1 ≤ _; omega) ?_
        refine ⟨⟨s ++ ⟨#[97 + c]⟩, _, rfl, ?_, good_snoc gs ⟨by omega, by omega⟩⟩, k3.trans k4, hp4⟩
        rw [len_tl, TL.tl_append, List.length_append, ← len_tl, hs]
        rfl
      · rintro σ H3 ⟨⟨s, v, rfl, hs, gs⟩, k3, hp3⟩
        walk_at "a"
        exact q s H3 ((k1.trans k2).trans k3) hp3 ⟨by omega, by omega, gs⟩
end
theorem use_named {K : PySem.W.Frag} {H : Hp} {Q : VK} {E : XK} {p : Addr} (hp : Pot H p) (q : ∀ (s : Str) H', Keep (At p) H H' → Pot H' p → goodName s → Q (.str s) H') : sp_named K [.ref p] H Q E := ⟨p, rfl, hp, q⟩
theorem bad_of {s : Str} {c : Nat} (h : c ∈ TL.tl s) (hc : c < 97 ∨ 122 < c) : ¬ goodName s := fun g => by
  have := g.2.2 c h
  omega
theorem r_tM0 {r : V → List V → Hp → VK → Prop} {to : TE} {σ : L2.St} {H : Hp} {Q : VK} (q : to σ H fun x H1 => (∃ a, x = V.str a) ∧ r x [] H1 Q) : tM0 r to σ H Q := q
theorem cut_le (z : Str) (lo hi : Option Int) : (cutS z lo hi).length ≤ z.length := by
  rw [len_tl, len_tl]
  unfold cutS
  rw [TL.tl_mk, List.length_take, List.length_drop]
  show _ ≤ (TL.tl z).length
  unfold TL.tl
  omega
def sp_no_name (K : PySem.W.Frag) : Sp := fun vs H Q _ => ∃ (p : Addr) (n : Str), vs = [.ref p, .str n] ∧ Pot H p ∧ goodName n ∧ ∀ (v : V) (d : PyData) H', Keep (At p) H H' → Pot H' p → Dp K H' v d → (∀ s, v = .str s → s.length ≤ 1000000) → (¬ ∃ s, v = .str s ∧ goodName s) → Q v H'
section
variable {P : Program} {w : World} {K : PySem.W.Frag} {mg : Str → Option Value} {base : Heap}
theorem ok_law_no_name (B : Blt mg) {A_Store : Addr} (T_Store : ClT K mg "Store" A_Store) (N_Store_heights : NoAttr K A_Store "heights") (N_Store_by_stretches : NoAttr K A_Store "by_stretches") (N_Store_deeds : NoAttr K A_Store "deeds") (N_Store_deed_times : NoAttr K A_Store "deed_times") (N_Store_watches : NoAttr K A_Store "watches") {A_Board : Addr} (T_Board : ClT K mg "Board" A_Board) (N_Board_stores : NoAttr K A_Board "stores") (D : Def K mg "_law_no_name" s_law_no_name ["_law_purse_here", "_law_name"]) (G_law_draw : Fn P w K mg base 1 "_law_draw" ["_law_purse_here", "_law_many"] (sp_take K)) :
    Fn P w K mg base 2 "_law_no_name" ["_law_purse_here", "_law_name"] (sp_no_name K) := by
  refine D.ok sc_law_no_name (fun vs H Q E h => ?_) (fun f cdv A outer s H vs Q E hr h => ?_)
  · obtain ⟨p, n, rfl, hp, gn, q⟩ := h
    rfl
  · obtain ⟨p, n, rfl, hp, gn, q⟩ := h
    refine ⟨_, (pss_cons (ps_set (i := 2) sc_law_no_name.nd rfl (Or.inl rfl) (pe_lst (pa_cons pe_str (pa_cons (pe_op o_adds (pv 1) pe_str) (pa_cons (pe_upper (pv 1)) (pa_cons (pe_op o_adds (pe_slice o_slS (pv 1) po_none (po_some pe_int)) pe_str) (pa_cons (pe_op o_adds pe_str (pe_slice o_slS (pv 1) po_none (po_some pe_int))) (pa_cons (pe_op o_adds (pe_slice o_slS (pv 1) po_none (po_some pe_int)) pe_str) (pa_cons (pe_op o_adds (pe_slice o_slS (pv 1) po_none (po_some pe_int)) pe_str) pa_nil)))))))))
      (pss_cons (ps_set (i := 2) sc_law_no_name.nd rfl (Or.inl rfl) (pe_op op_cat (pv 2) (pe_lst (pa_cons (pe_op o_adds (pe_slice o_slS (pv 1) po_none (po_some pe_int)) pe_str) (pa_cons (pe_op o_adds (pe_slice o_slS (pv 1) po_none (po_some pe_int)) pe_str) (pa_cons pe_str (pa_cons pe_non (pa_cons pe_int (pa_cons pe_bl (pa_cons (pe_tup (pa_cons (pv 1) pa_nil)) (pa_cons (pe_lst (pa_cons (pv 1) pa_nil)) pa_nil)))))))))))
      (pss_one (ps_ret (pe_ix (ixK K ix_seq) (pv 2) (pe_fn G_law_draw hr (pa_cons (pv 0) (pa_cons (pe_callB (crK K c_len) rfl B.len (by decide +kernel) (pa_cons (pv 2) pa_nil)) pa_nil))) (fun _ _ => rfl)))))), ?_⟩
    refine r_start (σ' := [some (.ref p), some (.str n), none]) rfl ?_
    obtain ⟨g1, g2, g3⟩ := id gn
    have c7 := cut_le n none (some 7)
    walk_at "a"
    refine r_adds (by rw [sizeLine_eq]; show n.length + 8 ≤ _; omega) ?_
    walk_at "a"
    refine r_tM0 ?_
    walk_at "a"
    refine ⟨⟨_, rfl⟩, _, rfl, rfl, by omega, ?_⟩
    walk_at "a"
    refine r_slS (by rw [sizeLine_eq]; omega) ?_
    walk_at "a"
    refine r_adds (by rw [sizeLine_eq]; show (cutS n none (some 7)).length + 1 ≤ _; omega) ?_
    walk_at "a"
    refine r_slS (by rw [sizeLine_eq]; omega) ?_
    walk_at "a"
    refine r_adds (by rw [sizeLine_eq]; show 1 + (cutS n none (some 7)).length ≤ _; omega) ?_
    walk_at "a"
    refine r_slS (by rw [sizeLine_eq]; omega) ?_
    walk_at "a"
    refine r_adds (by rw [sizeLine_eq]; show (cutS n none (some 7)).length + 1 ≤ _; omega) ?_
    walk_at "a"
    refine r_slS (by rw [sizeLine_eq]; omega) ?_
    walk_at "a"
    refine r_adds (by rw [sizeLine_eq]; show (cutS n none (some 7)).length + 1 ≤ _; omega) ?_
    walk_at "a"
    rename_i l1 H1 n1 s1 e1
    refine r_slS (by rw [sizeLine_eq]; omega) ?_
    walk_at "a"
    refine r_adds (by rw [sizeLine_eq]; show (cutS n none (some 7)).length + 1 ≤ _; omega) ?_
    walk_at "a"
    refine r_slS (by rw [sizeLine_eq]; omega) ?_
    walk_at "a"
    refine r_adds (by rw [sizeLine_eq]; show (cutS n none (some 7)).length + 1 ≤ _; omega) ?_
    walk_at "a"
    rename_i t2 H2 n2 s2 e2 l3 H3 n3 s3 e3 l4 H4 n4 s4 e4 l5 H5 n5 s5 e5
    have s35 := s4.trans s5
    have s05 := ((s1.trans s2).trans s3).trans s35
    have hp5 := hp.same s05
    refine use_take hp5 (by show (0 : Int) < 15; decide) (by show (15 : Int) ≤ _; decide) fun j H6 k6 hp6 j0 j1 => ?_
    have j1 : j < 15 := j1
    have t56 := hp5.text k6
    have l3p : l3 ≠ p := fun z => by
      obtain ⟨a, b, c, e', _⟩ := hp5.ex
      have e := s35 _ _ e3
      rw [z, e'] at e
      cases e
    have e6 : H6 l5 = some (.lst [V.str (Str.ofString ""), V.str (n ++ Str.ofString "abcdefgh"), V.str (Txt.upper n), V.str (cutS n none (some 7) ++ Str.ofString "1"), V.str (Str.ofString " " ++ cutS n none (some 7)), V.str (cutS n none (some 7) ++ Str.ofString " "), V.str (cutS n none (some 7) ++ Str.ofString "\n"), V.str (cutS n none (some 7) ++ Str.ofString "{"), V.str (cutS n none (some 7) ++ Str.ofString "`"), V.str (Str.ofString "_"), V.non, V.int 7, V.bl true, V.ref t2, V.ref l3]) := k6 _ _ e5 ((hp.same (((s1.trans s2).trans s3).trans s4)).ne_new n5)
    have k06 : Keep (At p) H H6 := (Keep.of_same s05).trans k6
    have fin : ∀ {x : V} {d : PyData}, atI [V.str (Str.ofString ""), V.str (n ++ Str.ofString "abcdefgh"), V.str (Txt.upper n), V.str (cutS n none (some 7) ++ Str.ofString "1"), V.str (Str.ofString " " ++ cutS n none (some 7)), V.str (cutS n none (some 7) ++ Str.ofString " "), V.str (cutS n none (some 7) ++ Str.ofString "\n"), V.str (cutS n none (some 7) ++ Str.ofString "{"), V.str (cutS n none (some 7) ++ Str.ofString "`"), V.str (Str.ofString "_"), V.non, V.int 7, V.bl true, V.ref t2, V.ref l3] j = some x → Dp K H6 x d → (∀ s, x = .str s → s.length ≤ 1000000) → (¬ ∃ s, x = .str s ∧ goodName s) → rIx K (V.ref l5) (V.int j) H6 Q :=
      fun {x d} hx hd hl hb => r_ixl (SqL.of e6) hx (q x d H6 k06 hp6 hd hl hb)
    have bs : ∀ {t : Str} {c : Nat}, t.length ≤ 9 → c ∈ TL.tl t → (c < 97 ∨ 122 < c) → (∀ s, V.str t = .str s → s.length ≤ 1000000) ∧ ¬ ∃ s, V.str t = .str s ∧ goodName s := fun {t c} h1 h2 h3 => ⟨fun s e => by cases e; omega, fun ⟨s, e, g⟩ => by cases e; exact bad_of h2 h3 g⟩
    have la : ∀ (a b : Str), (a ++ b).length = a.length + b.length := fun a b => by rw [len_tl, TL.tl_append, List.length_append, ← len_tl, ← len_tl]
    have mr : ∀ (a b : Str) (c : Nat), c ∈ TL.tl b → c ∈ TL.tl (a ++ b) := fun a b c h => by rw [TL.tl_append]; exact List.mem_append_right _ h
    have ml : ∀ (a b : Str) (c : Nat), c ∈ TL.tl a → c ∈ TL.tl (a ++ b) := fun a b c h => by rw [TL.tl_append]; exact List.mem_append_left _ h
    have one : ∀ t : Str, t.length = 1 → (cutS n none (some 7) ++ t).length ≤ 9 := fun t h => by rw [la]; omega
    have no : ∀ {x : V}, (∀ s, x ≠ .str s) → (∀ s, x = .str s → s.length ≤ 1000000) ∧ ¬ ∃ s, x = .str s ∧ goodName s := fun {x} h => ⟨fun s e => absurd e (h s), fun ⟨s, e, _⟩ => absurd e (h s)⟩
    obtain rfl | rfl | rfl | rfl | rfl | rfl | rfl | rfl | rfl | rfl | rfl | rfl | rfl | rfl | rfl : j = 0 ∨ j = 1 ∨ j = 2 ∨ j = 3 ∨ j = 4 ∨ j = 5 ∨ j = 6 ∨ j = 7 ∨ j = 8 ∨ j = 9 ∨ j = 10 ∨ j = 11 ∨ j = 12 ∨ j = 13 ∨ j = 14 := by omega
    · exact fin rfl (.str _) (fun s e => by cases e; decide +kernel) (fun ⟨s, e, g⟩ => by cases e; exact absurd g.1 (by decide +kernel))
    · refine fin rfl (.str _) (fun s e => by cases e; rw [la]; show n.length + 8 ≤ _; omega) (fun ⟨s, e, g⟩ => ?_)
      cases e
      have := g.2.1
      rw [la] at this
      have : n.length + 8 ≤ 8 := this
      omega
    · refine fin rfl (.str _) (fun s e => ?_) (fun ⟨s, e, g⟩ => ?_)
      · cases e
        have := PyProof.Rows.len_upper n
        omega
      · cases e
        rw [PyProof.Rows.upper_ascii (x := n) (fun c hc => by have := g3 c hc; omega)] at g
        obtain ⟨c, r, er⟩ : ∃ c r, n.cps.toList = c :: r := by
          rw [len_tl] at g1
          cases h : TL.tl n with
          | nil => rw [h] at g1; exact absurd g1 (by decide)
          | cons c r => exact ⟨c, r, h⟩
        have hc := g3 c (by show c ∈ n.cps.toList; rw [er]; exact List.mem_cons_self ..)
        refine bad_of (c := PyProof.Rows.up1 c) ?_ ?_ g
        · show PyProof.Rows.up1 c ∈ (n.cps.map PyProof.Rows.up1).toList
          rw [Array.toList_map, er]
          exact List.mem_cons_self ..
        · unfold PyProof.Rows.up1
          rw [if_pos hc]
          omega
    · obtain ⟨h1, h2⟩ := bs (t := cutS n none (some 7) ++ Str.ofString "1") (c := 49) (one _ (by decide +kernel)) (mr _ _ _ (by decide +kernel)) (by decide)
      exact fin rfl (.str _) h1 h2
    · obtain ⟨h1, h2⟩ := bs (t := Str.ofString " " ++ cutS n none (some 7)) (c := 32) (by rw [la]; show 1 + _ ≤ _; omega) (ml _ _ _ (by decide +kernel)) (by decide)
      exact fin rfl (.str _) h1 h2
    · obtain ⟨h1, h2⟩ := bs (t := cutS n none (some 7) ++ Str.ofString " ") (c := 32) (one _ (by decide +kernel)) (mr _ _ _ (by decide +kernel)) (by decide)
      exact fin rfl (.str _) h1 h2
    · obtain ⟨h1, h2⟩ := bs (t := cutS n none (some 7) ++ Str.ofString "\n") (c := 10) (one _ (by decide +kernel)) (mr _ _ _ (by decide +kernel)) (by decide)
      exact fin rfl (.str _) h1 h2
    · obtain ⟨h1, h2⟩ := bs (t := cutS n none (some 7) ++ Str.ofString "{") (c := 123) (one _ (by decide +kernel)) (mr _ _ _ (by decide +kernel)) (by decide)
      exact fin rfl (.str _) h1 h2
    · obtain ⟨h1, h2⟩ := bs (t := cutS n none (some 7) ++ Str.ofString "`") (c := 96) (one _ (by decide +kernel)) (mr _ _ _ (by decide +kernel)) (by decide)
      exact fin rfl (.str _) h1 h2
    · obtain ⟨h1, h2⟩ := bs (t := Str.ofString "_") (c := 95) (by decide +kernel) (by decide +kernel) (by decide)
      exact fin rfl (.str _) h1 h2
    · obtain ⟨h1, h2⟩ := no (x := V.non) (by intro s z; cases z)
      exact fin rfl .non h1 h2
    · obtain ⟨h1, h2⟩ := no (x := V.int 7) (by intro s z; cases z)
      exact fin rfl (.int _) h1 h2
    · obtain ⟨h1, h2⟩ := no (x := V.bl true) (by intro s z; cases z)
      exact fin rfl (.bl _) h1 h2
    · obtain ⟨h1, h2⟩ := no (x := V.ref t2) (by intro s z; cases z)
      exact fin rfl (.tup (SqT.text ((TExt.of_same (s3.trans s35)).trans t56) (SqT.of e2)) (.cons (.str n) .nil)) h1 h2
    · obtain ⟨h1, h2⟩ := no (x := V.ref l3) (by intro s z; cases z)
      exact fin rfl (.lst (SqL.of (k6 _ _ (s35 _ _ e3) l3p)) (.cons (.str n) .nil)) h1 h2
end
theorem use_no_name {K : PySem.W.Frag} {H : Hp} {Q : VK} {E : XK} {p : Addr} {n : Str} (hp : Pot H p) (gn : goodName n) (q : ∀ (v : V) (d : PyData) H', Keep (At p) H H' → Pot H' p → Dp K H' v d → (∀ s, v = .str s → s.length ≤ 1000000) → (¬ ∃ s, v = .str s ∧ goodName s) → Q v H') : sp_no_name K [.ref p, .str n] H Q E := ⟨p, n, rfl, hp, gn, q⟩
/-! ### refused -/
def sp_other (X : Addr) (p : Addr × Obj) : Sp := fun vs H Q _ => vs = [.ref p.1] ∧ (∃ vs, p.2.data = .fields vs) ∧ Zc (.ref X) none p.2 ∧ ∀ H', Same H H' → Q (.bl false) H'
section
variable {P : Program} {w : World} {K : PySem.W.Frag} {mg : Str → Option Value} {base : Heap}
theorem ok_law_other (B : Blt mg) (D : Def K mg "_law_other" s_law_other ["_law_e"]) {E_NoColumn : Addr} (X_NoColumn : Exc K mg "NoColumn" E_NoColumn) {E_NoSample : Addr} (X_NoSample : Exc K mg "NoSample" E_NoSample) {E_NoText : Addr} (X_NoText : Exc K mg "NoText" E_NoText) {E_NoWatch : Addr} (X_NoWatch : Exc K mg "NoWatch" E_NoWatch) {E_NotApart : Addr} (X_NotApart : Exc K mg "NotApart" E_NotApart) {E_NotHalf : Addr} (X_NotHalf : Exc K mg "NotHalf" E_NotHalf) {E_OutOfTimes : Addr} (X_OutOfTimes : Exc K mg "OutOfTimes" E_OutOfTimes) {E_NoName : Addr} (X_NoName : Exc K mg "NoName" E_NoName) (Y_NoName : ExcC K E_NoName) (W_NoName_NoColumn : PySem.W.kitOne K (.ref E_NoName) (.ref E_NoColumn) = some false) (Z_NoName_NoColumn : PySem.W.exmOne K (.ref E_NoName) (.ref E_NoColumn) = some false) (W_NoName_NoSample : PySem.W.kitOne K (.ref E_NoName) (.ref E_NoSample) = some false) (Z_NoName_NoSample : PySem.W.exmOne K (.ref E_NoName) (.ref E_NoSample) = some false) (W_NoName_NoText : PySem.W.kitOne K (.ref E_NoName) (.ref E_NoText) = some false) (Z_NoName_NoText : PySem.W.exmOne K (.ref E_NoName) (.ref E_NoText) = some false) (W_NoName_NoWatch : PySem.W.kitOne K (.ref E_NoName) (.ref E_NoWatch) = some false) (Z_NoName_NoWatch : PySem.W.exmOne K (.ref E_NoName) (.ref E_NoWatch) = some false) (W_NoName_NotApart : PySem.W.kitOne K (.ref E_NoName) (.ref E_NotApart) = some false) (Z_NoName_NotApart : PySem.W.exmOne K (.ref E_NoName) (.ref E_NotApart) = some false) (W_NoName_NotHalf : PySem.W.kitOne K (.ref E_NoName) (.ref E_NotHalf) = some false) (Z_NoName_NotHalf : PySem.W.exmOne K (.ref E_NoName) (.ref E_NotHalf) = some false) (W_NoName_OutOfTimes : PySem.W.kitOne K (.ref E_NoName) (.ref E_OutOfTimes) = some false) (Z_NoName_OutOfTimes : PySem.W.exmOne K (.ref E_NoName) (.ref E_OutOfTimes) = some false) (W_NoName_NoName : PySem.W.kitOne K (.ref E_NoName) (.ref E_NoName) = some true) (Z_NoName_NoName : PySem.W.exmOne K (.ref E_NoName) (.ref E_NoName) = some true) :
    FnX P w K mg base 1 "_law_other" ["_law_e"] (sp_other E_NoName) := by
  refine D.okE sc_law_other (fun p vs H Q E h => ?_) (fun f cdv A outer s H vs Q E p hr h => ?_)
  · obtain ⟨rfl, hf, hz, q⟩ := h
    rfl
  · obtain ⟨rfl, hf, hz, q⟩ := h
    refine ⟨_, (pss_one (ps_ret (pe_callB (c_isPK K (p := p) (List.mem_singleton.mpr rfl)) rfl B.isinstance (by decide +kernel) (pa_cons (pv 0) (pa_cons (pe_tup (pa_cons (pe_glob (v := .ref E_NoColumn) rfl X_NoColumn.g rfl) (pa_cons (pe_glob (v := .ref E_NoSample) rfl X_NoSample.g rfl) (pa_cons (pe_glob (v := .ref E_NoText) rfl X_NoText.g rfl) (pa_cons (pe_glob (v := .ref E_NoWatch) rfl X_NoWatch.g rfl) (pa_cons (pe_glob (v := .ref E_NotApart) rfl X_NotApart.g rfl) (pa_cons (pe_glob (v := .ref E_NotHalf) rfl X_NotHalf.g rfl) (pa_cons (pe_glob (v := .ref E_OutOfTimes) rfl X_OutOfTimes.g rfl) pa_nil)))))))) pa_nil))))), ?_⟩
    refine r_start (σ' := [some (.ref p.1)]) rfl ?_
    walk_at "a"
    rename_i t1 H1 n1 s1 e1
    refine r_isPT hz hf Y_NoName (Ts := [E_NoColumn, E_NoSample, E_NoText, E_NoWatch, E_NotApart, E_NotHalf, E_OutOfTimes]) e1 (.cons W_NoName_NoColumn (.cons W_NoName_NoSample (.cons W_NoName_NoText (.cons W_NoName_NoWatch (.cons W_NoName_NotApart (.cons W_NoName_NotHalf (.cons W_NoName_OutOfTimes .nil))))))) ?_
    exact q _ s1
end
def sp_refused (K : PySem.W.Frag) (CB CS : Addr) : Sp := fun vs H Q _ => ∃ (p sd : Addr) (es : List Ent) (v : V) (d : PyData), vs = [.ref p, v] ∧ BoardAt K CB CS H p sd es ∧ Dp K H v d ∧ (∀ s, v = .str s → s.length ≤ 1000000) ∧ es.length < 60 ∧ (¬ ∃ s, v = .str s ∧ goodName s) ∧ ∀ H', Same H H' → Q (.str (Str.ofString "refused")) H'
section
variable {P : Program} {w : World} {K : PySem.W.Frag} {mg : Str → Option Value} {base : Heap}
theorem ok_law_refused (B : Blt mg) {A_Store : Addr} (T_Store : ClT K mg "Store" A_Store) (N_Store_heights : NoAttr K A_Store "heights") (N_Store_by_stretches : NoAttr K A_Store "by_stretches") (N_Store_deeds : NoAttr K A_Store "deeds") (N_Store_deed_times : NoAttr K A_Store "deed_times") (N_Store_watches : NoAttr K A_Store "watches") {A_Board : Addr} (T_Board : ClT K mg "Board" A_Board) (N_Board_stores : NoAttr K A_Board "stores") (D : Def K mg "_law_refused" s_law_refused ["_law_board", "_law_thing"]) {E_FourPointsError : Addr} (X_FourPointsError : Exc K mg "FourPointsError" E_FourPointsError) {E_NoName : Addr} (X_NoName : Exc K mg "NoName" E_NoName) (Y_NoName : ExcC K E_NoName) (W_NoName_FourPointsError : PySem.W.kitOne K (.ref E_NoName) (.ref E_FourPointsError) = some true) (Z_NoName_FourPointsError : PySem.W.exmOne K (.ref E_NoName) (.ref E_FourPointsError) = some true) (W_NoName_NoName : PySem.W.kitOne K (.ref E_NoName) (.ref E_NoName) = some true) (Z_NoName_NoName : PySem.W.exmOne K (.ref E_NoName) (.ref E_NoName) = some true) (G_Board_store : MFn P w K mg base 6 A_Board "store" ["self", "name"] (sp_b_store K A_Board A_Store E_NoName)) (G_law_other : FnX P w K mg base 1 "_law_other" ["_law_e"] (sp_other E_NoName)) :
    Fn P w K mg base 7 "_law_refused" ["_law_board", "_law_thing"] (sp_refused K A_Board A_Store) := by
  refine D.ok sc_law_refused (fun vs H Q E h => ?_) (fun f cdv A outer s H vs Q E hr h => ?_)
  · obtain ⟨p, sd, es, v, d, rfl, Bo, hd, hl, le, hn, q⟩ := h
    rfl
  · obtain ⟨p, sd, es, v, d, rfl, Bo, hd, hl, le, hn, q⟩ := h
    refine ⟨_, (pss_cons (ps_set (i := 2) sc_law_refused.nd rfl (Or.inl rfl) pe_str)
      (pss_cons (ps_tryAs (K := K) (i := 3) rfl rfl rfl sc_law_refused.nd rfl rfl ⟨rfl, by decide, .inl X_FourPointsError.g⟩ (fun W pn xe tk => (pss_one (ps_expr (pe_methS G_Board_store hr T_Board.cl (fun σ => passAt tk σ) (pv 0) (pa_cons (pv 1) pa_nil)))))
      (fun a oe cls d pn hz hf => (pss_one (ps_set (i := 2) sc_law_refused.nd rfl (Or.inl rfl) (pe_ifExp (PW.pt (pw_and (pt_val (pe_callB (c_isEK K hz hf) rfl B.isinstance (by decide +kernel) (pa_cons (pv 3) (pa_cons (pe_glob (v := .ref E_NoName) rfl X_NoName.g rfl) pa_nil)))) (pw_and1 (pt_not (pt_val (pe_callErr G_law_other hr hz hf (pa_cons (pv 3) pa_nil))))))) pe_str pe_str)))))
      (pss_one (ps_ret (pv 2))))), ?_⟩
    refine r_start (σ' := [some (.ref p), some (v), none, none]) rfl ?_
    obtain ⟨dx, ob⟩ := Bo.ob
    walk_at "a"
    refine ⟨p, sd, es, v, d, rfl, Bo, hd, hl, le, fun _ H1 s1 => ?_, fun s e g => absurd ⟨s, e, g⟩ hn, fun s e g => absurd ⟨s, e, g⟩ hn⟩
    refine r_wAs Z_NoName_FourPointsError fun e' he => ?_
    walk_at "a"
    refine r_isE Y_NoName W_NoName_NoName ?_
    walk_at "a"
    refine r_callErr ?_
    walk_at "a"
    intro oe hz hf
    refine ⟨rfl, hf, hz, fun H2 s2 => ?_⟩
    walk_at "a"
    exact q _ (s1.trans s2)
end
theorem use_refused {K : PySem.W.Frag} {CB CS : Addr} {H : Hp} {Q : VK} {E : XK} {p sd : Addr} {es : List Ent} {v : V} {d : PyData} (B : BoardAt K CB CS H p sd es) (hd : Dp K H v d) (hl : ∀ s, v = .str s → s.length ≤ 1000000) (le : es.length < 60) (hn : ¬ ∃ s, v = .str s ∧ goodName s) (q : ∀ H', Same H H' → Q (.str (Str.ofString "refused")) H') : sp_refused K CB CS [.ref p, v] H Q E := ⟨p, sd, es, v, d, rfl, B, hd, hl, le, hn, q⟩
/-! ### the board and what the law holds beside it -/
theorem good_ok {s : Str} (h : goodName s) : PyData.strOk s = true := by
  unfold PyData.strOk
  rw [Array.all_eq_true]
  intro i hi
  have := h.2.2 s.cps[i] (by show _ ∈ s.cps.toList; simp)
  exact decide_eq_true (by omega)
theorem shp_strs {ys : List Str} (h : ∀ s ∈ ys, goodName s) : Shp 1 (.list (ys.map PyData.str)) := Shp.list (n := 0) fun d hd => by
  obtain ⟨s, hs, rfl⟩ := List.mem_map.mp hd
  exact ⟨by simp [PyData.canLay0, good_ok (h s hs)], by simp [PyData.depth]⟩
theorem use_b_two {K : PySem.W.Frag} {CB CS X : Addr} {H : Hp} {Q : VK} {E : XK} {p sd : Addr} {es : List Ent} {n : Str} (B : BoardAt K CB CS H p sd es) (g : goodName n) (hn : es.length < 60)
    (q : ∀ (es1 : List Ent) (i : Nat) (f : Ent) H', Keep (At sd) H H' → TExt H H' → BoardAt K CB CS H' p sd es1 → es1[i]? = some f → f.name = n → (es1 = es ∨ (n ∉ namesE es ∧ i = es.length ∧ es1 = es ++ [f] ∧ f.c = [] ∧ f.z = 0 ∧ ∀ x ∈ f.a.all, H x = none)) → Q (.ref f.a.p) H') : sp_b_store K CB CS X [.ref p, .str n] H Q E := by
  by_cases hin : n ∈ namesE es
  · obtain ⟨f, hf, ef⟩ := List.mem_map.mp hin
    obtain ⟨i, hi⟩ := List.getElem?_of_mem hf
    exact use_b_known B g hn hi ef fun H' s => q es i f H' (Keep.of_same s) (TExt.of_same s) (B.same s) hi ef (.inl rfl)
  · exact use_b_new B g hn hin fun a H' k t B' fr => q _ es.length ⟨n, a, [], [], [], [], 0⟩ H' k t B' (by simp) rfl (.inr ⟨hin, rfl, rfl, rfl, rfl, fr⟩)
theorem stores_set {H : Hp} {Q : VK} {st : Addr} {es es1 : List Ent} {i : Nat} {f : Ent} (e : H st = some (.dK (dkv es))) (nd : (namesE es1).Nodup) (hl : es.length < 60) (hi : es1[i]? = some f)
    (alt : es1 = es ∨ (f.name ∉ namesE es ∧ es1 = es ++ [f])) (q : ∀ H', Keep (At st) H H' → H' st = some (.dK (dkv es1)) → Q (.ref f.a.p) H') : uDSetb st (.str f.name) (.ref f.a.p) H Q := by
  refine ⟨dkv es, Sum.inr f.name, e, rfl, by unfold dkv; rw [List.length_map, sizeLine_eq]; omega, fun v hv => ?_, fun hv => ?_⟩
  · rcases alt with rfl | ⟨h, _⟩
    · rw [dkv_some nd (List.mem_of_getElem? hi)] at hv
      cases hv
      exact q H (Keep.refl _) e
    · rw [dkv_none h] at hv
      cases hv
  · rcases alt with rfl | ⟨h, rfl⟩
    · rw [dkv_some nd (List.mem_of_getElem? hi)] at hv
      cases hv
    · refine q _ Keep.at_ ?_
      rw [upd_same, put_not (by rw [dkv_keys]; exact fun z => by obtain ⟨t, ht, e⟩ := List.mem_map.mp z; injection e with e; exact h (by rw [← e]; exact ht))]
      unfold dkv
      rw [List.map_append]
      rfl
abbrev emE (es : List Ent) : List (Str × Prs) := es.map fun f => (f.name, f.c)
abbrev emC (cs : List Cur) : List (Str × Prs) := cs.map fun e => (e.name, e.c)
theorem em_nm {es : List Ent} {cs : List Cur} (em : emE es = emC cs) : namesE es = cs.map (·.name) := by
  have := congrArg (List.map fun q : Str × Prs => q.1) em
  rw [List.map_map, List.map_map] at this
  exact this
theorem em_at {es : List Ent} {cs : List Cur} (em : emE es = emC cs) {i : Nat} {f : Ent} {e : Cur} (hf : es[i]? = some f) (he : cs[i]? = some e) : f.name = e.name ∧ f.c = e.c := by
  have := congrArg (fun l => l[i]?) em
  simp only [List.getElem?_map, hf, he, Option.map_some] at this
  injection this with this
  injection this with h1 h2
  exact ⟨h1, h2⟩
/-- curves.setdefault(name, {}), beside a board that has the name already -/
theorem curves_two {H1 H : Hp} {Q : VK} {D p : Addr} {cs : List Cur} {es es1 : List Ent} {i : Nat} {f : Ent} (C : CurvesAt H1 D cs) (hz : cs.length < 60) (n : H1 p = none) (sm : Same H1 H) (e : H p = some (.dK [])) (em : emE es = emC cs) (hi : es1[i]? = some f)
    (alt : es1 = es ∨ (f.name ∉ namesE es ∧ i = es.length ∧ es1 = es ++ [f] ∧ f.c = []))
    (q : ∀ (cs1 : List Cur) (g : Cur) H', Keep (At D) H H' → CurvesAt H' D cs1 → cs1[i]? = some g → emE es1 = emC cs1 → (∀ x ∈ cAll D cs1, x ∈ cAll D cs ∨ x = p) → Q (.ref g.a) H') : uDSetb D (.str f.name) (.ref p) H Q := by
  have C2 := C.same sm
  have el : es.length = cs.length := by
    have := congrArg List.length em
    rwa [List.length_map, List.length_map] at this
  have hn0 : valV (ckv cs) (Sum.inr f.name) = none → f.name ∉ cs.map (·.name) := fun hv z => by
    obtain ⟨g, hg, eg⟩ := List.mem_map.mp z
    have h2 := C.val hg
    rw [show g.name = f.name from eg, hv] at h2
    cases h2
  refine ⟨ckv cs, Sum.inr f.name, C2.dd, rfl, by unfold ckv; rw [List.length_map, sizeLine_eq]; omega, fun v hv => ?_, fun hv => ?_⟩
  · rcases alt with rfl | ⟨h, _⟩
    · obtain ⟨li, _⟩ := List.getElem?_eq_some_iff.mp hi
      obtain ⟨g, hg⟩ : ∃ g, cs[i]? = some g := ⟨_, List.getElem?_eq_getElem (by omega)⟩
      obtain ⟨e1, e2⟩ := em_at em hi hg
      have h2 := C.val (List.mem_of_getElem? hg)
      rw [← e1, hv] at h2
      cases h2
      exact q cs g H (Keep.refl _) C2 hg em fun x hx => .inl hx
    · exfalso
      obtain ⟨g, hg, eg⟩ := List.mem_map.mp (ckv_has hv)
      rw [em_nm em] at h
      exact h (List.mem_map.mpr ⟨g, hg, eg⟩)
  · have hn := hn0 hv
    rcases alt with rfl | ⟨h, hil, rfl, hc⟩
    · exfalso
      rw [← em_nm em] at hn
      exact hn (List.mem_map.mpr ⟨f, List.mem_of_getElem? hi, rfl⟩)
    · have pd : p ≠ D := fun z => by rw [z] at n; exact C.live (mem_call.mpr (.inl rfl)) n
      have pn : ∀ g ∈ cs, g.a ≠ p := fun g hg z => by rw [← z] at n; exact (C.st g hg).live n
      have k : Keep (At D) H (upd H D (.dK (putK (ckv cs) (Sum.inr f.name) (.ref p)))) := Keep.at_
      refine q (cs ++ [⟨f.name, p, []⟩]) ⟨f.name, p, []⟩ _ k ⟨by rw [upd_same, ckv_put hn], ?_, fun g hg => ?_, ?_, fun g hg => ?_⟩ (by rw [hil, el]; simp) (by show (es ++ [f]).map _ = (cs ++ [_]).map _; rw [List.map_append, List.map_append, show es.map (fun f => (f.name, f.c)) = cs.map (fun e => (e.name, e.c)) from em]; simp [hc]) (fun x hx => ?_)
      · rw [List.map_append]
        refine List.nodup_append.mpr ⟨C.nd, by simp, fun x hx y hy => ?_⟩
        have ey : y = f.name := by simpa using hy
        rw [ey]
        exact fun z => hn (by rw [← z]; exact hx)
      · rcases List.mem_append.mp hg with hg | hg
        · exact (C2.st g hg).keep k (C.own g hg)
        · rw [List.mem_singleton.mp hg]
          exact ⟨⟨[], k _ _ e pd, by simp, by simp⟩, crv_nil⟩
      · rw [List.map_append]
        refine List.nodup_append.mpr ⟨C.sep, by simp, fun x hx y hy => ?_⟩
        have ey : y = p := by simpa using hy
        obtain ⟨g, hg, eg⟩ := List.mem_map.mp hx
        rw [ey, ← eg]
        exact pn g hg
      · rcases List.mem_append.mp hg with hg | hg
        · exact C.own g hg
        · rw [List.mem_singleton.mp hg]
          exact pd
      · rcases mem_call.mp hx with rfl | ⟨g, hg, rfl⟩
        · exact .inl (mem_call.mpr (.inl rfl))
        · rcases List.mem_append.mp hg with hg | hg
          · exact .inl (mem_call.mpr (.inr ⟨g, hg, rfl⟩))
          · rw [List.mem_singleton.mp hg]
            exact .inr rfl
/-- all of it -/
structure All (K : PySem.W.Frag) (CB CS : Addr) (H : Hp) (p bp sd ob od st cd : Addr) (es : List Ent) (cs : List Cur) (l n : Nat) : Prop where
  pot : Pot H p
  B : BoardAt K CB CS H bp sd es
  O : BoardAt K CB CS H ob od []
  S : H st = some (.dK (dkv es))
  C : CurvesAt H cd cs
  em : emE es = emC cs
  ln : es.length ≤ l
  bz : ∀ f ∈ es, f.z ≤ n ∧ f.c.length ≤ n
  gn : ∀ e ∈ cs, goodName e.name
  pB : p ∉ bAll bp sd es
  pO : p ∉ bAll ob od []
  sB : st ∉ bAll bp sd es
  sO : st ∉ bAll ob od []
  sC : st ∉ cAll cd cs
  cB : ∀ x ∈ cAll cd cs, x ∉ bAll bp sd es
  cO : ∀ x ∈ cAll cd cs, x ∉ bAll ob od []
  oB : ∀ x ∈ bAll ob od [], x ∉ bAll bp sd es
theorem All.draw {K : PySem.W.Frag} {CB CS : Addr} {H H' : Hp} {p bp sd ob od st cd : Addr} {es : List Ent} {cs : List Cur} {l n : Nat} (A : All K CB CS H p bp sd ob od st cd es cs l n) (k : Keep (At p) H H') (hp : Pot H' p) : All K CB CS H' p bp sd ob od st cd es cs l n := by
  have sp : st ≠ p := fun z => by
    obtain ⟨_, _, _, e, _⟩ := A.pot.ex
    have := A.S
    rw [z, e] at this
    cases this
  exact ⟨hp, A.B.other k (A.pot.text k) A.pB, A.O.other k (A.pot.text k) A.pO, k _ _ A.S sp, A.C.pot A.pot k, A.em, A.ln, A.bz, A.gn, A.pB, A.pO, A.sB, A.sO, A.sC, A.cB, A.cO, A.oB⟩
theorem All.same {K : PySem.W.Frag} {CB CS : Addr} {H H' : Hp} {p bp sd ob od st cd : Addr} {es : List Ent} {cs : List Cur} {l n : Nat} (A : All K CB CS H p bp sd ob od st cd es cs l n) (s : Same H H') : All K CB CS H' p bp sd ob od st cd es cs l n :=
  ⟨A.pot.same s, A.B.same s, A.O.same s, s _ _ A.S, A.C.same s, A.em, A.ln, A.bz, A.gn, A.pB, A.pO, A.sB, A.sO, A.sC, A.cB, A.cO, A.oB⟩
theorem ball_two {H : Hp} {bp sd : Addr} {es es1 : List Ent} {f : Ent} (alt : es1 = es ∨ (es1 = es ++ [f] ∧ ∀ x ∈ f.a.all, H x = none)) {x : Addr} (hx : x ∉ bAll bp sd es) (hl : H x ≠ none) : x ∉ bAll bp sd es1 := by
  rcases alt with rfl | ⟨rfl, fr⟩
  · exact hx
  · intro z
    rcases mem_ball.mp z with z | z | ⟨e, he, z⟩
    · exact hx (mem_ball.mpr (.inl z))
    · exact hx (mem_ball.mpr (.inr (.inl z)))
    · rcases List.mem_append.mp he with he | he
      · exact hx (mem_ball.mpr (.inr (.inr ⟨e, he, z⟩)))
      · rw [List.mem_singleton.mp he] at z
        exact hl (fr x z)
/-- a turn's first half: the store is asked for, both dicts have the name -/
structure Mid (K : PySem.W.Frag) (CB CS : Addr) (H : Hp) (p bp sd ob od st cd : Addr) (es : List Ent) (cs : List Cur) (l n i : Nat) (f : Ent) (g : Cur) (nm : Str) : Prop where
  A : All K CB CS H p bp sd ob od st cd es cs l n
  hf : es[i]? = some f
  hg : cs[i]? = some g
  nf : f.name = nm
theorem dkv_set {es : List Ent} {i : Nat} {f f' : Ent} (hi : es[i]? = some f) (hn : f'.name = f.name) (ha : f'.a.p = f.a.p) : dkv (es.set i f') = dkv es := by
  unfold dkv
  refine List.ext_getElem? fun j => ?_
  rw [List.getElem?_map, List.getElem?_map, List.getElem?_set]
  split
  · next h =>
    subst h
    obtain ⟨l, _⟩ := List.getElem?_eq_some_iff.mp hi
    try rw [if_pos l]
    rw [hi]
    simp [hn, ha]
  · rfl
theorem ball_set {bp sd : Addr} {es : List Ent} {i : Nat} {f f' : Ent} (hi : es[i]? = some f) (ha : f'.a = f.a) {x : Addr} (h : x ∉ bAll bp sd es) : x ∉ bAll bp sd (es.set i f') := fun z => by
  rcases mem_ball.mp z with y | y | ⟨e, he, y⟩
  · exact h (mem_ball.mpr (.inl y))
  · exact h (mem_ball.mpr (.inr (.inl y)))
  · rcases List.mem_or_eq_of_mem_set he with he | rfl
    · exact h (mem_ball.mpr (.inr (.inr ⟨e, he, y⟩)))
    · rw [ha] at y
      exact h (mem_ball.mpr (.inr (.inr ⟨f, List.mem_of_getElem? hi, y⟩)))
abbrev putEnt (f : Ent) (t h : Int) : Ent := ⟨f.name, f.a, insC f.c t h, (t, f.c) :: f.hs, f.ts ++ [t], f.ws, f.z + 1⟩
abbrev putCur (g : Cur) (t h : Int) : Cur := ⟨g.name, g.a, insC g.c t h⟩
theorem call_set2 {cd : Addr} {cs : List Cur} {i : Nat} {g g' : Cur} (hi : cs[i]? = some g) (ha : g'.a = g.a) {x : Addr} (h : x ∈ cAll cd (cs.set i g')) : x ∈ cAll cd cs := by
  rcases mem_call.mp h with rfl | ⟨e, he, rfl⟩
  · exact mem_call.mpr (.inl rfl)
  · rcases List.mem_or_eq_of_mem_set he with he | rfl
    · exact mem_call.mpr (.inr ⟨e, he, rfl⟩)
    · rw [ha]
      exact mem_call.mpr (.inr ⟨g, List.mem_of_getElem? hi, rfl⟩)
/-- .. its second half: both are put -/
theorem Mid.put {K : PySem.W.Frag} {CB CS : Addr} {H H1 H2 : Hp} {p bp sd ob od st cd : Addr} {es : List Ent} {cs : List Cur} {l n i : Nat} {f : Ent} {g : Cur} {nm : Str} {t h : Int} (M : Mid K CB CS H p bp sd ob od st cd es cs l n i f g nm)
    (k1 : Keep (At g.a) H H1) (C1 : CurvesAt H1 cd (cs.set i ⟨g.name, g.a, insC g.c t h⟩)) (k2 : Keep (· ∈ f.a.all) H1 H2) (S2 : StoreAt K CS H2 f.a (insC f.c t h) ((t, f.c) :: f.hs) (f.ts ++ [t]) f.ws (f.z + 1)) :
    All K CB CS H2 p bp sd ob od st cd (es.set i ⟨f.name, f.a, insC f.c t h, (t, f.c) :: f.hs, f.ts ++ [t], f.ws, f.z + 1⟩) (cs.set i ⟨g.name, g.a, insC g.c t h⟩) l (n + 1) := by
  obtain ⟨A, hf, hg, nf⟩ := M
  have ga : g.a ∈ cAll cd cs := mem_call.mpr (.inr ⟨g, List.mem_of_getElem? hg, rfl⟩)
  have fa : ∀ x ∈ f.a.all, x ∈ bAll bp sd es := fun x hx => mem_ball.mpr (.inr (.inr ⟨f, List.mem_of_getElem? hf, hx⟩))
  have hS := A.B.st f (List.mem_of_getElem? hf)
  obtain ⟨⟨gm, hgm, _, _⟩, gcr⟩ := A.C.st g (List.mem_of_getElem? hg)
  have t1 : TExt H H1 := k1.text fun x hx => by rw [show x = g.a from hx, hgm]; trivial
  have S1 := hS.keep k1 t1 fun x hx z => A.cB _ ga (by rw [← show x = g.a from z]; exact fa x hx)
  have t2 := S1.text k2
  have gp : g.a ≠ p := fun z => by
    obtain ⟨_, _, _, e, _⟩ := A.pot.ex
    rw [z, e] at hgm
    cases hgm
  have B1 := A.B.other k1 t1 (A.cB _ ga)
  have hst1 := k1 _ _ A.S (fun z => A.sC (by rw [show st = g.a from z]; exact ga))
  obtain ⟨e1, e2⟩ := em_at A.em hf hg
  refine ⟨(A.pot.keep k1 (Ne.symm gp)).keep k2 (fun z => A.pB (fa p z)), B1.one (e' := ⟨f.name, f.a, insC f.c t h, (t, f.c) :: f.hs, f.ts ++ [t], f.ws, f.z + 1⟩) hf rfl rfl S2 k2 t2 (fun x hx => .inl hx), (A.O.other k1 t1 (A.cO _ ga)).keep k2 t2 (fun x hx z => A.oB x hx (fa x z)), ?_, C1.keep k2 (fun x hx z => A.cB x (call_set2 (g' := putCur g t h) hg rfl hx) (fa x z)), ?_, by rw [List.length_set]; exact A.ln, ?_, ?_, ball_set (f' := putEnt f t h) hf rfl A.pB, A.pO, ball_set (f' := putEnt f t h) hf rfl A.sB, A.sO, fun z => A.sC (call_set2 (g' := putCur g t h) hg rfl z), fun x hx => ball_set (f' := putEnt f t h) hf rfl (A.cB x (call_set2 (g' := putCur g t h) hg rfl hx)), fun x hx => A.cO x (call_set2 (g' := putCur g t h) hg rfl hx), fun x hx => ball_set (f' := putEnt f t h) hf rfl (A.oB x hx)⟩
  · rw [dkv_set (f' := putEnt f t h) hf rfl rfl]
    exact k2 _ _ hst1 (fun z => A.sB (fa st z))
  · show (es.set i _).map _ = (cs.set i _).map _
    rw [List.map_set, List.map_set, show es.map (fun f => (f.name, f.c)) = cs.map (fun e => (e.name, e.c)) from A.em, e1, e2]
  · intro x hx
    rcases List.mem_or_eq_of_mem_set hx with hx | rfl
    · have := A.bz x hx
      omega
    · have := A.bz f (List.mem_of_getElem? hf)
      have := len_ins (by rw [e2]; exact gcr.up : f.c.Pairwise fun p q => p.1 < q.1) t h
      refine ⟨by show f.z + 1 ≤ _; omega, ?_⟩
      show (insC f.c t h).length ≤ _
      omega
  · intro x hx
    rcases List.mem_or_eq_of_mem_set hx with hx | rfl
    · exact A.gn x hx
    · exact A.gn g (List.mem_of_getElem? hg)
/-! ### the law's run -/
section
variable {P : Program} {w : World} {K : PySem.W.Frag} {mg : Str → Option Value} {base : Heap}
theorem ok_law {f : Addr} {fd : FuncData} (B : Blt mg) (F : Fun K "law" "law" s_law f fd) {A_Store : Addr} (T_Store : ClT K mg "Store" A_Store) (N_Store_heights : NoAttr K A_Store "heights") (N_Store_by_stretches : NoAttr K A_Store "by_stretches") (N_Store_deeds : NoAttr K A_Store "deeds") (N_Store_deed_times : NoAttr K A_Store "deed_times") (N_Store_watches : NoAttr K A_Store "watches") {A_Board : Addr} (T_Board : ClT K mg "Board" A_Board) (N_Board_stores : NoAttr K A_Board "stores") (G_law_purse : Fn P w K mg base 1 "_law_purse" ["_law_cell_here", "_law_k"] (sp_pot K)) (G_Board___init : PFn P w K mg base 1 A_Board ["self"] (sp_b_init K A_Board)) (G_Board_names : MFn P w K mg base 1 A_Board "names" ["self"] (sp_b_names K A_Board A_Store)) (G_law_cell : Fn P w K mg base 1 "_law_cell" ["_law_script", "_law_k"] (sp_nth K)) (G_law_draw : Fn P w K mg base 1 "_law_draw" ["_law_purse_here", "_law_many"] (sp_take K)) (G_law_named : Fn P w K mg base 2 "_law_named" ["_law_purse_here"] (sp_named K)) (G_Board_store : MFn P w K mg base 6 A_Board "store" ["self", "name"] (sp_b_store K A_Board A_Store E_NoName)) (G_Store_put : MFn P w K mg base 4 A_Store "put" ["self", "t", "h"] (sp_s_put K A_Store E_OutOfTimes)) (G_law_refused : Fn P w K mg base 7 "_law_refused" ["_law_board", "_law_thing"] (sp_refused K A_Board A_Store)) (G_Store_told : MFn P w K mg base 1 A_Store "told" ["self"] (sp_s_told K A_Store)) (G_law_no_name : Fn P w K mg base 2 "_law_no_name" ["_law_purse_here", "_law_name"] (sp_no_name K)) :
    FnOk P w K mg base (L2.CX P w) 8 f fd ["_law_script"] (sp_law K) := by
  refine fn_up (F.ok sc_law (fun vs H Q E h => ?_) (fun cdv A outer s H vs Q E hr h => ?_))
  · obtain ⟨sa, ns, rfl, hS, hl, q⟩ := h
    rfl
  · obtain ⟨sa, ns, rfl, hS, hl, q⟩ := h
    refine ⟨_, (pss_cons (ps_for PassesOwn.never rfl (pi_range1 rfl B.range (pa_cons (pe_callB (c_max2 rfl) rfl B.max (by decide +kernel) (pa_cons pe_int (pa_cons (pe_callB (c_min2 rfl) rfl B.min (by decide +kernel) (pa_cons (pe_callB (crK K c_len) rfl B.len (by decide +kernel) (pa_cons (pv 0) pa_nil)) (pa_cons pe_int pa_nil))) pa_nil))) pa_nil)) (pg_name (i := 1) sc_law.nd rfl (Or.inl rfl))
      (pss_cons (ps_set (i := 2) sc_law.nd rfl (Or.inl rfl) (pe_fn G_law_purse hr (pa_cons (pe_fn G_law_cell hr (pa_cons (pv 0) (pa_cons (pv 1) pa_nil))) (pa_cons (pv 1) pa_nil))))
      (pss_cons (ps_set (i := 3) sc_law.nd rfl (Or.inl rfl) (pe_makeP0No G_Board___init T_Board hr))
      (pss_cons (ps_set (i := 4) sc_law.nd rfl (Or.inl rfl) (pe_makeP0No G_Board___init T_Board hr))
      (pss_cons (ps_set (i := 5) sc_law.nd rfl (Or.inl rfl) pe_dnewK)
      (pss_cons (ps_set (i := 6) sc_law.nd rfl (Or.inl rfl) pe_dnewK)
      (pss_cons (ps_for PassesOwn.never rfl (pi_range1 rfl B.range (pa_cons (pe_fn G_law_draw hr (pa_cons (pv 2) (pa_cons pe_int pa_nil))) pa_nil)) (pg_name (i := 7) sc_law.nd rfl (Or.inl rfl))
      (pss_cons (ps_set (i := 8) sc_law.nd rfl (Or.inl rfl) (pe_fn G_law_named hr (pa_cons (pv 2) pa_nil)))
      (pss_cons (ps_if (pt_cmpR (opK K (o_ne hr.units)) (pe_fn G_law_refused hr (pa_cons (pv 3) (pa_cons (pe_fn G_law_no_name hr (pa_cons (pv 2) (pa_cons (pv 8) pa_nil))) pa_nil))) pe_str (nomark _))
      (pss_one (ps_ret pe_bl))
      pss_nil)
      (pss_cons (ps_set (i := 9) sc_law.nd rfl (Or.inl rfl) (pe_methN G_Board_store hr T_Board.cl (pv 3) (pa_cons (pv 8) pa_nil)))
      (pss_cons (ps_expr (pe_dsetd (pv 5) (pv 8) (pv 9) ⟨rfl, rfl, rfl, rfl⟩))
      (pss_cons (ps_set (i := 10) sc_law.nd rfl (Or.inl rfl) (pe_dsetd (pv 6) (pv 8) pe_dnewK ⟨rfl, rfl, rfl, rfl⟩))
      (pss_cons (ps_if (pt_cmpR (opK K (o_ne hr.units)) (pe_meth0N G_Store_told hr T_Store.cl (pv 9)) (pe_callTy (crK K c_tuple) rfl B.tuple (by decide +kernel) (pa_cons (pe_callB (c_sortedIt rfl) rfl B.sorted (by decide +kernel) (pa_cons (peK_bm0 K PySem.F.plainAttrs_dict PySem.F.slot_dict_items PySem.F.type_dict_items mt_items (pv 10)) pa_nil)) pa_nil)) (nomark _))
      (pss_one (ps_ret pe_bl))
      pss_nil)
      (pss_cons (ps_set (i := 11) sc_law.nd rfl (Or.inl rfl) (pe_fn G_law_draw hr (pa_cons (pv 2) (pa_cons pe_int pa_nil))))
      (pss_cons (ps_dput (hu_of hr) (pv 10) (pv 11) (pe_op op_sub (pe_fn G_law_draw hr (pa_cons (pv 2) (pa_cons pe_int pa_nil))) pe_int) rfl)
      (pss_one (ps_expr (pe_methN G_Store_put hr T_Store.cl (pe_dget (hu_of hr) (pv 5) (pv 8) (fun _ _ => rfl)) (pa_cons (pv 11) (pa_cons (pe_dget (hu_of hr) (pv 10) (pv 11) (fun _ _ => rfl)) pa_nil))))))))))))))
      (pss_cons (ps_set (i := 12) sc_law.nd rfl (Or.inl rfl) (pe_meth0N G_Board_names hr T_Board.cl (pv 3)))
      (pss_cons (ps_if (PW.pt (pw_or (pt_cmpR (opK K (o_ne hr.units)) (pv 12) (pe_callB (c_sortedDS rfl) rfl B.sorted (by decide +kernel) (pa_cons (pv 5) pa_nil)) (nomark _)) (pw_or1 (pt_cmpR (opK K (o_neNil hr.units)) (pe_meth0N G_Board_names hr T_Board.cl (pv 4)) (pe_lst pa_nil) (nomark _)))))
      (pss_one (ps_ret pe_bl))
      pss_nil)
      (pss_cons (ps_expr (peK_bm K PySem.F.plainAttrs_list PySem.F.slot_list_append PySem.F.type_list_append mt_append (pv 12) (pa_cons pe_str pa_nil)))
      (pss_cons (ps_expr (peK_bm0 K PySem.F.plainAttrs_list PySem.F.slot_list_reverse PySem.F.type_list_reverse mt_reverse (pv 12)))
      (pss_cons (ps_if (pt_cmpR (opK K (o_ne hr.units)) (pe_meth0N G_Board_names hr T_Board.cl (pv 3)) (pe_callB (c_sortedDS rfl) rfl B.sorted (by decide +kernel) (pa_cons (pv 5) pa_nil)) (nomark _))
      (pss_one (ps_ret pe_bl))
      pss_nil)
      (pss_one (ps_lock (ps_for PassesOwn.never rfl (pi_keys (pv 6)) (pg_name (i := 8) sc_law.nd rfl (Or.inl rfl))
      (pss_one (ps_if (pt_cmpR (opK K (o_ne hr.units)) (pe_meth0N G_Store_told hr T_Store.cl (pe_methN G_Board_store hr T_Board.cl (pv 3) (pa_cons (pv 8) pa_nil))) (pe_callTy (crK K c_tuple) rfl B.tuple (by decide +kernel) (pa_cons (pe_callB (c_sortedIt rfl) rfl B.sorted (by decide +kernel) (pa_cons (peK_bm0 K PySem.F.plainAttrs_dict PySem.F.slot_dict_items PySem.F.type_dict_items mt_items (pe_dget (hu_of hr) (pv 6) (pv 8) (fun _ _ => rfl))) pa_nil)) pa_nil)) (nomark _))
      (pss_one (ps_ret pe_bl))
      pss_nil)))))))))))))))))
      (pss_one (ps_ret pe_bl))), ?_⟩
    refine r_start (σ' := [some (.ref sa), none, none, none, none, none, none, none, none, none, none, none, none]) rfl ?_
    have hS0 := hS.1
    walk_at "a"
    refine for_wk wk_rng (fun i σ H' => (∃ v1 v2 v3 v4 v5 v6 v7 v8 v9 v10 v11 v12 : Option V, σ = [some (.ref sa), v1, v2, v3, v4, v5, v6, v7, v8, v9, v10, v11, v12]) ∧ TExt H H') ⟨⟨_, _, _, _, _, _, _, _, _, _, _, _, rfl⟩, TExt.refl _⟩ (fun _ _ _ _ _ => trivial) ?_ ?_
    · rintro i x σ H1 H1' hi ⟨⟨v1, v2, v3, v4, v5, v6, v7, v8, v9, v10, v11, v12, rfl⟩, t1⟩ ⟨rfl, rfl⟩
      have hS1 := (hS.text t1).1
      walk_at "a"
      rename_i p H2 n2 s2 hp2
      refine r_makei fun bp dx1 H3 n3 nx3 _ s3 ob3 => ?_
      refine use_b_init ob3 fun sd H4 n4 k4 e4 d4 => ⟨rfl, ?_⟩
      have s24 : Same H2 H4 := fun b o e => k4 _ _ (s3 _ _ e) (ne_of_none e n3)
      have B4 : BoardAt K A_Board A_Store H4 bp sd [] := ⟨⟨_, e4⟩, d4, by simp [namesE], by simp, by simp, by simp, by simp⟩
      have n4' : H2 sd = none := none_back s3 n4
      walk_at "a"
      refine r_makei fun ob dx5 H5 n5 nx5 _ s5 ob5 => ?_
      refine use_b_init ob5 fun od H6 n6 k6 e6 d6 => ⟨rfl, ?_⟩
      have s46 : Same H4 H6 := fun b o e => k6 _ _ (s5 _ _ e) (ne_of_none e n5)
      have O6 : BoardAt K A_Board A_Store H6 ob od [] := ⟨⟨_, e6⟩, d6, by simp [namesE], by simp, by simp, by simp, by simp⟩
      have n6' : H4 od = none := none_back s5 n6
      walk_at "a"
      rename_i st H7 n7 s7 e7 cd H8 n8 s8 e8 m H9 k9 hp9 m0 m1
      have mB : ∀ {x : Addr}, x ∈ bAll bp sd [] → x = bp ∨ x = sd := fun {x} h => by simpa [bAll] using h
      have mO : ∀ {x : Addr}, x ∈ bAll ob od [] → x = ob ∨ x = od := fun {x} h => by simpa [bAll] using h
      have s26 := s24.trans s46
      have pl : ∃ o, H2 p = some o := by
        obtain ⟨_, _, _, e, _⟩ := hp2.ex
        exact ⟨_, e⟩
      have cdm : ∀ {x : Addr}, x ∈ cAll cd [] → x = cd := fun {x} h => by simpa [cAll] using h
      have B6 := B4.same s46
      have A8 : All K A_Board A_Store H8 p bp sd ob od st cd [] [] 0 0 := by
        refine ⟨hp2.same (s26.trans (s7.trans s8)), B6.same (s7.trans s8), O6.same (s7.trans s8), s8 _ _ e7, ⟨e8, by simp, by simp, by simp, by simp⟩, rfl, by simp, by simp, by simp, fun z => ?_, fun z => ?_, fun z => B6.live z n7, fun z => O6.live z n7, fun z => ?_, fun x hx z => ?_, fun x hx z => ?_, fun x hx z => ?_⟩
        · obtain ⟨o, e⟩ := pl
          rcases mB z with rfl | rfl
          · rw [e] at n3; cases n3
          · rw [e] at n4'; cases n4'
        · obtain ⟨o, e⟩ := pl
          have e := s24 _ _ e
          rcases mO z with rfl | rfl
          · rw [e] at n5; cases n5
          · rw [e] at n6'; cases n6'
        · rw [cdm z, n8] at e7
          cases e7
        · rw [cdm hx] at z
          exact (B6.same s7).live z n8
        · rw [cdm hx] at z
          exact (O6.same s7).live z n8
        · rcases mO hx with rfl | rfl
          · exact B4.live z n5
          · exact B4.live z n6'
      have A9 := A8.draw k9 hp9
      have t89 := A8.pot.text k9
      refine for_wk wk_rng (fun i' σ H' => (∃ v1 v2 v3 v4 v5 v6 : Option V, σ = [some (.ref sa), some (.int (0 + (i : Int))), some (.ref p), some (.ref bp), some (.ref ob), some (.ref st), some (.ref cd), v1, v2, v3, v4, v5, v6]) ∧ TExt H9 H' ∧ ∃ es cs, All K A_Board A_Store H' p bp sd ob od st cd es cs i' i') ⟨⟨_, _, _, _, _, _, rfl⟩, TExt.refl _, [], [], A9⟩ (fun _ _ _ _ _ => trivial) ?_ ?_
      · rintro i' x σ H10 H10' hi' ⟨⟨v1, v2, v3, v4, v5, v6, rfl⟩, t10, es, cs, A10⟩ ⟨rfl, rfl⟩
        have hp10 := A10.pot
        walk_at "a"
        refine use_named hp10 fun nm H11 k11 hp11 gnm => ?_
        have A11 := A10.draw k11 hp11
        walk_at "a"
        refine use_no_name hp11 gnm fun bv bd H12 k12 hp12 dbv lbv nbv => ?_
        have A12 := A11.draw k12 hp12
        have ln := A12.ln
        obtain ⟨dx12, ob12⟩ := A12.B.ob
        walk_at "a"
        refine use_refused A12.B dbv lbv (by omega) nbv fun H13 s13 => ?_
        walk_at "a"
        refine r_ne_s ?_
        rw [decide_eq_true rfl]
        have A13 := A12.same s13
        obtain ⟨dx13, ob13⟩ := A13.B.ob
        walk_at "a"
        refine use_b_two A13.B gnm (by omega) fun es1 i1 f H14 k14 t14 B14 hf nf alt => ?_
        have hsd : sd ∈ bAll bp sd es := mem_ball.mpr (.inr (.inl rfl))
        have pot14 : Pot H14 p := A13.pot.keep k14 (fun z => A13.pB (by rw [show p = sd from z]; exact hsd))
        have O14 := A13.O.keep k14 t14 fun x hx z => A13.oB x hx (by rw [show x = sd from z]; exact hsd)
        have S14 := k14 _ _ A13.S (fun z => A13.sB (by rw [show st = sd from z]; exact hsd))
        have C14 := A13.C.keep k14 fun x hx z => A13.cB x hx (by rw [show x = sd from z]; exact hsd)
        have alt2 : es1 = es ∨ (es1 = es ++ [f] ∧ ∀ x ∈ f.a.all, H13 x = none) := alt.imp id fun ⟨_, _, h, _, _, h2⟩ => ⟨h, h2⟩
        have nB : ∀ {x : Addr}, x ∉ bAll bp sd es → H13 x ≠ none → x ∉ bAll bp sd es1 := fun h1 h2 => ball_two alt2 h1 h2
        have lst13 : H13 st ≠ none := by rw [A13.S]; simp
        have lp13 : H13 p ≠ none := by
          obtain ⟨_, _, _, e, _⟩ := A13.pot.ex
          rw [e]; simp
        walk_at "a"
        try refine r_dset ?_
        try walk_at "a"
        subst nf
        refine ⟨st, rfl, .inl ⟨_, .inl S14⟩, ?_⟩
        walk_at "a"
        refine stores_set S14 B14.nd (by omega) hf (alt.imp id fun h => ⟨h.1, h.2.2.1⟩) fun H15 k15 S15 => ?_
        have stB := nB A13.sB lst13
        have t15 : TExt H14 H15 := k15.text fun x hx => by rw [show x = st from hx, S14]; trivial
        have B15 := B14.other k15 t15 stB
        have O15 := O14.other k15 t15 A13.sO
        have C15 := C14.keep k15 fun x hx z => A13.sC (by rw [← show x = st from z]; exact hx)
        have sp : st ≠ p := fun z => by
          obtain ⟨_, _, _, e, _⟩ := pot14.ex
          rw [z, e] at S14
          cases S14
        have pot15 := pot14.keep k15 (Ne.symm sp)
        have lcs : cs.length = es.length := by
          have := congrArg List.length A13.em
          rw [List.length_map, List.length_map] at this
          exact this.symm
        walk_at "a"
        try refine r_dset ?_
        try walk_at "a"
        refine ⟨cd, rfl, .inl ⟨_, .inl C15.dd⟩, ?_⟩
        walk_at "a"
        rename_i pd H16 n16 s16 e16
        refine curves_two C15 (by omega) n16 s16 e16 A13.em hf (alt.imp id fun h => ⟨h.1, h.2.1, h.2.2.1, h.2.2.2.1⟩) fun cs1 g H17 k17 C17 hg em17 mem17 => ?_
        have hcd : cd ∈ cAll cd cs := mem_call.mpr (.inl rfl)
        have cdB := nB (A13.cB cd hcd) (A13.C.live hcd)
        have C16 := C15.same s16
        have t17 : TExt H16 H17 := k17.text fun x hx => by rw [show x = cd from hx, C16.dd]; trivial
        have cp : cd ≠ p := fun z => by
          obtain ⟨_, _, _, e, _⟩ := pot15.ex
          have := C15.dd
          rw [z, e] at this
          cases this
        have A17 : All K A_Board A_Store H17 p bp sd ob od st cd es1 cs1 (i' + 1) i' := by
          refine ⟨(pot15.same s16).keep k17 (Ne.symm cp), (B15.same s16).other k17 t17 cdB, (O15.same s16).other k17 t17 (A13.cO cd hcd), k17 _ _ (s16 _ _ S15) (fun z => A13.sC (by rw [show st = cd from z]; exact hcd)), C17, em17, ?_, fun f1 hf1 => ?_, fun e he => ?_, nB A13.pB lp13, A13.pO, stB, A13.sO, fun z => ?_, fun x hx => ?_, fun x hx => ?_, fun x hx => nB (A13.oB x hx) (A13.O.live hx)⟩
          · have := A13.ln
            rcases alt with rfl | ⟨_, _, rfl, _⟩
            · omega
            · rw [List.length_append]
              show es.length + 1 ≤ _
              omega
          · rcases alt with rfl | ⟨_, _, rfl, hc, hz, _⟩
            · exact A13.bz f1 hf1
            · rcases List.mem_append.mp hf1 with h | h
              · exact A13.bz f1 h
              · rw [List.mem_singleton.mp h, hc, hz]
                exact ⟨Nat.zero_le _, Nat.zero_le _⟩
          · have hn : e.name ∈ namesE es1 := by rw [em_nm em17]; exact List.mem_map.mpr ⟨e, he, rfl⟩
            have old : e.name ∈ namesE es → goodName e.name := fun h => by
              rw [em_nm A13.em] at h
              obtain ⟨e0, he0, e1⟩ := List.mem_map.mp h
              rw [← e1]
              exact A13.gn e0 he0
            rcases alt with rfl | ⟨_, _, rfl, _⟩
            · exact old hn
            · unfold namesE at hn
              rw [List.map_append] at hn
              rcases List.mem_append.mp hn with h | h
              · exact old h
              · have : e.name = f.name := by simpa using h
                rw [this]
                exact gnm
          · rcases mem17 st z with h | h
            · exact A13.sC h
            · rw [← h, S15] at n16
              cases n16
          · rcases mem17 x hx with h | rfl
            · exact nB (A13.cB x h) (A13.C.live h)
            · exact B15.new_not n16
          · rcases mem17 x hx with h | rfl
            · exact A13.cO x h
            · exact O15.new_not n16
        obtain ⟨en, ec⟩ := em_at em17 hf hg
        have bf := A17.bz f (List.mem_of_getElem? hf)
        have St17 := A17.B.st f (List.mem_of_getElem? hf)
        obtain ⟨⟨dxs, obs⟩, _⟩ := id St17
        walk_at "a"
        refine use_s_told St17 (by omega) fun v18 H18 s18 dv18 => ?_
        have A18 := A17.same s18
        obtain ⟨⟨mm, hm, ndm, hmm⟩, cr⟩ := A18.C.st g (List.mem_of_getElem? hg)
        have hml : mm.length = g.c.length := perm_len ndm (up_nodup cr.up) hmm
        walk_at "a"
        refine r_bm0d hm ?_
        refine r_items hm fun ip H19 n19 s19 e19 => ?_
        walk_at "a"
        refine r_sortedIt e19 (s19 _ _ hm) (by rw [hml, ← ec]; omega) fun l2 H20 ys l' lex pm n20 s20 e20 raw => ?_
        have d20 := raw.dp (K := K)
        have ecl : l' = g.c := up_ext (lex_up lex ((pm.map _).nodup_iff.mpr ndm)) cr.up fun q => (pm.mem_iff).trans (hmm q)
        rw [ecl] at d20
        have A20 := A18.same (s19.trans s20)
        have hp20 := A20.pot
        walk_at "a"
        rename_i tp H21 n21 s21 e21
        have d21 : Dp K H21 (.ref tp) (prsD g.c) := .tup (SqT.of e21) (DpAll.same s21 _ _ d20)
        have dv21 : Dp K H21 v18 (prsD g.c) := by rw [← ec]; exact Dp.same ((s19.trans s20).trans s21) _ _ dv18
        refine r_ne_d dv21 d21 (shaped_prs _) (shaped_prs _) ?_
        rw [eqv_same (shaped_prs _)]
        have A21 := A20.same s21
        have hp21 := A21.pot
        walk_at "a"
        rename_i tt H22 k22 hp22 tt0 tt1 hh H23 k23 hp23 hh0 hh1
        have A23 := (A21.draw k22 hp22).draw k23 hp23
        have ht : InT tt := ⟨by omega, by omega⟩
        refine A23.C.put hg (t := tt) (h := hh - 20) ht (by rw [← ec]; omega) fun H24 k24 C24 => ?_
        have hga : g.a ∈ cAll cd cs1 := mem_call.mpr (.inr ⟨g, List.mem_of_getElem? hg, rfl⟩)
        obtain ⟨⟨gm, hgm, _, _⟩, _⟩ := A23.C.st g (List.mem_of_getElem? hg)
        have t24 : TExt H23 H24 := k24.text fun x hx => by rw [show x = g.a from hx, hgm]; trivial
        have B24 := A23.B.other k24 t24 (A23.cB _ hga)
        have S24 := k24 _ _ A23.S (fun z => A23.sC (by rw [show st = g.a from z]; exact hga))
        have St24 := B24.st f (List.mem_of_getElem? hf)
        obtain ⟨⟨dxs24, obs24⟩, _⟩ := id St24
        obtain ⟨li, _⟩ := List.getElem?_eq_some_iff.mp hg
        have hi24 : (cs1.set i1 ⟨g.name, g.a, insC g.c tt (hh - 20)⟩)[i1]? = some ⟨g.name, g.a, insC g.c tt (hh - 20)⟩ := by rw [List.getElem?_set_self li]
        obtain ⟨⟨m24, q1, q2, q3⟩, q4⟩ := C24.st _ (List.mem_of_getElem? hi24)
        have hv24 : valP m24 tt = some (hh - 20) := (valP_iff q2).mpr ((q3 _).mpr (insC_mem.mpr (.inl rfl)))
        have hd24 := dkv_some B24.nd (List.mem_of_getElem? hf)
        walk_at "a"
        refine r_dgetS S24 hd24 ?_
        walk_at "a"
        refine r_dgeti q1 hv24 ?_
        walk_at "a"
        refine use_s_put St24 (by omega) ht fun H25 k25 S25 => ?_
        have M : Mid K A_Board A_Store H23 p bp sd ob od st cd es1 cs1 (i' + 1) i' i1 f g f.name := ⟨A23, hf, hg, rfl⟩
        have A25 := M.put k24 C24 k25 S25
        walk_at "a"
        refine ⟨⟨_, _, _, _, _, _, rfl⟩, ?_, _, _, A25⟩
        have u1 : TExt H10' H14 := (((hp10.text k11).trans (hp11.text k12)).trans (TExt.of_same s13)).trans t14
        have u2 : TExt H14 H18 := ((t15.trans (TExt.of_same s16)).trans t17).trans (TExt.of_same s18)
        have u3 : TExt H18 H25 := ((TExt.of_same ((s19.trans s20).trans s21)).trans ((hp21.text k22).trans (hp22.text k23))).trans (t24.trans (St24.text k25))
        exact t10.trans ((u1.trans u2).trans u3)
      · rintro σ H10 ⟨⟨v1, v2, v3, v4, v5, v6, rfl⟩, t10, es, cs, A10⟩
        have hp10 := A10.pot
        obtain ⟨dx10, ob10⟩ := A10.B.ob
        walk_at "a"
        refine use_b_names A10.B fun ys y11 H11 pm11 hs11 n11 s11 e11 => ?_
        have A11 := A10.same s11
        have ln := A11.ln
        walk_at "a"
        refine r_sortedDS A11.S (dkv_keys es) (by unfold namesE; rw [List.length_map]; omega) fun ys2 y12 H12 pm12 hs12 n12 s12 e12 => ?_
        have e12' : ys2 = ys := sorted_uniq (pm12.trans pm11.symm) hs12 hs11
        subst e12'
        have gy : ∀ s ∈ ys2, goodName s := fun s hs => by
          have := pm12.mem_iff.mp hs
          rw [em_nm A11.em] at this
          obtain ⟨e, he, rfl⟩ := List.mem_map.mp this
          exact A11.gn e he
        refine r_ne_d (.lst (SqL.of (s12 _ _ e11)) (dpAll_ofStrs K _ ys2)) (.lst (SqL.of e12) (dpAll_ofStrs K _ ys2)) (shp_strs gy).ok (shp_strs gy).ok ?_
        rw [eqv_same (shp_strs gy).ok]
        have A12 := A11.same s12
        obtain ⟨dx12, ob12⟩ := A12.O.ob
        walk_at "a"
        refine use_b_names A12.O fun zs y13 H13 pm13 hs13 n13 s13 e13 => ?_
        have ez : zs = [] := by
          have := pm13.length_eq
          exact List.length_eq_zero_iff.mp this
        subst ez
        walk_at "a"
        rename_i l14 H14 n14 s14 e14
        have s1114 := (s12.trans s13).trans s14
        have e1114 := s1114 _ _ e11
        refine r_bml (SqL.of e1114) ?_
        walk_at "a"
        refine r_append e1114 (by rw [sizeLine_eq, List.length_map, pm12.length_eq]; unfold namesE; rw [List.length_map]; omega) fun H15 k15 e15 => ?_
        walk_at "a"
        refine r_bm0l (SqL.of e15) ?_
        refine r_reverse e15 fun H16 k16 e16 => ?_
        have s1016 : Same H10 H16 := fun b o e => k16 _ _ (k15 _ _ (s1114 _ _ (s11 _ _ e)) (ne_of_none e n11)) (ne_of_none e n11)
        have A16 := A10.same s1016
        obtain ⟨dx16, ob16⟩ := A16.B.ob
        walk_at "a"
        refine use_b_names A16.B fun ys3 y17 H17 pm17 hs17 n17 s17 e17 => ?_
        have A17 := A16.same s17
        walk_at "a"
        refine r_sortedDS A17.S (dkv_keys es) (by unfold namesE; rw [List.length_map]; omega) fun ys4 y18 H18 pm18 hs18 n18 s18 e18 => ?_
        have e34 : ys4 = ys3 := sorted_uniq (pm18.trans pm17.symm) hs18 hs17
        subst e34
        have gy4 : ∀ s ∈ ys4, goodName s := fun s hs => by
          have := pm18.mem_iff.mp hs
          rw [em_nm A17.em] at this
          obtain ⟨e, he, rfl⟩ := List.mem_map.mp this
          exact A17.gn e he
        refine r_ne_d (.lst (SqL.of (s18 _ _ e17)) (dpAll_ofStrs K _ ys4)) (.lst (SqL.of e18) (dpAll_ofStrs K _ ys4)) (shp_strs gy4).ok (shp_strs gy4).ok ?_
        rw [eqv_same (shp_strs gy4).ok]
        have A18 := A17.same s18
        have hcd : cd ∈ cAll cd cs := mem_call.mpr (.inl rfl)
        have lcs : cs.length = es.length := by
          have := congrArg List.length A18.em
          rw [List.length_map, List.length_map] at this
          exact this.symm
        walk_at "a"
        refine r_lock A18.C.dd trivial fun od' H19 e19 o19 => ?_
        refine r_ikeys ?_
        walk_at "a"
        refine r_keys e19 ?_
        have k1819 : Keep (At cd) H18 H19 := fun x o hx nx => by rw [o19 x nx]; exact hx
        refine for_wk wk_keys (fun i' σ H' => (∃ v1 v2 v3 v4 v5 v6 : Option V, σ = [some (.ref sa), some (.int (0 + (i : Int))), some (.ref p), some (.ref bp), some (.ref ob), some (.ref st), some (.ref cd), v1, v2, v3, v4, v5, v6]) ∧ Keep (At cd) H18 H' ∧ H' cd = some (.frz od' (.dK (ckv cs))))
          ⟨⟨_, _, _, _, _, _, rfl⟩, k1819, e19⟩ (fun _ _ _ _ z => z.2.2) ?_ ?_
        · rintro i' xx σ H20 H20' hi' ⟨⟨v1, v2, v3, v4, v5, v6, rfl⟩, k20, e20⟩ ⟨rfl, kk, vv, hkv, rfl⟩
          obtain ⟨e, he, rfl, rfl⟩ : ∃ e, cs[i']? = some e ∧ kk = Sum.inr e.name ∧ vv = .ref e.a := by
            unfold ckv at hkv
            rw [List.getElem?_map] at hkv
            obtain ⟨e, h1, h2⟩ := Option.map_eq_some_iff.mp hkv
            cases h2
            exact ⟨e, h1, rfl, rfl⟩
          have hem := List.mem_of_getElem? he
          obtain ⟨⟨mm, hm, ndm, hmm⟩, cr⟩ := A18.C.st e hem
          have hm20 := k20 _ _ hm (A18.C.own e hem)
          have t20 : TExt H18 H20' := k20.text fun x hx => by rw [show x = cd from hx, A18.C.dd]; trivial
          have B20 := A18.B.keep k20 t20 fun x hx z => A18.cB cd hcd (by rw [← show x = cd from z]; exact hx)
          obtain ⟨lie, _⟩ := List.getElem?_eq_some_iff.mp he
          obtain ⟨f, hf⟩ : ∃ f, es[i']? = some f := ⟨_, List.getElem?_eq_getElem (by omega)⟩
          obtain ⟨en, ec⟩ := em_at A18.em hf he
          have bf := A18.bz f (List.mem_of_getElem? hf)
          have hml : mm.length = e.c.length := perm_len ndm (up_nodup cr.up) hmm
          obtain ⟨dx20, ob20⟩ := B20.ob
          walk_at "a"
          refine use_b_known B20 (A18.gn e hem) (by omega) hf en fun H21 s21 => ?_
          have St21 := (B20.same s21).st f (List.mem_of_getElem? hf)
          obtain ⟨⟨dxs, obs⟩, _⟩ := id St21
          walk_at "a"
          refine use_s_told St21 (by omega) fun v22 H22 s22 dv22 => ?_
          have s2122 := s21.trans s22
          walk_at "a"
          refine r_dgetSf (s2122 _ _ e20) (A18.C.val hem) ?_
          refine r_bm0d (s2122 _ _ hm20) ?_
          refine r_items (s2122 _ _ hm20) fun ip H23 n23 s23 e23 => ?_
          walk_at "a"
          refine r_sortedIt e23 (s23 _ _ (s2122 _ _ hm20)) (by rw [hml, ← ec]; omega) fun l2 H24 ys l' lex pm n24 s24 e24 raw => ?_
          have d24 := raw.dp (K := K)
          have ecl : l' = e.c := up_ext (lex_up lex ((pm.map _).nodup_iff.mpr ndm)) cr.up fun q => (pm.mem_iff).trans (hmm q)
          rw [ecl] at d24
          walk_at "a"
          rename_i tp H25 n25 s25 e25
          have d25 : Dp K H25 (.ref tp) (prsD e.c) := .tup (SqT.of e25) (DpAll.same s25 _ _ d24)
          have dv25 : Dp K H25 v22 (prsD e.c) := by rw [← ec]; exact Dp.same ((s23.trans s24).trans s25) _ _ dv22
          refine r_ne_d dv25 d25 (shaped_prs _) (shaped_prs _) ?_
          rw [eqv_same (shaped_prs _)]
          walk_at "a"
          have s2025 := s2122.trans ((s23.trans s24).trans s25)
          exact ⟨⟨_, _, _, _, _, _, rfl⟩, fun x o hx nx => s2025 _ _ (k20 _ _ hx nx), s2025 _ _ e20⟩
        · rintro σ H20 ⟨⟨v1, v2, v3, v4, v5, v6, rfl⟩, k20, e20⟩
          refine ⟨e20, ?_⟩
          have s20 : Same H18 (upd H20 cd (.dK (ckv cs))) := fun x o hx => by
            by_cases z : x = cd
            · subst z; rw [upd_same, ← A18.C.dd]; exact hx
            · rw [upd_ne z]; exact k20 _ _ hx z
          generalize upd H20 cd (.dK (ckv cs)) = H21 at *
          walk_at "a"
          refine ⟨⟨_, _, _, _, _, _, _, _, _, _, _, _, rfl⟩, ?_⟩
          exact (t1.trans (TExt.of_same ((s2.trans s26).trans (s7.trans s8)))).trans ((t89.trans t10).trans (TExt.of_same ((s1016.trans s17).trans (s18.trans s20))))
    · rintro σ H1 ⟨⟨v1, v2, v3, v4, v5, v6, v7, v8, v9, v10, v11, v12, rfl⟩, t1⟩
      walk_at "a"
      exact q _
end
theorem all_mk {l : PySem.W.OpenLaw} {w : World} {K : PySem.W.Frag} {h : Heap} {mg : Str → Option Value} {fa : Addr} (X : K.In h) (G : h.Ns mainGlobals mg) (hfa : mg "law" = some (.ref fa))
    {od_wall an_wall : Option Addr} {sl_wall : Array (Option Value)} {f_wall : Addr} {oc_wall kV_wall dc_wall pm_wall cd_wall ct_wall : Value}
    (a_wall : PySem.W.nsIn K mainGlobals "_wall" = some (some (.ref f_wall)))
    (l_wall : K.lookup f_wall = some ⟨oc_wall, od_wall, .func (PySem.W.fnOf "_wall" "_wall" (defArgs s_wall) (defBody s_wall) (defScope s_wall) .none kV_wall dc_wall pm_wall an_wall cd_wall ct_wall), sl_wall⟩)
    (c_wall : PySem.W.codeIn K cd_wall "_wall" = true) (k_wall : PySem.W.keepIn K (.ref f_wall) = true)
    {od_is_number an_is_number : Option Addr} {sl_is_number : Array (Option Value)} {f_is_number : Addr} {oc_is_number kV_is_number dc_is_number pm_is_number cd_is_number ct_is_number : Value}
    (a_is_number : PySem.W.nsIn K mainGlobals "is_number" = some (some (.ref f_is_number)))
    (l_is_number : K.lookup f_is_number = some ⟨oc_is_number, od_is_number, .func (PySem.W.fnOf "is_number" "is_number" (defArgs s_is_number) (defBody s_is_number) (defScope s_is_number) .none kV_is_number dc_is_number pm_is_number an_is_number cd_is_number ct_is_number), sl_is_number⟩)
    (c_is_number : PySem.W.codeIn K cd_is_number "is_number" = true) (k_is_number : PySem.W.keepIn K (.ref f_is_number) = true)
    {od_times_of an_times_of : Option Addr} {sl_times_of : Array (Option Value)} {f_times_of : Addr} {oc_times_of kV_times_of dc_times_of pm_times_of cd_times_of ct_times_of : Value}
    (a_times_of : PySem.W.nsIn K mainGlobals "times_of" = some (some (.ref f_times_of)))
    (l_times_of : K.lookup f_times_of = some ⟨oc_times_of, od_times_of, .func (PySem.W.fnOf "times_of" "times_of" (defArgs s_times_of) (defBody s_times_of) (defScope s_times_of) .none kV_times_of dc_times_of pm_times_of an_times_of cd_times_of ct_times_of), sl_times_of⟩)
    (c_times_of : PySem.W.codeIn K cd_times_of "times_of" = true) (k_times_of : PySem.W.keepIn K (.ref f_times_of) = true)
    {od_lower_of an_lower_of : Option Addr} {sl_lower_of : Array (Option Value)} {f_lower_of : Addr} {oc_lower_of kV_lower_of dc_lower_of pm_lower_of cd_lower_of ct_lower_of : Value}
    (a_lower_of : PySem.W.nsIn K mainGlobals "lower_of" = some (some (.ref f_lower_of)))
    (l_lower_of : K.lookup f_lower_of = some ⟨oc_lower_of, od_lower_of, .func (PySem.W.fnOf "lower_of" "lower_of" (defArgs s_lower_of) (defBody s_lower_of) (defScope s_lower_of) .none kV_lower_of dc_lower_of pm_lower_of an_lower_of cd_lower_of ct_lower_of), sl_lower_of⟩)
    (c_lower_of : PySem.W.codeIn K cd_lower_of "lower_of" = true) (k_lower_of : PySem.W.keepIn K (.ref f_lower_of) = true)
    {od_higher_of an_higher_of : Option Addr} {sl_higher_of : Array (Option Value)} {f_higher_of : Addr} {oc_higher_of kV_higher_of dc_higher_of pm_higher_of cd_higher_of ct_higher_of : Value}
    (a_higher_of : PySem.W.nsIn K mainGlobals "higher_of" = some (some (.ref f_higher_of)))
    (l_higher_of : K.lookup f_higher_of = some ⟨oc_higher_of, od_higher_of, .func (PySem.W.fnOf "higher_of" "higher_of" (defArgs s_higher_of) (defBody s_higher_of) (defScope s_higher_of) .none kV_higher_of dc_higher_of pm_higher_of an_higher_of cd_higher_of ct_higher_of), sl_higher_of⟩)
    (c_higher_of : PySem.W.codeIn K cd_higher_of "higher_of" = true) (k_higher_of : PySem.W.keepIn K (.ref f_higher_of) = true)
    {od_joined an_joined : Option Addr} {sl_joined : Array (Option Value)} {f_joined : Addr} {oc_joined kV_joined dc_joined pm_joined cd_joined ct_joined : Value}
    (a_joined : PySem.W.nsIn K mainGlobals "joined" = some (some (.ref f_joined)))
    (l_joined : K.lookup f_joined = some ⟨oc_joined, od_joined, .func (PySem.W.fnOf "joined" "joined" (defArgs s_joined) (defBody s_joined) (defScope s_joined) .none kV_joined dc_joined pm_joined an_joined cd_joined ct_joined), sl_joined⟩)
    (c_joined : PySem.W.codeIn K cd_joined "joined" = true) (k_joined : PySem.W.keepIn K (.ref f_joined) = true)
    {od_is_end an_is_end : Option Addr} {sl_is_end : Array (Option Value)} {f_is_end : Addr} {oc_is_end kV_is_end dc_is_end pm_is_end cd_is_end ct_is_end : Value}
    (a_is_end : PySem.W.nsIn K mainGlobals "is_end" = some (some (.ref f_is_end)))
    (l_is_end : K.lookup f_is_end = some ⟨oc_is_end, od_is_end, .func (PySem.W.fnOf "is_end" "is_end" (defArgs s_is_end) (defBody s_is_end) (defScope s_is_end) .none kV_is_end dc_is_end pm_is_end an_is_end cd_is_end ct_is_end), sl_is_end⟩)
    (c_is_end : PySem.W.codeIn K cd_is_end "is_end" = true) (k_is_end : PySem.W.keepIn K (.ref f_is_end) = true)
    {od_want_time an_want_time : Option Addr} {sl_want_time : Array (Option Value)} {f_want_time : Addr} {oc_want_time kV_want_time dc_want_time pm_want_time cd_want_time ct_want_time : Value}
    (a_want_time : PySem.W.nsIn K mainGlobals "want_time" = some (some (.ref f_want_time)))
    (l_want_time : K.lookup f_want_time = some ⟨oc_want_time, od_want_time, .func (PySem.W.fnOf "want_time" "want_time" (defArgs s_want_time) (defBody s_want_time) (defScope s_want_time) .none kV_want_time dc_want_time pm_want_time an_want_time cd_want_time ct_want_time), sl_want_time⟩)
    (c_want_time : PySem.W.codeIn K cd_want_time "want_time" = true) (k_want_time : PySem.W.keepIn K (.ref f_want_time) = true)
    {od_level_from an_level_from : Option Addr} {sl_level_from : Array (Option Value)} {f_level_from : Addr} {oc_level_from kV_level_from dc_level_from pm_level_from cd_level_from ct_level_from : Value}
    (a_level_from : PySem.W.nsIn K mainGlobals "level_from" = some (some (.ref f_level_from)))
    (l_level_from : K.lookup f_level_from = some ⟨oc_level_from, od_level_from, .func (PySem.W.fnOf "level_from" "level_from" (defArgs s_level_from) (defBody s_level_from) (defScope s_level_from) .none kV_level_from dc_level_from pm_level_from an_level_from cd_level_from ct_level_from), sl_level_from⟩)
    (c_level_from : PySem.W.codeIn K cd_level_from "level_from" = true) (k_level_from : PySem.W.keepIn K (.ref f_level_from) = true)
    {od_stretches an_stretches : Option Addr} {sl_stretches : Array (Option Value)} {f_stretches : Addr} {oc_stretches kV_stretches dc_stretches pm_stretches cd_stretches ct_stretches : Value}
    (a_stretches : PySem.W.nsIn K mainGlobals "stretches" = some (some (.ref f_stretches)))
    (l_stretches : K.lookup f_stretches = some ⟨oc_stretches, od_stretches, .func (PySem.W.fnOf "stretches" "stretches" (defArgs s_stretches) (defBody s_stretches) (defScope s_stretches) .none kV_stretches dc_stretches pm_stretches an_stretches cd_stretches ct_stretches), sl_stretches⟩)
    (c_stretches : PySem.W.codeIn K cd_stretches "stretches" = true) (k_stretches : PySem.W.keepIn K (.ref f_stretches) = true)
    {od_is_name an_is_name : Option Addr} {sl_is_name : Array (Option Value)} {f_is_name : Addr} {oc_is_name kV_is_name dc_is_name pm_is_name cd_is_name ct_is_name : Value}
    (a_is_name : PySem.W.nsIn K mainGlobals "is_name" = some (some (.ref f_is_name)))
    (l_is_name : K.lookup f_is_name = some ⟨oc_is_name, od_is_name, .func (PySem.W.fnOf "is_name" "is_name" (defArgs s_is_name) (defBody s_is_name) (defScope s_is_name) .none kV_is_name dc_is_name pm_is_name an_is_name cd_is_name ct_is_name), sl_is_name⟩)
    (c_is_name : PySem.W.codeIn K cd_is_name "is_name" = true) (k_is_name : PySem.W.keepIn K (.ref f_is_name) = true)
    {od_law_cell an_law_cell : Option Addr} {sl_law_cell : Array (Option Value)} {f_law_cell : Addr} {oc_law_cell kV_law_cell dc_law_cell pm_law_cell cd_law_cell ct_law_cell : Value}
    (a_law_cell : PySem.W.nsIn K mainGlobals "_law_cell" = some (some (.ref f_law_cell)))
    (l_law_cell : K.lookup f_law_cell = some ⟨oc_law_cell, od_law_cell, .func (PySem.W.fnOf "_law_cell" "_law_cell" (defArgs s_law_cell) (defBody s_law_cell) (defScope s_law_cell) .none kV_law_cell dc_law_cell pm_law_cell an_law_cell cd_law_cell ct_law_cell), sl_law_cell⟩)
    (c_law_cell : PySem.W.codeIn K cd_law_cell "_law_cell" = true) (k_law_cell : PySem.W.keepIn K (.ref f_law_cell) = true)
    {od_law_purse an_law_purse : Option Addr} {sl_law_purse : Array (Option Value)} {f_law_purse : Addr} {oc_law_purse kV_law_purse dc_law_purse pm_law_purse cd_law_purse ct_law_purse : Value}
    (a_law_purse : PySem.W.nsIn K mainGlobals "_law_purse" = some (some (.ref f_law_purse)))
    (l_law_purse : K.lookup f_law_purse = some ⟨oc_law_purse, od_law_purse, .func (PySem.W.fnOf "_law_purse" "_law_purse" (defArgs s_law_purse) (defBody s_law_purse) (defScope s_law_purse) .none kV_law_purse dc_law_purse pm_law_purse an_law_purse cd_law_purse ct_law_purse), sl_law_purse⟩)
    (c_law_purse : PySem.W.codeIn K cd_law_purse "_law_purse" = true) (k_law_purse : PySem.W.keepIn K (.ref f_law_purse) = true)
    {od_law_draw an_law_draw : Option Addr} {sl_law_draw : Array (Option Value)} {f_law_draw : Addr} {oc_law_draw kV_law_draw dc_law_draw pm_law_draw cd_law_draw ct_law_draw : Value}
    (a_law_draw : PySem.W.nsIn K mainGlobals "_law_draw" = some (some (.ref f_law_draw)))
    (l_law_draw : K.lookup f_law_draw = some ⟨oc_law_draw, od_law_draw, .func (PySem.W.fnOf "_law_draw" "_law_draw" (defArgs s_law_draw) (defBody s_law_draw) (defScope s_law_draw) .none kV_law_draw dc_law_draw pm_law_draw an_law_draw cd_law_draw ct_law_draw), sl_law_draw⟩)
    (c_law_draw : PySem.W.codeIn K cd_law_draw "_law_draw" = true) (k_law_draw : PySem.W.keepIn K (.ref f_law_draw) = true)
    {od_law_named an_law_named : Option Addr} {sl_law_named : Array (Option Value)} {f_law_named : Addr} {oc_law_named kV_law_named dc_law_named pm_law_named cd_law_named ct_law_named : Value}
    (a_law_named : PySem.W.nsIn K mainGlobals "_law_named" = some (some (.ref f_law_named)))
    (l_law_named : K.lookup f_law_named = some ⟨oc_law_named, od_law_named, .func (PySem.W.fnOf "_law_named" "_law_named" (defArgs s_law_named) (defBody s_law_named) (defScope s_law_named) .none kV_law_named dc_law_named pm_law_named an_law_named cd_law_named ct_law_named), sl_law_named⟩)
    (c_law_named : PySem.W.codeIn K cd_law_named "_law_named" = true) (k_law_named : PySem.W.keepIn K (.ref f_law_named) = true)
    {od_law_no_name an_law_no_name : Option Addr} {sl_law_no_name : Array (Option Value)} {f_law_no_name : Addr} {oc_law_no_name kV_law_no_name dc_law_no_name pm_law_no_name cd_law_no_name ct_law_no_name : Value}
    (a_law_no_name : PySem.W.nsIn K mainGlobals "_law_no_name" = some (some (.ref f_law_no_name)))
    (l_law_no_name : K.lookup f_law_no_name = some ⟨oc_law_no_name, od_law_no_name, .func (PySem.W.fnOf "_law_no_name" "_law_no_name" (defArgs s_law_no_name) (defBody s_law_no_name) (defScope s_law_no_name) .none kV_law_no_name dc_law_no_name pm_law_no_name an_law_no_name cd_law_no_name ct_law_no_name), sl_law_no_name⟩)
    (c_law_no_name : PySem.W.codeIn K cd_law_no_name "_law_no_name" = true) (k_law_no_name : PySem.W.keepIn K (.ref f_law_no_name) = true)
    {od_law_other an_law_other : Option Addr} {sl_law_other : Array (Option Value)} {f_law_other : Addr} {oc_law_other kV_law_other dc_law_other pm_law_other cd_law_other ct_law_other : Value}
    (a_law_other : PySem.W.nsIn K mainGlobals "_law_other" = some (some (.ref f_law_other)))
    (l_law_other : K.lookup f_law_other = some ⟨oc_law_other, od_law_other, .func (PySem.W.fnOf "_law_other" "_law_other" (defArgs s_law_other) (defBody s_law_other) (defScope s_law_other) .none kV_law_other dc_law_other pm_law_other an_law_other cd_law_other ct_law_other), sl_law_other⟩)
    (c_law_other : PySem.W.codeIn K cd_law_other "_law_other" = true) (k_law_other : PySem.W.keepIn K (.ref f_law_other) = true)
    {od_law_refused an_law_refused : Option Addr} {sl_law_refused : Array (Option Value)} {f_law_refused : Addr} {oc_law_refused kV_law_refused dc_law_refused pm_law_refused cd_law_refused ct_law_refused : Value}
    (a_law_refused : PySem.W.nsIn K mainGlobals "_law_refused" = some (some (.ref f_law_refused)))
    (l_law_refused : K.lookup f_law_refused = some ⟨oc_law_refused, od_law_refused, .func (PySem.W.fnOf "_law_refused" "_law_refused" (defArgs s_law_refused) (defBody s_law_refused) (defScope s_law_refused) .none kV_law_refused dc_law_refused pm_law_refused an_law_refused cd_law_refused ct_law_refused), sl_law_refused⟩)
    (c_law_refused : PySem.W.codeIn K cd_law_refused "_law_refused" = true) (k_law_refused : PySem.W.keepIn K (.ref f_law_refused) = true)
    {od_law an_law : Option Addr} {sl_law : Array (Option Value)} {f_law : Addr} {oc_law kV_law dc_law pm_law cd_law ct_law : Value}
    (a_law : PySem.W.nsIn K mainGlobals "law" = some (some (.ref f_law)))
    (l_law : K.lookup f_law = some ⟨oc_law, od_law, .func (PySem.W.fnOf "law" "law" (defArgs s_law) (defBody s_law) (defScope s_law) .none kV_law dc_law pm_law an_law cd_law ct_law), sl_law⟩)
    (c_law : PySem.W.codeIn K cd_law "law" = true) (k_law : PySem.W.keepIn K (.ref f_law) = true)
    {A_Store : Addr} (cg_Store : PySem.W.nsIn K mainGlobals "Store" = some (some (.ref A_Store)))
    (cp_Store : PySem.W.plainGet K A_Store Str.empty = true) (ch_Store : PySem.W.hasDictIn K A_Store = true) (co_Store : PySem.W.plainOver K A_Store = true) (cs_Store : PySem.W.findIn K (.ref A_Store) "__setattr__" = some (some (.builtin "object.__setattr__"))) (cm_Store : PySem.W.makesIn K A_Store = true) (ck_Store : PySem.W.keepIn K (.ref A_Store) = true)
    (N_Store_heights : PySem.W.findIn K (.ref A_Store) "heights" = some none)
    (N_Store_by_stretches : PySem.W.findIn K (.ref A_Store) "by_stretches" = some none)
    (N_Store_deeds : PySem.W.findIn K (.ref A_Store) "deeds" = some none)
    (N_Store_deed_times : PySem.W.findIn K (.ref A_Store) "deed_times" = some none)
    (N_Store_watches : PySem.W.findIn K (.ref A_Store) "watches" = some none)
    {A_Board : Addr} (cg_Board : PySem.W.nsIn K mainGlobals "Board" = some (some (.ref A_Board)))
    (cp_Board : PySem.W.plainGet K A_Board Str.empty = true) (ch_Board : PySem.W.hasDictIn K A_Board = true) (co_Board : PySem.W.plainOver K A_Board = true) (cs_Board : PySem.W.findIn K (.ref A_Board) "__setattr__" = some (some (.builtin "object.__setattr__"))) (cm_Board : PySem.W.makesIn K A_Board = true) (ck_Board : PySem.W.keepIn K (.ref A_Board) = true)
    (N_Board_stores : PySem.W.findIn K (.ref A_Board) "stores" = some none)
    {od_Store___init an_Store___init : Option Addr} {sl_Store___init : Array (Option Value)} {f_Store___init : Addr} {oc_Store___init kV_Store___init dc_Store___init pm_Store___init cd_Store___init ct_Store___init : Value}
    (a_Store___init : PySem.W.findIn K (.ref A_Store) "__init__" = some (some (.ref f_Store___init))) (i_Store___init : PySem.W.isFn K (.ref f_Store___init) = true)
    {dT_Store___init : Addr} {dq_Store___init : Value} {dd_Store___init : Option Addr} {dn_Store___init : Nat} {ds_Store___init : Array (Option Value)}
    (l_Store___init : K.lookup f_Store___init = some ⟨oc_Store___init, od_Store___init, .func (PySem.W.fnOf "__init__" "Store.__init__" (defArgs s_Store___init) (defBody s_Store___init) (defScope s_Store___init) (.ref dT_Store___init) kV_Store___init dc_Store___init pm_Store___init an_Store___init cd_Store___init ct_Store___init), sl_Store___init⟩)
    (c_Store___init : PySem.W.codeIn K cd_Store___init "Store.__init__" = true) (k_Store___init : PySem.W.keepIn K (.ref f_Store___init) = true)
    (dl_Store___init : K.lookup dT_Store___init = some ⟨dq_Store___init, dd_Store___init, .seq #[.none] dn_Store___init, ds_Store___init⟩)
    {od_Store_set_height an_Store_set_height : Option Addr} {sl_Store_set_height : Array (Option Value)} {f_Store_set_height : Addr} {oc_Store_set_height kV_Store_set_height dc_Store_set_height pm_Store_set_height cd_Store_set_height ct_Store_set_height : Value}
    (a_Store_set_height : PySem.W.findIn K (.ref A_Store) "set_height" = some (some (.ref f_Store_set_height))) (i_Store_set_height : PySem.W.isFn K (.ref f_Store_set_height) = true)
    (l_Store_set_height : K.lookup f_Store_set_height = some ⟨oc_Store_set_height, od_Store_set_height, .func (PySem.W.fnOf "set_height" "Store.set_height" (defArgs s_Store_set_height) (defBody s_Store_set_height) (defScope s_Store_set_height) .none kV_Store_set_height dc_Store_set_height pm_Store_set_height an_Store_set_height cd_Store_set_height ct_Store_set_height), sl_Store_set_height⟩)
    (c_Store_set_height : PySem.W.codeIn K cd_Store_set_height "Store.set_height" = true) (k_Store_set_height : PySem.W.keepIn K (.ref f_Store_set_height) = true)
    {od_Store_set_four an_Store_set_four : Option Addr} {sl_Store_set_four : Array (Option Value)} {f_Store_set_four : Addr} {oc_Store_set_four kV_Store_set_four dc_Store_set_four pm_Store_set_four cd_Store_set_four ct_Store_set_four : Value}
    (a_Store_set_four : PySem.W.findIn K (.ref A_Store) "set_four" = some (some (.ref f_Store_set_four))) (i_Store_set_four : PySem.W.isFn K (.ref f_Store_set_four) = true)
    (l_Store_set_four : K.lookup f_Store_set_four = some ⟨oc_Store_set_four, od_Store_set_four, .func (PySem.W.fnOf "set_four" "Store.set_four" (defArgs s_Store_set_four) (defBody s_Store_set_four) (defScope s_Store_set_four) .none kV_Store_set_four dc_Store_set_four pm_Store_set_four an_Store_set_four cd_Store_set_four ct_Store_set_four), sl_Store_set_four⟩)
    (c_Store_set_four : PySem.W.codeIn K cd_Store_set_four "Store.set_four" = true) (k_Store_set_four : PySem.W.keepIn K (.ref f_Store_set_four) = true)
    {od_Store_put an_Store_put : Option Addr} {sl_Store_put : Array (Option Value)} {f_Store_put : Addr} {oc_Store_put kV_Store_put dc_Store_put pm_Store_put cd_Store_put ct_Store_put : Value}
    (a_Store_put : PySem.W.findIn K (.ref A_Store) "put" = some (some (.ref f_Store_put))) (i_Store_put : PySem.W.isFn K (.ref f_Store_put) = true)
    (l_Store_put : K.lookup f_Store_put = some ⟨oc_Store_put, od_Store_put, .func (PySem.W.fnOf "put" "Store.put" (defArgs s_Store_put) (defBody s_Store_put) (defScope s_Store_put) .none kV_Store_put dc_Store_put pm_Store_put an_Store_put cd_Store_put ct_Store_put), sl_Store_put⟩)
    (c_Store_put : PySem.W.codeIn K cd_Store_put "Store.put" = true) (k_Store_put : PySem.W.keepIn K (.ref f_Store_put) = true)
    {od_Store_take an_Store_take : Option Addr} {sl_Store_take : Array (Option Value)} {f_Store_take : Addr} {oc_Store_take kV_Store_take dc_Store_take pm_Store_take cd_Store_take ct_Store_take : Value}
    (a_Store_take : PySem.W.findIn K (.ref A_Store) "take" = some (some (.ref f_Store_take))) (i_Store_take : PySem.W.isFn K (.ref f_Store_take) = true)
    (l_Store_take : K.lookup f_Store_take = some ⟨oc_Store_take, od_Store_take, .func (PySem.W.fnOf "take" "Store.take" (defArgs s_Store_take) (defBody s_Store_take) (defScope s_Store_take) .none kV_Store_take dc_Store_take pm_Store_take an_Store_take cd_Store_take ct_Store_take), sl_Store_take⟩)
    (c_Store_take : PySem.W.codeIn K cd_Store_take "Store.take" = true) (k_Store_take : PySem.W.keepIn K (.ref f_Store_take) = true)
    {od_Store_height an_Store_height : Option Addr} {sl_Store_height : Array (Option Value)} {f_Store_height : Addr} {oc_Store_height kV_Store_height dc_Store_height pm_Store_height cd_Store_height ct_Store_height : Value}
    (a_Store_height : PySem.W.findIn K (.ref A_Store) "height" = some (some (.ref f_Store_height))) (i_Store_height : PySem.W.isFn K (.ref f_Store_height) = true)
    (l_Store_height : K.lookup f_Store_height = some ⟨oc_Store_height, od_Store_height, .func (PySem.W.fnOf "height" "Store.height" (defArgs s_Store_height) (defBody s_Store_height) (defScope s_Store_height) .none kV_Store_height dc_Store_height pm_Store_height an_Store_height cd_Store_height ct_Store_height), sl_Store_height⟩)
    (c_Store_height : PySem.W.codeIn K cd_Store_height "Store.height" = true) (k_Store_height : PySem.W.keepIn K (.ref f_Store_height) = true)
    {od_Store_four an_Store_four : Option Addr} {sl_Store_four : Array (Option Value)} {f_Store_four : Addr} {oc_Store_four kV_Store_four dc_Store_four pm_Store_four cd_Store_four ct_Store_four : Value}
    (a_Store_four : PySem.W.findIn K (.ref A_Store) "four" = some (some (.ref f_Store_four))) (i_Store_four : PySem.W.isFn K (.ref f_Store_four) = true)
    (l_Store_four : K.lookup f_Store_four = some ⟨oc_Store_four, od_Store_four, .func (PySem.W.fnOf "four" "Store.four" (defArgs s_Store_four) (defBody s_Store_four) (defScope s_Store_four) .none kV_Store_four dc_Store_four pm_Store_four an_Store_four cd_Store_four ct_Store_four), sl_Store_four⟩)
    (c_Store_four : PySem.W.codeIn K cd_Store_four "Store.four" = true) (k_Store_four : PySem.W.keepIn K (.ref f_Store_four) = true)
    {od_Store_fours an_Store_fours : Option Addr} {sl_Store_fours : Array (Option Value)} {f_Store_fours : Addr} {oc_Store_fours kV_Store_fours dc_Store_fours pm_Store_fours cd_Store_fours ct_Store_fours : Value}
    (a_Store_fours : PySem.W.findIn K (.ref A_Store) "fours" = some (some (.ref f_Store_fours))) (i_Store_fours : PySem.W.isFn K (.ref f_Store_fours) = true)
    (l_Store_fours : K.lookup f_Store_fours = some ⟨oc_Store_fours, od_Store_fours, .func (PySem.W.fnOf "fours" "Store.fours" (defArgs s_Store_fours) (defBody s_Store_fours) (defScope s_Store_fours) .none kV_Store_fours dc_Store_fours pm_Store_fours an_Store_fours cd_Store_fours ct_Store_fours), sl_Store_fours⟩)
    (c_Store_fours : PySem.W.codeIn K cd_Store_fours "Store.fours" = true) (k_Store_fours : PySem.W.keepIn K (.ref f_Store_fours) = true)
    {od_Store_told an_Store_told : Option Addr} {sl_Store_told : Array (Option Value)} {f_Store_told : Addr} {oc_Store_told kV_Store_told dc_Store_told pm_Store_told cd_Store_told ct_Store_told : Value}
    (a_Store_told : PySem.W.findIn K (.ref A_Store) "told" = some (some (.ref f_Store_told))) (i_Store_told : PySem.W.isFn K (.ref f_Store_told) = true)
    (l_Store_told : K.lookup f_Store_told = some ⟨oc_Store_told, od_Store_told, .func (PySem.W.fnOf "told" "Store.told" (defArgs s_Store_told) (defBody s_Store_told) (defScope s_Store_told) .none kV_Store_told dc_Store_told pm_Store_told an_Store_told cd_Store_told ct_Store_told), sl_Store_told⟩)
    (c_Store_told : PySem.W.codeIn K cd_Store_told "Store.told" = true) (k_Store_told : PySem.W.keepIn K (.ref f_Store_told) = true)
    {od_Store_watch an_Store_watch : Option Addr} {sl_Store_watch : Array (Option Value)} {f_Store_watch : Addr} {oc_Store_watch kV_Store_watch dc_Store_watch pm_Store_watch cd_Store_watch ct_Store_watch : Value}
    (a_Store_watch : PySem.W.findIn K (.ref A_Store) "watch" = some (some (.ref f_Store_watch))) (i_Store_watch : PySem.W.isFn K (.ref f_Store_watch) = true)
    (l_Store_watch : K.lookup f_Store_watch = some ⟨oc_Store_watch, od_Store_watch, .func (PySem.W.fnOf "watch" "Store.watch" (defArgs s_Store_watch) (defBody s_Store_watch) (defScope s_Store_watch) .none kV_Store_watch dc_Store_watch pm_Store_watch an_Store_watch cd_Store_watch ct_Store_watch), sl_Store_watch⟩)
    (c_Store_watch : PySem.W.codeIn K cd_Store_watch "Store.watch" = true) (k_Store_watch : PySem.W.keepIn K (.ref f_Store_watch) = true)
    {od_Store_news an_Store_news : Option Addr} {sl_Store_news : Array (Option Value)} {f_Store_news : Addr} {oc_Store_news kV_Store_news dc_Store_news pm_Store_news cd_Store_news ct_Store_news : Value}
    (a_Store_news : PySem.W.findIn K (.ref A_Store) "news" = some (some (.ref f_Store_news))) (i_Store_news : PySem.W.isFn K (.ref f_Store_news) = true)
    (l_Store_news : K.lookup f_Store_news = some ⟨oc_Store_news, od_Store_news, .func (PySem.W.fnOf "news" "Store.news" (defArgs s_Store_news) (defBody s_Store_news) (defScope s_Store_news) .none kV_Store_news dc_Store_news pm_Store_news an_Store_news cd_Store_news ct_Store_news), sl_Store_news⟩)
    (c_Store_news : PySem.W.codeIn K cd_Store_news "Store.news" = true) (k_Store_news : PySem.W.keepIn K (.ref f_Store_news) = true)
    {od_Store_undo an_Store_undo : Option Addr} {sl_Store_undo : Array (Option Value)} {f_Store_undo : Addr} {oc_Store_undo kV_Store_undo dc_Store_undo pm_Store_undo cd_Store_undo ct_Store_undo : Value}
    (a_Store_undo : PySem.W.findIn K (.ref A_Store) "undo" = some (some (.ref f_Store_undo))) (i_Store_undo : PySem.W.isFn K (.ref f_Store_undo) = true)
    (l_Store_undo : K.lookup f_Store_undo = some ⟨oc_Store_undo, od_Store_undo, .func (PySem.W.fnOf "undo" "Store.undo" (defArgs s_Store_undo) (defBody s_Store_undo) (defScope s_Store_undo) .none kV_Store_undo dc_Store_undo pm_Store_undo an_Store_undo cd_Store_undo ct_Store_undo), sl_Store_undo⟩)
    (c_Store_undo : PySem.W.codeIn K cd_Store_undo "Store.undo" = true) (k_Store_undo : PySem.W.keepIn K (.ref f_Store_undo) = true)
    {od_Store_times an_Store_times : Option Addr} {sl_Store_times : Array (Option Value)} {f_Store_times : Addr} {oc_Store_times kV_Store_times dc_Store_times pm_Store_times cd_Store_times ct_Store_times : Value}
    (a_Store_times : PySem.W.findIn K (.ref A_Store) "times" = some (some (.ref f_Store_times))) (i_Store_times : PySem.W.isFn K (.ref f_Store_times) = true)
    (l_Store_times : K.lookup f_Store_times = some ⟨oc_Store_times, od_Store_times, .func (PySem.W.fnOf "times" "Store.times" (defArgs s_Store_times) (defBody s_Store_times) (defScope s_Store_times) .none kV_Store_times dc_Store_times pm_Store_times an_Store_times cd_Store_times ct_Store_times), sl_Store_times⟩)
    (c_Store_times : PySem.W.codeIn K cd_Store_times "Store.times" = true) (k_Store_times : PySem.W.keepIn K (.ref f_Store_times) = true)
    {od_Board___init an_Board___init : Option Addr} {sl_Board___init : Array (Option Value)} {f_Board___init : Addr} {oc_Board___init kV_Board___init dc_Board___init pm_Board___init cd_Board___init ct_Board___init : Value}
    (a_Board___init : PySem.W.findIn K (.ref A_Board) "__init__" = some (some (.ref f_Board___init))) (i_Board___init : PySem.W.isFn K (.ref f_Board___init) = true)
    (l_Board___init : K.lookup f_Board___init = some ⟨oc_Board___init, od_Board___init, .func (PySem.W.fnOf "__init__" "Board.__init__" (defArgs s_Board___init) (defBody s_Board___init) (defScope s_Board___init) .none kV_Board___init dc_Board___init pm_Board___init an_Board___init cd_Board___init ct_Board___init), sl_Board___init⟩)
    (c_Board___init : PySem.W.codeIn K cd_Board___init "Board.__init__" = true) (k_Board___init : PySem.W.keepIn K (.ref f_Board___init) = true)
    {od_Board_store an_Board_store : Option Addr} {sl_Board_store : Array (Option Value)} {f_Board_store : Addr} {oc_Board_store kV_Board_store dc_Board_store pm_Board_store cd_Board_store ct_Board_store : Value}
    (a_Board_store : PySem.W.findIn K (.ref A_Board) "store" = some (some (.ref f_Board_store))) (i_Board_store : PySem.W.isFn K (.ref f_Board_store) = true)
    (l_Board_store : K.lookup f_Board_store = some ⟨oc_Board_store, od_Board_store, .func (PySem.W.fnOf "store" "Board.store" (defArgs s_Board_store) (defBody s_Board_store) (defScope s_Board_store) .none kV_Board_store dc_Board_store pm_Board_store an_Board_store cd_Board_store ct_Board_store), sl_Board_store⟩)
    (c_Board_store : PySem.W.codeIn K cd_Board_store "Board.store" = true) (k_Board_store : PySem.W.keepIn K (.ref f_Board_store) = true)
    {od_Board_names an_Board_names : Option Addr} {sl_Board_names : Array (Option Value)} {f_Board_names : Addr} {oc_Board_names kV_Board_names dc_Board_names pm_Board_names cd_Board_names ct_Board_names : Value}
    (a_Board_names : PySem.W.findIn K (.ref A_Board) "names" = some (some (.ref f_Board_names))) (i_Board_names : PySem.W.isFn K (.ref f_Board_names) = true)
    (l_Board_names : K.lookup f_Board_names = some ⟨oc_Board_names, od_Board_names, .func (PySem.W.fnOf "names" "Board.names" (defArgs s_Board_names) (defBody s_Board_names) (defScope s_Board_names) .none kV_Board_names dc_Board_names pm_Board_names an_Board_names cd_Board_names ct_Board_names), sl_Board_names⟩)
    (c_Board_names : PySem.W.codeIn K cd_Board_names "Board.names" = true) (k_Board_names : PySem.W.keepIn K (.ref f_Board_names) = true)
    {od_Board_picture an_Board_picture : Option Addr} {sl_Board_picture : Array (Option Value)} {f_Board_picture : Addr} {oc_Board_picture kV_Board_picture dc_Board_picture pm_Board_picture cd_Board_picture ct_Board_picture : Value}
    (a_Board_picture : PySem.W.findIn K (.ref A_Board) "picture" = some (some (.ref f_Board_picture))) (i_Board_picture : PySem.W.isFn K (.ref f_Board_picture) = true)
    (l_Board_picture : K.lookup f_Board_picture = some ⟨oc_Board_picture, od_Board_picture, .func (PySem.W.fnOf "picture" "Board.picture" (defArgs s_Board_picture) (defBody s_Board_picture) (defScope s_Board_picture) .none kV_Board_picture dc_Board_picture pm_Board_picture an_Board_picture cd_Board_picture ct_Board_picture), sl_Board_picture⟩)
    (c_Board_picture : PySem.W.codeIn K cd_Board_picture "Board.picture" = true) (k_Board_picture : PySem.W.keepIn K (.ref f_Board_picture) = true)
    {od_Board_kept an_Board_kept : Option Addr} {sl_Board_kept : Array (Option Value)} {f_Board_kept : Addr} {oc_Board_kept kV_Board_kept dc_Board_kept pm_Board_kept cd_Board_kept ct_Board_kept : Value}
    (a_Board_kept : PySem.W.findIn K (.ref A_Board) "kept" = some (some (.ref f_Board_kept))) (i_Board_kept : PySem.W.isFn K (.ref f_Board_kept) = true)
    (l_Board_kept : K.lookup f_Board_kept = some ⟨oc_Board_kept, od_Board_kept, .func (PySem.W.fnOf "kept" "Board.kept" (defArgs s_Board_kept) (defBody s_Board_kept) (defScope s_Board_kept) .none kV_Board_kept dc_Board_kept pm_Board_kept an_Board_kept cd_Board_kept ct_Board_kept), sl_Board_kept⟩)
    (c_Board_kept : PySem.W.codeIn K cd_Board_kept "Board.kept" = true) (k_Board_kept : PySem.W.keepIn K (.ref f_Board_kept) = true)
    (z_isinstance : PySem.W.nsIn K mainGlobals "isinstance" = some none)
    (z_len : PySem.W.nsIn K mainGlobals "len" = some none)
    (z_range : PySem.W.nsIn K mainGlobals "range" = some none)
    (z_int : PySem.W.nsIn K mainGlobals "int" = some none)
    (z_bool : PySem.W.nsIn K mainGlobals "bool" = some none)
    (z_str : PySem.W.nsIn K mainGlobals "str" = some none)
    (z_tuple : PySem.W.nsIn K mainGlobals "tuple" = some none)
    (z_list : PySem.W.nsIn K mainGlobals "list" = some none)
    (z_set : PySem.W.nsIn K mainGlobals "set" = some none)
    (z_dict : PySem.W.nsIn K mainGlobals "dict" = some none)
    (z_abs : PySem.W.nsIn K mainGlobals "abs" = some none)
    (z_all : PySem.W.nsIn K mainGlobals "all" = some none)
    (z_any : PySem.W.nsIn K mainGlobals "any" = some none)
    (z_max : PySem.W.nsIn K mainGlobals "max" = some none)
    (z_min : PySem.W.nsIn K mainGlobals "min" = some none)
    (z_sum : PySem.W.nsIn K mainGlobals "sum" = some none)
    (z_sorted : PySem.W.nsIn K mainGlobals "sorted" = some none)
    (z_zip : PySem.W.nsIn K mainGlobals "zip" = some none)
    (z_divmod : PySem.W.nsIn K mainGlobals "divmod" = some none)
    (z_repr : PySem.W.nsIn K mainGlobals "repr" = some none)
    (z_reversed : PySem.W.nsIn K mainGlobals "reversed" = some none)
    (z_ValueError : PySem.W.nsIn K mainGlobals "ValueError" = some none)
    {tk_MOST_LEVEL : Tok} (v_MOST_LEVEL : PySem.W.nsIn K mainGlobals "MOST_LEVEL" = some (some (.int (40) tk_MOST_LEVEL)))
    {tk_FIRST : Tok} (v_FIRST : PySem.W.nsIn K mainGlobals "FIRST" = some (some (.int (-1099511627776) tk_FIRST)))
    {tk_BEHIND : Tok} (v_BEHIND : PySem.W.nsIn K mainGlobals "BEHIND" = some (some (.int (1099511627776) tk_BEHIND)))
    {tk_LONGEST : Tok} (v_LONGEST : PySem.W.nsIn K mainGlobals "LONGEST" = some (some (.int (8) tk_LONGEST)))
    {E_FourPointsError : Addr} (xg_FourPointsError : PySem.W.nsIn K mainGlobals "FourPointsError" = some (some (.ref E_FourPointsError))) (xe_FourPointsError : PySem.W.excIn K E_FourPointsError bmV "ValueError.__new__" = true) (xk_FourPointsError : PySem.W.keepIn K (.ref E_FourPointsError) = true) (xb_FourPointsError : PySem.W.subIn K (.ref E_FourPointsError) (.type "BaseException") = some true) (xt_FourPointsError : PySem.W.typeIn K (.ref E_FourPointsError) = some (.type "type"))
    {E_NoText : Addr} (xg_NoText : PySem.W.nsIn K mainGlobals "NoText" = some (some (.ref E_NoText))) (xe_NoText : PySem.W.excIn K E_NoText bmV "ValueError.__new__" = true) (xk_NoText : PySem.W.keepIn K (.ref E_NoText) = true) (xb_NoText : PySem.W.subIn K (.ref E_NoText) (.type "BaseException") = some true) (xt_NoText : PySem.W.typeIn K (.ref E_NoText) = some (.type "type"))
    {E_NoColumn : Addr} (xg_NoColumn : PySem.W.nsIn K mainGlobals "NoColumn" = some (some (.ref E_NoColumn))) (xe_NoColumn : PySem.W.excIn K E_NoColumn bmV "ValueError.__new__" = true) (xk_NoColumn : PySem.W.keepIn K (.ref E_NoColumn) = true) (xb_NoColumn : PySem.W.subIn K (.ref E_NoColumn) (.type "BaseException") = some true) (xt_NoColumn : PySem.W.typeIn K (.ref E_NoColumn) = some (.type "type"))
    {E_NotHalf : Addr} (xg_NotHalf : PySem.W.nsIn K mainGlobals "NotHalf" = some (some (.ref E_NotHalf))) (xe_NotHalf : PySem.W.excIn K E_NotHalf bmV "ValueError.__new__" = true) (xk_NotHalf : PySem.W.keepIn K (.ref E_NotHalf) = true) (xb_NotHalf : PySem.W.subIn K (.ref E_NotHalf) (.type "BaseException") = some true) (xt_NotHalf : PySem.W.typeIn K (.ref E_NotHalf) = some (.type "type"))
    {E_OutOfTimes : Addr} (xg_OutOfTimes : PySem.W.nsIn K mainGlobals "OutOfTimes" = some (some (.ref E_OutOfTimes))) (xe_OutOfTimes : PySem.W.excIn K E_OutOfTimes bmV "ValueError.__new__" = true) (xk_OutOfTimes : PySem.W.keepIn K (.ref E_OutOfTimes) = true) (xb_OutOfTimes : PySem.W.subIn K (.ref E_OutOfTimes) (.type "BaseException") = some true) (xt_OutOfTimes : PySem.W.typeIn K (.ref E_OutOfTimes) = some (.type "type"))
    {E_NoSample : Addr} (xg_NoSample : PySem.W.nsIn K mainGlobals "NoSample" = some (some (.ref E_NoSample))) (xe_NoSample : PySem.W.excIn K E_NoSample bmV "ValueError.__new__" = true) (xk_NoSample : PySem.W.keepIn K (.ref E_NoSample) = true) (xb_NoSample : PySem.W.subIn K (.ref E_NoSample) (.type "BaseException") = some true) (xt_NoSample : PySem.W.typeIn K (.ref E_NoSample) = some (.type "type"))
    {E_NoWatch : Addr} (xg_NoWatch : PySem.W.nsIn K mainGlobals "NoWatch" = some (some (.ref E_NoWatch))) (xe_NoWatch : PySem.W.excIn K E_NoWatch bmV "ValueError.__new__" = true) (xk_NoWatch : PySem.W.keepIn K (.ref E_NoWatch) = true) (xb_NoWatch : PySem.W.subIn K (.ref E_NoWatch) (.type "BaseException") = some true) (xt_NoWatch : PySem.W.typeIn K (.ref E_NoWatch) = some (.type "type"))
    {E_NoName : Addr} (xg_NoName : PySem.W.nsIn K mainGlobals "NoName" = some (some (.ref E_NoName))) (xe_NoName : PySem.W.excIn K E_NoName bmV "ValueError.__new__" = true) (xk_NoName : PySem.W.keepIn K (.ref E_NoName) = true) (xb_NoName : PySem.W.subIn K (.ref E_NoName) (.type "BaseException") = some true) (xt_NoName : PySem.W.typeIn K (.ref E_NoName) = some (.type "type"))
    {E_NotApart : Addr} (xg_NotApart : PySem.W.nsIn K mainGlobals "NotApart" = some (some (.ref E_NotApart))) (xe_NotApart : PySem.W.excIn K E_NotApart bmV "ValueError.__new__" = true) (xk_NotApart : PySem.W.keepIn K (.ref E_NotApart) = true) (xb_NotApart : PySem.W.subIn K (.ref E_NotApart) (.type "BaseException") = some true) (xt_NotApart : PySem.W.typeIn K (.ref E_NotApart) = some (.type "type"))
    (xhn : PySem.W.specialIn K (.builtin "object.__class__") "__get__" = some (some (.builtin "getset_descriptor.__get__"))) (xht : PySem.W.takesIn K (.builtin "object.__class__") = some true)
    (xd_NoColumn : PySem.W.hasDictIn K E_NoColumn = true)
    (xd_NoSample : PySem.W.hasDictIn K E_NoSample = true)
    (xd_NoText : PySem.W.hasDictIn K E_NoText = true)
    (xd_NoWatch : PySem.W.hasDictIn K E_NoWatch = true)
    (xd_NotApart : PySem.W.hasDictIn K E_NotApart = true)
    (xd_NotHalf : PySem.W.hasDictIn K E_NotHalf = true)
    (xd_OutOfTimes : PySem.W.hasDictIn K E_OutOfTimes = true)
    (xd_NoName : PySem.W.hasDictIn K E_NoName = true)
    (xp_NoName : PySem.W.findIn K (.ref E_NoName) "__getattribute__" = some (some (.builtin "BaseException.__getattribute__"))) (xq_NoName : PySem.W.findIn K (.ref E_NoName) "__getattr__" = some none) (xc_NoName : PySem.W.findIn K (.ref E_NoName) "__class__" = some (some (.builtin "object.__class__"))) (xm_NoName : PySem.W.mroIn K E_NoName (.type "object") = some true)
    (xd_FourPointsError : PySem.W.hasDictIn K E_FourPointsError = true)
    (xs_NoName_NoName : PySem.W.subIn K (.ref E_NoName) (.ref E_NoName) = some true)
    (xs_NoName_NoColumn : PySem.W.subIn K (.ref E_NoName) (.ref E_NoColumn) = some false)
    (xs_NoName_NoSample : PySem.W.subIn K (.ref E_NoName) (.ref E_NoSample) = some false)
    (xs_NoName_NoText : PySem.W.subIn K (.ref E_NoName) (.ref E_NoText) = some false)
    (xs_NoName_NoWatch : PySem.W.subIn K (.ref E_NoName) (.ref E_NoWatch) = some false)
    (xs_NoName_NotApart : PySem.W.subIn K (.ref E_NoName) (.ref E_NotApart) = some false)
    (xs_NoName_NotHalf : PySem.W.subIn K (.ref E_NoName) (.ref E_NotHalf) = some false)
    (xs_NoName_OutOfTimes : PySem.W.subIn K (.ref E_NoName) (.ref E_OutOfTimes) = some false)
    (xs_NoName_FourPointsError : PySem.W.subIn K (.ref E_NoName) (.ref E_FourPointsError) = some true)
    : ∃ fd : FuncData, (∀ (s : Shared) (v : Value), BindsTo s fd ⟨[v], []⟩ [("_law_script", v)]) ∧ ∀ base : Heap, K.In base → base.Ns mainGlobals mg → FnOk l.prog w K mg base (L2.CX l.prog w) 8 fa fd ["_law_script"] (sp_law K) := by
  have e := hfa.symm.trans (PySem.W.mg_of X G a_law)
  cases e
  have B : Blt mg := ⟨PySem.W.mg_none_of X G z_isinstance, PySem.W.mg_none_of X G z_len, PySem.W.mg_none_of X G z_range, PySem.W.mg_none_of X G z_int, PySem.W.mg_none_of X G z_bool, PySem.W.mg_none_of X G z_str, PySem.W.mg_none_of X G z_tuple, PySem.W.mg_none_of X G z_list, PySem.W.mg_none_of X G z_set, PySem.W.mg_none_of X G z_dict, PySem.W.mg_none_of X G z_abs, PySem.W.mg_none_of X G z_all, PySem.W.mg_none_of X G z_any, PySem.W.mg_none_of X G z_max, PySem.W.mg_none_of X G z_min, PySem.W.mg_none_of X G z_sum, PySem.W.mg_none_of X G z_sorted, PySem.W.mg_none_of X G z_zip, PySem.W.mg_none_of X G z_divmod, PySem.W.mg_none_of X G z_repr, PySem.W.mg_none_of X G z_reversed, PySem.W.mg_none_of X G z_ValueError⟩
  have F_wall := fun_mk (st := s_wall) l_wall c_wall k_wall
  have D_wall : Def K mg "_wall" s_wall ["k"] := def_mk F_wall (PySem.W.mg_of X G a_wall) (F_wall.binds (ps := ["k"]) fun _ _ _ _ _ _ us hl => match us, hl with | [_], _ => rfl)
  have F_is_number := fun_mk (st := s_is_number) l_is_number c_is_number k_is_number
  have D_is_number : Def K mg "is_number" s_is_number ["thing"] := def_mk F_is_number (PySem.W.mg_of X G a_is_number) (F_is_number.binds (ps := ["thing"]) fun _ _ _ _ _ _ us hl => match us, hl with | [_], _ => rfl)
  have F_times_of := fun_mk (st := s_times_of) l_times_of c_times_of k_times_of
  have D_times_of : Def K mg "times_of" s_times_of ["window", "k"] := def_mk F_times_of (PySem.W.mg_of X G a_times_of) (F_times_of.binds (ps := ["window", "k"]) fun _ _ _ _ _ _ us hl => match us, hl with | [_, _], _ => rfl)
  have F_lower_of := fun_mk (st := s_lower_of) l_lower_of c_lower_of k_lower_of
  have D_lower_of : Def K mg "lower_of" s_lower_of ["one", "other"] := def_mk F_lower_of (PySem.W.mg_of X G a_lower_of) (F_lower_of.binds (ps := ["one", "other"]) fun _ _ _ _ _ _ us hl => match us, hl with | [_, _], _ => rfl)
  have F_higher_of := fun_mk (st := s_higher_of) l_higher_of c_higher_of k_higher_of
  have D_higher_of : Def K mg "higher_of" s_higher_of ["one", "other"] := def_mk F_higher_of (PySem.W.mg_of X G a_higher_of) (F_higher_of.binds (ps := ["one", "other"]) fun _ _ _ _ _ _ us hl => match us, hl with | [_, _], _ => rfl)
  have F_joined := fun_mk (st := s_joined) l_joined c_joined k_joined
  have D_joined : Def K mg "joined" s_joined ["one", "other"] := def_mk F_joined (PySem.W.mg_of X G a_joined) (F_joined.binds (ps := ["one", "other"]) fun _ _ _ _ _ _ us hl => match us, hl with | [_, _], _ => rfl)
  have F_is_end := fun_mk (st := s_is_end) l_is_end c_is_end k_is_end
  have D_is_end : Def K mg "is_end" s_is_end ["thing"] := def_mk F_is_end (PySem.W.mg_of X G a_is_end) (F_is_end.binds (ps := ["thing"]) fun _ _ _ _ _ _ us hl => match us, hl with | [_], _ => rfl)
  have F_want_time := fun_mk (st := s_want_time) l_want_time c_want_time k_want_time
  have D_want_time : Def K mg "want_time" s_want_time ["t"] := def_mk F_want_time (PySem.W.mg_of X G a_want_time) (F_want_time.binds (ps := ["t"]) fun _ _ _ _ _ _ us hl => match us, hl with | [_], _ => rfl)
  have F_level_from := fun_mk (st := s_level_from) l_level_from c_level_from k_level_from
  have D_level_from : Def K mg "level_from" s_level_from ["begin", "end"] := def_mk F_level_from (PySem.W.mg_of X G a_level_from) (F_level_from.binds (ps := ["begin", "end"]) fun _ _ _ _ _ _ us hl => match us, hl with | [_, _], _ => rfl)
  have F_stretches := fun_mk (st := s_stretches) l_stretches c_stretches k_stretches
  have D_stretches : Def K mg "stretches" s_stretches ["begin", "end"] := def_mk F_stretches (PySem.W.mg_of X G a_stretches) (F_stretches.binds (ps := ["begin", "end"]) fun _ _ _ _ _ _ us hl => match us, hl with | [_, _], _ => rfl)
  have F_is_name := fun_mk (st := s_is_name) l_is_name c_is_name k_is_name
  have D_is_name : Def K mg "is_name" s_is_name ["thing"] := def_mk F_is_name (PySem.W.mg_of X G a_is_name) (F_is_name.binds (ps := ["thing"]) fun _ _ _ _ _ _ us hl => match us, hl with | [_], _ => rfl)
  have F_law_cell := fun_mk (st := s_law_cell) l_law_cell c_law_cell k_law_cell
  have D_law_cell : Def K mg "_law_cell" s_law_cell ["_law_script", "_law_k"] := def_mk F_law_cell (PySem.W.mg_of X G a_law_cell) (F_law_cell.binds (ps := ["_law_script", "_law_k"]) fun _ _ _ _ _ _ us hl => match us, hl with | [_, _], _ => rfl)
  have F_law_purse := fun_mk (st := s_law_purse) l_law_purse c_law_purse k_law_purse
  have D_law_purse : Def K mg "_law_purse" s_law_purse ["_law_cell_here", "_law_k"] := def_mk F_law_purse (PySem.W.mg_of X G a_law_purse) (F_law_purse.binds (ps := ["_law_cell_here", "_law_k"]) fun _ _ _ _ _ _ us hl => match us, hl with | [_, _], _ => rfl)
  have F_law_draw := fun_mk (st := s_law_draw) l_law_draw c_law_draw k_law_draw
  have D_law_draw : Def K mg "_law_draw" s_law_draw ["_law_purse_here", "_law_many"] := def_mk F_law_draw (PySem.W.mg_of X G a_law_draw) (F_law_draw.binds (ps := ["_law_purse_here", "_law_many"]) fun _ _ _ _ _ _ us hl => match us, hl with | [_, _], _ => rfl)
  have F_law_named := fun_mk (st := s_law_named) l_law_named c_law_named k_law_named
  have D_law_named : Def K mg "_law_named" s_law_named ["_law_purse_here"] := def_mk F_law_named (PySem.W.mg_of X G a_law_named) (F_law_named.binds (ps := ["_law_purse_here"]) fun _ _ _ _ _ _ us hl => match us, hl with | [_], _ => rfl)
  have F_law_no_name := fun_mk (st := s_law_no_name) l_law_no_name c_law_no_name k_law_no_name
  have D_law_no_name : Def K mg "_law_no_name" s_law_no_name ["_law_purse_here", "_law_name"] := def_mk F_law_no_name (PySem.W.mg_of X G a_law_no_name) (F_law_no_name.binds (ps := ["_law_purse_here", "_law_name"]) fun _ _ _ _ _ _ us hl => match us, hl with | [_, _], _ => rfl)
  have F_law_other := fun_mk (st := s_law_other) l_law_other c_law_other k_law_other
  have D_law_other : Def K mg "_law_other" s_law_other ["_law_e"] := def_mk F_law_other (PySem.W.mg_of X G a_law_other) (F_law_other.binds (ps := ["_law_e"]) fun _ _ _ _ _ _ us hl => match us, hl with | [_], _ => rfl)
  have F_law_refused := fun_mk (st := s_law_refused) l_law_refused c_law_refused k_law_refused
  have D_law_refused : Def K mg "_law_refused" s_law_refused ["_law_board", "_law_thing"] := def_mk F_law_refused (PySem.W.mg_of X G a_law_refused) (F_law_refused.binds (ps := ["_law_board", "_law_thing"]) fun _ _ _ _ _ _ us hl => match us, hl with | [_, _], _ => rfl)
  have F_law := fun_mk (st := s_law) l_law c_law k_law
  have D_law : Def K mg "law" s_law ["_law_script"] := def_mk F_law (PySem.W.mg_of X G a_law) (F_law.binds (ps := ["_law_script"]) fun _ _ _ _ _ _ us hl => match us, hl with | [_], _ => rfl)
  have T_Store : ClT K mg "Store" A_Store := ⟨PySem.W.mg_of X G cg_Store, ⟨cp_Store, ch_Store, co_Store, cs_Store⟩, cm_Store, ck_Store⟩
  have T_Board : ClT K mg "Board" A_Board := ⟨PySem.W.mg_of X G cg_Board, ⟨cp_Board, ch_Board, co_Board, cs_Board⟩, cm_Board, ck_Board⟩
  have D_Store___init : IDef K A_Store "Store.__init__" s_Store___init ["self", "curve"] := idef_mk (n := 1) ⟨⟨_, _, _, _, _, _, _, _, _, _, rfl, l_Store___init, c_Store___init, .inr ⟨by simp, _, _, [.none], _, rfl, dl_Store___init, rfl, .cons rfl .nil⟩, .inl rfl⟩, k_Store___init⟩ ⟨cm_Store, a_Store___init, i_Store___init, ck_Store⟩ rfl
    (fun _ _ _ _ _ _ _ us its hu hi => match us, its, hu, hi with | [_], [_], _, _ => ⟨_, rfl, rfl⟩)
    (fun _ _ _ _ _ _ _ us its hu hi => match us, its, hu, hi with | [_, _], [_], _, _ => ⟨_, rfl, rfl⟩)
    (fun _ _ _ _ _ _ _ us its ws hu hi hw => match us, its, ws, hu, hi, hw with | [_], [_], [_], _, _, _ => ⟨_, rfl, rfl⟩)
  have F_Store_set_height := fun_mk (st := s_Store_set_height) l_Store_set_height c_Store_set_height k_Store_set_height
  have D_Store_set_height : MDef K A_Store "set_height" "Store.set_height" s_Store_set_height ["self", "t", "h"] := mdef_mk F_Store_set_height a_Store_set_height i_Store_set_height k_Store_set_height (F_Store_set_height.binds (ps := ["self", "t", "h"]) fun _ _ _ _ _ _ us hl => match us, hl with | [_, _, _], _ => rfl)
  have F_Store_set_four := fun_mk (st := s_Store_set_four) l_Store_set_four c_Store_set_four k_Store_set_four
  have D_Store_set_four : MDef K A_Store "set_four" "Store.set_four" s_Store_set_four ["self", "stretch", "found"] := mdef_mk F_Store_set_four a_Store_set_four i_Store_set_four k_Store_set_four (F_Store_set_four.binds (ps := ["self", "stretch", "found"]) fun _ _ _ _ _ _ us hl => match us, hl with | [_, _, _], _ => rfl)
  have F_Store_put := fun_mk (st := s_Store_put) l_Store_put c_Store_put k_Store_put
  have D_Store_put : MDef K A_Store "put" "Store.put" s_Store_put ["self", "t", "h"] := mdef_mk F_Store_put a_Store_put i_Store_put k_Store_put (F_Store_put.binds (ps := ["self", "t", "h"]) fun _ _ _ _ _ _ us hl => match us, hl with | [_, _, _], _ => rfl)
  have F_Store_take := fun_mk (st := s_Store_take) l_Store_take c_Store_take k_Store_take
  have D_Store_take : MDef K A_Store "take" "Store.take" s_Store_take ["self", "t"] := mdef_mk F_Store_take a_Store_take i_Store_take k_Store_take (F_Store_take.binds (ps := ["self", "t"]) fun _ _ _ _ _ _ us hl => match us, hl with | [_, _], _ => rfl)
  have F_Store_height := fun_mk (st := s_Store_height) l_Store_height c_Store_height k_Store_height
  have D_Store_height : MDef K A_Store "height" "Store.height" s_Store_height ["self", "t"] := mdef_mk F_Store_height a_Store_height i_Store_height k_Store_height (F_Store_height.binds (ps := ["self", "t"]) fun _ _ _ _ _ _ us hl => match us, hl with | [_, _], _ => rfl)
  have F_Store_four := fun_mk (st := s_Store_four) l_Store_four c_Store_four k_Store_four
  have D_Store_four : MDef K A_Store "four" "Store.four" s_Store_four ["self", "begin", "end"] := mdef_mk F_Store_four a_Store_four i_Store_four k_Store_four (F_Store_four.binds (ps := ["self", "begin", "end"]) fun _ _ _ _ _ _ us hl => match us, hl with | [_, _, _], _ => rfl)
  have F_Store_fours := fun_mk (st := s_Store_fours) l_Store_fours c_Store_fours k_Store_fours
  have D_Store_fours : MDef K A_Store "fours" "Store.fours" s_Store_fours ["self", "window"] := mdef_mk F_Store_fours a_Store_fours i_Store_fours k_Store_fours (F_Store_fours.binds (ps := ["self", "window"]) fun _ _ _ _ _ _ us hl => match us, hl with | [_, _], _ => rfl)
  have F_Store_told := fun_mk (st := s_Store_told) l_Store_told c_Store_told k_Store_told
  have D_Store_told : MDef K A_Store "told" "Store.told" s_Store_told ["self"] := mdef_mk F_Store_told a_Store_told i_Store_told k_Store_told (F_Store_told.binds (ps := ["self"]) fun _ _ _ _ _ _ us hl => match us, hl with | [_], _ => rfl)
  have F_Store_watch := fun_mk (st := s_Store_watch) l_Store_watch c_Store_watch k_Store_watch
  have D_Store_watch : MDef K A_Store "watch" "Store.watch" s_Store_watch ["self", "window"] := mdef_mk F_Store_watch a_Store_watch i_Store_watch k_Store_watch (F_Store_watch.binds (ps := ["self", "window"]) fun _ _ _ _ _ _ us hl => match us, hl with | [_, _], _ => rfl)
  have F_Store_news := fun_mk (st := s_Store_news) l_Store_news c_Store_news k_Store_news
  have D_Store_news : MDef K A_Store "news" "Store.news" s_Store_news ["self", "number"] := mdef_mk F_Store_news a_Store_news i_Store_news k_Store_news (F_Store_news.binds (ps := ["self", "number"]) fun _ _ _ _ _ _ us hl => match us, hl with | [_, _], _ => rfl)
  have F_Store_undo := fun_mk (st := s_Store_undo) l_Store_undo c_Store_undo k_Store_undo
  have D_Store_undo : MDef K A_Store "undo" "Store.undo" s_Store_undo ["self"] := mdef_mk F_Store_undo a_Store_undo i_Store_undo k_Store_undo (F_Store_undo.binds (ps := ["self"]) fun _ _ _ _ _ _ us hl => match us, hl with | [_], _ => rfl)
  have F_Store_times := fun_mk (st := s_Store_times) l_Store_times c_Store_times k_Store_times
  have D_Store_times : MDef K A_Store "times" "Store.times" s_Store_times ["self"] := mdef_mk F_Store_times a_Store_times i_Store_times k_Store_times (F_Store_times.binds (ps := ["self"]) fun _ _ _ _ _ _ us hl => match us, hl with | [_], _ => rfl)
  have F_Board___init := fun_mk (st := s_Board___init) l_Board___init c_Board___init k_Board___init
  have D_Board___init : PDef K A_Board "Board.__init__" s_Board___init ["self"] := pdef_mk F_Board___init ⟨cm_Board, a_Board___init, i_Board___init, ck_Board⟩ (F_Board___init.binds (ps := ["self"]) fun _ _ _ _ _ _ us hl => match us, hl with | [_], _ => rfl)
  have F_Board_store := fun_mk (st := s_Board_store) l_Board_store c_Board_store k_Board_store
  have D_Board_store : MDef K A_Board "store" "Board.store" s_Board_store ["self", "name"] := mdef_mk F_Board_store a_Board_store i_Board_store k_Board_store (F_Board_store.binds (ps := ["self", "name"]) fun _ _ _ _ _ _ us hl => match us, hl with | [_, _], _ => rfl)
  have F_Board_names := fun_mk (st := s_Board_names) l_Board_names c_Board_names k_Board_names
  have D_Board_names : MDef K A_Board "names" "Board.names" s_Board_names ["self"] := mdef_mk F_Board_names a_Board_names i_Board_names k_Board_names (F_Board_names.binds (ps := ["self"]) fun _ _ _ _ _ _ us hl => match us, hl with | [_], _ => rfl)
  have F_Board_picture := fun_mk (st := s_Board_picture) l_Board_picture c_Board_picture k_Board_picture
  have D_Board_picture : MDef K A_Board "picture" "Board.picture" s_Board_picture ["self", "window", "heights"] := mdef_mk F_Board_picture a_Board_picture i_Board_picture k_Board_picture (F_Board_picture.binds (ps := ["self", "window", "heights"]) fun _ _ _ _ _ _ us hl => match us, hl with | [_, _, _], _ => rfl)
  have F_Board_kept := fun_mk (st := s_Board_kept) l_Board_kept c_Board_kept k_Board_kept
  have D_Board_kept : MDef K A_Board "kept" "Board.kept" s_Board_kept ["self", "window"] := mdef_mk F_Board_kept a_Board_kept i_Board_kept k_Board_kept (F_Board_kept.binds (ps := ["self", "window"]) fun _ _ _ _ _ _ us hl => match us, hl with | [_, _], _ => rfl)
  have C_MOST_LEVEL := PySem.W.mg_of X G v_MOST_LEVEL
  have C_FIRST := PySem.W.mg_of X G v_FIRST
  have C_BEHIND := PySem.W.mg_of X G v_BEHIND
  have C_LONGEST := PySem.W.mg_of X G v_LONGEST
  have X_FourPointsError : Exc K mg "FourPointsError" E_FourPointsError := ⟨PySem.W.mg_of X G xg_FourPointsError, xe_FourPointsError, xk_FourPointsError, xb_FourPointsError, xt_FourPointsError⟩
  have X_NoText : Exc K mg "NoText" E_NoText := ⟨PySem.W.mg_of X G xg_NoText, xe_NoText, xk_NoText, xb_NoText, xt_NoText⟩
  have X_NoColumn : Exc K mg "NoColumn" E_NoColumn := ⟨PySem.W.mg_of X G xg_NoColumn, xe_NoColumn, xk_NoColumn, xb_NoColumn, xt_NoColumn⟩
  have X_NotHalf : Exc K mg "NotHalf" E_NotHalf := ⟨PySem.W.mg_of X G xg_NotHalf, xe_NotHalf, xk_NotHalf, xb_NotHalf, xt_NotHalf⟩
  have X_OutOfTimes : Exc K mg "OutOfTimes" E_OutOfTimes := ⟨PySem.W.mg_of X G xg_OutOfTimes, xe_OutOfTimes, xk_OutOfTimes, xb_OutOfTimes, xt_OutOfTimes⟩
  have X_NoSample : Exc K mg "NoSample" E_NoSample := ⟨PySem.W.mg_of X G xg_NoSample, xe_NoSample, xk_NoSample, xb_NoSample, xt_NoSample⟩
  have X_NoWatch : Exc K mg "NoWatch" E_NoWatch := ⟨PySem.W.mg_of X G xg_NoWatch, xe_NoWatch, xk_NoWatch, xb_NoWatch, xt_NoWatch⟩
  have X_NoName : Exc K mg "NoName" E_NoName := ⟨PySem.W.mg_of X G xg_NoName, xe_NoName, xk_NoName, xb_NoName, xt_NoName⟩
  have X_NotApart : Exc K mg "NotApart" E_NotApart := ⟨PySem.W.mg_of X G xg_NotApart, xe_NotApart, xk_NotApart, xb_NotApart, xt_NotApart⟩
  have Y_NoName : ExcC K E_NoName := ⟨xp_NoName, xq_NoName, xb_NoName, xd_NoName, xc_NoName, xhn, xht, xm_NoName⟩
  have W_NoName_NoName : PySem.W.kitOne K (.ref E_NoName) (.ref E_NoName) = some true := kit_true xd_NoName xt_NoName xs_NoName_NoName
  have Z_NoName_NoName : PySem.W.exmOne K (.ref E_NoName) (.ref E_NoName) = some true := PySem.W.exm_ref xb_NoName xd_NoName xt_NoName xs_NoName_NoName
  have W_NoName_NoColumn : PySem.W.kitOne K (.ref E_NoName) (.ref E_NoColumn) = some false := kit_false xd_NoColumn xt_NoColumn xs_NoName_NoName xs_NoName_NoColumn
  have Z_NoName_NoColumn : PySem.W.exmOne K (.ref E_NoName) (.ref E_NoColumn) = some false := PySem.W.exm_ref xb_NoColumn xd_NoColumn xt_NoColumn xs_NoName_NoColumn
  have W_NoName_NoSample : PySem.W.kitOne K (.ref E_NoName) (.ref E_NoSample) = some false := kit_false xd_NoSample xt_NoSample xs_NoName_NoName xs_NoName_NoSample
  have Z_NoName_NoSample : PySem.W.exmOne K (.ref E_NoName) (.ref E_NoSample) = some false := PySem.W.exm_ref xb_NoSample xd_NoSample xt_NoSample xs_NoName_NoSample
  have W_NoName_NoText : PySem.W.kitOne K (.ref E_NoName) (.ref E_NoText) = some false := kit_false xd_NoText xt_NoText xs_NoName_NoName xs_NoName_NoText
  have Z_NoName_NoText : PySem.W.exmOne K (.ref E_NoName) (.ref E_NoText) = some false := PySem.W.exm_ref xb_NoText xd_NoText xt_NoText xs_NoName_NoText
  have W_NoName_NoWatch : PySem.W.kitOne K (.ref E_NoName) (.ref E_NoWatch) = some false := kit_false xd_NoWatch xt_NoWatch xs_NoName_NoName xs_NoName_NoWatch
  have Z_NoName_NoWatch : PySem.W.exmOne K (.ref E_NoName) (.ref E_NoWatch) = some false := PySem.W.exm_ref xb_NoWatch xd_NoWatch xt_NoWatch xs_NoName_NoWatch
  have W_NoName_NotApart : PySem.W.kitOne K (.ref E_NoName) (.ref E_NotApart) = some false := kit_false xd_NotApart xt_NotApart xs_NoName_NoName xs_NoName_NotApart
  have Z_NoName_NotApart : PySem.W.exmOne K (.ref E_NoName) (.ref E_NotApart) = some false := PySem.W.exm_ref xb_NotApart xd_NotApart xt_NotApart xs_NoName_NotApart
  have W_NoName_NotHalf : PySem.W.kitOne K (.ref E_NoName) (.ref E_NotHalf) = some false := kit_false xd_NotHalf xt_NotHalf xs_NoName_NoName xs_NoName_NotHalf
  have Z_NoName_NotHalf : PySem.W.exmOne K (.ref E_NoName) (.ref E_NotHalf) = some false := PySem.W.exm_ref xb_NotHalf xd_NotHalf xt_NotHalf xs_NoName_NotHalf
  have W_NoName_OutOfTimes : PySem.W.kitOne K (.ref E_NoName) (.ref E_OutOfTimes) = some false := kit_false xd_OutOfTimes xt_OutOfTimes xs_NoName_NoName xs_NoName_OutOfTimes
  have Z_NoName_OutOfTimes : PySem.W.exmOne K (.ref E_NoName) (.ref E_OutOfTimes) = some false := PySem.W.exm_ref xb_OutOfTimes xd_OutOfTimes xt_OutOfTimes xs_NoName_OutOfTimes
  have W_NoName_FourPointsError : PySem.W.kitOne K (.ref E_NoName) (.ref E_FourPointsError) = some true := kit_true xd_FourPointsError xt_FourPointsError xs_NoName_FourPointsError
  have Z_NoName_FourPointsError : PySem.W.exmOne K (.ref E_NoName) (.ref E_FourPointsError) = some true := PySem.W.exm_ref xb_FourPointsError xd_FourPointsError xt_FourPointsError xs_NoName_FourPointsError
  refine ⟨PySem.W.fnOf "law" "law" (defArgs s_law) (defBody s_law) (defScope s_law) .none kV_law dc_law pm_law an_law cd_law ct_law, fun s v => .of_eq rfl, fun base _ _ => ?_⟩
  have G_law_cell := fun base => ok_law_cell (P := l.prog) (w := w) (base := base) B D_law_cell
  have G_law_purse := fun base => ok_law_purse (P := l.prog) (w := w) (base := base) B D_law_purse
  have G_law_draw := fun base => ok_law_draw (P := l.prog) (w := w) (base := base) B D_law_draw
  have G_is_number := fun base => ok_is_number (P := l.prog) (w := w) (base := base) B D_is_number
  have G_times_of := fun base => ok_times_of (P := l.prog) (w := w) (base := base) B D_times_of X_NoColumn (G_is_number base)
  have G_is_end := fun base => ok_is_end (P := l.prog) (w := w) (base := base) B D_is_end C_FIRST C_BEHIND
  have G_level_from := fun base => ok_level_from (P := l.prog) (w := w) (base := base) B D_level_from C_MOST_LEVEL
  have G_stretches := fun base => ok_stretches (P := l.prog) (w := w) (base := base) B T_Store N_Store_heights N_Store_by_stretches N_Store_deeds N_Store_deed_times N_Store_watches T_Board N_Board_stores D_stretches X_OutOfTimes (G_level_from base) (G_is_end base)
  have G_lower_of := fun base => ok_lower_of (P := l.prog) (w := w) (base := base) B D_lower_of
  have G_higher_of := fun base => ok_higher_of (P := l.prog) (w := w) (base := base) B D_higher_of
  have G_joined := fun base => ok_joined (P := l.prog) (w := w) (base := base) B D_joined (G_lower_of base) (G_higher_of base)
  have G_want_time := fun base => ok_want_time (P := l.prog) (w := w) (base := base) B D_want_time C_BEHIND X_OutOfTimes (G_is_end base)
  have G_Store_set_four := fun base => ok_Store_set_four (P := l.prog) (w := w) (base := base) B T_Store N_Store_heights N_Store_by_stretches N_Store_deeds N_Store_deed_times N_Store_watches T_Board N_Board_stores D_Store_set_four
  have G_Store_set_height := fun base => ok_Store_set_height (P := l.prog) (w := w) (base := base) B T_Store N_Store_heights N_Store_by_stretches N_Store_deeds N_Store_deed_times N_Store_watches T_Board N_Board_stores D_Store_set_height C_MOST_LEVEL (G_Store_set_four base) (G_joined base)
  have G_Store___init := fun base => ok_Store___init (P := l.prog) (w := w) (base := base) B T_Store N_Store_heights N_Store_by_stretches N_Store_deeds N_Store_deed_times N_Store_watches T_Board N_Board_stores D_Store___init (G_want_time base) (G_Store_set_height base)
  have G_Store_put := fun base => ok_Store_put (P := l.prog) (w := w) (base := base) B T_Store N_Store_heights N_Store_by_stretches N_Store_deeds N_Store_deed_times N_Store_watches T_Board N_Board_stores D_Store_put (G_want_time base) (G_Store_set_height base)
  have G_Store_height := fun base => ok_Store_height (P := l.prog) (w := w) (base := base) B T_Store N_Store_heights N_Store_by_stretches N_Store_deeds N_Store_deed_times N_Store_watches T_Board N_Board_stores D_Store_height X_NoSample (G_is_end base)
  have G_Store_four := fun base => ok_Store_four (P := l.prog) (w := w) (base := base) B T_Store N_Store_heights N_Store_by_stretches N_Store_deeds N_Store_deed_times N_Store_watches T_Board N_Board_stores D_Store_four (G_stretches base) (G_joined base)
  have G_Store_fours := fun base => ok_Store_fours (P := l.prog) (w := w) (base := base) B T_Store N_Store_heights N_Store_by_stretches N_Store_deeds N_Store_deed_times N_Store_watches T_Board N_Board_stores D_Store_fours X_OutOfTimes (G_times_of base) (G_is_end base) (G_Store_four base)
  have G_Store_told := fun base => ok_Store_told (P := l.prog) (w := w) (base := base) B T_Store N_Store_heights N_Store_by_stretches N_Store_deeds N_Store_deed_times N_Store_watches T_Board N_Board_stores D_Store_told
  have G_Store_times := fun base => ok_Store_times (P := l.prog) (w := w) (base := base) B T_Store N_Store_heights N_Store_by_stretches N_Store_deeds N_Store_deed_times N_Store_watches T_Board N_Board_stores D_Store_times
  have G_is_name := fun base => ok_is_name (P := l.prog) (w := w) (base := base) B D_is_name C_LONGEST
  have G_Board___init := fun base => ok_Board___init (P := l.prog) (w := w) (base := base) B T_Store N_Store_heights N_Store_by_stretches N_Store_deeds N_Store_deed_times N_Store_watches T_Board N_Board_stores D_Board___init
  have G_Board_store := fun base => ok_Board_store (P := l.prog) (w := w) (base := base) B T_Store N_Store_heights N_Store_by_stretches N_Store_deeds N_Store_deed_times N_Store_watches T_Board N_Board_stores D_Board_store X_NoName (G_is_name base) (G_Store___init base)
  have G_Board_names := fun base => ok_Board_names (P := l.prog) (w := w) (base := base) B T_Store N_Store_heights N_Store_by_stretches N_Store_deeds N_Store_deed_times N_Store_watches T_Board N_Board_stores D_Board_names
  have G_law_named := fun base => ok_law_named (P := l.prog) (w := w) (base := base) B D_law_named (G_law_draw base)
  have G_law_no_name := fun base => ok_law_no_name (P := l.prog) (w := w) (base := base) B T_Store N_Store_heights N_Store_by_stretches N_Store_deeds N_Store_deed_times N_Store_watches T_Board N_Board_stores D_law_no_name (G_law_draw base)
  have G_law_other := fun base => ok_law_other (P := l.prog) (w := w) (base := base) B D_law_other X_NoColumn X_NoSample X_NoText X_NoWatch X_NotApart X_NotHalf X_OutOfTimes X_NoName Y_NoName W_NoName_NoColumn Z_NoName_NoColumn W_NoName_NoSample Z_NoName_NoSample W_NoName_NoText Z_NoName_NoText W_NoName_NoWatch Z_NoName_NoWatch W_NoName_NotApart Z_NoName_NotApart W_NoName_NotHalf Z_NoName_NotHalf W_NoName_OutOfTimes Z_NoName_OutOfTimes W_NoName_NoName Z_NoName_NoName
  have G_law_refused := fun base => ok_law_refused (P := l.prog) (w := w) (base := base) B T_Store N_Store_heights N_Store_by_stretches N_Store_deeds N_Store_deed_times N_Store_watches T_Board N_Board_stores D_law_refused X_FourPointsError X_NoName Y_NoName W_NoName_FourPointsError Z_NoName_FourPointsError W_NoName_NoName Z_NoName_NoName (G_Board_store base) (G_law_other base)
  exact ok_law B F_law T_Store N_Store_heights N_Store_by_stretches N_Store_deeds N_Store_deed_times N_Store_watches T_Board N_Board_stores (G_law_purse base) (G_Board___init base) (G_Board_names base) (G_law_cell base) (G_law_draw base) (G_law_named base) (G_Board_store base) (G_Store_put base) (G_law_refused base) (G_Store_told base) (G_law_no_name base)

open PySem.W in
theorem walk {l : PySem.W.OpenLaw} {q : Program} {loose : List Str} {XP : (Str → Option Value) → Heap → Prop} {YP : World → Heap → Prop} {d : DefRec} {K : Params → PySem.W.Frag} (hn : l.most = some 63) (hdf : d.params.defaults = [])
    (hY : ∀ (w : World) (h : Heap), YP w h → (K w.params).In h)
    (F : ∀ (w : World) (mg : Str → Option Value) (fa : Addr) (h : Heap), (K w.params).In h → h.Ns mainGlobals mg → mg d.name = some (.ref fa) →
      ∃ fd : FuncData, (∀ (s : Shared) (u : Value), BindsTo s fd ⟨[u], []⟩ [("_law_script", u)]) ∧ ∀ base : Heap, (K w.params).In base → base.Ns mainGlobals mg → FnOk l.prog w (K w.params) mg base (L2.CX l.prog w) 8 fa fd ["_law_script"] (sp_law (K w.params))) :
    PySem.W.WalkO q loose XP YP l.row.toRowW d [] (fun f vs => PySem.call f vs) :=
  L2.walk_ofB (n := 63) (k := 8) (x := "_law_script") (CX := fun w => L2.CX l.prog w) (sp := fun w => sp_law (K w.params)) hn (by decide) hdf ⟨rfl, by decide, by decide⟩ hY F (fun _ H a ns hl hb hO hS => sp_law_top hl hb hO hS)
    fun _ _ _ _ _ z => cx_none z
end Lk81
open PySem PySem.W PyProof.Rows
set_option maxRecDepth 100000 in
set_option maxHeartbeats 0 in
theorem PySem.Challenge.cw_fourpoints_k81_stores_by_names_holds : PySem.Challenge.rw_fourpoints_k81_stores_by_names.Holds := by
  w_on; o_law; k_head; (case hw => w_witness2)
  k_fill
  refine Lk81.walk (l := PySem.Challenge.rw_fourpoints_k81_stores_by_names) rfl rfl (fun w h Y => PySem.W.kIn_of Y) ?F
  case F =>
    intro w mg fa h KX G hmg
    refine' Lk81.all_mk KX G hmg ?a_wall ?l_wall ?c_wall ?k_wall ?a_is_number ?l_is_number ?c_is_number ?k_is_number ?a_times_of ?l_times_of ?c_times_of ?k_times_of ?a_lower_of ?l_lower_of ?c_lower_of ?k_lower_of ?a_higher_of ?l_higher_of ?c_higher_of ?k_higher_of ?a_joined ?l_joined ?c_joined ?k_joined ?a_is_end ?l_is_end ?c_is_end ?k_is_end ?a_want_time ?l_want_time ?c_want_time ?k_want_time ?a_level_from ?l_level_from ?c_level_from ?k_level_from ?a_stretches ?l_stretches ?c_stretches ?k_stretches ?a_is_name ?l_is_name ?c_is_name ?k_is_name ?a_law_cell ?l_law_cell ?c_law_cell ?k_law_cell ?a_law_purse ?l_law_purse ?c_law_purse ?k_law_purse ?a_law_draw ?l_law_draw ?c_law_draw ?k_law_draw ?a_law_named ?l_law_named ?c_law_named ?k_law_named ?a_law_no_name ?l_law_no_name ?c_law_no_name ?k_law_no_name ?a_law_other ?l_law_other ?c_law_other ?k_law_other ?a_law_refused ?l_law_refused ?c_law_refused ?k_law_refused ?a_law ?l_law ?c_law ?k_law ?cg_Store ?cp_Store ?ch_Store ?co_Store ?cs_Store ?cm_Store ?ck_Store ?N_Store_heights ?N_Store_by_stretches ?N_Store_deeds ?N_Store_deed_times ?N_Store_watches ?cg_Board ?cp_Board ?ch_Board ?co_Board ?cs_Board ?cm_Board ?ck_Board ?N_Board_stores ?a_Store___init ?i_Store___init ?l_Store___init ?c_Store___init ?k_Store___init ?dl_Store___init ?a_Store_set_height ?i_Store_set_height ?l_Store_set_height ?c_Store_set_height ?k_Store_set_height ?a_Store_set_four ?i_Store_set_four ?l_Store_set_four ?c_Store_set_four ?k_Store_set_four ?a_Store_put ?i_Store_put ?l_Store_put ?c_Store_put ?k_Store_put ?a_Store_take ?i_Store_take ?l_Store_take ?c_Store_take ?k_Store_take ?a_Store_height ?i_Store_height ?l_Store_height ?c_Store_height ?k_Store_height ?a_Store_four ?i_Store_four ?l_Store_four ?c_Store_four ?k_Store_four ?a_Store_fours ?i_Store_fours ?l_Store_fours ?c_Store_fours ?k_Store_fours ?a_Store_told ?i_Store_told ?l_Store_told ?c_Store_told ?k_Store_told ?a_Store_watch ?i_Store_watch ?l_Store_watch ?c_Store_watch ?k_Store_watch ?a_Store_news ?i_Store_news ?l_Store_news ?c_Store_news ?k_Store_news ?a_Store_undo ?i_Store_undo ?l_Store_undo ?c_Store_undo ?k_Store_undo ?a_Store_times ?i_Store_times ?l_Store_times ?c_Store_times ?k_Store_times ?a_Board___init ?i_Board___init ?l_Board___init ?c_Board___init ?k_Board___init ?a_Board_store ?i_Board_store ?l_Board_store ?c_Board_store ?k_Board_store ?a_Board_names ?i_Board_names ?l_Board_names ?c_Board_names ?k_Board_names ?a_Board_picture ?i_Board_picture ?l_Board_picture ?c_Board_picture ?k_Board_picture ?a_Board_kept ?i_Board_kept ?l_Board_kept ?c_Board_kept ?k_Board_kept ?z_isinstance ?z_len ?z_range ?z_int ?z_bool ?z_str ?z_tuple ?z_list ?z_set ?z_dict ?z_abs ?z_all ?z_any ?z_max ?z_min ?z_sum ?z_sorted ?z_zip ?z_divmod ?z_repr ?z_reversed ?z_ValueError ?v_MOST_LEVEL ?v_FIRST ?v_BEHIND ?v_LONGEST ?xg_FourPointsError ?xe_FourPointsError ?xk_FourPointsError ?xb_FourPointsError ?xt_FourPointsError ?xg_NoText ?xe_NoText ?xk_NoText ?xb_NoText ?xt_NoText ?xg_NoColumn ?xe_NoColumn ?xk_NoColumn ?xb_NoColumn ?xt_NoColumn ?xg_NotHalf ?xe_NotHalf ?xk_NotHalf ?xb_NotHalf ?xt_NotHalf ?xg_OutOfTimes ?xe_OutOfTimes ?xk_OutOfTimes ?xb_OutOfTimes ?xt_OutOfTimes ?xg_NoSample ?xe_NoSample ?xk_NoSample ?xb_NoSample ?xt_NoSample ?xg_NoWatch ?xe_NoWatch ?xk_NoWatch ?xb_NoWatch ?xt_NoWatch ?xg_NoName ?xe_NoName ?xk_NoName ?xb_NoName ?xt_NoName ?xg_NotApart ?xe_NotApart ?xk_NotApart ?xb_NotApart ?xt_NotApart ?xhn ?xht ?xd_NoColumn ?xd_NoSample ?xd_NoText ?xd_NoWatch ?xd_NotApart ?xd_NotHalf ?xd_OutOfTimes ?xd_NoName ?xp_NoName ?xq_NoName ?xc_NoName ?xm_NoName ?xd_FourPointsError ?xs_NoName_NoName ?xs_NoName_NoColumn ?xs_NoName_NoSample ?xs_NoName_NoText ?xs_NoName_NoWatch ?xs_NoName_NotApart ?xs_NoName_NotHalf ?xs_NoName_OutOfTimes ?xs_NoName_FourPointsError
    (case a_wall => k_is)
    (case l_wall => k_is)
    (case c_wall => k_is)
    (case k_wall => k_is)
    (case a_is_number => k_is)
    (case l_is_number => k_is)
    (case c_is_number => k_is)
    (case k_is_number => k_is)
    (case a_times_of => k_is)
    (case l_times_of => k_is)
    (case c_times_of => k_is)
    (case k_times_of => k_is)
    (case a_lower_of => k_is)
    (case l_lower_of => k_is)
    (case c_lower_of => k_is)
    (case k_lower_of => k_is)
    (case a_higher_of => k_is)
    (case l_higher_of => k_is)
    (case c_higher_of => k_is)
    (case k_higher_of => k_is)
    (case a_joined => k_is)
    (case l_joined => k_is)
    (case c_joined => k_is)
    (case k_joined => k_is)
    (case a_is_end => k_is)
    (case l_is_end => k_is)
    (case c_is_end => k_is)
    (case k_is_end => k_is)
    (case a_want_time => k_is)
    (case l_want_time => k_is)
    (case c_want_time => k_is)
    (case k_want_time => k_is)
    (case a_level_from => k_is)
    (case l_level_from => k_is)
    (case c_level_from => k_is)
    (case k_level_from => k_is)
    (case a_stretches => k_is)
    (case l_stretches => k_is)
    (case c_stretches => k_is)
    (case k_stretches => k_is)
    (case a_is_name => k_is)
    (case l_is_name => k_is)
    (case c_is_name => k_is)
    (case k_is_name => k_is)
    (case a_law_cell => k_is)
    (case l_law_cell => k_is)
    (case c_law_cell => k_is)
    (case k_law_cell => k_is)
    (case a_law_purse => k_is)
    (case l_law_purse => k_is)
    (case c_law_purse => k_is)
    (case k_law_purse => k_is)
    (case a_law_draw => k_is)
    (case l_law_draw => k_is)
    (case c_law_draw => k_is)
    (case k_law_draw => k_is)
    (case a_law_named => k_is)
    (case l_law_named => k_is)
    (case c_law_named => k_is)
    (case k_law_named => k_is)
    (case a_law_no_name => k_is)
    (case l_law_no_name => k_is)
    (case c_law_no_name => k_is)
    (case k_law_no_name => k_is)
    (case a_law_other => k_is)
    (case l_law_other => k_is)
    (case c_law_other => k_is)
    (case k_law_other => k_is)
    (case a_law_refused => k_is)
    (case l_law_refused => k_is)
    (case c_law_refused => k_is)
    (case k_law_refused => k_is)
    (case a_law => k_is)
    (case l_law => k_is)
    (case c_law => k_is)
    (case k_law => k_is)
    (case cg_Store => k_is)
    (case cp_Store => k_is)
    (case ch_Store => k_is)
    (case co_Store => k_is)
    (case cs_Store => k_is)
    (case cm_Store => k_is)
    (case ck_Store => k_is)
    (case N_Store_heights => k_is)
    (case N_Store_by_stretches => k_is)
    (case N_Store_deeds => k_is)
    (case N_Store_deed_times => k_is)
    (case N_Store_watches => k_is)
    (case cg_Board => k_is)
    (case cp_Board => k_is)
    (case ch_Board => k_is)
    (case co_Board => k_is)
    (case cs_Board => k_is)
    (case cm_Board => k_is)
    (case ck_Board => k_is)
    (case N_Board_stores => k_is)
    (case a_Store___init => k_is)
    (case i_Store___init => k_is)
    (case l_Store___init => k_is)
    (case c_Store___init => k_is)
    (case k_Store___init => k_is)
    (case dl_Store___init => k_is)
    (case a_Store_set_height => k_is)
    (case i_Store_set_height => k_is)
    (case l_Store_set_height => k_is)
    (case c_Store_set_height => k_is)
    (case k_Store_set_height => k_is)
    (case a_Store_set_four => k_is)
    (case i_Store_set_four => k_is)
    (case l_Store_set_four => k_is)
    (case c_Store_set_four => k_is)
    (case k_Store_set_four => k_is)
    (case a_Store_put => k_is)
    (case i_Store_put => k_is)
    (case l_Store_put => k_is)
    (case c_Store_put => k_is)
    (case k_Store_put => k_is)
    (case a_Store_take => k_is)
    (case i_Store_take => k_is)
    (case l_Store_take => k_is)
    (case c_Store_take => k_is)
    (case k_Store_take => k_is)
    (case a_Store_height => k_is)
    (case i_Store_height => k_is)
    (case l_Store_height => k_is)
    (case c_Store_height => k_is)
    (case k_Store_height => k_is)
    (case a_Store_four => k_is)
    (case i_Store_four => k_is)
    (case l_Store_four => k_is)
    (case c_Store_four => k_is)
    (case k_Store_four => k_is)
    (case a_Store_fours => k_is)
    (case i_Store_fours => k_is)
    (case l_Store_fours => k_is)
    (case c_Store_fours => k_is)
    (case k_Store_fours => k_is)
    (case a_Store_told => k_is)
    (case i_Store_told => k_is)
    (case l_Store_told => k_is)
    (case c_Store_told => k_is)
    (case k_Store_told => k_is)
    (case a_Store_watch => k_is)
    (case i_Store_watch => k_is)
    (case l_Store_watch => k_is)
    (case c_Store_watch => k_is)
    (case k_Store_watch => k_is)
    (case a_Store_news => k_is)
    (case i_Store_news => k_is)
    (case l_Store_news => k_is)
    (case c_Store_news => k_is)
    (case k_Store_news => k_is)
    (case a_Store_undo => k_is)
    (case i_Store_undo => k_is)
    (case l_Store_undo => k_is)
    (case c_Store_undo => k_is)
    (case k_Store_undo => k_is)
    (case a_Store_times => k_is)
    (case i_Store_times => k_is)
    (case l_Store_times => k_is)
    (case c_Store_times => k_is)
    (case k_Store_times => k_is)
    (case a_Board___init => k_is)
    (case i_Board___init => k_is)
    (case l_Board___init => k_is)
    (case c_Board___init => k_is)
    (case k_Board___init => k_is)
    (case a_Board_store => k_is)
    (case i_Board_store => k_is)
    (case l_Board_store => k_is)
    (case c_Board_store => k_is)
    (case k_Board_store => k_is)
    (case a_Board_names => k_is)
    (case i_Board_names => k_is)
    (case l_Board_names => k_is)
    (case c_Board_names => k_is)
    (case k_Board_names => k_is)
    (case a_Board_picture => k_is)
    (case i_Board_picture => k_is)
    (case l_Board_picture => k_is)
    (case c_Board_picture => k_is)
    (case k_Board_picture => k_is)
    (case a_Board_kept => k_is)
    (case i_Board_kept => k_is)
    (case l_Board_kept => k_is)
    (case c_Board_kept => k_is)
    (case k_Board_kept => k_is)
    (case z_isinstance => k_is)
    (case z_len => k_is)
    (case z_range => k_is)
    (case z_int => k_is)
    (case z_bool => k_is)
    (case z_str => k_is)
    (case z_tuple => k_is)
    (case z_list => k_is)
    (case z_set => k_is)
    (case z_dict => k_is)
    (case z_abs => k_is)
    (case z_all => k_is)
    (case z_any => k_is)
    (case z_max => k_is)
    (case z_min => k_is)
    (case z_sum => k_is)
    (case z_sorted => k_is)
    (case z_zip => k_is)
    (case z_divmod => k_is)
    (case z_repr => k_is)
    (case z_reversed => k_is)
    (case z_ValueError => k_is)
    (case v_MOST_LEVEL => k_is)
    (case v_FIRST => k_is)
    (case v_BEHIND => k_is)
    (case v_LONGEST => k_is)
    (case xg_FourPointsError => k_is)
    (case xe_FourPointsError => k_exc)
    (case xk_FourPointsError => k_is)
    (case xb_FourPointsError => k_is)
    (case xt_FourPointsError => k_is)
    (case xg_NoText => k_is)
    (case xe_NoText => k_exc)
    (case xk_NoText => k_is)
    (case xb_NoText => k_is)
    (case xt_NoText => k_is)
    (case xg_NoColumn => k_is)
    (case xe_NoColumn => k_exc)
    (case xk_NoColumn => k_is)
    (case xb_NoColumn => k_is)
    (case xt_NoColumn => k_is)
    (case xg_NotHalf => k_is)
    (case xe_NotHalf => k_exc)
    (case xk_NotHalf => k_is)
    (case xb_NotHalf => k_is)
    (case xt_NotHalf => k_is)
    (case xg_OutOfTimes => k_is)
    (case xe_OutOfTimes => k_exc)
    (case xk_OutOfTimes => k_is)
    (case xb_OutOfTimes => k_is)
    (case xt_OutOfTimes => k_is)
    (case xg_NoSample => k_is)
    (case xe_NoSample => k_exc)
    (case xk_NoSample => k_is)
    (case xb_NoSample => k_is)
    (case xt_NoSample => k_is)
    (case xg_NoWatch => k_is)
    (case xe_NoWatch => k_exc)
    (case xk_NoWatch => k_is)
    (case xb_NoWatch => k_is)
    (case xt_NoWatch => k_is)
    (case xg_NoName => k_is)
    (case xe_NoName => k_exc)
    (case xk_NoName => k_is)
    (case xb_NoName => k_is)
    (case xt_NoName => k_is)
    (case xg_NotApart => k_is)
    (case xe_NotApart => k_exc)
    (case xk_NotApart => k_is)
    (case xb_NotApart => k_is)
    (case xt_NotApart => k_is)
    (case xhn => k_is)
    (case xht => k_is)
    (case xd_NoColumn => k_is)
    (case xd_NoSample => k_is)
    (case xd_NoText => k_is)
    (case xd_NoWatch => k_is)
    (case xd_NotApart => k_is)
    (case xd_NotHalf => k_is)
    (case xd_OutOfTimes => k_is)
    (case xd_NoName => k_is)
    (case xp_NoName => k_is)
    (case xq_NoName => k_is)
    (case xc_NoName => k_is)
    (case xm_NoName => k_is)
    (case xd_FourPointsError => k_is)
    (case xs_NoName_NoName => k_is)
    (case xs_NoName_NoColumn => k_is)
    (case xs_NoName_NoSample => k_is)
    (case xs_NoName_NoText => k_is)
    (case xs_NoName_NoWatch => k_is)
    (case xs_NoName_NotApart => k_is)
    (case xs_NoName_NotHalf => k_is)
    (case xs_NoName_OutOfTimes => k_is)
    (case xs_NoName_FourPointsError => k_is)
