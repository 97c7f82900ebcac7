import PyProof.Rows.All
import Wide.All
import OpenK.AllK
import Wide.FinOn
import KE.KStateDown
import Lean
import HandS.Base
import HandS.Call
import HandS.List
import HandS.Comp
import HandS.Dict
import HandS.Iter
import HandS.Ends
import HandS.More
import HandS.Words
import HandS.WordsList
import HandS.WordsDict
import HandS.WordsExc
import HandS.Defaults
import HandS.Conv
import HandS.IsInst
import HandS.Style
import HandS.Walk
import HandS.Zip
import HandS.SetFor
import HandS.SortInts
import HandS.Evl
import HandS.Head0
import HandS.Head1
import HandS.Head2
import HandS.HeadEnd
import HandS.HeadHook1
import HandS.HeadHook2
import HandS.Set
import HandS.Exc
import HandS.ExcOwn
import HandS.ExcIs
import HandS.ExcCtx
import HandS.Hot
import HandS.HotCalls
import HandS.SuiteRaise
import HandS.Text
import HandS.StrMore
import HandS.TupAny
import HandS.Deep
import HandS.Steps
import PyProof.WalkInts
import PyProof.StrOps2
import PySem.Challenge.RW_closering_k08_written
set_option Elab.async false
set_option linter.all false
set_option maxRecDepth 100000
set_option maxHeartbeats 0
/-! The engine, part 1: short names for readings, and a few rules of our own. -/
namespace G
open PySem PySem.Spec PyProof.Rows L2

/-! ### readings by short names -/
abbrev ga := He.ga
abbrev rAddI : R2 := rI0 fun i j => .int (i + j)
abbrev rSubI : R2 := rI0 fun i j => .int (i - j)
abbrev rMulI : R2 := rI CMul fun i j => .int (i * j)
abbrev rModI : R2 := rI (fun _ j => 0 < j) fun i j => .int (i % j)
abbrev rDivI : R2 := rI CDiv fun i j => .int (i / j)
abbrev rNegI : V → Hp → VK → Prop := rU fun i => .int (-i)
abbrev rLtI : R2 := rI0 fun i j => .bl (decide (i < j))
abbrev rLeI : R2 := rI0 fun i j => .bl (decide (i ≤ j))
abbrev rGtI : R2 := rI0 fun i j => .bl (decide (j < i))
abbrev rGeI : R2 := rI0 fun i j => .bl (decide (j ≤ i))
def rLenS (K : PySem.W.Frag) : List V → Hp → VK → Prop := fun xs H Q => ∃ p ys, xs = [.ref p] ∧ (SqL K H p ys ∨ SqT K H p ys) ∧ Q (.int ys.length) H
def rListS (K : PySem.W.Frag) : List V → Hp → VK → Prop := fun xs H Q => ∃ p ys, xs = [.ref p] ∧ (SqL K H p ys ∨ SqT K H p ys) ∧ ∀ l, H l = none → Q (.ref l) (upd H l (.lst ys))
def rAbs : List V → Hp → VK → Prop := fun xs H Q => ∃ i, xs = [.int i] ∧ Q (.int (if i < 0 then -i else i)) H
def rMax2 : List V → Hp → VK → Prop := fun xs H Q => ∃ i j, xs = [.int i, .int j] ∧ Q (.int (if j > i then j else i)) H
def rInt1 : List V → Hp → VK → Prop := fun xs H Q => (∃ i, xs = [.int i] ∧ Q (.int i) H) ∨ ∃ k, xs = [.bl k] ∧ Q (.int (if k then 1 else 0)) H
def tPar3 (i j l : Nat) (ta : TA) : TS := fun D σ H => ta σ H fun vs H1 => ∃ u v w, vs = [u, v, w] ∧ D.nx (((σ.set i (some u)).set j (some v)).set l (some w)) H1

/-! ### uses of defs, methods, classes -/
section
variable (P : Program) (w : World) (K : PySem.W.Frag) (mg : Str → Option Value) (base : Heap) (CX : CXT)
/-- a def by its global name: at most level k, parameters ps, promise sp -/
def Use (k : Nat) (x : Str) (ps : List Str) (sp : Sp) : Prop :=
  ∃ (f : Addr) (fd : FuncData), mg x = some (.ref f) ∧ PySem.W.keepIn K (.ref f) = true ∧ Binds K fd ps [] ∧ FnOk P w K mg base CX k f fd ps sp
/-- a method m of the class at C -/
def UseM (k : Nat) (C : Addr) (m : Str) (ps : List Str) (sp : Sp) : Prop :=
  Cls K C ∧ ∃ (f : Addr) (fd : FuncData), Meth K C m f ∧ Binds K fd ps [] ∧ FnOk P w K mg base CX k f fd ps sp
/-- a class made by its name -/
def UseC (k : Nat) (x : Str) (C : Addr) (ps : List Str) (sp : Sp) : Prop :=
  mg x = some (.ref C) ∧ ∃ (f : Addr) (fd : FuncData), Mk K C f ∧ Binds K fd ps [] ∧ FnOk P w K mg base CX k f fd ps sp
end
section
variable {X : Cx} {k m : Nat} {x mt : Str} {C : Addr} {ps : List Str} {sp : Sp} {p pos apos : Pos} {e o : Expr} {es : List Expr} {t : TA} {ta : TE}
theorem pe_use (U : Use X.prog X.w X.K X.mg X.base CX0 k x ps sp) (hr : Room m X.A) (ha : PA X (e :: es) t) (hk : k ≤ m := by decide) (hg : Gl X x := by rfl) (hdb : (x == ("__debug__" : Str)) = false := by decide)
    (he : starEach (e :: es) X.env = (false, eval e X.env) :: starEach es X.env := by rfl) (hpl : (backTo pos (starEach es X.env)).any (·.1) = false := by rfl) :
    PE X (.Call (.Name x p) (e :: es) [] pos) (tCall sp [] E0 t) := by
  obtain ⟨f, fd, hm, kp, hb, F⟩ := U
  exact pe_call F (hr.mono hk) hg hm kp hb .nil pass0 ha hdb he hpl
theorem pe_use0 (U : Use X.prog X.w X.K X.mg X.base CX0 k x ps sp) (hr : Room m X.A) (hk : k ≤ m := by decide) (hg : Gl X x := by rfl) (hdb : (x == ("__debug__" : Str)) = false := by decide) :
    PE X (.Call (.Name x p) [] [] pos) (tCall sp [] E0 tNil) := by
  obtain ⟨f, fd, hm, kp, hb, F⟩ := U
  exact pe_call0 F (hr.mono hk) hg hm kp hb .nil pass0 hdb
theorem pe_usem {pl : Sem Bool} (U : UseM X.prog X.w X.K X.mg X.base CX0 k C mt ps sp) (hr : Room m X.A) (ho : PE X o ta) (ha : PA X (e :: es) t) (hk : k ≤ m := by decide)
    (hst : starEach (e :: es) X.env = (false, eval e X.env) :: starEach es X.env := by rfl) (hpl : (backTo pos (starEach es X.env)).any (·.1) = false := by rfl)
    (ht : eval (.Call (.Attribute o mt apos) (e :: es) [] pos) X.env = (do
      let ov ← eval o X.env
      standAt apos.atName
      let (f, first) ← holding [ov] (getMethod ov mt pl)
      callWith pos f first (backTo pos (starEach (e :: es) X.env)) (backToKw pos (keywordEach [] X.env))) := by rfl) :
    PE X (.Call (.Attribute o mt apos) (e :: es) [] pos) (tMeth C mt sp [] E0 ta t) := by
  obtain ⟨c, f, fd, hm, hb, F⟩ := U
  exact pe_meth ho c hm F (hr.mono hk) hb .nil pass0 ha hst hpl ht
theorem pe_usem0 {pl : Sem Bool} (U : UseM X.prog X.w X.K X.mg X.base CX0 k C mt ps sp) (hr : Room m X.A) (ho : PE X o ta) (hk : k ≤ m := by decide)
    (ht : eval (.Call (.Attribute o mt apos) [] [] pos) X.env = (do
      let ov ← eval o X.env
      standAt apos.atName
      let (f, first) ← holding [ov] (getMethod ov mt pl)
      callWith pos f first (backTo pos (starEach [] X.env)) (backToKw pos (keywordEach [] X.env))) := by rfl) :
    PE X (.Call (.Attribute o mt apos) [] [] pos) (tMeth C mt sp [] E0 ta tNil) := by
  obtain ⟨c, f, fd, hm, hb, F⟩ := U
  exact pe_meth0 ho c hm F (hr.mono hk) hb .nil pass0 ht
theorem pe_usemk (U : UseC X.prog X.w X.K X.mg X.base CX0 k x C ps sp) (hr : Room m X.A) (ha : PA X (e :: es) t) (hk : k + 1 ≤ m := by decide) (hg : Gl X x := by rfl) (hdb : (x == ("__debug__" : Str)) = false := by decide)
    (he : starEach (e :: es) X.env = (false, eval e X.env) :: starEach es X.env := by rfl) (hpl : (backTo pos (starEach es X.env)).any (·.1) = false := by rfl) :
    PE X (.Call (.Name x p) (e :: es) [] pos) (tMake C sp [] E0 t) := by
  obtain ⟨hm, f, fd, M, hb, F⟩ := U
  exact pe_make M F (hr.mono hk) hg hm hb .nil pass0 ha hdb he hpl
end

/-! ### a dict is frozen where it is walked, for good -/
def tFrz (te : TE) : TE := fun σ H Q => te σ H fun x H1 => ∃ d kvs, x = .ref d ∧ H1 d = some (.dK kvs) ∧ ∀ od, Q (.ref d) (upd H1 d (.frz od (.dK kvs)))
theorem pe_frz {X : Cx} {e : Expr} {te : TE} (he : PE X e te) : PE X e (tFrz te) := by
  refine ⟨fun pins s σ H Q I h => ?_⟩
  refine thn (he.run pins s σ H _ I h) fun u s1 hq => ?_
  obtain ⟨x, H1, I1, rx, d, kvs, ex, hd, q⟩ := hq
  subst ex
  obtain ⟨od, I2⟩ := I1.lock hd trivial
  exact ⟨.ref d, _, I2, rx, q od⟩

/-! ### len(set(xs)), xs a list of ints of any kind -/
def ucount (ns : List Int) : Nat := (firstMet (fun i => ns.getD i 0) ns.length).length
def tLenSetD (K : PySem.W.Frag) (ta : TE) : TE := fun σ H Q => ta σ H fun x H1 => ∃ (l : Addr) (ns : List Int), x = .ref l ∧ SqL K H1 l (ns.map V.int) ∧ ns.length ≤ 4000 ∧ Q (.int (ucount ns : Nat)) H1
theorem pe_lenSetD {X : Cx} {a : Expr} {ta : TE} {p p2 q pos : Pos} (hg : Gl X "len") (hm : X.mg "len" = none) (hg2 : Gl X "set") (hm2 : X.mg "set" = none) (ha : PE X a ta) (hc : X.calm = true := by rfl)
    (na : starEach [a] X.env = (false, eval a X.env) :: starEach [] X.env := by rfl) :
    PE X (.Call (.Name "len" p) [.Call (.Name "set" p2) [a] [] q] [] pos) (tLenSetD X.K ta) := by
  refine ⟨fun pins s σ H Q I h => Call_ (ld_blt I hg hm boot_len ?_)⟩
  refine callWith_builtin1 (args_cons (Call_ (ld_blt I hg2 hm2 boot_set ?_)) rfl) rfl rfl
  have run := ha.run pins s σ H _ I h
  refine callWith_type1 (args_cons (thn run fun v s1 hv => args_nil ?_) na) na rfl
  obtain ⟨x, H1, I1, r1, l, ns, rfl, hq, hl, q1⟩ := hv
  cases r1
  obtain ⟨its, r, pl, hz⟩ := I1.list hq
  have hn : its.toArray.size = ns.length := by rw [List.size_toArray, ← r.length, List.length_map]
  refine call_set_list (I1.ok.hd hc) pl.isList (by simpa using RZ.intsAre_vals r) (by rw [hn]; unfold scanBound; omega) fun h' tk hS hk => args_nil ?_
  rw [hn] at hS
  obtain ⟨o, es, ep, t, ho, hex, hd, _, _, _, hf, hsz⟩ := hS
  have le := firstMet_length_le (fun i => ns.getD i 0) ns.length
  have I2 : Inv X pins σ H1 { s1 with heap := h', toks := tk } := I1.kept fun b ob eb => hk b ob (Heap.lt_size eb) eb
  exact call_len_set ho hex hd hf (by rw [hsz]; omega) ⟨.int (ucount ns : Nat), H1, I2.tok _, ⟨_, by rw [hsz]; rfl⟩, q1⟩
end G

/-! The engine, part 2: what a reading evaluates to, while the heap only grows. -/
namespace G
open PySem PySem.Spec PyProof.Rows L2
open Evl (Ex Ev EvL EvU EvT EvA RV RetV)

variable {K : PySem.W.Frag} {σ : L2.St} {H H' H1 : Hp} {ta tb tc te : TE} {t u : TT} {tl : TA} {v x y z : V} {r r' : R2}

/-! ### what is known of the heap, and grows with it -/
theorem ex_app {a : Addr} {o : HO} (e : Ex H H') (h : H a = some o) : H' a = some o := e a o h
/-- v is a tuple of the ints xs -/
def TupI (K : PySem.W.Frag) (H : Hp) (v : V) (xs : List Int) : Prop := ∃ t, v = .ref t ∧ SqT K H t (xs.map V.int)
theorem TupI.mono {xs : List Int} (e : Ex H H') (h : TupI K H v xs) : TupI K H' v xs := by
  obtain ⟨t, rfl, h⟩ := h
  exact ⟨t, rfl, Evl.ex_t e h⟩
/-- the values vs are tuples of the ints xss -/
inductive TupL (K : PySem.W.Frag) (H : Hp) : List V → List (List Int) → Prop
  | nil : TupL K H [] []
  | cons {v : V} {vs : List V} {x : List Int} {xs : List (List Int)} : TupI K H v x → TupL K H vs xs → TupL K H (v :: vs) (x :: xs)
theorem TupL.mono (e : Ex H H') : ∀ {vs : List V} {xs : List (List Int)}, TupL K H vs xs → TupL K H' vs xs
  | _, _, .nil => .nil
  | _, _, .cons h t => .cons (h.mono e) (TupL.mono e t)
theorem TupL.length : ∀ {vs : List V} {xs : List (List Int)}, TupL K H vs xs → vs.length = xs.length
  | _, _, .nil => rfl
  | _, _, .cons _ t => congrArg Nat.succ t.length
theorem TupL.get : ∀ {vs : List V} {xs : List (List Int)} {i : Nat} {x : List Int}, TupL K H vs xs → xs[i]? = some x → ∃ v, vs[i]? = some v ∧ TupI K H v x
  | _, _, i, _, .nil, e => by simp at e
  | _, _, 0, _, .cons h _, e => by
    simp at e
    subst e
    exact ⟨_, rfl, h⟩
  | _, _, i + 1, _, .cons _ t, e => by
    obtain ⟨w, h1, h2⟩ := t.get (i := i) (by simpa using e)
    exact ⟨w, by simpa using h1, h2⟩
theorem TupL.getV : ∀ {vs : List V} {xs : List (List Int)} {i : Nat}, TupL K H vs xs → vs[i]? = some v → ∃ x, xs[i]? = some x ∧ TupI K H v x
  | _, _, i, .nil, e => by simp at e
  | _, _, 0, .cons h _, e => by
    simp at e
    subst e
    exact ⟨_, rfl, h⟩
  | _, _, i + 1, .cons _ t, e => by
    obtain ⟨w, h1, h2⟩ := t.getV (i := i) (by simpa using e)
    exact ⟨w, by simpa using h1, h2⟩
theorem TupL.append : ∀ {vs ws : List V} {xs ys : List (List Int)}, TupL K H vs xs → TupL K H ws ys → TupL K H (vs ++ ws) (xs ++ ys)
  | _, _, _, _, .nil, s => s
  | _, _, _, _, .cons h t, s => .cons h (TupL.append t s)
theorem TupL.snoc {vs : List V} {xs : List (List Int)} {w : V} {x : List Int} (h : TupL K H vs xs) (q : TupI K H w x) : TupL K H (vs ++ [w]) (xs ++ [x]) := h.append (.cons q .nil)
theorem TupL.rev : ∀ {vs : List V} {xs : List (List Int)}, TupL K H vs xs → TupL K H vs.reverse xs.reverse
  | _, _, .nil => .nil
  | _, _, .cons h t => by
    rw [List.reverse_cons, List.reverse_cons]
    exact t.rev.snoc h
theorem TupL.drop : ∀ {vs : List V} {xs : List (List Int)} (n : Nat), TupL K H vs xs → TupL K H (vs.drop n) (xs.drop n)
  | _, _, 0, h => h
  | _, _, _ + 1, .nil => .nil
  | _, _, n + 1, .cons _ t => TupL.drop n t
theorem TupL.take : ∀ {vs : List V} {xs : List (List Int)} (n : Nat), TupL K H vs xs → TupL K H (vs.take n) (xs.take n)
  | _, _, 0, _ => .nil
  | _, _, _ + 1, .nil => .nil
  | _, _, n + 1, .cons h t => .cons h (TupL.take n t)
/-- at a a list of tuples of ints is to be read -/
def LT (K : PySem.W.Frag) (H : Hp) (a : Addr) (xss : List (List Int)) : Prop := ∃ vs, SqL K H a vs ∧ TupL K H vs xss
theorem LT.mono {a : Addr} {xss : List (List Int)} (e : Ex H H') (h : LT K H a xss) : LT K H' a xss := by
  obtain ⟨vs, h1, h2⟩ := h
  exact ⟨vs, Evl.ex_l e h1, h2.mono e⟩
/-- at a a list of ints is to be read -/
def LI (K : PySem.W.Frag) (H : Hp) (a : Addr) (ns : List Int) : Prop := SqL K H a (ns.map V.int)
theorem LI.mono {a : Addr} {ns : List Int} (e : Ex H H') (h : LI K H a ns) : LI K H' a ns := Evl.ex_l e h

theorem li_of {a : Addr} {ns : List Int} (h : H a = some (.lst (ns.map V.int))) : LI K H a ns := .inl (.inl h)

/-! ### items by their place -/
theorem atI_map {α β : Type} (f : α → β) (xs : List α) (i : Int) : atI (xs.map f) i = (atI xs i).map f := by
  unfold atI
  rw [List.length_map]
  cases ixN xs.length i with
  | none => rfl
  | some j =>
    show (xs.map f)[j]? = (xs[j]?).map f
    rw [List.getElem?_map]
theorem atI_int {ns : List Int} {i n : Int} (h : atI ns i = some n) : atI (ns.map V.int) i = some (.int n) := by rw [atI_map, h]; rfl
theorem atI_pos {α : Type} {xs : List α} {i : Int} (h0 : 0 ≤ i) : atI xs i = xs[i.toNat]? := by
  unfold atI ixN
  rw [if_pos h0]
  by_cases h1 : i < xs.length
  · rw [if_pos h1]; rfl
  · rw [if_neg h1]
    exact (List.getElem?_eq_none_iff.mpr (by omega)).symm
theorem atI_of {α : Type} {xs : List α} {i : Int} {w : α} (h0 : 0 ≤ i) (h : xs[i.toNat]? = some w) : atI xs i = some w := by rw [atI_pos h0, h]
theorem atI_lastOf {α : Type} {xs : List α} {w : α} (h : xs.getLast? = some w) : atI xs (-1) = some w := by
  obtain ⟨ys, rfl⟩ := List.getLast?_eq_some_iff.mp h
  exact atI_last ys w
theorem TupL.atI {vs : List V} {xs : List (List Int)} {i : Int} {x : List Int} (h : TupL K H vs xs) (e : L2.atI xs i = some x) : ∃ w, L2.atI vs i = some w ∧ TupI K H w x := by
  unfold L2.atI at e ⊢
  rw [h.length]
  cases q : ixN xs.length i with
  | none =>
    rw [q] at e
    cases e
  | some j =>
    rw [q] at e
    exact h.get (i := j) e
theorem ixN_int {n : Nat} {i : Int} (h0 : 0 ≤ i) (h1 : i < n) : ixN n i = some i.toNat := by
  unfold ixN
  rw [if_pos h0, if_pos h1]

/-! ### judgements -/
/-- te ends with some value of which P holds -/
def EvP (te : TE) (σ : L2.St) (H : Hp) (P : V → Hp → Prop) : Prop := ∀ H1, Ex H H1 → ∀ Q : VK, (∀ v H2, Ex H1 H2 → P v H2 → Q v H2) → te σ H1 Q
def RetP (P : V → Hp → Prop) (H : Hp) (Q : VK) : Prop := ∀ v H2, Ex H H2 → P v H2 → Q v H2
/-- a tuple of these ints -/
abbrev EvI (K : PySem.W.Frag) (te : TE) (σ : L2.St) (H : Hp) (xs : List Int) : Prop := EvP te σ H (fun v H2 => TupI K H2 v xs)
theorem EvP.mono {P : V → Hp → Prop} (e : Ex H H') (h : EvP te σ H P) : EvP te σ H' P := fun H1 a Q q => h H1 (e.trans a) Q q
theorem EvP.imp {P P' : V → Hp → Prop} (h : EvP te σ H P) (f : ∀ v H2, Ex H H2 → P v H2 → P' v H2) : EvP te σ H P' := fun H1 a Q q => h H1 a Q fun v H2 e p => q v H2 e (f v H2 (a.trans e) p)
theorem Ev.toP {P : V → Hp → Prop} (h : Ev te σ H v) (f : ∀ H2, Ex H H2 → P v H2) : EvP te σ H P := fun H1 a Q q => h H1 a Q fun H2 e => q v H2 e (f H2 (a.trans e))
theorem evi_of {xs : List Int} (h : Ev te σ H v) (q : TupI K H v xs) : EvI K te σ H xs := Ev.toP h fun _ e => q.mono e

/-! ### expressions -/
theorem rv_lt {i j : Int} : RV rLtI (.int i) (.int j) H (.bl (decide (i < j))) := Evl.rv_I0
theorem rv_le {i j : Int} : RV rLeI (.int i) (.int j) H (.bl (decide (i ≤ j))) := Evl.rv_I0
theorem rv_gt {i j : Int} : RV rGtI (.int i) (.int j) H (.bl (decide (j < i))) := Evl.rv_I0
theorem rv_ge {i j : Int} : RV rGeI (.int i) (.int j) H (.bl (decide (j ≤ i))) := Evl.rv_I0
theorem rv_add {i j : Int} : RV rAddI (.int i) (.int j) H (.int (i + j)) := Evl.rv_I0
theorem rv_sub {i j : Int} : RV rSubI (.int i) (.int j) H (.int (i - j)) := Evl.rv_I0
theorem rv_mul {i j : Int} (h : CMul i j) : RV rMulI (.int i) (.int j) H (.int (i * j)) := Evl.rv_I h
theorem rv_mod {i j : Int} (h : 0 < j) : RV rModI (.int i) (.int j) H (.int (i % j)) := Evl.rv_I h
theorem rv_div {i j : Int} (h : CDiv i j) : RV rDivI (.int i) (.int j) H (.int (i / j)) := Evl.rv_I h
theorem rv_eqI {i j : Int} : RV rEq (.int i) (.int j) H (.bl (decide (i = j))) := fun H1 _ Q q => ⟨rfl, by
  have e : decide (V.int i = V.int j) = decide (i = j) := by
    by_cases h : i = j
    · rw [h]; simp
    · rw [decide_eq_false h, decide_eq_false fun z => h (V.int.inj z)]
  rw [e]
  exact q H1 (Ex.refl H1)⟩
theorem rv_neI {i j : Int} : RV rNe (.int i) (.int j) H (.bl (!decide (i = j))) := fun H1 _ Q q => ⟨rfl, by
  have e : decide (V.int i = V.int j) = decide (i = j) := by
    by_cases h : i = j
    · rw [h]; simp
    · rw [decide_eq_false h, decide_eq_false fun z => h (V.int.inj z)]
  rw [e]
  exact q H1 (Ex.refl H1)⟩
theorem rv_eqB {i j : Bool} : RV rEq (.bl i) (.bl j) H (.bl (i == j)) := fun H1 _ Q q => ⟨rfl, by
  have e : decide (V.bl i = V.bl j) = (i == j) := by cases i <;> cases j <;> rfl
  rw [e]
  exact q H1 (Ex.refl H1)⟩
theorem rv_neB {i j : Bool} : RV rNe (.bl i) (.bl j) H (.bl (!(i == j))) := fun H1 _ Q q => ⟨rfl, by
  have e : decide (V.bl i = V.bl j) = (i == j) := by cases i <;> cases j <;> rfl
  rw [e]
  exact q H1 (Ex.refl H1)⟩
theorem rv_isB {i j : Bool} : RV rIsB (.bl i) (.bl j) H (.bl (decide (i = j))) := fun H1 _ Q q => ⟨i, j, rfl, rfl, q H1 (Ex.refl H1)⟩
theorem rv_notB {i j : Bool} : RV rNotB (.bl i) (.bl j) H (.bl (!decide (i = j))) := fun H1 _ Q q => ⟨i, j, rfl, rfl, q H1 (Ex.refl H1)⟩
theorem ev_neg {i : Int} (h : Ev ta σ H (.int i)) : Ev (tUn rNegI ta) σ H (.int (-i)) := Evl.ev_un h Evl.ru_neg
theorem ev_chain {k k' : Bool} (ha : Ev ta σ H x) (hb : Ev tb σ H y) (hr : RV r x y H (.bl k)) (hc : Ev tc σ H z) (hr' : RV r' y z H (.bl k')) : Ev (tChain r r' ta tb tc) σ H (.bl (k && k')) := fun H1 e Q q =>
  ha H1 e _ fun H2 e2 => hb H2 (e.trans e2) _ fun H3 e3 => hr H3 ((e.trans e2).trans e3) _ fun H4 e4 => ⟨k, rfl, by
    have e14 : Ex H1 H4 := (e2.trans e3).trans e4
    cases k with
    | true =>
      show tc σ H4 _
      exact hc H4 (e.trans e14) _ fun H5 e5 => hr' H5 ((e.trans e14).trans e5) _ fun H6 e6 => q H6 ((e14.trans e5).trans e6)
    | false => exact q H4 e14⟩
theorem ev_len {p : Addr} {xs : List V} (ha : Ev ta σ H (.ref p)) (h : SqL K H p xs) : Ev (tCB (rLenS K) (tCons ta tNil)) σ H (.int (xs.length : Int)) := fun H1 e Q q =>
  ha H1 e _ fun H2 e2 => ⟨p, xs, rfl, Or.inl (Evl.ex_l (e.trans e2) h), q H2 e2⟩
theorem ev_lenI {p : Addr} {ns : List Int} (ha : Ev ta σ H (.ref p)) (h : LI K H p ns) : Ev (tCB (rLenS K) (tCons ta tNil)) σ H (.int (ns.length : Int)) := by
  have e := ev_len ha h
  rw [List.length_map] at e
  exact e
theorem ev_lenT {p : Addr} {xs : List (List Int)} (ha : Ev ta σ H (.ref p)) (h : LT K H p xs) : Ev (tCB (rLenS K) (tCons ta tNil)) σ H (.int (xs.length : Int)) := by
  obtain ⟨vs, h1, h2⟩ := h
  rw [← h2.length]
  exact ev_len ha h1
theorem ev_lenU {xs : List Int} (ha : EvI K ta σ H xs) : Ev (tCB (rLenS K) (tCons ta tNil)) σ H (.int (xs.length : Int)) := fun H1 e Q q =>
  ha H1 e _ fun v H2 e2 ⟨p, ev, hp⟩ => ⟨p, xs.map V.int, by rw [ev], Or.inr hp, by rw [List.length_map]; exact q H2 e2⟩
theorem ev_lenSet {p : Addr} {ns : List Int} (ha : Ev ta σ H (.ref p)) (h : LI K H p ns) (hl : ns.length ≤ 4000) : Ev (tLenSetD K ta) σ H (.int (ucount ns : Nat)) := fun H1 e Q q =>
  ha H1 e _ fun H2 e2 => ⟨p, ns, rfl, Evl.ex_l (e.trans e2) h, hl, q H2 e2⟩
/-- xs[i], ints -/
theorem ev_ixI {p : Addr} {ns : List Int} {i n : Int} (ha : Ev ta σ H (.ref p)) (hb : Ev tb σ H (.int i)) (h : LI K H p ns) (hi : atI ns i = some n) : Ev (tOp (rIxL K) ta tb) σ H (.int n) :=
  Evl.ev_op ha hb (Evl.rv_ixL h (atI_int hi))
/-- xs[i], tuples -/
theorem ei_ix {p : Addr} {xs : List (List Int)} {i : Int} {w : List Int} (ha : Ev ta σ H (.ref p)) (hb : Ev tb σ H (.int i)) (h : LT K H p xs) (hi : atI xs i = some w) : EvI K (tOp (rIxL K) ta tb) σ H w := by
  obtain ⟨vs, h1, h2⟩ := h
  obtain ⟨v, e1, e2⟩ := h2.atI hi
  exact evi_of (Evl.ev_op ha hb (Evl.rv_ixL h1 e1)) e2
/-- t[i], a tuple of ints -/
theorem ev_ixU {xs : List Int} {i n : Int} (ha : EvI K ta σ H xs) (hb : Ev tb σ H (.int i)) (hi : atI xs i = some n) : Ev (tOp (rIxT K) ta tb) σ H (.int n) := fun H1 e Q q =>
  ha H1 e _ fun v H2 e2 ⟨p, ev, hp⟩ => hb H2 (e.trans e2) _ fun H3 e3 => ⟨p, xs.map V.int, i, .int n, ev, rfl, Evl.ex_t e3 hp, atI_int hi, q H3 (e2.trans e3)⟩
/-- arguments that are ints -/
def EvAI (tl : TA) (σ : L2.St) (H : Hp) (xs : List Int) : Prop := EvA tl σ H (xs.map V.int)
theorem eai_nil : EvAI tNil σ H [] := Evl.ea_nil
theorem eai_cons {n : Int} {ns : List Int} (h : Ev te σ H (.int n)) (hr : EvAI tl σ H ns) : EvAI (tCons te tl) σ H (n :: ns) := Evl.ea_cons h hr
theorem ei_tup {xs : List Int} (h : EvAI tl σ H xs) (hl : xs.length ≤ 100000) : EvI K (tTup tl) σ H xs := fun H1 e Q q =>
  Evl.eu_tup h (by rw [List.length_map]; exact hl) H1 e Q fun p H2 hp e2 h2 => q _ H2 e2 ⟨p, rfl, .inl (.inl h2)⟩
theorem ev_fld {a C dx : Addr} {fs : List (Str × V)} {f : Str} (ha : Ev ta σ H (.ref a)) (h : H a = some (.ins C dx fs)) (hc : Cls K C) (hn : NoAttr K C f) (hl : fs.lookup f = some v) : Ev (tFld K ta f) σ H v := fun H1 e Q q =>
  ha H1 e _ fun H2 e2 => ⟨a, C, dx, fs, v, rfl, (e.trans e2) a _ h, hc, hn, hl, q H2 e2⟩
theorem ev_all {p : Addr} {bs : List Bool} (h : EvP ta σ H (fun v H2 => ∃ p, v = .ref p ∧ SqL K H2 p (bs.map V.bl))) : Ev (tCB (rAll K) (tCons ta tNil)) σ H (.bl (bs.all id)) := fun H1 e Q q =>
  h H1 e _ fun v H2 e2 ⟨p, ev, hp⟩ => ⟨p, bs, by rw [ev], hp, q H2 e2⟩
theorem ev_any {p : Addr} {bs : List Bool} (h : EvP ta σ H (fun v H2 => ∃ p, v = .ref p ∧ SqL K H2 p (bs.map V.bl))) : Ev (tCB (rAny K) (tCons ta tNil)) σ H (.bl (bs.any id)) := fun H1 e Q q =>
  h H1 e _ fun v H2 e2 ⟨p, ev, hp⟩ => ⟨p, bs, by rw [ev], hp, q H2 e2⟩
theorem ep_list {p : Addr} {xs : List V} (ha : Ev ta σ H (.ref p)) (h : SqL K H p xs) : EvP (tCB (rListS K) (tCons ta tNil)) σ H (fun v H2 => ∃ l, v = .ref l ∧ H l = none ∧ H2 l = some (.lst xs)) := fun H1 e Q q =>
  ha H1 e _ fun H2 e2 => ⟨p, xs, rfl, Or.inl (Evl.ex_l (e.trans e2) h), fun l hl => q _ _ (e2.trans (Ex.new hl)) ⟨l, rfl, Evl.fresh_back (e.trans e2) hl, upd_same⟩⟩
/-- isinstance(x, T) -/
theorem ev_isi {c : V} {b : Bool} {t' u' : Value} (ha : Ev ta σ H x) (hb : Ev tb σ H c) (k : ClsV c u') (ht : ∀ H2, Ex H H2 → TyX K H2 x t') (hk : PySem.W.kitOne K t' u' = some b) : Ev (tCB (rIsi K) (tCons ta (tCons tb tNil))) σ H (.bl b) := fun H1 e Q q =>
  ha H1 e _ fun H2 e2 => hb H2 (e.trans e2) _ fun H3 e3 => ⟨x, c, t', u', b, rfl, k, ht H3 ((e.trans e2).trans e3), hk, q H3 (e2.trans e3)⟩
theorem ev_isiTy {a b : String} {bb : Bool} (ha : Ev ta σ H x) (ht : ∀ H2, Ex H H2 → TyX K H2 x (.type a)) (hk : L2.kitB a b = some bb) : Ev (tCB (rIsi K) (tCons ta (tCons (tC (.ty b)) tNil))) σ H (.bl bb) :=
  ev_isi ha Evl.ev_c (.ty b) ht (kit_ty hk)
theorem ty_tup {xs : List Int} (h : TupI K H v xs) : ∀ H2, Ex H H2 → TyX K H2 v (.type "tuple") := fun H2 e => by
  obtain ⟨t, rfl, q⟩ := h.mono e
  rcases q with (h | ⟨o, h⟩) | ⟨o, its, n, hk, hc, _⟩
  · exact .base (.tup h)
  · exact .fTuple h
  · exact .kTuple hk hc
theorem ty_lst {a : Addr} {xs : List V} (h : SqL K H a xs) : ∀ H2, Ex H H2 → TyX K H2 (.ref a) (.type "list") := fun H2 e => by
  rcases Evl.ex_l e h with (h | ⟨o, h⟩) | ⟨o, its, n, hk, hc, _⟩
  · exact .base (.lst h)
  · exact .base (.frz h)
  · exact .kList hk hc
/-- a dict asked -/
theorem ev_dget {a : Addr} {kvs : List (Key × V)} {i : Int} (ha : Ev ta σ H (.ref a)) (hb : Ev tb σ H (.int i)) (h : Rd H a (.dK kvs)) (hv : valV kvs (Sum.inl i) = some v) : Ev (tDGet ta tb) σ H v := fun H1 e Q q =>
  ha H1 e _ fun H2 e2 => hb H2 (e.trans e2) _ fun H3 e3 => ⟨a, v, rfl, .inl ⟨kvs, Sum.inl i, Evl.ex_rd ((e.trans e2).trans e3) h, rfl, hv.symm⟩, q H3 (e2.trans e3)⟩
theorem ev_din {a : Addr} {kvs : List (Key × V)} {i : Int} (ha : Ev ta σ H (.int i)) (hb : Ev tb σ H (.ref a)) (h : Rd H a (.dK kvs)) : Ev (tDIn ta tb) σ H (.bl (valV kvs (Sum.inl i)).isSome) := fun H1 e Q q =>
  ha H1 e _ fun H2 e2 => hb H2 (e.trans e2) _ fun H3 e3 => ⟨a, _, rfl, .inl ⟨kvs, Sum.inl i, Evl.ex_rd ((e.trans e2).trans e3) h, rfl, rfl⟩, q H3 (e2.trans e3)⟩
theorem ev_dnotin {a : Addr} {kvs : List (Key × V)} {i : Int} (ha : Ev ta σ H (.int i)) (hb : Ev tb σ H (.ref a)) (h : Rd H a (.dK kvs)) : Ev (tDNotIn ta tb) σ H (.bl (!(valV kvs (Sum.inl i)).isSome)) := fun H1 e Q q =>
  ha H1 e _ fun H2 e2 => hb H2 (e.trans e2) _ fun H3 e3 => ⟨a, _, rfl, .inl ⟨kvs, Sum.inl i, Evl.ex_rd ((e.trans e2).trans e3) h, rfl, rfl⟩, q H3 (e2.trans e3)⟩
/-- calls -/
theorem ev_call {sp : Sp} {vs : List V} (h : EvA tl σ H vs) (hs : ∀ H1 Q, Ex H H1 → RetV z H1 Q → sp vs H1 Q E0) : Ev (tCall sp [] E0 tl) σ H z := fun H1 e Q q =>
  h H1 e _ fun H2 e2 => by
    show sp (vs ++ []) H2 Q E0
    rw [List.append_nil]
    exact hs H2 Q (e.trans e2) fun H3 e3 => q H3 (e2.trans e3)
theorem ep_call {sp : Sp} {vs : List V} {P : V → Hp → Prop} (h : EvA tl σ H vs) (hs : ∀ H1 Q, Ex H H1 → RetP P H1 Q → sp vs H1 Q E0) : EvP (tCall sp [] E0 tl) σ H P := fun H1 e Q q =>
  h H1 e _ fun H2 e2 => by
    show sp (vs ++ []) H2 Q E0
    rw [List.append_nil]
    exact hs H2 Q (e.trans e2) fun v H3 e3 p => q v H3 (e2.trans e3) p
theorem ev_meth {C a dx : Addr} {fs : List (Str × V)} {m : Str} {sp : Sp} {vs : List V} (ha : Ev ta σ H (.ref a)) (ho : H a = some (.ins C dx fs)) (hl : fs.lookup m = none) (h : EvA tl σ H vs) (hs : ∀ H1 Q, Ex H H1 → RetV z H1 Q → sp (.ref a :: vs) H1 Q E0) :
    Ev (tMeth C m sp [] E0 ta tl) σ H z := fun H1 e Q q => ha H1 e _ fun H2 e2 => ⟨a, dx, fs, rfl, (e.trans e2) a _ ho, hl, h H2 (e.trans e2) _ fun H3 e3 => by
    show sp (.ref a :: (vs ++ [])) H3 Q E0
    rw [List.append_nil]
    exact hs H3 Q ((e.trans e2).trans e3) fun H4 e4 => q H4 ((e2.trans e3).trans e4)⟩
theorem ep_meth {C a dx : Addr} {fs : List (Str × V)} {m : Str} {sp : Sp} {vs : List V} {P : V → Hp → Prop} (ha : Ev ta σ H (.ref a)) (ho : H a = some (.ins C dx fs)) (hl : fs.lookup m = none) (h : EvA tl σ H vs) (hs : ∀ H1 Q, Ex H H1 → RetP P H1 Q → sp (.ref a :: vs) H1 Q E0) :
    EvP (tMeth C m sp [] E0 ta tl) σ H P := fun H1 e Q q => ha H1 e _ fun H2 e2 => ⟨a, dx, fs, rfl, (e.trans e2) a _ ho, hl, h H2 (e.trans e2) _ fun H3 e3 => by
    show sp (.ref a :: (vs ++ [])) H3 Q E0
    rw [List.append_nil]
    exact hs H3 Q ((e.trans e2).trans e3) fun v H4 e4 p => q v H4 ((e2.trans e3).trans e4) p⟩
/-- an argument list one of whose values is known by P alone -/
def EvAP (tl : TA) (σ : L2.St) (H : Hp) (P : List V → Hp → Prop) : Prop := ∀ H1, Ex H H1 → ∀ Q : List V → Hp → Prop, (∀ vs H2, Ex H1 H2 → P vs H2 → Q vs H2) → tl σ H1 Q

/-! ### statements -/
variable {D : Ends} {tu tw tz : TS} {g : TG}
theorem s_asgP {i : Nat} {P : V → Hp → Prop} (h : EvP te σ H P) (k : ∀ v H1, Ex H H1 → P v H1 → D.nx (σ.set i (some v)) H1) : tAsg te (gName i) D σ H := h H (Ex.refl H) _ fun v H1 e p => k v H1 e p
theorem q_asgP {i : Nat} {P : V → Hp → Prop} (h : EvP te σ H P) (k : ∀ v H1, Ex H H1 → P v H1 → tz D (σ.set i (some v)) H1) : tSeq (tAsg te (gName i)) tz D σ H := s_asgP (D := { D with nx := tz D }) h k
theorem s_retP {P : V → Hp → Prop} (h : EvP te σ H P) (k : ∀ v H1, Ex H H1 → P v H1 → D.rt v H1) : tRet te D σ H := h H (Ex.refl H) _ k
/-- a, b = e; a, b, c = e: a tuple of ints -/
theorem q_un2 {i j : Nat} {a b : Int} (h : EvI K te σ H [a, b]) (k : ∀ H1, Ex H H1 → tz D ((σ.set i (some (.int a))).set j (some (.int b))) H1) : tSeq (tAsg te (gTup K 2 (gCons (gName i) (gCons (gName j) gNil)))) tz D σ H :=
  h H (Ex.refl H) _ fun v H1 e ⟨p, ev, hp⟩ => ⟨p, [.int a, .int b], ev, hp, rfl, .int a, [.int b], rfl, .int b, [], rfl, rfl, k H1 e⟩
theorem q_un3 {i j l : Nat} {a b c : Int} (h : EvI K te σ H [a, b, c]) (k : ∀ H1, Ex H H1 → tz D (((σ.set i (some (.int a))).set j (some (.int b))).set l (some (.int c))) H1) :
    tSeq (tAsg te (gTup K 3 (gCons (gName i) (gCons (gName j) (gCons (gName l) gNil))))) tz D σ H :=
  h H (Ex.refl H) _ fun v H1 e ⟨p, ev, hp⟩ => ⟨p, [.int a, .int b, .int c], ev, hp, rfl, .int a, [.int b, .int c], rfl, .int b, [.int c], rfl, .int c, [], rfl, rfl, k H1 e⟩
/-- a, b = e, any tuple -/
theorem q_unV2 {i j : Nat} {P : V → V → Hp → Prop} (h : EvP te σ H (fun v H2 => ∃ p a b, v = .ref p ∧ SqT K H2 p [a, b] ∧ P a b H2)) (k : ∀ a b H1, Ex H H1 → P a b H1 → tz D ((σ.set i (some a)).set j (some b)) H1) :
    tSeq (tAsg te (gTup K 2 (gCons (gName i) (gCons (gName j) gNil)))) tz D σ H :=
  h H (Ex.refl H) _ fun v H1 e ⟨p, a, b, ev, hp, pp⟩ => ⟨p, [a, b], ev, hp, rfl, a, [b], rfl, b, [], rfl, rfl, k a b H1 e pp⟩
/-- an if whose both ways go on alike: one wish for what is behind it -/
theorem q_if2 {b : Bool} (h : EvT t σ H b) (h1 : b = true → ∀ H1, Ex H H1 → tu { D with nx := tz D } σ H1) (h2 : b = false → ∀ H1, Ex H H1 → tw { D with nx := tz D } σ H1) : tSeq (tIfS t tu tw) tz D σ H := Evl.q_if h h1 h2
/-- if t: raise, never taken -/
theorem q_never {b : Bool} (h : EvT t σ H b) (hb : b = false) (k : ∀ H1, Ex H H1 → tz D σ H1) : tSeq (tIfS t tNever tNext) tz D σ H :=
  Evl.q_when h (fun c => by rw [hb] at c; cases c) fun _ => k
theorem s_never {b : Bool} (h : EvT t σ H b) (hb : b = false) (k : ∀ H1, Ex H H1 → D.nx σ H1) : tIfS t tNever tNext D σ H :=
  Evl.s_when h (fun c => by rw [hb] at c; cases c) fun _ => k
/-- o.f = e -/
theorem q_fld {a C dx : Addr} {fs : List (Str × V)} {f : Str} (hv : Ev tb σ H v) (ha : Ev ta σ H (.ref a)) (ho : H a = some (.ins C dx fs)) (hc : Cls K C) (hn : NoAttr K C f) (hl : fs.length < 1000) (k : ∀ H1, Ex H H1 → tz D σ (upd H1 a (.ins C dx (putF f v fs)))) :
    tSeq (sFld K ta tb f) tz D σ H := hv H (Ex.refl H) _ fun H1 e1 => ha H1 e1 _ fun H2 e2 => ⟨a, C, dx, fs, rfl, (e1.trans e2) a _ ho, hc, hn, hl, k H2 (e1.trans e2)⟩
theorem s_fldP {a C dx : Addr} {fs : List (Str × V)} {f : Str} {P : V → Hp → Prop} (hv : EvP tb σ H P) (ha : Ev ta σ H (.ref a)) (ho : H a = some (.ins C dx fs)) (hc : Cls K C) (hn : NoAttr K C f) (hl : fs.length < 1000) (k : ∀ v H1 H2, Ex H H1 → P v H1 → Ex H1 H2 → D.nx σ (upd H2 a (.ins C dx (putF f v fs)))) :
    sFld K ta tb f D σ H := hv H (Ex.refl H) _ fun v H1 e1 p => ha H1 e1 _ fun H2 e2 => ⟨a, C, dx, fs, rfl, (e1.trans e2) a _ ho, hc, hn, hl, k v H1 H2 e1 p e2⟩
/-- d[k] = v -/
theorem q_dput {a : Addr} {kvs : List (Key × V)} {i : Int} (hv : Ev tc σ H v) (ha : Ev ta σ H (.ref a)) (hb : Ev tb σ H (.int i)) (ho : H a = some (.dK kvs)) (hl : kvs.length < 100000) (k : ∀ H1, Ex H H1 → tz D σ (upd H1 a (.dK (putK kvs (Sum.inl i) v)))) :
    tSeq (sDPut ta tb tc) tz D σ H := hv H (Ex.refl H) _ fun H1 e1 => ha H1 e1 _ fun H2 e2 => hb H2 (e1.trans e2) _ fun H3 e3 => ⟨a, _, rfl, DPut.k (k := Sum.inl i) (((e1.trans e2).trans e3) a _ ho) (Evl.sz_lt hl), k H3 ((e1.trans e2).trans e3)⟩
theorem s_dput {a : Addr} {kvs : List (Key × V)} {i : Int} (hv : Ev tc σ H v) (ha : Ev ta σ H (.ref a)) (hb : Ev tb σ H (.int i)) (ho : H a = some (.dK kvs)) (hl : kvs.length < 100000) (k : ∀ H1, Ex H H1 → D.nx σ (upd H1 a (.dK (putK kvs (Sum.inl i) v)))) :
    sDPut ta tb tc D σ H := hv H (Ex.refl H) _ fun H1 e1 => ha H1 e1 _ fun H2 e2 => hb H2 (e1.trans e2) _ fun H3 e3 => ⟨a, _, rfl, DPut.k (k := Sum.inl i) (((e1.trans e2).trans e3) a _ ho) (Evl.sz_lt hl), k H3 ((e1.trans e2).trans e3)⟩
/-- xs.append(v), v known by P -/
theorem q_appP {l : Addr} {xs : List V} {P : V → Hp → Prop} (hl : H l = some (.lst xs)) (ha : Ev ta σ H (.ref l)) (h : EvP te σ H P) (hz : xs.length < 100000) (k : ∀ v H1, Ex H H1 → P v H1 → tz D σ (upd H1 l (.lst (xs ++ [v])))) :
    tSeq (tDrop (tBM K "list" rAppend ta (tCons te tNil))) tz D σ H := ha H (Ex.refl H) _ fun H1 e1 =>
  ⟨Or.inl ⟨rfl, xs, Evl.sq_of (e1 l _ hl)⟩, h H1 e1 _ fun v H2 e2 p => ⟨l, xs, v, rfl, rfl, e2 l _ (e1 l _ hl), Evl.sz_lt hz, k v H2 (e1.trans e2) p⟩⟩
theorem s_appP {l : Addr} {xs : List V} {P : V → Hp → Prop} (hl : H l = some (.lst xs)) (ha : Ev ta σ H (.ref l)) (h : EvP te σ H P) (hz : xs.length < 100000) (k : ∀ v H1, Ex H H1 → P v H1 → D.nx σ (upd H1 l (.lst (xs ++ [v])))) :
    tDrop (tBM K "list" rAppend ta (tCons te tNil)) D σ H := ha H (Ex.refl H) _ fun H1 e1 =>
  ⟨Or.inl ⟨rfl, xs, Evl.sq_of (e1 l _ hl)⟩, h H1 e1 _ fun v H2 e2 p => ⟨l, xs, v, rfl, rfl, e2 l _ (e1 l _ hl), Evl.sz_lt hz, k v H2 (e1.trans e2) p⟩⟩

/-! ### loops -/
/-- for over a walk: Pv by the turn -/
theorem f_it {J : It} {n : Nat} {G : Hp → Prop} {Y : Nat → Hp → V → Hp → Prop} {wi : TI} (hw : ∀ R : It → Hp → Prop, (∀ H1, Ex H H1 → R J H1) → wi σ H R) (w : Walk J n G Y) (Pv : Nat → L2.St → Hp → Prop) (h0 : ∀ H1, Ex H H1 → Pv 0 σ H1) (hG : ∀ i σ' H', i ≤ n → Pv i σ' H' → G H')
    (hs : ∀ i x σ' H' H2, i < n → Pv i σ' H' → Y i H' x H2 → g x σ' H2 fun σ3 H3 => tu { D with nx := Pv (i + 1), ct := Pv (i + 1), bk := D.nx } σ3 H3) (hd : ∀ σ' H', Pv n σ' H' → D.nx σ' H') : tFor wi g tu D σ H :=
  hw _ fun H1 e => for_it w Pv (h0 H1 e) hG hs hd
/-- over a list -/
theorem f_list {a : Addr} {xs : List V} (h : Ev te σ H (.ref a)) (hx : SqL K H a xs) (Pv : Nat → L2.St → Hp → Prop) (h0 : ∀ H1, Ex H H1 → Pv 0 σ H1) (hl : ∀ i σ' H', i ≤ xs.length → Pv i σ' H' → SqL K H' a xs)
    (hs : ∀ i x σ' H', xs[i]? = some x → Pv i σ' H' → g x σ' H' fun σ2 H2 => tu { D with nx := Pv (i + 1), ct := Pv (i + 1), bk := D.nx } σ2 H2) (hd : ∀ σ' H', Pv xs.length σ' H' → D.nx σ' H') : tFor (iList K te) g tu D σ H :=
  Evl.s_forL h hx Pv h0 hl hs hd
/-- over enumerate(list), two names: the pair is new -/
theorem f_enum {a : Addr} {xs : List V} {j l : Nat} (h : Ev te σ H (.ref a)) (hx : SqL K H a xs) (Pv : Nat → L2.St → Hp → Prop) (h0 : ∀ H1, Ex H H1 → Pv 0 σ H1) (hl : ∀ i σ' H', i ≤ xs.length → Pv i σ' H' → SqL K H' a xs)
    (hs : ∀ (i : Nat) x σ' H' H2, xs[i]? = some x → Pv i σ' H' → Ex H' H2 → tu { D with nx := Pv (i + 1), ct := Pv (i + 1), bk := D.nx } ((σ'.set j (some (.int (i : Int)))).set l (some x)) H2) (hd : ∀ σ' H', Pv xs.length σ' H' → D.nx σ' H') :
    tFor (iEnum K (tCons te tNil)) (gTup K 2 (gCons (gName j) (gCons (gName l) gNil))) tu D σ H :=
  h H (Ex.refl H) _ fun H1 e => ⟨a, xs, rfl, Evl.ex_l e hx, for_it walk_enum Pv (h0 H1 e) hl (fun i x σ' H' H2 hi p y => by
    obtain ⟨T, u, w, rfl, hT, rfl, eu, ew⟩ := y
    cases eu
    exact ⟨T, [.int (i : Nat), w], rfl, .inl (.inl upd_same), rfl, _, _, rfl, _, _, rfl, rfl, hs i w σ' H' _ ew p (Ex.new hT)⟩) hd⟩
/-- over range(n) -/
theorem f_range {j : Nat} {n : Int} (h : EvA tl σ H [.int n]) (hn : 0 ≤ n ∧ n ≤ 100000000) (Pv : Nat → L2.St → Hp → Prop) (h0 : ∀ H1, Ex H H1 → Pv 0 σ H1)
    (hs : ∀ (i : Nat) σ' H', (i : Int) < n → Pv i σ' H' → tu { D with nx := Pv (i + 1), ct := Pv (i + 1), bk := D.nx } (σ'.set j (some (.int (i : Int)))) H') (hd : ∀ σ' H', Pv n.toNat σ' H' → D.nx σ' H') : tFor (iRng1 tl) (gName j) tu D σ H :=
  h H (Ex.refl H) _ fun H1 e => ⟨n, rfl, by omega, by omega, for_range (lo := 0) (n := n.toNat) Pv (h0 H1 e) (fun i σ' H' hi p => by
    have e0 : (0 : Int) + (i : Int) = (i : Int) := Int.zero_add _
    have q := hs i σ' H' (by omega) p
    rw [← e0] at q
    exact q) hd⟩
/-- over a dict's keys; the dict is frozen -/
theorem f_keys {d : Addr} {kvs : List (Key × V)} {j : Nat} (h : EvP te σ H (fun v H2 => v = .ref d ∧ H2 d = some (.dK kvs))) (Pv : Obj → Nat → L2.St → Hp → Prop) (h0 : ∀ H1 od, Ex H H1 → H1 d = some (.dK kvs) → Pv od 0 σ (upd H1 d (.frz od (.dK kvs))))
    (hl : ∀ od i σ' H', i ≤ kvs.length → Pv od i σ' H' → H' d = some (.frz od (.dK kvs)))
    (hs : ∀ od (i : Nat) k w σ' H', kvs[i]? = some (k, w) → Pv od i σ' H' → tu { D with nx := Pv od (i + 1), ct := Pv od (i + 1), bk := D.nx } (σ'.set j (some (kV k))) H') (hd : ∀ od σ' H', Pv od kvs.length σ' H' → D.nx σ' H') :
    tFor (iKeys (tFrz te)) (gName j) tu D σ H :=
  h H (Ex.refl H) _ fun v H1 e ⟨ev, h1⟩ => ⟨d, kvs, ev, h1, fun od => ⟨d, od, rfl, .inl ⟨kvs, upd_same, for_it walk_keys (Pv od) (h0 H1 od e h1) (hl od) (fun i x σ' H' H2 hi p y => by
    obtain ⟨rfl, k, w, hk, rfl⟩ := y
    exact hs od i k w σ' H2 hk p) (hd od)⟩⟩⟩
/-- while, by a number that falls: the test, then the body -/
theorem f_while (W : Nat → L2.St → Hp → Prop) (m0 : Nat) (h0 : W m0 σ H)
    (hs : ∀ m σ' H', W m σ' H' → ∃ b, EvT t σ' H' b ∧ (b = true → ∀ H1, Ex H' H1 → ∃ N : L2.St → Hp → Prop, (∀ σ2 H2, N σ2 H2 → ∃ m', m' < m ∧ W m' σ2 H2) ∧ tu { D with nx := N, ct := N, bk := D.nx } σ' H1) ∧ (b = false → ∀ H1, Ex H' H1 → D.nx σ' H1)) : tWhile t tu D σ H :=
  Evl.s_while W m0 h0 hs
theorem q_seq (h : tu { D with nx := tz D } σ H) : tSeq tu tz D σ H := h

/-! ### comprehensions -/
/-- over any walk: B of the new list's place, the turn, what is made so far, the heap; B doesn't mind what the new list holds -/
theorem lc_gen {J : It} {n : Nat} {G : Hp → Prop} {Y : Nat → Hp → V → Hp → Prop} {wi : TI} {vs : List Nat} (hw : ∀ H1, Ex H H1 → ∀ R : It → Hp → Prop, (∀ H2, Ex H1 H2 → R J H2) → wi σ H1 R) (w : Walk J n G Y) (hn : n ≤ 90000)
    (B : Addr → Nat → List V → Hp → Prop) (bu : ∀ Dl i acc ys zs H1, B Dl i acc H1 → H1 Dl = some (.lst ys) → B Dl i acc (upd H1 Dl (.lst zs))) (b0 : ∀ Dl H1, Ex H H1 → H Dl = none → B Dl 0 [] H1) (hG : ∀ H1, Ex H H1 → G H1)
    (hs : ∀ Dl i x H1 H2 acc (Q : V → Hp → Prop), i < n → Ex H H1 → H Dl = none → H1 Dl = some (.lst acc) → B Dl i acc H1 → Y i H1 x H2 → (∀ v H3, Ex H1 H3 → B Dl (i + 1) (acc ++ [v]) H3 → Q v H3) → g x (wipe σ vs) H2 fun σ2 H4 => wipe σ2 vs = wipe σ vs ∧ te σ2 H4 Q) :
    EvP (tLc wi g tYes te vs) σ H (fun v H2 => ∃ p acc, v = .ref p ∧ H p = none ∧ H2 p = some (.lst acc) ∧ acc.length = n ∧ B p n acc H2) := fun H0 e0 Q q => hw H0 e0 _ fun H1 e1 => fun Dl hD => by
  have fr : H Dl = none := Evl.fresh_back (e0.trans e1) hD
  refine lc_it w (fun i H' => ∃ acc, Ex H1 H' ∧ B Dl i acc H' ∧ H' Dl = some (.lst acc) ∧ acc.length = i) ⟨[], Ex.new hD, b0 Dl _ ((e0.trans e1).trans (Ex.new hD)) fr, upd_same, rfl⟩ (fun i H' _ p => ?_) (fun i x H' H2 hi p y => ?_) fun H' p => ?_
  · obtain ⟨acc, a1, _⟩ := p
    exact hG H' ((e0.trans e1).trans a1)
  · obtain ⟨acc, a1, a4, a5, a6⟩ := p
    refine hs Dl i x H' H2 acc _ hi ((e0.trans e1).trans a1) fr a5 a4 y fun v H3 e3 b3 => ?_
    refine ⟨acc, e3 Dl _ a5, Evl.sz_lt (by omega), acc ++ [v], Evl.Ex.mut (a1.trans e3) hD, bu _ _ _ _ _ _ b3 (e3 Dl _ a5), upd_same, by rw [List.length_append, a6]; rfl⟩
  · obtain ⟨acc, a1, a4, a5, a6⟩ := p
    exact q _ H' (e1.trans a1) ⟨Dl, acc, rfl, fr, a5, a6, a4⟩
/-- the turn's part, one name -/
theorem turn1 {j : Nat} {vs : List Nat} {P : V → Hp → Prop} (hw : wipe ((wipe σ vs).set j (some x)) vs = wipe σ vs) (h : EvP te ((wipe σ vs).set j (some x)) H P) {Q : V → Hp → Prop} (q : ∀ v H3, Ex H H3 → P v H3 → Q v H3) :
    gName j x (wipe σ vs) H fun σ2 H4 => wipe σ2 vs = wipe σ vs ∧ te σ2 H4 Q := ⟨hw, h H (Ex.refl H) Q q⟩
/-- three names out of a tuple of ints -/
theorem turn3 {i j l : Nat} {vs : List Nat} {a b c : Int} {P : V → Hp → Prop} (hx : TupI K H x [a, b, c]) (hw : wipe ((((wipe σ vs).set i (some (.int a))).set j (some (.int b))).set l (some (.int c))) vs = wipe σ vs)
    (h : EvP te ((((wipe σ vs).set i (some (.int a))).set j (some (.int b))).set l (some (.int c))) H P) {Q : V → Hp → Prop} (q : ∀ v H3, Ex H H3 → P v H3 → Q v H3) :
    gTup K 3 (gCons (gName i) (gCons (gName j) (gCons (gName l) gNil))) x (wipe σ vs) H fun σ2 H4 => wipe σ2 vs = wipe σ vs ∧ te σ2 H4 Q := by
  obtain ⟨p, rfl, hp⟩ := hx
  exact ⟨p, _, rfl, hp, rfl, _, _, rfl, _, _, rfl, _, _, rfl, rfl, hw, h H (Ex.refl H) Q q⟩
theorem turn2 {i j : Nat} {vs : List Nat} {a b : Int} {P : V → Hp → Prop} (hx : TupI K H x [a, b]) (hw : wipe (((wipe σ vs).set i (some (.int a))).set j (some (.int b))) vs = wipe σ vs)
    (h : EvP te (((wipe σ vs).set i (some (.int a))).set j (some (.int b))) H P) {Q : V → Hp → Prop} (q : ∀ v H3, Ex H H3 → P v H3 → Q v H3) :
    gTup K 2 (gCons (gName i) (gCons (gName j) gNil)) x (wipe σ vs) H fun σ2 H4 => wipe σ2 vs = wipe σ vs ∧ te σ2 H4 Q := by
  obtain ⟨p, rfl, hp⟩ := hx
  exact ⟨p, _, rfl, hp, rfl, _, _, rfl, _, _, rfl, rfl, hw, h H (Ex.refl H) Q q⟩
theorem TupI.updL {l : Addr} {ys zs : List V} {xs : List Int} (h : TupI K H v xs) (hl : H l = some (.lst ys)) : TupI K (upd H l (.lst zs)) v xs := by
  obtain ⟨t, rfl, h⟩ := h
  refine ⟨t, rfl, ?_⟩
  rcases h with (h | ⟨o, h⟩) | h
  · exact .inl (.inl (by rw [upd_ne (ne_of h hl (by intro z; cases z))]; exact h))
  · exact .inl (.inr ⟨o, by rw [upd_ne (ne_of h hl (by intro z; cases z))]; exact h⟩)
  · exact .inr h
theorem TupL.updL {l : Addr} {ys zs : List V} (hl : H l = some (.lst ys)) : ∀ {vs : List V} {xs : List (List Int)}, TupL K H vs xs → TupL K (upd H l (.lst zs)) vs xs
  | _, _, .nil => .nil
  | _, _, .cons h t => .cons (h.updL hl) (TupL.updL hl t)
/-- each element a flat value that the turn tells: over a list of values by one name -/
theorem lc_vals {a : Addr} {xs ys : List V} {j : Nat} (h : Ev ta σ H (.ref a)) (hx : SqL K H a xs) (hz : xs.length ≤ 90000) (hy : ys.length = xs.length) (hw : ∀ x, wipe ((wipe σ [j]).set j (some x)) [j] = wipe σ [j])
    (he : ∀ (i : Nat) (x : V) H1, Ex H H1 → xs[i]? = some x → ∃ y, ys[i]? = some y ∧ Ev te ((wipe σ [j]).set j (some x)) H1 y) :
    EvP (tLc (iList K ta) (gName j) tYes te [j]) σ H (fun v H2 => ∃ p, v = .ref p ∧ H p = none ∧ H2 p = some (.lst ys)) := by
  refine (lc_gen (G := fun H => SqL K H a xs) (n := xs.length) (fun H1 e R q => h H1 e _ fun H2 e2 => ⟨a, rfl, ⟨xs, Evl.ex_l (e.trans e2) hx⟩, q H2 e2⟩) walk_list hz (fun _ i acc _ => acc = ys.take i) (fun _ _ _ _ _ _ b _ => b) (fun _ _ _ _ => by simp) (fun H1 e => Evl.ex_l e hx) fun Dl i x H1 H2 acc Q hi e fr hD b y q => ?_).imp fun v H2 e hp => ?_
  · obtain ⟨rfl, hxi⟩ := y
    obtain ⟨w, hw2, ev⟩ := he i x H2 e hxi
    exact turn1 (hw x) (Ev.toP (P := fun v _ => v = w) ev fun _ _ => rfl) fun v H3 e3 hv => q v H3 e3 (by rw [hv, b, List.take_add_one, hw2]; rfl)
  · obtain ⟨p, acc, rfl, fr, h2, hl, b⟩ := hp
    rw [b, List.take_of_length_le (by omega)] at h2
    exact ⟨p, rfl, fr, h2⟩
/-- each element a flat value: over a list of 3-tuples of ints by three names -/
theorem lc_vals3 {a : Addr} {xss : List (List Int)} {ys : List V} {i1 i2 i3 : Nat} {vs : List Nat} (h : Ev ta σ H (.ref a)) (hx : LT K H a xss) (hz : xss.length ≤ 90000) (hy : ys.length = xss.length)
    (hw : ∀ x y z, wipe ((((wipe σ vs).set i1 (some x)).set i2 (some y)).set i3 (some z)) vs = wipe σ vs)
    (he : ∀ (i : Nat) (x : List Int) H1, Ex H H1 → xss[i]? = some x → ∃ a b c y, x = [a, b, c] ∧ ys[i]? = some y ∧ Ev te ((((wipe σ vs).set i1 (some (.int a))).set i2 (some (.int b))).set i3 (some (.int c))) H1 y) :
    EvP (tLc (iList K ta) (gTup K 3 (gCons (gName i1) (gCons (gName i2) (gCons (gName i3) gNil)))) tYes te vs) σ H (fun v H2 => ∃ p, v = .ref p ∧ H p = none ∧ H2 p = some (.lst ys)) := by
  obtain ⟨us, hx, hT⟩ := hx
  have hul := hT.length
  refine (lc_gen (G := fun H => SqL K H a us) (n := us.length) (fun H1 e R q => h H1 e _ fun H2 e2 => ⟨a, rfl, ⟨us, Evl.ex_l (e.trans e2) hx⟩, q H2 e2⟩) walk_list (by omega) (fun _ i acc _ => acc = ys.take i) (fun _ _ _ _ _ _ b _ => b) (fun _ _ _ _ => by simp) (fun H1 e => Evl.ex_l e hx) fun Dl i x H1 H2 acc Q hi e fr hD b y q => ?_).imp fun v H2 e hp => ?_
  · obtain ⟨rfl, hxi⟩ := y
    obtain ⟨u, hu, tu⟩ := (hT.mono e).getV hxi
    obtain ⟨a1, b1, c1, w, rfl, hw2, ev⟩ := he i u H2 e hu
    exact turn3 tu (hw _ _ _) (Ev.toP (P := fun v _ => v = w) ev fun _ _ => rfl) fun v H3 e3 hv => q v H3 e3 (by rw [hv, b, List.take_add_one, hw2]; rfl)
  · obtain ⟨p, acc, rfl, fr, h2, hl, b⟩ := hp
    rw [b, List.take_of_length_le (by omega)] at h2
    exact ⟨p, rfl, fr, h2⟩
end G

/-! The engine, part 3: sorted of a dict's keys. -/
namespace G
open PySem PySem.Spec PyProof.Rows L2

def rSortedD : List V → Hp → VK → Prop := fun vs H Q => ∃ (a : Addr) (kvs : List (Key × V)) (ks : List Int), vs = [V.ref a] ∧ Rd H a (.dK kvs) ∧ kvs.map (·.1) = ks.map Sum.inl ∧ ks.length ≤ 100000 ∧
  ∀ (ns : List Int) (p : Addr), ns.Perm ks → ns.Pairwise (· ≤ ·) → H p = none → Q (.ref p) (upd H p (.lst (ns.map V.int)))
theorem valsInts : ∀ (ks : List Int) {us : List Value}, Vals (ks.map V.int) us → IntsAre us ks
  | [], _, .nil => .nil
  | k :: ks, _, .cons r t => by
    obtain ⟨tk, rfl⟩ := r
    exact .cons k tk (valsInts ks t)
/-- the list that sorted makes of what it has collected -/
theorem sort_tail {P : Program} {w : World} {A : Around} {E : Value → Shared → Prop} {us : List Value} {ns : List Int} {h : Heap} {s : Shared} {Q : PySem.Fin → Shared → Prop} (hI : IntsAre us ns) (hz : us.length ≤ sizeLine)
    (q : ∀ (out : List Value) (ms : List Int) (c : Nat) (h2 : Heap), IntsAre out ms → ms.Perm ns → ms.Pairwise (· ≤ ·) → h2.get? h.objs.size = some (seqObj "list" out.toArray c) → (∀ b o, h.get? b = some o → h2.get? b = some o) → Q (.done (.ret .none)) { s with heap := h2 }) :
    wpAny (model P w) A (Builtin.«list.sort» ⟨[.ref h.objs.size], []⟩) Q E { s with heap := h.push (seqObj "list" us.toArray 0) } := by
  have hob : (h.push (seqObj "list" us.toArray 0)).get? h.objs.size = some (seqObj "list" us.toArray 0) := Heap.get?_push_size _ rfl
  refine SrtO.list_sort_ord (s := { s with heap := h.push (seqObj "list" us.toArray 0) }) SrtO.swo_int hob hz (fun h2 => SrtO.ints_sortable hI h2) fun out g1 g2 => ?_
  obtain ⟨i1, i2, i3⟩ := SrtO.ints_out hI g1 g2
  obtain ⟨c, hc⟩ := sortedHeap_at (vs := us) (out := out.toArray) hob
  refine q out _ c _ i1 i2 i3 hc fun b o e => ?_
  have hb : b < h.objs.size := Heap.lt_size e
  rw [sortedHeap_old (Nat.ne_of_lt hb) (by rw [Heap.size_push]; exact Nat.lt_succ_of_lt hb)]
  exact Heap.get?_push_of_some _ e
theorem cr_sortedD {X : Cx} (hcalm : X.calm = true) : CallR X (.builtin "sorted") rSortedD := by
  intro pins s σ H xs us Q I r h
  obtain ⟨a, kvs, ks, rfl, hd, hks, hn, q⟩ := h
  rw [Vals.ref1 r]
  obtain ⟨z, lo, vs, rel, dd⟩ := dk_rd I.hok hd
  obtain ⟨ep, hat⟩ := dd.dictAt
  have hlv : vs.length = ks.length := by
    have e1 := rel.keys
    have e2 := congrArg List.length (e1.symm.trans hks)
    simpa using e2
  have h16 : vs.length ≤ sizeLine := by rw [hlv, sizeLine_eq]; omega
  refine Calls.call_function_entry kind_sorted plain_sorted entry_sorted (args_sorted1 _) ?_
  unfold Builtin.«sorted»
  refine wpAny_bind (m := checkCount "sorted" 1 1 _) (wpAny_pure ?_)
  refine wpAny_bind (PySem.W.kdu_collect (A := X.A.in1) (PySem.W.kdl_dict (knd := mixKind X.prog X.w) (kvs := vs) (ep := ep) lo) (I.ok.hd hcalm) hat h16 fun h1 tk acc kept items => ?_)
  have hacc : acc.toList.length = vs.length := by rw [Array.length_toList]; exact items.1
  have hV : Vals (vs.map fun p => kV p.1) acc.toList := keys_at hacc fun j v e => items.2 j v (by rw [← Array.getElem?_toList]; exact e)
  have hmap : (vs.map fun p => kV p.1) = ks.map V.int := by
    have e1 : (vs.map fun p => kV p.1) = (vs.map (·.1)).map kV := by rw [List.map_map]; rfl
    rw [e1, ← rel.keys, hks, List.map_map]
    rfl
  rw [hmap] at hV
  have hI := valsInts ks hV
  have I1 : Inv X pins σ H { s with heap := h1, toks := tk } := I.kept kept
  refine wpAny_bind (wpAny_newList ?_ (by rw [hacc]; exact h16))
  show wpAny _ _ _ _ _ { s with heap := h1.push (seqObj "list" acc.toList.toArray 0), toks := tk }
  have hob : (h1.push (seqObj "list" acc.toList.toArray 0)).get? h1.objs.size = some (seqObj "list" acc.toList.toArray 0) := Heap.get?_push_size _ rfl
  refine wpAny_bind (wpAny_holding (wpAny_call_entry slot_list_sort ⟨_, hob, rfl⟩ entry_list_sort (sort_tail (s := { s with toks := tk }) hI (by rw [hacc]; exact h16) fun out ms c h2 i1 i2 i3 hc hk => ⟨_, rfl, ?_⟩) (args_list_sort _)))
  have hms : (ms.map V.int).length ≤ sizeLine := by rw [List.length_map, i2.length_eq, ← hlv]; exact h16
  exact wpAny_pure ⟨_, rfl, .ref h1.objs.size, upd H h1.objs.size (.lst (ms.map V.int)), I1.laid (t' := tk) hk (Nat.le_refl _) ⟨hms, out, c, vals_of_ints i1, hc⟩, rfl, q ms _ i2 i3 (I1.hok.fresh (Nat.le_refl _))⟩

/-! ### t[1::-1] of a tuple of three -/
theorem applied_swap {P : Program} {w : World} {A : Around} {E : Value → Shared → Prop} {s : Shared} {sl : Addr} {vl vs : Value} {Q : Int × Int × Nat → Shared → Prop} (hs : s.heap.IsSliceOf sl vl .none vs) (pl : IsPart vl (some 1)) (ps : IsPart vs (some (-1)))
    (h : Q ((1 : Int), -1, 2) s) : wpAny (model P w) A (Builtin.Slice.sliceApplied (.ref sl) (pure ((3 : Nat) : Int))) Q E s := by
  obtain ⟨ob, g1, g2, g3⟩ := id hs
  unfold Builtin.Slice.sliceApplied Builtin.Slice.sliceFields
  refine wpAny_bind (wpAny_bind (wpAny_field g1 g3 (x := vl) rfl (wpAny_bind (wpAny_field g1 g3 (x := .none) rfl (wpAny_bind (wpAny_field g1 g3 (x := vs) rfl (wpAny_pure ?_)))))))
  refine wpAny_bind (HT.slicePart_ ps ?_)
  show wpAny _ _ (if ((-1 : Int) == 0) = true then _ else _) _ _ s
  rw [if_neg (by decide)]
  refine wpAny_bind (HT.slicePart_ pl (wpAny_bind (HT.slicePart_ .none (wpAny_bind (wpAny_pure (wpAny_pure ?_))))))
  exact h
theorem getItem_swap {P : Program} {w : World} {A : Around} {E : Value → Shared → Prop} {s : Shared} {t sl : Addr} {a b c vl vs : Value} {Q : Value → Shared → Prop} (ht : IsTup s.heap t #[a, b, c]) (hs : s.heap.IsSliceOf sl vl .none vs) (pl : IsPart vl (some 1)) (ps : IsPart vs (some (-1)))
    (h : Q (.ref s.heap.objs.size) { s with heap := s.heap.push { cls := .type "tuple", data := .seq #[b, a] } }) : wpAny (model P w) A (getItem (.ref t) (.ref sl)) Q E s := by
  obtain ⟨ob, g1, g2, g3⟩ := id hs
  have hsl : s.TypeIs (.ref sl) "slice" := ⟨ob, g1, g2⟩
  have hok : sizeOk (.seq #[b, a]) := by show 2 ≤ sizeLine; decide
  unfold getItem
  try with_reducible refine wpAny_holding ?_
  first
    | refine wpAny_bind (wpAny_pure ?_)
    | skip
  refine wpAny_bind (wpAny_sequenceKey ht.typeIs (by decide) ?_)
  refine wpAny_bind (wpAny_callSpecial?_slot (name := Str.ofString "__getitem__") ht.typeIs slot_tuple_getitem (wpAny_call_entry slot_tuple_getitem ht.typeIs entry_tuple_getitem ?_ (args_tuple_getitem _ _)))
  show wpAny _ _ (Builtin.Tuple.tupleItemsOf (.ref t) >>= _) _ _ s
  refine wpAny_bind (tupleItemsOf_ ht (wpAny_bind (wpAny_typeOf hsl ?_)))
  rw [if_pos (by decide)]
  refine wpAny_bind (applied_swap hs pl ps ?_)
  show wpAny _ _ (if ((1 : Int) == 0 && (-1 : Int) == 1 && (2 : Nat) == 3) = true then _ else _) _ _ s
  rw [if_neg (by decide)]
  first
    | exact wpAny_bind (m := Builtin.Tuple.tupleExact _) (wpAny_newObj_type (wpAny_pure ⟨_, rfl, wpAny_pure h⟩) hok)
    | exact wpAny_bind (m := Builtin.Tuple.tupleExact _) (wpAny_newObj_type (wpAny_bind (wpAny_pure (wpAny_pure ⟨_, rfl, wpAny_pure h⟩))) hok)
    | exact wpAny_bind (wpAny_bind (m := Builtin.Tuple.tupleExact _) (wpAny_newObj_type (wpAny_pure (wpAny_pure ⟨_, rfl, wpAny_pure h⟩)) hok))
    | exact wpAny_bind (wpAny_bind (m := Builtin.Tuple.tupleExact _) (wpAny_newObj_type (wpAny_pure ⟨_, rfl, wpAny_pure h⟩) hok))
def tSwapT (K : PySem.W.Frag) (te : TE) : TE := fun σ H Q => te σ H fun x H1 => ∃ p a b c, x = .ref p ∧ SqT K H1 p [a, b, c] ∧ ∀ q, H1 q = none → Q (.ref q) (upd H1 q (.tup [b, a]))
theorem pe_swapT {X : Cx} {e : Expr} {te : TE} {k0 k : Nat} {p0 p1 p2 p3 pos : Pos} (he : PE X e te) : PE X (.Subscript e (.Slice (some (.Constant (.int 1) k0 p0)) none (some (.UnaryOp .USub (.Constant (.int 1) k p1) p2)) p3) pos) (tSwapT X.K te) := by
  refine ⟨fun pins s σ H Q I h => ?_⟩
  refine Subscript_ (thn (he.run pins s σ H _ I h) fun v s1 hv => ?_)
  obtain ⟨x, H1, I1, r1, p, a, b, c, rfl, hp, q⟩ := hv
  cases r1
  have h1 : PO X (some (.Constant (.int 1) k0 p0)) (tPart (tC (.int 1))) := po_some pe_int
  have h3 : PO X (some (.UnaryOp .USub (.Constant (.int 1) k p1) p2)) (tPart (tUn rNegI (tC (.int 1)))) := po_some (pe_un un_neg pe_int)
  refine wpAny_Slice (thn (h1.run pins s1 σ H1 (fun o H2 => o = some 1 ∧ H2 = H1) I1 ⟨1, rfl, rfl, rfl⟩) fun vl s2 hl => ?_)
  obtain ⟨l, H2, I2, pl, rfl, rfl⟩ := hl
  refine thn (po_none.run pins s2 σ H2 (fun o H3 => o = none ∧ H3 = H2) I2 ⟨rfl, rfl⟩) fun vu s3 hu => ?_
  obtain ⟨u, H3, I3, pu, rfl, rfl⟩ := hu
  refine thn (h3.run pins s3 σ H3 (fun o H4 => o = some (-1) ∧ H4 = H3) I3 ⟨1, rfl, -1, rfl, rfl, rfl⟩) fun vs s4 ho => ?_
  obtain ⟨o, H4, I4, ps, rfl, rfl⟩ := ho
  cases pu
  have I5 : Inv X pins σ H4 { s4 with heap := s4.heap.push { cls := .type "slice", data := .fields #[vl, .none, vs] } } := I4.kept (t' := s4.toks) fun _ _ g => Heap.get?_push_of_some _ g
  obtain ⟨its, r, hit, hz⟩ := I5.tuple hp
  obtain ⟨ua, ub, uc, rfl, ra, rb, rc⟩ : ∃ ua ub uc, its = [ua, ub, uc] ∧ RelV a ua ∧ RelV b ub ∧ RelV c uc := by
    cases r with
    | cons ra t => cases t with
      | cons rb t => cases t with
        | cons rc t => cases t; exact ⟨_, _, _, rfl, ra, rb, rc⟩
  refine tail_any (ops := [.ref p, .ref s4.heap.objs.size]) hit.typeIs slot_tuple_getitem.lookup ?_ (by with_unfolding_all rfl)
  refine getItem_swap hit (Heap.IsSliceOf.new _ vl .none vs) pl ps ?_
  refine ⟨.ref _, _, I5.laid (t' := s4.toks) (o := .tup [b, a]) (fun _ _ g => Heap.get?_push_of_some _ g) (Nat.le_refl _) ?_, rfl, q _ (I5.hok.fresh (Nat.le_refl _))⟩
  exact ⟨by show 2 ≤ sizeLine; decide, [ub, ua], .cons rb (.cons ra .nil), ⟨_, Heap.get?_push_size _ rfl, rfl, _, rfl⟩⟩
end G

/-! The engine, part 4: sorted(set(xs)). -/
namespace G
open PySem PySem.Spec PyProof.Rows L2
/-- the set that stands there when nothing is in it yet -/
abbrev set0 (w : World) : Obj := { cls := .type "set", dict := none, data := .set #[] 0 (.fresh 0 0 (!w.params.followText "set-order")) }
section
variable {P : Program} {w : World} {A : Around} {E : Value → Shared → Prop} {s : Shared}
/-- what is wanted behind set.__init__ -/
def SetEnd (w : World) (s : Shared) (ks : List Int) (s2 : Shared) : Prop := ∃ h2 t2 n2, s2 = { s with heap := h2, toks := t2 } ∧ SetR w h2 s.heap.objs.size (fun j => decide (j ∈ ks)) n2 ∧ n2 ≤ ks.length ∧ (∀ b o, s.heap.get? b = some o → h2.get? b = some o)
theorem set_of_list {l : Addr} {arr : Array Value} (ks : List Int) {Q : Value → Shared → Prop} (hA : A.handled = none) (hL : s.heap.IsList l arr) (hK : IntsAre arr.toList ks) (hB : ks.length + 1 < scanBound)
    (fin : ∀ s2, SetEnd w s ks s2 → Q (.ref s.heap.objs.size) s2) : wpAny (model P w) A (call (.type "set") [.ref l]) Q E s := by
  have size : arr.size = ks.length := (Array.length_toList (xs := arr)).symm.trans (IntsAre.length hK)
  obtain ⟨c, tl, mro⟩ := F.called_set.mro
  have made := F.called_set.made
  have sub := F.called_set.sub
  refine wpAny_call (codeAny_of_tree (show wpAny _ _ (callAny (.type "set") _) _ _ _ from ?_))
  refine wpAny_pure ⟨Code.quiet_builtin _ (by decide +kernel), codeAny_builtin F.entry_type_call ?_⟩
  rw [Around.under_plain (weight_type_call_type "set" [.ref l] []) rfl]
  have noT := F.called_set.notType
  have can := F.called_set.canCreate
  have chk := F.typeCall_set_1 (.ref l)
  repeat (any_goals first
    | assumption
    | wp_step)
  refine codeAny_mono (code_set_led1 (.ref l) (E := E) (Q₁ := fun o1 s1 => o1 = .ref s.heap.objs.size ∧ s1 = { s with heap := s.heap.push (set0 w) }) ⟨rfl, rfl⟩) fun r s1 hr => ?_
  cases r with
  | error e => exact hr
  | ok fl =>
    cases fl with
    | ret o1 =>
      obtain ⟨rfl, rfl⟩ := hr
      have at0 : (s.heap.push (set0 w)).get? s.heap.objs.size = some (set0 w) := Heap.get?_push_size _ rfl
      have ty0 : Shared.TypeIs { s with heap := s.heap.push (set0 w) } (.ref s.heap.objs.size) "set" := ⟨_, at0, rfl⟩
      have look := F.called_set.init.lookup
      have bind := F.called_set.init.bind (.ref s.heap.objs.size)
      repeat (any_goals first
        | assumption
        | wp_step)
      refine codeAny_mono (codeAny_call_builtin (R := wants (fun r s2 => r = .none ∧ SetEnd w s ks s2) E) F.called_set.init.plain F.entry_set_init (check_set_init_1 ty0 ?_)) fun r2 s2 hr2 => ?_
      · obtain ⟨ol, gl, cl, nl, dl⟩ := hL
        obtain ⟨oc, od, odt, osl⟩ := ol
        simp only at cl dl
        subst cl; subst dl
        have gl2 : (s.heap.push (set0 w)).get? l = some { cls := .type "list", dict := od, data := .seq arr nl, slots := osl } := Heap.get?_push_of_some _ gl
        have f1 := F.sub_list_set
        have f2 := F.sub_list_frozenset
        have f3 : (Value.type "list" == Value.type "dict") = false := by decide
        have hL1 : (s.heap.push (set0 w)).IsList l arr := ⟨_, gl2, rfl, nl, rfl⟩
        unfold Builtin.«set.__init__» noKeywords Builtin.Frozenset.updateFrom
        generalize eP : pyIter = PI
        wp_walk
        subst eP
        refine wpAny_pyIter_list hL1 (wpAny_bind (wpAny_runValue ?_))
        have lt : l < s.heap.objs.size := Heap.lt_size gl
        have hA3 : A.in1.in1.in1.handled = none := by simp [hA]
        have big : (s.heap.push (set0 w)).objs.size = s.heap.objs.size + 1 := Heap.size_push ..
        have apart : l ≠ (s.heap.push (set0 w)).objs.size := by rw [big]; exact Nat.ne_of_lt (Nat.lt_succ_of_lt lt)
        have outer : s.heap.objs.size ∉ [(s.heap.push (set0 w)).objs.size, l] := by
          rw [big]
          simp only [List.mem_cons, List.not_mem_nil, or_false, not_or]
          exact ⟨Nat.ne_of_lt (Nat.lt_succ_self _), Nat.ne_of_gt lt⟩
        have vals : ∀ (i : Nat) (v : Value), arr[i]? = some v → ∃ k t, ks[i]? = some k ∧ v = .int k t := fun i v hv => by
          have hi : i < ks.length := size ▸ (Array.getElem?_eq_some_iff.mp hv).1
          obtain ⟨t, e⟩ := IntsAre.int_at hK i v (by rw [Array.getElem?_toList]; exact hv)
          refine ⟨ks[i], t, List.getElem?_eq_getElem hi, e.trans ?_⟩
          rw [List.getD_eq_getElem?_getD, List.getElem?_eq_getElem hi]
          rfl
        refine set_update_ints ((Walks.list hA3 _ l apart arr).toS) s.heap.objs.size outer ks size hB vals (arr.size - 0) 0 _ (by omega) (Nat.zero_le _) ⟨⟨_, Heap.get?_push_size _ rfl, rfl, rfl⟩, hL1.push _⟩ ?start ?stop
        case start =>
          exact ⟨0, Nat.le_refl 0, setR_new_at (Heap.get?_push_of_some _ at0)⟩
        case stop =>
          intro s3 n3 mv le3 set3
          obtain ⟨h3, g3, d3, t3, o3⟩ := s3
          obtain rfl : g3 = s.gens := mv.gens
          obtain rfl : d3 = s.drawn := mv.drawn
          obtain rfl : o3 = s.os := mv.os
          show wpAny _ _ _ _ _ _
          refine wpAny_pure ?_
          show wpAny _ _ (ret Value.none) _ _ _
          refine wpAny_pure ⟨rfl, h3, t3, n3, rfl, set3, size ▸ le3, fun b o e => ?_⟩
          have hb : b < s.heap.objs.size := Heap.lt_size e
          refine mv.heap b o ?_ (Heap.get?_push_of_some _ (Heap.get?_push_of_some _ e))
          rw [big]
          simp only [List.mem_cons, List.not_mem_nil, or_false, not_or]
          exact ⟨Nat.ne_of_lt hb, Nat.ne_of_lt (Nat.lt_succ_of_lt hb)⟩
      · cases r2 with
        | error e => exact hr2
        | ok fl2 =>
          cases fl2 with
          | ret r =>
            obtain ⟨rfl, h2, t2, n2, rfl, rest⟩ := hr2
            repeat (any_goals first
              | assumption
              | wp_step)
            exact fin _ ⟨h2, t2, n2, rfl, rest⟩
          | _ => exact hr2.elim
    | _ => exact hr.elim
end
/-- sorted(set(xs)) -/
def tSortSet (K : PySem.W.Frag) (ta : TE) : TE := fun σ H Q => ta σ H fun x H1 => ∃ (l : Addr) (ns : List Int), x = .ref l ∧ SqL K H1 l (ns.map V.int) ∧ ns.length ≤ 4000 ∧
  ∀ (ms : List Int) (p : Addr), ms.Pairwise (· < ·) → (∀ k, k ∈ ms ↔ k ∈ ns) → H1 p = none → Q (.ref p) (upd H1 p (.lst (ms.map V.int)))
theorem pe_sortSet {X : Cx} {a : Expr} {ta : TE} {p p2 q pos : Pos} (hg : Gl X "sorted") (hm : X.mg "sorted" = none) (hg2 : Gl X "set") (hm2 : X.mg "set" = none) (ha : PE X a ta) (hc : X.calm = true := by rfl)
    (na : starEach [a] X.env = (false, eval a X.env) :: starEach [] X.env := by rfl) : PE X (.Call (.Name "sorted" p) [.Call (.Name "set" p2) [a] [] q] [] pos) (tSortSet X.K ta) := by
  refine ⟨fun pins s σ H Q I h => Call_ (ld_blt (u := .builtin "sorted") I hg hm (by decide +kernel) ?_)⟩
  refine callWith_builtin1 (args_cons (Call_ (ld_blt I hg2 hm2 boot_set ?_)) rfl) rfl rfl
  have run := ha.run pins s σ H _ I h
  refine callWith_type1 (args_cons (thn run fun v s1 hv => args_nil ?_) na) na rfl
  obtain ⟨x, H1, I1, r1, l, ns, rfl, hq, hl, q1⟩ := hv
  cases r1
  obtain ⟨its, r, pl, hz⟩ := I1.list hq
  refine set_of_list ns (I1.ok.hd hc) pl.isList (valsInts ns (by simpa using r)) (by unfold scanBound; omega) fun s2 h2 => args_nil ?_
  obtain ⟨hp2, t2, n2, rfl, hS, hn, kept⟩ := h2
  have I2 : Inv X pins σ H1 { s1 with heap := hp2, toks := t2 } := I1.kept kept
  obtain ⟨o, es, ep, t, ho, hex, hd, gd, nd, hmem, hb, hf, hsz, hr, hled⟩ := hS
  refine Calls.call_function_entry kind_sorted plain_sorted entry_sorted (args_sorted1 _) ?_
  unfold Builtin.«sorted»
  refine wpAny_bind (m := checkCount "sorted" 1 1 _) (wpAny_pure ?_)
  refine wpAny_bind (collect_set (A := X.A.in1) (I2.ok.hd hc) ⟨o, ho, hex.1, hd⟩ hf hb hr hled fun s3 vs k3 _ g3 o3 pm => ?_)
  obtain ⟨hp3, gs3, dr3, tk3, os3⟩ := s3
  have hlen : vs.length = n2 := by rw [pm.length_eq, List.length_map, Array.length_toList]; exact hsz
  have hI : IntsAre vs (vs.map Builtin.Re.reRawOf) := ints_of vs fun v hv => by
    obtain ⟨e, he, ee⟩ := List.mem_map.mp (pm.mem_iff.mp hv)
    obtain ⟨k, tk, e1, _⟩ := gd e he
    exact ⟨k, tk, ee ▸ e1⟩
  have pk : (vs.map Builtin.Re.reRawOf).Perm (es.toList.map keyOf) := by
    have pq := pm.map Builtin.Re.reRawOf
    rw [List.map_map] at pq
    exact pq
  have hle : vs.length ≤ sizeLine := by rw [hlen, sizeLine_eq]; omega
  have I3 : Inv X pins σ H1 { s1 with heap := hp3, gens := gs3, drawn := dr3, toks := tk3 } :=
    Inv.call (s := { s1 with heap := hp2, toks := t2 }) (ch := []) I2 (Un.kept k3) (I2.hok.kept k3) (by have e : gs3 = s1.gens := g3; rw [e]; exact I1.bare) (fun _ z => nomatch z)
  have eo : os3 = s1.os := o3
  subst eo
  refine wpAny_bind (wpAny_newList ?_ hle)
  have hob : (hp3.push (seqObj "list" vs.toArray 0)).get? hp3.objs.size = some (seqObj "list" vs.toArray 0) := Heap.get?_push_size _ rfl
  show wpAny _ _ _ _ _ { s1 with heap := hp3.push (seqObj "list" vs.toArray 0), gens := gs3, drawn := dr3, toks := tk3 }
  refine wpAny_bind (wpAny_holding (wpAny_call_entry slot_list_sort ⟨_, hob, rfl⟩ entry_list_sort (sort_tail (s := { s1 with gens := gs3, drawn := dr3, toks := tk3 }) hI hle fun out ms c h4 i1 i2 i3 hc4 hk4 => ⟨_, rfl, ?_⟩) (args_list_sort _)))
  have pn : ms.Perm (es.toList.map keyOf) := i2.trans pk
  have hms : (ms.map V.int).length ≤ sizeLine := by rw [List.length_map, pn.length_eq, List.length_map, Array.length_toList, hsz, sizeLine_eq]; omega
  refine wpAny_pure ⟨_, rfl, ?_⟩
  refine ⟨.ref hp3.objs.size, upd H1 hp3.objs.size (.lst (ms.map V.int)), I3.laid (t' := tk3) hk4 (Nat.le_refl _) ⟨hms, out, c, vals_of_ints i1, hc4⟩, rfl, q1 ms _ (lt_of_le_nodup ms i3 (pn.nodup_iff.mpr nd)) (fun k => ?_) (I3.hok.fresh (Nat.le_refl _))⟩
  rw [pn.mem_iff, ← hmem k]
  exact decide_eq_true_iff
end G

/-! Webs: promises and readings of the small defs. -/
namespace G
open PySem PySem.Spec PyProof.Rows L2
open Evl (Ex Ev EvL EvU EvT EvA RV RetV)
local macro_rules | `(tactic| walk_at "hp") => `(tactic| first
  | with_reducible assumption
  | ((with_reducible show _ = some (_ : HO)); (with_reducible exact ex_app (by assumption) (by walk_at "hp")))
  | ((with_reducible show TupI _ _ _ _); (with_reducible exact TupI.mono (by assumption) (by walk_at "hp")))
  | ((with_reducible show LT _ _ _ _); (with_reducible exact LT.mono (by assumption) (by walk_at "hp")))
  | ((with_reducible show LI _ _ _ _); (first | (with_reducible exact li_of (by walk_at "hp")) | (with_reducible exact LI.mono (by assumption) (by walk_at "hp"))))
  | ((with_reducible show SqL _ _ _ _); (first | (with_reducible exact SqL.of (by walk_at "hp")) | (with_reducible exact Evl.ex_l (by assumption) (by walk_at "hp"))))
  | ((with_reducible show SqT _ _ _ _); (first | (with_reducible exact SqT.of (by walk_at "hp")) | (with_reducible exact Evl.ex_t (by assumption) (by walk_at "hp"))))
  | ((with_reducible show Rd _ _ _); (first | (with_reducible exact Rd.of (by walk_at "hp")) | (with_reducible exact Evl.ex_rd (by assumption) (by walk_at "hp"))))
  | walk_at "hpf")
local macro_rules | `(tactic| walk_at "at") => `(tactic| first
  | with_reducible assumption
  | with_reducible rfl
  | (refine atI_of ?va ?vb; (case va => omega); (case vb => assumption))
  | walk_at "atf"
  | rfl)
local macro_rules | `(tactic| walk_at "rv") => `(tactic| first
  | with_reducible exact rv_add | with_reducible exact rv_sub | with_reducible exact rv_eqI | with_reducible exact rv_neI | with_reducible exact rv_lt | with_reducible exact rv_le | with_reducible exact rv_gt | with_reducible exact rv_ge
  | with_reducible exact rv_eqB | with_reducible exact rv_neB | with_reducible exact rv_isB | with_reducible exact rv_notB
  | ((with_reducible refine rv_mod ?_); (first | assumption | omega))
  | ((with_reducible refine rv_mul ?_); (first | exact Or.inl ⟨by omega, by omega⟩ | exact Or.inr ⟨by omega, by omega⟩))
  | ((with_reducible refine rv_div ?_); exact ⟨by omega, by omega⟩))
local macro_rules | `(tactic| walk_at "ty") => `(tactic| first
  | with_reducible exact fun _ _ => .base (.int _) | with_reducible exact fun _ _ => .base (.bl _) | with_reducible exact fun _ _ => .base .non | with_reducible exact fun _ _ => .base (.str _)
  | ((with_reducible apply ty_tup); walk_at "hp")
  | ((with_reducible apply ty_lst); walk_at "hp")
  | walk_at "tyf")
local macro_rules | `(tactic| walk_at "ev") => `(tactic| repeat' (first
  | with_reducible exact Evl.ev_c
  | ((with_reducible apply Evl.ev_var); rfl)
  | with_reducible apply ev_neg
  | with_reducible apply ev_ixU
  | walk_at "evf"
  | ((with_reducible apply ev_lenI); (· walk_at "ev"); (· walk_at "hp"))
  | ((with_reducible apply ev_lenT); (· walk_at "ev"); (· walk_at "hp"))
  | ((with_reducible apply ev_lenU); (· walk_at "ev"))
  | with_reducible apply ev_lenSet
  | with_reducible apply ev_chain
  | with_reducible apply ev_isiTy
  | with_reducible apply Evl.ev_andV
  | with_reducible apply Evl.ev_orV
  | with_reducible apply Evl.ev_notV
  | ((with_reducible apply ev_ixI); (· walk_at "ev"); (· walk_at "ev"); (· walk_at "hp"); (· walk_at "at"))
  | with_reducible apply Evl.ev_op
  | ((with_reducible apply evi_of); (· (with_reducible apply Evl.ev_var); rfl); (· walk_at "hp"))
  | with_reducible apply ei_ix
  | with_reducible apply ei_tup
  | with_reducible exact eai_nil
  | with_reducible apply eai_cons
  | with_reducible exact Evl.ea_nil
  | with_reducible apply Evl.ea_cons
  | with_reducible apply Evl.et_test
  | with_reducible apply Evl.et_and
  | with_reducible apply Evl.et_or
  | with_reducible apply Evl.et_not
  | with_reducible apply Evl.et_B
  | walk_at "rv"
  | ((with_reducible show L2.kitB _ _ = _); rfl)
  | ((with_reducible show L2.atI _ _ = _); walk_at "at")
  | ((with_reducible show (_ : Nat) ≤ _); (first | omega | (simp; done) | (simp; omega)))
  | ((with_reducible show _ = true → _); intro _)
  | ((with_reducible show _ = false → _); intro _)
  | ((with_reducible show TupI _ _ _ _); walk_at "hp")
  | ((with_reducible show LT _ _ _ _); walk_at "hp")
  | ((with_reducible show LI _ _ _ _); walk_at "hp")
  | ((with_reducible show SqL _ _ _ _); walk_at "hp")
  | ((with_reducible show SqT _ _ _ _); walk_at "hp")
  | ((with_reducible show Rd _ _ _); walk_at "hp")
  | ((with_reducible show _ = some (_ : HO)); walk_at "hp")
  | walk_at "hpg"
  | walk_at "ty"))

variable {K : PySem.W.Frag} {σ : L2.St} {H H' H1 : Hp} {ta tb tc te : TE} {t u : TT} {tl : TA} {v x y z : V}
abbrev goal (t : TS) (N : List Str) (vs : List V) (H : Hp) (Q : VK) : Prop := t { nx := fun _ H' => Q .non H', rt := Q } (start N vs) H

/-! ### the data -/
abbrev Tie := Int × Int × Int
abbrev Step := Int × Int
abbrev tieL (t : Tie) : List Int := [t.1, t.2.1, t.2.2]
abbrev stepL (s : Step) : List Int := [s.1, s.2]
abbrev LTie (K : PySem.W.Frag) (H : Hp) (a : Addr) (ts : List Tie) : Prop := LT K H a (ts.map tieL)
abbrev LStep (K : PySem.W.Frag) (H : Hp) (a : Addr) (ss : List Step) : Prop := LT K H a (ss.map stepL)
structure WebTop (K : PySem.W.Frag) : Prop where
  cl : Cls K (ga K "Web")
  nP : NoAttr K (ga K "Web") "points"
  nT : NoAttr K (ga K "Web") "turn"
  nB : NoAttr K (ga K "Web") "bound"
def webF (n turn : Int) (l : Addr) : List (Str × V) := putF "bound" (.ref l) (putF "turn" (.int turn) (putF "points" (.int n) []))
theorem putF_lt {f : Str} {v : V} {m : Nat} : ∀ {fs : List (Str × V)}, fs.length < m → (putF f v fs).length < m + 1
  | [], h => Nat.succ_lt_succ h
  | (g, w) :: r, h => by
    unfold putF
    split
    · exact Nat.lt_succ_of_lt h
    · exact Nat.succ_lt_succ (putF_lt (m := m - 1) (by simp at h; omega) |> fun z => by have : m - 1 + 1 = m := (by simp at h; omega); rwa [this] at z)
theorem nePT : ¬ (("points" : Str) = "turn") := by decide +kernel
theorem nePB : ¬ (("points" : Str) = "bound") := by decide +kernel
theorem neTB : ¬ (("turn" : Str) = "bound") := by decide +kernel
theorem webF_points (n turn : Int) (l : Addr) : (webF n turn l).lookup ("points" : Str) = some (.int n) := by
  unfold webF
  rw [lookup_putF, if_neg nePB, lookup_putF, if_neg nePT, lookup_putF, if_pos rfl]
theorem webF_turn (n turn : Int) (l : Addr) : (webF n turn l).lookup ("turn" : Str) = some (.int turn) := by
  unfold webF
  rw [lookup_putF, if_neg neTB, lookup_putF, if_pos rfl]
theorem webF_bound (n turn : Int) (l : Addr) : (webF n turn l).lookup ("bound" : Str) = some (.ref l) := by
  unfold webF
  rw [lookup_putF, if_pos rfl]
theorem webF_no (n turn : Int) (l : Addr) {m : Str} (h1 : ¬ m = "points") (h2 : ¬ m = "turn") (h3 : ¬ m = "bound") : (webF n turn l).lookup m = none := by
  unfold webF
  rw [lookup_putF, if_neg h3, lookup_putF, if_neg h2, lookup_putF, if_neg h1]
  rfl
/-- a Web stands at w -/
def WebAt (K : PySem.W.Frag) (H : Hp) (w : Addr) (n : Int) (ts : List Tie) (turn : Int) : Prop :=
  WebTop K ∧ ∃ dx l, H w = some (.ins (ga K "Web") dx (webF n turn l)) ∧ LTie K H l ts
/-- the same, its own list at l -/
def WebAtL (K : PySem.W.Frag) (H : Hp) (w : Addr) (n : Int) (ts : List Tie) (turn : Int) (l : Addr) : Prop :=
  WebTop K ∧ (∃ dx, H w = some (.ins (ga K "Web") dx (webF n turn l))) ∧ ∃ vs, H l = some (.lst vs) ∧ TupL K H vs (ts.map tieL)
theorem WebAtL.web {w l : Addr} {n turn : Int} {ts : List Tie} (h : WebAtL K H w n ts turn l) : WebAt K H w n ts turn := by
  obtain ⟨T, ⟨dx, a⟩, vs, b, c⟩ := h
  exact ⟨T, dx, l, a, vs, SqL.of b, c⟩
theorem WebAtL.mono {w l : Addr} {n turn : Int} {ts : List Tie} (e : Ex H H') (h : WebAtL K H w n ts turn l) : WebAtL K H' w n ts turn l := by
  obtain ⟨T, ⟨dx, a⟩, vs, b, c⟩ := h
  exact ⟨T, ⟨dx, e _ _ a⟩, vs, e _ _ b, c.mono e⟩
theorem WebAt.mono {w : Addr} {n turn : Int} {ts : List Tie} (e : Ex H H') (h : WebAt K H w n ts turn) : WebAt K H' w n ts turn := by
  obtain ⟨T, dx, l, h1, h2⟩ := h
  exact ⟨T, dx, l, e _ _ h1, h2.mono e⟩
theorem ev_points {w : Addr} {n turn : Int} {ts : List Tie} (ha : Ev ta σ H (.ref w)) (h : WebAt K H w n ts turn) : Ev (tFld K ta "points") σ H (.int n) := by
  obtain ⟨T, dx, l, h1, _⟩ := h
  exact ev_fld ha h1 T.cl T.nP (webF_points ..)
theorem ev_turn {w : Addr} {n turn : Int} {ts : List Tie} (ha : Ev ta σ H (.ref w)) (h : WebAt K H w n ts turn) : Ev (tFld K ta "turn") σ H (.int turn) := by
  obtain ⟨T, dx, l, h1, _⟩ := h
  exact ev_fld ha h1 T.cl T.nT (webF_turn ..)
theorem WebAt.bound {w : Addr} {n turn : Int} {ts : List Tie} (h : WebAt K H w n ts turn) : ∃ l, LTie K H l ts ∧ ∀ {ta : TE} {σ : L2.St}, Ev ta σ H (.ref w) → Ev (tFld K ta "bound") σ H (.ref l) := by
  obtain ⟨T, dx, l, h1, h2⟩ := h
  exact ⟨l, h2, fun ha => ev_fld ha h1 T.cl T.nB (webF_bound ..)⟩
/-- len(web.bound) -/
theorem ev_lenB {w : Addr} {n turn : Int} {ts : List Tie} (ha : Ev ta σ H (.ref w)) (h : WebAt K H w n ts turn) : Ev (tCB (rLenS K) (tCons (tFld K ta "bound") tNil)) σ H (.int (ts.length : Int)) := by
  obtain ⟨l, h2, f⟩ := h.bound
  have e := ev_lenT (f ha) h2
  rw [List.length_map] at e
  exact e
/-- web.bound[i] -/
theorem ei_bound {w : Addr} {n turn i : Int} {ts : List Tie} {tt : Tie} (ha : Ev ta σ H (.ref w)) (h : WebAt K H w n ts turn) (hb : Ev tb σ H (.int i)) (hi : atI ts i = some tt) : EvI K (tOp (rIxL K) (tFld K ta "bound") tb) σ H (tieL tt) := by
  obtain ⟨l, h2, f⟩ := h.bound
  exact ei_ix (f ha) hb h2 (by rw [atI_map, hi]; rfl)
local macro_rules | `(tactic| walk_at "hpf") => `(tactic| ((with_reducible show WebAt _ _ _ _ _ _); (with_reducible exact WebAt.mono (by assumption) (by walk_at "hp"))))
local macro_rules | `(tactic| walk_at "hpg") => `(tactic| ((with_reducible show WebAt _ _ _ _ _ _); walk_at "hp"))
local macro_rules | `(tactic| walk_at "evf") => `(tactic| with_reducible apply ev_points)
local macro_rules | `(tactic| walk_at "evf") => `(tactic| with_reducible apply ev_turn)
local macro_rules | `(tactic| walk_at "evf") => `(tactic| with_reducible apply ev_lenB)
local macro_rules | `(tactic| walk_at "evf") => `(tactic| with_reducible apply ei_bound)

/-! ### is_whole, is_below, is_tie -/
def sp_is_whole (K : PySem.W.Frag) : Sp := fun vs H Q _ => ∃ n : Int, vs = [.int n] ∧ RetV (.bl true) H Q
theorem ev_is_whole {n : Int} (h : EvA tl σ H [.int n]) : Ev (tCall (sp_is_whole K) [] E0 tl) σ H (.bl true) := ev_call h fun _ _ _ k => ⟨n, rfl, k⟩
def sp_is_below (K : PySem.W.Frag) : Sp := fun vs H Q _ => ∃ n m : Int, vs = [.int n, .int m] ∧ RetV (.bl (decide (0 ≤ n ∧ n < m))) H Q
theorem ev_is_below {n m : Int} (h : EvA tl σ H [.int n, .int m]) : Ev (tCall (sp_is_below K) [] E0 tl) σ H (.bl (decide (0 ≤ n ∧ n < m))) := ev_call h fun _ _ _ k => ⟨n, m, rfl, k⟩
/-- a tie of n points -/
def okTie (n : Int) (t : Tie) : Bool := decide ((0 ≤ t.1 ∧ t.1 < n) ∧ (0 ≤ t.2.1 ∧ t.2.1 < n) ∧ t.1 ≠ t.2.1 ∧ -1000000 ≤ t.2.2 ∧ t.2.2 ≤ 1000000)
def sp_is_tie (K : PySem.W.Frag) : Sp := fun vs H Q _ => ∃ (v : V) (t : Tie) (n : Int), vs = [v, .int n] ∧ TupI K H v (tieL t) ∧ RetV (.bl (okTie n t)) H Q
theorem ev_is_tie {t : Tie} {n : Int} (h : EvA tl σ H [v, .int n]) (ht : TupI K H v (tieL t)) : Ev (tCall (sp_is_tie K) [] E0 tl) σ H (.bl (okTie n t)) := ev_call h fun _ _ e k => ⟨v, t, n, rfl, ht.mono e, k⟩
local macro_rules | `(tactic| walk_at "evf") => `(tactic| with_reducible apply ev_is_whole)
local macro_rules | `(tactic| walk_at "evf") => `(tactic| with_reducible apply ev_is_below)
local macro_rules | `(tactic| walk_at "evf") => `(tactic| with_reducible apply ev_is_tie)

def t_is_whole (K : PySem.W.Frag) : TS :=
 (tRet (tAndV (tCB (rIsi K) (tCons (tVar 0) (tCons (tC (.ty "int")) tNil))) (tNotV (tCB (rIsi K) (tCons (tVar 0) (tCons (tC (.ty "bool")) tNil))))))
def t_is_below (K : PySem.W.Frag) : TS :=
 (tRet (tAndV (tCall (sp_is_whole K) [] E0 (tCons (tVar 0) tNil)) (tChain rLeI rLtI (tC (.int 0)) (tVar 0) (tVar 1))))
def t_is_tie (K : PySem.W.Frag) : TS :=
 (tSeq (tIfS (tOr (tNot (tB (tCB (rIsi K) (tCons (tVar 0) (tCons (tC (.ty "tuple")) tNil))))) (tTest (tOp rNe (tCB (rLenS K) (tCons (tVar 0) tNil)) (tC (.int 3))))) (tRet (tC (.bl false))) tNext)
 (tSeq (tIfS (tOr (tNot (tB (tCall (sp_is_below K) [] E0 (tCons (tOp (rIxT K) (tVar 0) (tC (.int 0))) (tCons (tVar 1) tNil))))) (tOr (tNot (tB (tCall (sp_is_below K) [] E0 (tCons (tOp (rIxT K) (tVar 0) (tC (.int 1))) (tCons (tVar 1) tNil))))) (tTest (tOp rEq (tOp (rIxT K) (tVar 0) (tC (.int 0))) (tOp (rIxT K) (tVar 0) (tC (.int 1))))))) (tRet (tC (.bl false))) tNext)
 (tRet (tAndV (tCall (sp_is_whole K) [] E0 (tCons (tOp (rIxT K) (tVar 0) (tC (.int 2))) tNil)) (tChain rLeI rLeI (tUn rNegI (tC (.int 1000000))) (tOp (rIxT K) (tVar 0) (tC (.int 2))) (tC (.int 1000000)))))))
theorem rd_is_whole (vs : List V) (H : Hp) (Q : VK) (E : XK) (h : sp_is_whole K vs H Q E) : goal (t_is_whole K) ["thing"] vs H Q := by
  obtain ⟨n, rfl, k⟩ := h
  refine Evl.s_ret (v := .bl true) (Evl.ev_is (by walk_at "ev") (by rfl)) fun H1 e => k H1 e
theorem rd_is_below (vs : List V) (H : Hp) (Q : VK) (E : XK) (h : sp_is_below K vs H Q E) : goal (t_is_below K) ["thing", "many"] vs H Q := by
  obtain ⟨n, m, rfl, k⟩ := h
  refine Evl.s_ret (v := .bl (decide (0 ≤ n ∧ n < m))) (Evl.ev_is (by walk_at "ev") ?_) fun H1 e => k H1 e
  simp
theorem rd_is_tie (vs : List V) (H : Hp) (Q : VK) (E : XK) (h : sp_is_tie K vs H Q E) : goal (t_is_tie K) ["thing", "points"] vs H Q := by
  obtain ⟨v, t, n, rfl, ht, k⟩ := h
  refine Evl.q_when (b := false) (Evl.et_is (by walk_at "ev") (by simp [tieL])) (fun hb _ _ => by cases hb) fun _ H1 e1 => ?_
  refine Evl.q_when (by walk_at "ev") (fun hb H2 e2 => ?_) fun hb H2 e2 => ?_
  · refine Evl.s_ret Evl.ev_c fun H3 e3 => ?_
    have q : okTie n t = false := by
      simp at hb
      simp [okTie]
      omega
    rw [q] at k
    exact k H3 (e1.trans (e2.trans e3))
  · refine Evl.s_ret (v := .bl (okTie n t)) (Evl.ev_is (by walk_at "ev") ?_) fun H3 e3 => k H3 (e1.trans (e2.trans e3))
    refine congrArg V.bl (Bool.eq_iff_iff.mpr ?_)
    simp at hb
    simp [okTie]
    omega

/-! ### the class Web -/
/-- a web that may be made -/
def okWeb (n : Int) (ts : List Tie) (turn : Int) : Prop := 1 ≤ n ∧ n ≤ 1000000 ∧ 0 ≤ turn ∧ turn ≤ 1000000 ∧ (∀ t ∈ ts, okTie n t = true) ∧ ts.length ≤ 5000
/-- all is as it was but at p and what it owns -/
def ExBut (p : Addr) (H H' : Hp) : Prop := ∀ a o, a ≠ p → H a = some o → H' a = some o
theorem ex_but {p : Addr} (e : Ex H H') : ExBut p H H' := fun a o _ h => e a o h
theorem _root_.Evl.Ex.but {p : Addr} (e : Ex H H') : ExBut p H H' := ex_but e
theorem ExBut.trans {p : Addr} {H2 : Hp} (a : ExBut p H H') (b : ExBut p H' H2) : ExBut p H H2 := fun c o n h => b c o n (a c o n h)
theorem upd_but {p : Addr} {o : HO} : ExBut p H (upd H p o) := fun a u n h => by rw [upd_ne n]; exact h
theorem ExBut.sqL {p l C dx : Addr} {fs : List (Str × V)} {xs : List V} (b : ExBut p H H') (hp : H p = some (.ins C dx fs)) (h : SqL K H l xs) : SqL K H' l xs := by
  rcases h with (h | ⟨o, h⟩) | h
  · exact .inl (.inl (b _ _ (ne_of h hp (by intro z; cases z)) h))
  · exact .inl (.inr ⟨o, b _ _ (ne_of h hp (by intro z; cases z)) h⟩)
  · exact .inr h
theorem ExBut.tupI {p C dx : Addr} {fs : List (Str × V)} {xs : List Int} (b : ExBut p H H') (hp : H p = some (.ins C dx fs)) (h : TupI K H v xs) : TupI K H' v xs := by
  obtain ⟨l, rfl, h⟩ := h
  refine ⟨l, rfl, ?_⟩
  rcases h with (h | ⟨o, h⟩) | h
  · exact .inl (.inl (b _ _ (ne_of h hp (by intro z; cases z)) h))
  · exact .inl (.inr ⟨o, b _ _ (ne_of h hp (by intro z; cases z)) h⟩)
  · exact .inr h
theorem ExBut.tupL {p C dx : Addr} {fs : List (Str × V)} (b : ExBut p H H') (hp : H p = some (.ins C dx fs)) : ∀ {vs : List V} {xs : List (List Int)}, TupL K H vs xs → TupL K H' vs xs
  | _, _, .nil => .nil
  | _, _, .cons h t => .cons (b.tupI hp h) (ExBut.tupL b hp t)
def sp_Web_init (K : PySem.W.Frag) : Sp := fun vs H Q _ => ∃ (p l dx : Addr) (n turn : Int) (ts : List Tie), vs = [.ref p, .int n, .ref l, .int turn] ∧ WebTop K ∧ H p = some (.ins (ga K "Web") dx []) ∧ LTie K H l ts ∧ okWeb n ts turn ∧
  ∀ H' l2, ExBut p H H' → H l2 = none → WebAtL K H' p n ts turn l2 → Q .non H'
/-- Web(n, ts, turn) made -/
theorem ep_WebL {l : Addr} {n turn : Int} {ts : List Tie} (T : WebTop K) (h : EvA tl σ H [.int n, .ref l, .int turn]) (hl : LTie K H l ts) (ok : okWeb n ts turn) :
    EvP (tMake (ga K "Web") (sp_Web_init K) [] E0 tl) σ H (fun v H2 => ∃ p l2, v = .ref p ∧ H p = none ∧ H l2 = none ∧ WebAtL K H2 p n ts turn l2) := fun H1 e Q q => h H1 e _ fun H2 e2 => by
  intro x dx hx hdx ne
  have big : Ex H H2 := e.trans e2
  have ex1 : Ex H2 (upd (upd H2 dx (.own x)) x (.ins (ga K "Web") dx [])) := (Ex.new hdx).trans (Ex.new (by rw [upd_ne ne.symm]; exact hx))
  refine ⟨x, l, dx, n, turn, ts, rfl, T, upd_same, (hl.mono big).mono ex1, ok, fun H3 l2 eb f2 hw => ⟨rfl, q _ H3 (fun a o ha => eb a o (fun z => ?_) (ex1 a o (e2 a o ha))) ⟨x, l2, rfl, Evl.fresh_back big hx, Evl.fresh_back big (Evl.fresh_back ex1 f2), hw⟩⟩⟩
  have q2 := e2 a o ha
  rw [z, hx] at q2
  cases q2
theorem ep_Web {l : Addr} {n turn : Int} {ts : List Tie} (T : WebTop K) (h : EvA tl σ H [.int n, .ref l, .int turn]) (hl : LTie K H l ts) (ok : okWeb n ts turn) :
    EvP (tMake (ga K "Web") (sp_Web_init K) [] E0 tl) σ H (fun v H2 => ∃ p, v = .ref p ∧ H p = none ∧ WebAt K H2 p n ts turn) :=
  (ep_WebL T h hl ok).imp fun v H2 e ⟨p, l2, a, b, _, c⟩ => ⟨p, a, b, c.web⟩
def sp_Web_ties (K : PySem.W.Frag) : Sp := fun vs H Q _ => ∃ (p : Addr) (n turn : Int) (ts : List Tie), vs = [.ref p] ∧ WebAt K H p n ts turn ∧ RetP (fun v H2 => ∃ l vs, v = .ref l ∧ H l = none ∧ H2 l = some (.lst vs) ∧ TupL K H2 vs (ts.map tieL)) H Q
def noughtF (turn n : Int) : Bool := if turn = 0 then decide (n = 0) else decide (n % turn = 0)
def sp_Web_is_nought (K : PySem.W.Frag) : Sp := fun vs H Q _ => ∃ (p : Addr) (n turn i : Int) (ts : List Tie), vs = [.ref p, .int i] ∧ WebAt K H p n ts turn ∧ 0 ≤ turn ∧ RetV (.bl (noughtF turn i)) H Q
theorem ev_nought {w : Addr} {n turn i : Int} {ts : List Tie} (hw : WebAt K H w n ts turn) (h0 : 0 ≤ turn) (ha : Ev ta σ H (.ref w)) (h : EvA tl σ H [.int i]) : Ev (tMeth (ga K "Web") "is_nought" (sp_Web_is_nought K) [] E0 ta tl) σ H (.bl (noughtF turn i)) := by
  obtain ⟨T, dx, l, h1, h2⟩ := id hw
  exact ev_meth ha h1 (webF_no _ _ _ (by decide +kernel) (by decide +kernel) (by decide +kernel)) h fun _ _ e k => ⟨w, n, turn, i, ts, rfl, hw.mono e, h0, k⟩
theorem ep_ties {w : Addr} {n turn : Int} {ts : List Tie} (hw : WebAt K H w n ts turn) (ha : Ev ta σ H (.ref w)) : EvP (tMeth (ga K "Web") "ties" (sp_Web_ties K) [] E0 ta tNil) σ H (fun v H2 => ∃ l vs, v = .ref l ∧ H l = none ∧ H2 l = some (.lst vs) ∧ TupL K H2 vs (ts.map tieL)) := by
  obtain ⟨T, dx, l, h1, h2⟩ := id hw
  refine ep_meth ha h1 (webF_no _ _ _ (by decide +kernel) (by decide +kernel) (by decide +kernel)) Evl.ea_nil fun H1 Q e k => ⟨w, n, turn, ts, rfl, hw.mono e, fun v H2 e2 hp => k v H2 e2 ?_⟩
  obtain ⟨l, vs, a, b, c⟩ := hp
  exact ⟨l, vs, a, Evl.fresh_back e b, c⟩
def t_Web_init (K : PySem.W.Frag) : TS :=
 (tSeq (tIfS (tOr (tNot (tB (tCall (sp_is_below K) [] E0 (tCons (tVar 1) (tCons (tOp rAddI (tC (.int 1000000)) (tC (.int 1))) tNil))))) (tOr (tTest (tOp rLtI (tVar 1) (tC (.int 1)))) (tNot (tB (tCall (sp_is_below K) [] E0 (tCons (tVar 3) (tCons (tOp rAddI (tC (.int 1000000)) (tC (.int 1))) tNil))))))) tNever tNext)
 (tSeq (tIfS (tOr (tNot (tB (tCB (rIsi K) (tCons (tVar 2) (tCons (tC (.ty "list")) tNil))))) (tNot (tB (tCB (rAll K) (tCons (tLc (iList K (tVar 2)) (gName 4) tYes (tCall (sp_is_tie K) [] E0 (tCons (tVar 4) (tCons (tVar 1) tNil))) [4]) tNil))))) tNever tNext)
 (tSeq (sFld K (tVar 0) (tVar 1) "points")
 (tSeq (sFld K (tVar 0) (tVar 3) "turn")
 (sFld K (tVar 0) (tCB (rListS K) (tCons (tVar 2) tNil)) "bound")))))
def t_Web_ties (K : PySem.W.Frag) : TS :=
 (tRet (tCB (rListS K) (tCons (tFld K (tVar 0) "bound") tNil)))
def t_Web_is_nought (K : PySem.W.Frag) : TS :=
 (tSeq (tIfS (tTest (tOp rEq (tFld K (tVar 0) "turn") (tC (.int 0)))) (tRet (tOp rEq (tVar 1) (tC (.int 0)))) tNext)
 (tRet (tOp rEq (tOp rModI (tVar 1) (tFld K (tVar 0) "turn")) (tC (.int 0)))))
theorem rd_Web_init (vs : List V) (H : Hp) (Q : VK) (E : XK) (h : sp_Web_init K vs H Q E) : goal (t_Web_init K) ["self", "points", "ties", "turn", "tie"] vs H Q := by
  obtain ⟨p, l, dx, n, turn, ts, rfl, T, hp, hl, ok, k⟩ := h
  obtain ⟨o1, o2, o3, o4, o5, o6⟩ := ok
  refine q_never (by walk_at "ev") (by simp; omega) fun H1 e1 => ?_
  obtain ⟨us, hq, hT⟩ := id hl
  have hul : us.length = ts.length := by rw [hT.length, List.length_map]
  refine q_never (b := false) (Evl.et_is (a := !(true) || !((ts.map fun t => okTie n t).all id)) ?_ ?_) rfl fun H2 e2 => ?_
  · refine Evl.et_or (Evl.et_not (Evl.et_B (by walk_at "ev"))) fun _ => Evl.et_not (Evl.et_B (ev_all (p := l) ?_))
    refine (lc_vals (a := l) (xs := us) (ys := (ts.map fun t => okTie n t).map V.bl) (by walk_at "ev") (by walk_at "hp") (by omega) (by simp [hul]) (fun _ => rfl) fun i x H3 e3 hx => ?_).imp fun v H3 e3 hh => ?_
    · obtain ⟨z, hz, tz⟩ := hT.getV hx
      rw [List.getElem?_map] at hz
      cases ht : ts[i]? with
      | none => rw [ht] at hz; cases hz
      | some t =>
        rw [ht] at hz
        cases hz
        exact ⟨.bl (okTie n t), by simp [ht], ev_is_tie (by walk_at "ev") (tz.mono (e1.trans e3))⟩
    · obtain ⟨q, a, _, b⟩ := hh
      exact ⟨q, a, .inl (.inl b)⟩
  · have q : (ts.map fun t => okTie n t).all id = true := by
      rw [List.all_eq_true]
      intro b hb
      obtain ⟨t, ht, rfl⟩ := List.mem_map.mp hb
      exact o5 t ht
    rw [q]
    rfl
  have e : Ex H H2 := e1.trans e2
  refine q_fld (by walk_at "ev") (by walk_at "ev") (e _ _ hp) T.cl T.nP (by show 0 < 1000; decide) fun H3 e3 => ?_
  refine q_fld (a := p) (by walk_at "ev") (by walk_at "ev") upd_same T.cl T.nT (by show 1 < 1000; decide) fun H4 e4 => ?_
  have b1 : ExBut p H (upd H4 p (.ins (ga K "Web") dx (putF "turn" (.int turn) (putF "points" (.int n) [])))) := (((e.trans e3).but.trans upd_but).trans e4.but).trans upd_but
  refine s_fldP (a := p) (ep_list (by walk_at "ev") (b1.sqL hp hq)) (by walk_at "ev") upd_same T.cl T.nB (putF_lt (m := 999) (putF_lt (m := 998) (by show 0 < 998; decide))) fun v H5 H6 e5 hv e6 => ?_
  obtain ⟨l2, rfl, fr2, h5⟩ := hv
  have nlp : l2 ≠ p := fun z => by rw [z, upd_same] at fr2; cases fr2
  have b2 := ((b1.trans e5.but).trans e6.but).trans (upd_but (p := p) (o := .ins (ga K "Web") dx (webF n turn l2)))
  have f2H : H l2 = none := by
    cases hh : H l2 with
    | none => rfl
    | some o => rw [b1 _ _ nlp hh] at fr2; cases fr2
  refine k _ l2 b2 f2H ⟨T, ⟨dx, upd_same⟩, us, ?_, b2.tupL hp hT⟩
  rw [upd_ne nlp]
  exact e6 _ _ h5
theorem rd_Web_ties (vs : List V) (H : Hp) (Q : VK) (E : XK) (h : sp_Web_ties K vs H Q E) : goal (t_Web_ties K) ["self"] vs H Q := by
  obtain ⟨p, n, turn, ts, rfl, hw, k⟩ := h
  obtain ⟨l, ⟨us, hq, hT⟩, f⟩ := hw.bound
  refine s_retP (ep_list (f (by walk_at "ev")) hq) fun v H1 e1 hv => ?_
  obtain ⟨l2, rfl, fr, h1⟩ := hv
  exact k _ H1 e1 ⟨l2, us, rfl, fr, h1, hT.mono e1⟩
theorem rd_Web_is_nought (vs : List V) (H : Hp) (Q : VK) (E : XK) (h : sp_Web_is_nought K vs H Q E) : goal (t_Web_is_nought K) ["self", "number"] vs H Q := by
  obtain ⟨p, n, turn, i, ts, rfl, hw, h0, k⟩ := h
  refine Evl.q_when (by walk_at "ev") (fun hb H1 e1 => ?_) fun hb H1 e1 => ?_
  · refine Evl.s_ret (v := .bl (noughtF turn i)) (Evl.ev_is (by walk_at "ev") ?_) fun H2 e2 => k H2 (e1.trans e2)
    simp at hb
    simp [noughtF, hb]
  · have hp : 0 < turn := by simp at hb; omega
    refine Evl.s_ret (v := .bl (noughtF turn i)) (Evl.ev_is (by walk_at "ev") ?_) fun H2 e2 => k H2 (e1.trans e2)
    simp at hb
    simp [noughtF, hb]
end G

/-! Walks: stepped, walked, is_straight. -/
namespace G
open PySem PySem.Spec PyProof.Rows L2
open Evl (Ex Ev EvL EvU EvT EvA RV RetV)
local macro_rules | `(tactic| walk_at "hp") => `(tactic| first
  | with_reducible assumption
  | ((with_reducible show _ = some (_ : HO)); (with_reducible exact ex_app (by assumption) (by walk_at "hp")))
  | ((with_reducible show TupI _ _ _ _); (with_reducible exact TupI.mono (by assumption) (by walk_at "hp")))
  | ((with_reducible show LT _ _ _ _); (with_reducible exact LT.mono (by assumption) (by walk_at "hp")))
  | ((with_reducible show LI _ _ _ _); (first | (with_reducible exact li_of (by walk_at "hp")) | (with_reducible exact LI.mono (by assumption) (by walk_at "hp"))))
  | ((with_reducible show SqL _ _ _ _); (first | (with_reducible exact SqL.of (by walk_at "hp")) | (with_reducible exact Evl.ex_l (by assumption) (by walk_at "hp"))))
  | ((with_reducible show SqT _ _ _ _); (first | (with_reducible exact SqT.of (by walk_at "hp")) | (with_reducible exact Evl.ex_t (by assumption) (by walk_at "hp"))))
  | ((with_reducible show Rd _ _ _); (first | (with_reducible exact Rd.of (by walk_at "hp")) | (with_reducible exact Evl.ex_rd (by assumption) (by walk_at "hp"))))
  | walk_at "hpf")
local macro_rules | `(tactic| walk_at "at") => `(tactic| first
  | with_reducible assumption
  | with_reducible rfl
  | (refine atI_of ?va ?vb; (case va => omega); (case vb => assumption))
  | walk_at "atf"
  | rfl)
local macro_rules | `(tactic| walk_at "rv") => `(tactic| first
  | with_reducible exact rv_add | with_reducible exact rv_sub | with_reducible exact rv_eqI | with_reducible exact rv_neI | with_reducible exact rv_lt | with_reducible exact rv_le | with_reducible exact rv_gt | with_reducible exact rv_ge
  | with_reducible exact rv_eqB | with_reducible exact rv_neB | with_reducible exact rv_isB | with_reducible exact rv_notB
  | ((with_reducible refine rv_mod ?_); (first | assumption | omega))
  | ((with_reducible refine rv_mul ?_); (first | exact Or.inl ⟨by omega, by omega⟩ | exact Or.inr ⟨by omega, by omega⟩))
  | ((with_reducible refine rv_div ?_); exact ⟨by omega, by omega⟩))
local macro_rules | `(tactic| walk_at "ty") => `(tactic| first
  | with_reducible exact fun _ _ => .base (.int _) | with_reducible exact fun _ _ => .base (.bl _) | with_reducible exact fun _ _ => .base .non | with_reducible exact fun _ _ => .base (.str _)
  | ((with_reducible apply ty_tup); walk_at "hp")
  | ((with_reducible apply ty_lst); walk_at "hp")
  | walk_at "tyf")
local macro_rules | `(tactic| walk_at "ev") => `(tactic| repeat' (first
  | with_reducible exact Evl.ev_c
  | ((with_reducible apply Evl.ev_var); rfl)
  | with_reducible apply ev_neg
  | with_reducible apply ev_ixU
  | walk_at "evf"
  | ((with_reducible apply ev_lenI); (· walk_at "ev"); (· walk_at "hp"))
  | ((with_reducible apply ev_lenT); (· walk_at "ev"); (· walk_at "hp"))
  | ((with_reducible apply ev_lenU); (· walk_at "ev"))
  | with_reducible apply ev_lenSet
  | with_reducible apply ev_chain
  | with_reducible apply ev_isiTy
  | with_reducible apply Evl.ev_andV
  | with_reducible apply Evl.ev_orV
  | with_reducible apply Evl.ev_notV
  | ((with_reducible apply ev_ixI); (· walk_at "ev"); (· walk_at "ev"); (· walk_at "hp"); (· walk_at "at"))
  | with_reducible apply Evl.ev_op
  | ((with_reducible apply evi_of); (· (with_reducible apply Evl.ev_var); rfl); (· walk_at "hp"))
  | with_reducible apply ei_ix
  | with_reducible apply ei_tup
  | with_reducible exact eai_nil
  | with_reducible apply eai_cons
  | with_reducible exact Evl.ea_nil
  | with_reducible apply Evl.ea_cons
  | with_reducible apply Evl.et_test
  | with_reducible apply Evl.et_and
  | with_reducible apply Evl.et_or
  | with_reducible apply Evl.et_not
  | with_reducible apply Evl.et_B
  | walk_at "rv"
  | ((with_reducible show L2.kitB _ _ = _); rfl)
  | ((with_reducible show L2.atI _ _ = _); walk_at "at")
  | ((with_reducible show (_ : Nat) ≤ _); (first | omega | (simp; done) | (simp; omega)))
  | ((with_reducible show _ = true → _); intro _)
  | ((with_reducible show _ = false → _); intro _)
  | ((with_reducible show TupI _ _ _ _); walk_at "hp")
  | ((with_reducible show LT _ _ _ _); walk_at "hp")
  | ((with_reducible show LI _ _ _ _); walk_at "hp")
  | ((with_reducible show SqL _ _ _ _); walk_at "hp")
  | ((with_reducible show SqT _ _ _ _); walk_at "hp")
  | ((with_reducible show Rd _ _ _); walk_at "hp")
  | ((with_reducible show _ = some (_ : HO)); walk_at "hp")
  | walk_at "hpg"
  | walk_at "ty"))

local macro_rules | `(tactic| walk_at "hpf") => `(tactic| ((with_reducible show WebAt _ _ _ _ _ _); (with_reducible exact WebAt.mono (by assumption) (by walk_at "hp"))))
local macro_rules | `(tactic| walk_at "hpg") => `(tactic| ((with_reducible show WebAt _ _ _ _ _ _); walk_at "hp"))
local macro_rules | `(tactic| walk_at "evf") => `(tactic| with_reducible apply ev_points)
local macro_rules | `(tactic| walk_at "evf") => `(tactic| with_reducible apply ev_turn)
local macro_rules | `(tactic| walk_at "evf") => `(tactic| with_reducible apply ev_lenB)
local macro_rules | `(tactic| walk_at "evf") => `(tactic| with_reducible apply ei_bound)
local macro_rules | `(tactic| walk_at "evf") => `(tactic| with_reducible apply ev_is_whole)
local macro_rules | `(tactic| walk_at "evf") => `(tactic| with_reducible apply ev_is_below)
local macro_rules | `(tactic| walk_at "evf") => `(tactic| with_reducible apply ev_is_tie)
variable {K : PySem.W.Frag} {σ : L2.St} {H H' H1 : Hp} {ta tb tc te : TE} {t u : TT} {tl : TA} {v x y z : V}

/-! ### stepped -/
def stepF (ts : List Tie) (p : Int) (s : Step) : Int × Int :=
  if 0 ≤ s.1 ∧ s.1 < ts.length then
    match ts[s.1.toNat]? with
    | some t => if s.2 = 1 ∧ p = t.1 then (t.2.1, t.2.2) else if s.2 = -1 ∧ p = t.2.1 then (t.1, -t.2.2) else (-1, 0)
    | none => (-1, 0)
  else (-1, 0)
def sp_stepped (K : PySem.W.Frag) : Sp := fun vs H Q _ => ∃ (w : Addr) (p : Int) (v : V) (s : Step) (n turn : Int) (ts : List Tie), vs = [.ref w, .int p, v] ∧ WebAt K H w n ts turn ∧ TupI K H v (stepL s) ∧ RetP (fun v H2 => TupI K H2 v (stepL (stepF ts p s))) H Q
theorem ei_stepped {w : Addr} {p n turn : Int} {s : Step} {ts : List Tie} (h1 : Ev ta σ H (.ref w)) (h2 : Ev tb σ H (.int p)) (h3 : EvI K tc σ H (stepL s)) (hw : WebAt K H w n ts turn) :
    EvI K (tCall (sp_stepped K) [] E0 (tCons ta (tCons tb (tCons tc tNil)))) σ H (stepL (stepF ts p s)) := fun H1 e Q q =>
  h1 H1 e _ fun H2 e2 => h2 H2 (e.trans e2) _ fun H3 e3 => h3 H3 ((e.trans e2).trans e3) _ fun v H4 e4 hv =>
    ⟨w, p, v, s, n, turn, ts, rfl, hw.mono (((e.trans e2).trans e3).trans e4), hv, fun v5 H5 e5 h5 => q v5 H5 (((e2.trans e3).trans e4).trans e5) h5⟩
def t_stepped (K : PySem.W.Frag) : TS :=
 (tSeq (tIfS (tOr (tNot (tB (tCB (rIsi K) (tCons (tVar 2) (tCons (tC (.ty "tuple")) tNil))))) (tOr (tTest (tOp rNe (tCB (rLenS K) (tCons (tVar 2) tNil)) (tC (.int 2)))) (tNot (tB (tCall (sp_is_below K) [] E0 (tCons (tOp (rIxT K) (tVar 2) (tC (.int 0))) (tCons (tCB (rLenS K) (tCons (tFld K (tVar 0) "bound") tNil)) tNil))))))) (tRet (tTup (tCons (tUn rNegI (tC (.int 1))) (tCons (tC (.int 0)) tNil)))) tNext)
 (tSeq (tIfS (tNot (tB (tCall (sp_is_whole K) [] E0 (tCons (tOp (rIxT K) (tVar 2) (tC (.int 1))) tNil)))) (tRet (tTup (tCons (tUn rNegI (tC (.int 1))) (tCons (tC (.int 0)) tNil)))) tNext)
 (tSeq (tAsg (tOp (rIxL K) (tFld K (tVar 0) "bound") (tOp (rIxT K) (tVar 2) (tC (.int 0)))) (gTup K 3 (gCons (gName 3) (gCons (gName 4) (gCons (gName 5) gNil)))))
 (tSeq (tIfS (tAnd (tTest (tOp rEq (tOp (rIxT K) (tVar 2) (tC (.int 1))) (tC (.int 1)))) (tTest (tOp rEq (tVar 1) (tVar 3)))) (tRet (tTup (tCons (tVar 4) (tCons (tVar 5) tNil)))) tNext)
 (tSeq (tIfS (tAnd (tTest (tOp rEq (tOp (rIxT K) (tVar 2) (tC (.int 1))) (tUn rNegI (tC (.int 1))))) (tTest (tOp rEq (tVar 1) (tVar 4)))) (tRet (tTup (tCons (tVar 3) (tCons (tUn rNegI (tVar 5)) tNil)))) tNext)
 (tRet (tTup (tCons (tUn rNegI (tC (.int 1))) (tCons (tC (.int 0)) tNil)))))))))
theorem rd_stepped (vs : List V) (H : Hp) (Q : VK) (E : XK) (h : sp_stepped K vs H Q E) : goal (t_stepped K) ["web", "point", "step", "one", "other", "number"] vs H Q := by
  obtain ⟨w, p, v, s, n, turn, ts, rfl, hw, hs, k⟩ := h
  obtain ⟨sa, sb⟩ := s
  refine Evl.q_when (b := !decide (0 ≤ sa ∧ sa < (ts.length : Int))) (Evl.et_is (by walk_at "ev") (by simp [stepL])) (fun hb H1 e1 => ?_) fun hb H1 e1 => ?_
  · refine s_retP (P := fun v H2 => TupI K H2 v [-1, 0]) (by walk_at "ev") fun v H2 e2 hv => k v H2 (e1.trans e2) ?_
    have : ¬ (0 ≤ sa ∧ sa < (ts.length : Int)) := by intro z; rw [decide_eq_true z] at hb; cases hb
    unfold stepF
    rw [if_neg this]
    exact hv
  have hin : 0 ≤ sa ∧ sa < (ts.length : Int) := by simp at hb; omega
  refine Evl.q_when (b := false) (Evl.et_is (by walk_at "ev") (by rfl)) (fun hb _ _ => by cases hb) fun _ H2 e2 => ?_
  obtain ⟨tt, ht⟩ : ∃ tt, ts[sa.toNat]? = some tt := ⟨ts[sa.toNat]'(by omega), List.getElem?_eq_getElem (by omega)⟩
  have ha : atI ts sa = some tt := atI_of hin.1 ht
  have hv : stepF ts p (sa, sb) = if sb = 1 ∧ p = tt.1 then (tt.2.1, tt.2.2) else if sb = -1 ∧ p = tt.2.1 then (tt.1, -tt.2.2) else (-1, 0) := by
    unfold stepF
    rw [if_pos hin]
    simp only [ht]
  refine q_un3 (a := tt.1) (b := tt.2.1) (c := tt.2.2) (by walk_at "ev") fun H3 e3 => ?_
  have e13 : Ex H H3 := e1.trans (e2.trans e3)
  refine Evl.q_when (b := decide (sb = 1 ∧ p = tt.1)) (Evl.et_is (by walk_at "ev") (by simp)) (fun hb H4 e4 => ?_) fun hb H4 e4 => ?_
  · refine s_retP (P := fun v H2 => TupI K H2 v [tt.2.1, tt.2.2]) (by walk_at "ev") fun v H5 e5 hq => k v H5 (e13.trans (e4.trans e5)) ?_
    rw [hv, if_pos (by simpa using hb)]
    exact hq
  · refine Evl.q_when (b := decide (sb = -1 ∧ p = tt.2.1)) (Evl.et_is (by walk_at "ev") (by simp)) (fun hb2 H5 e5 => ?_) fun hb2 H5 e5 => ?_
    · refine s_retP (P := fun v H2 => TupI K H2 v [tt.1, -tt.2.2]) (by walk_at "ev") fun v H6 e6 hq => k v H6 (e13.trans (e4.trans (e5.trans e6))) ?_
      rw [hv, if_neg (by simpa using hb), if_pos (by simpa using hb2)]
      exact hq
    · refine s_retP (P := fun v H2 => TupI K H2 v [-1, 0]) (by walk_at "ev") fun v H6 e6 hq => k v H6 (e13.trans (e4.trans (e5.trans e6))) ?_
      rw [hv, if_neg (by simpa using hb), if_neg (by simpa using hb2)]
      exact hq
local macro_rules | `(tactic| walk_at "evf") => `(tactic| with_reducible apply ei_stepped)

/-! ### walked -/
def walkA (ts : List Tie) (pre : List Int) (p c : Int) : List Step → Option (List Int × Int)
  | [] => some (pre ++ [p], c)
  | s :: r => if (stepF ts p s).1 < 0 then none else walkA ts (pre ++ [p]) (stepF ts p s).1 (c + (stepF ts p s).2) r
def walkF (ts : List Tie) (p : Int) (ss : List Step) : Option (List Int × Int) := walkA ts [] p 0 ss
theorem walkA_len {ts : List Tie} : ∀ {ss : List Step} {pre : List Int} {p c : Int} {ps : List Int} {d : Int}, walkA ts pre p c ss = some (ps, d) → ps.length = pre.length + ss.length + 1
  | [], pre, p, c, ps, d, h => by
    unfold walkA at h
    cases h
    simp
  | s :: r, pre, p, c, ps, d, h => by
    unfold walkA at h
    split at h
    · cases h
    · have := walkA_len h
      simp at this
      simp
      omega
def walkR (ts : List Tie) (p : Int) (ss : List Step) : List Int × Int := (walkF ts p ss).getD ([], 0)
/-- what walked tells: a pair of a new list and a number -/
def WalkV (K : PySem.W.Frag) (H : Hp) (r : List Int × Int) (v : V) (H2 : Hp) : Prop := ∃ t l, v = .ref t ∧ SqT K H2 t [.ref l, .int r.2] ∧ H l = none ∧ H2 l = some (.lst (r.1.map V.int))
def sp_walked (K : PySem.W.Frag) : Sp := fun vs H Q _ => ∃ (w l : Addr) (p : Int) (ss : List Step) (n turn : Int) (ts : List Tie), vs = [.ref w, .int p, .ref l] ∧ WebAt K H w n ts turn ∧ LStep K H l ss ∧ ss.length ≤ 3000 ∧ RetP (WalkV K H (walkR ts p ss)) H Q
theorem ep_walked {w l : Addr} {p n turn : Int} {ss : List Step} {ts : List Tie} (h : EvA tl σ H [.ref w, .int p, .ref l]) (hw : WebAt K H w n ts turn) (hs : LStep K H l ss) (hl : ss.length ≤ 3000) : EvP (tCall (sp_walked K) [] E0 tl) σ H (WalkV K H (walkR ts p ss)) :=
  ep_call h fun H1 Q e k => ⟨w, l, p, ss, n, turn, ts, rfl, hw.mono e, hs.mono e, hl, fun v H2 e2 ⟨t, l, a, b, c, d⟩ => k v H2 e2 ⟨t, l, a, b, Evl.fresh_back e c, d⟩⟩
def t_walked (K : PySem.W.Frag) : TS :=
 (tSeq (tAsg (tLst (tCons (tVar 1) tNil)) (gName 3))
 (tSeq (tAsg (tC (.int 0)) (gName 4))
 (tSeq (tFor (iList K (tVar 2)) (gName 5) (tSeq (tAsg (tCall (sp_stepped K) [] E0 (tCons (tVar 0) (tCons (tOp (rIxL K) (tVar 3) (tUn rNegI (tC (.int 1)))) (tCons (tVar 5) tNil)))) (gTup K 2 (gCons (gName 6) (gCons (gName 7) gNil))))
 (tSeq (tIfS (tTest (tOp rLtI (tVar 6) (tC (.int 0)))) (tRet (tTup (tCons (tLst tNil) (tCons (tC (.int 0)) tNil)))) tNext)
 (tSeq (tDrop (tBM K "list" rAppend (tVar 3) (tCons (tVar 6) tNil)))
 (tAug 4 (tVar 7) (ipI fun i j => i + j))))))
 (tRet (tTup (tCons (tVar 3) (tCons (tVar 4) tNil)))))))
def t_is_straight (K : PySem.W.Frag) : TS :=
 (tSeq (tAsg (tOp (rIxT K) (tCall (sp_walked K) [] E0 (tCons (tVar 0) (tCons (tVar 1) (tCons (tVar 2) tNil)))) (tC (.int 0))) (gName 4))
 (tRet (tAndV (tOp rGtI (tCB (rLenS K) (tCons (tVar 4) tNil)) (tC (.int 0))) (tAndV (tOp rEq (tOp (rIxL K) (tVar 4) (tUn rNegI (tC (.int 1)))) (tVar 3)) (tOp rEq (tLenSetD K (tVar 4)) (tCB (rLenS K) (tCons (tVar 4) tNil)))))))
theorem rd_walked (vs : List V) (H : Hp) (Q : VK) (E : XK) (h : sp_walked K vs H Q E) : goal (t_walked K) ["web", "start", "steps", "points", "climb", "step", "point", "more"] vs H Q := by
  obtain ⟨w, l, p, ss, n, turn, ts, rfl, hw, hs, hl, k⟩ := h
  refine Evl.q_asgL (xs := [.int p]) (Evl.el_lst (by walk_at "ev") (by show 1 ≤ 100000; decide)) fun a H1 hfr e1 h1 => ?_
  refine Evl.q_asg Evl.ev_c fun H2 e2 => ?_
  obtain ⟨us, hq, hT⟩ := id hs
  have hul : us.length = ss.length := by rw [hT.length, List.length_map]
  refine q_seq (f_list (a := l) (xs := us) (by walk_at "ev") (by walk_at "hp")
    (fun i σ' H' => ∃ (pre : List Int) (q c : Int) (o1 o2 o3 : Option V), σ' = [some (.ref w), some (.int p), some (.ref l), some (.ref a), some (.int c), o1, o2, o3] ∧ Ex H H' ∧ H' a = some (.lst ((pre ++ [q]).map V.int)) ∧ pre.length ≤ i ∧ walkF ts p ss = walkA ts pre q c (ss.drop i))
    (fun H3 e3 => ⟨[], p, 0, _, _, _, rfl, e1.trans (e2.trans e3), e3 _ _ (e2 _ _ h1), Nat.le_refl _, rfl⟩) (fun i σ' H' _ ⟨_, _, _, _, _, _, _, e, _⟩ => Evl.ex_l e hq) ?_ ?_)
  · rintro i x σ' H' hx ⟨pre, q, c, o1, o2, o3, rfl, e, ha, hi, hv⟩
    obtain ⟨z, hz, tz⟩ := (hT.mono e).getV hx
    rw [List.getElem?_map] at hz
    cases hsi : ss[i]? with
    | none => rw [hsi] at hz; cases hz
    | some s =>
      rw [hsi] at hz
      cases hz
      have hil : i < us.length := (List.getElem?_eq_some_iff.mp hx).1
      have hlast : atI (pre ++ [q]) (-1) = some q := atI_last pre q
      have hdr : ss.drop i = s :: ss.drop (i + 1) := by
        obtain ⟨hlt, hg⟩ := List.getElem?_eq_some_iff.mp hsi
        rw [List.drop_eq_getElem_cons hlt, hg]
      rw [hdr] at hv
      unfold walkA at hv
      refine q_un2 (a := (stepF ts q s).1) (b := (stepF ts q s).2) (by walk_at "ev") fun H3 e3 => ?_
      refine Evl.q_when (b := decide ((stepF ts q s).1 < 0)) (by walk_at "ev") (fun hb H4 e4 => ?_) fun hb H4 e4 => ?_
      · rw [if_pos (by simpa using hb)] at hv
        refine s_retP (P := WalkV K H ([], 0)) (fun H5 e5 Q' q' => ?_) fun v H5 e5 hq5 => k v H5 (e.trans (e3.trans (e4.trans e5))) (by unfold walkR; rw [hv]; exact hq5)
        refine ⟨Nat.zero_le _, fun l2 hl2 => ?_⟩
        refine ⟨by show 2 ≤ sizeLine; decide, fun t2 ht2 => ?_⟩
        refine q' _ _ ((Ex.new hl2).trans (Ex.new ht2)) ⟨t2, l2, rfl, .inl (.inl upd_same), Evl.fresh_back (e.trans (e3.trans (e4.trans e5))) hl2, ?_⟩
        have n2 : l2 ≠ t2 := fun z => by rw [z, upd_same] at ht2; cases ht2
        rw [upd_ne n2, upd_same]
        rfl
      · rw [if_neg (by simpa using hb)] at hv
        refine Evl.q_app (l := a) (xs := (pre ++ [q]).map V.int) (v := .int (stepF ts q s).1) (by walk_at "hp") (by walk_at "ev") (by walk_at "ev") (by simp; omega) fun H5 e5 => ?_
        refine Evl.s_aug (a := c) (b := (stepF ts q s).2) rfl (by walk_at "ev") fun H6 e6 => ?_
        refine ⟨pre ++ [q], (stepF ts q s).1, c + (stepF ts q s).2, _, _, _, rfl, ((e.trans (e3.trans (e4.trans e5))).mut hfr).trans e6, ?_, by simp; omega, hv⟩
        refine e6 _ _ ?_
        rw [upd_same]
        simp
  · rintro σ' H' ⟨pre, q, c, o1, o2, o3, rfl, e, ha, hi, hv⟩
    have hd : ss.drop us.length = [] := List.drop_of_length_le (by omega)
    rw [hd] at hv
    unfold walkA at hv
    dsimp only
    refine s_retP (P := WalkV K H (pre ++ [q], c)) ?_ fun v H5 e5 hq5 => ?_
    rotate_left
    · exact k v H5 (e.trans e5) (by unfold walkR; rw [hv]; exact hq5)
    intro H5 e5 Q' q'
    have ev : EvA (tCons (tVar 3) (tCons (tVar 4) tNil)) [some (.ref w), some (.int p), some (.ref l), some (.ref a), some (.int c), o1, o2, o3] H' [.ref a, .int c] := by walk_at "ev"
    refine ev H5 e5 _ fun H6 e6 => ⟨by show 2 ≤ sizeLine; decide, fun t2 ht2 => q' _ _ (e6.trans (Ex.new ht2)) ⟨t2, a, rfl, .inl (.inl upd_same), hfr, ?_⟩⟩
    have n2 : a ≠ t2 := ne_of_none (e6 _ _ (e5 _ _ ha)) ht2
    rw [upd_ne n2]
    exact e6 _ _ (e5 _ _ ha)
/-! ### is_straight -/
def straightF (ts : List Tie) (p : Int) (ss : List Step) (q : Int) : Bool := match walkF ts p ss with
  | some r => decide (r.1.getLast? = some q) && decide (ucount r.1 = r.1.length)
  | none => false
def sp_is_straight (K : PySem.W.Frag) : Sp := fun vs H Q _ => ∃ (w l : Addr) (p q : Int) (ss : List Step) (n turn : Int) (ts : List Tie), vs = [.ref w, .int p, .ref l, .int q] ∧ WebAt K H w n ts turn ∧ LStep K H l ss ∧ ss.length ≤ 3000 ∧ RetV (.bl (straightF ts p ss q)) H Q
theorem ev_is_straight {w l : Addr} {p q n turn : Int} {ss : List Step} {ts : List Tie} (h : EvA tl σ H [.ref w, .int p, .ref l, .int q]) (hw : WebAt K H w n ts turn) (hs : LStep K H l ss) (hl : ss.length ≤ 3000) : Ev (tCall (sp_is_straight K) [] E0 tl) σ H (.bl (straightF ts p ss q)) :=
  ev_call h fun H1 Q e k => ⟨w, l, p, q, ss, n, turn, ts, rfl, hw.mono e, hs.mono e, hl, k⟩
/-- the list of walked's answer -/
theorem ep_fst {r : List Int × Int} (h : EvP te σ H (WalkV K H r)) : EvP (tOp (rIxT K) te (tC (.int 0))) σ H (fun v H2 => ∃ l, v = .ref l ∧ H l = none ∧ H2 l = some (.lst (r.1.map V.int))) := fun H1 e Q q =>
  h H1 e _ fun v H2 e2 ⟨t, l, a, b, c, d⟩ => ⟨t, _, 0, .ref l, a, rfl, b, rfl, q _ H2 e2 ⟨l, rfl, c, d⟩⟩
theorem rd_is_straight (vs : List V) (H : Hp) (Q : VK) (E : XK) (h : sp_is_straight K vs H Q E) : goal (t_is_straight K) ["web", "start", "steps", "end", "points"] vs H Q := by
  obtain ⟨w, l, p, q, ss, n, turn, ts, rfl, hw, hs, hl, k⟩ := h
  refine q_asgP (ep_fst (ep_walked (w := w) (l := l) (p := p) (by walk_at "ev") hw hs hl)) fun v H1 e1 hv => ?_
  obtain ⟨a, rfl, fr, h1⟩ := hv
  refine Evl.s_ret (v := .bl (straightF ts p ss q)) ?_ fun H2 e2 => k H2 (e1.trans e2)
  unfold straightF
  unfold walkR at h1
  cases hc : walkF ts p ss with
  | none =>
    rw [hc] at h1
    have h1' : H1 a = some (.lst (([] : List Int).map V.int)) := h1
    clear h1
    exact Evl.ev_is (Evl.ev_andV (a := false) (b := true) (Evl.ev_is (v := .bl (decide ((0 : Int) < (([] : List Int).length : Int)))) (by walk_at "ev") (by rfl)) fun z => by cases z) (by rfl)
  | some r =>
    rw [hc] at h1
    obtain ⟨ps, c⟩ := r
    have h1' : H1 a = some (.lst (ps.map V.int)) := h1
    have hlen : ps.length = ss.length + 1 := by
      have := walkA_len hc
      simpa using this
    have hne : ps ≠ [] := fun z => by rw [z] at hlen; simp at hlen
    obtain ⟨m, hm⟩ : ∃ m, ps.getLast? = some m := ⟨ps.getLast hne, List.getLast?_eq_some_getLast hne⟩
    have hat : atI ps (-1) = some m := atI_lastOf hm
    refine Evl.ev_is (by walk_at "ev") ?_
    refine congrArg V.bl (Bool.eq_iff_iff.mpr ?_)
    simp [hm, hlen]
    intro _
    omega
end G

/-! Deep == of lists and tuples of ints. -/
namespace G
open PySem PySem.Spec PyProof.Rows L2
open Evl (Ex Ev EvL EvU EvT EvA RV RetV)
variable {K : PySem.W.Frag} {σ : L2.St} {H H' H1 : Hp} {ta tb tc te : TE} {t u : TT} {tl : TA} {v x y z : V}

mutual
theorem dp_mono (e : Ex H H') : ∀ (d : PyData) (v : V), Dp K H v d → Dp K H' v d
  | .none, _, h => by cases h; exact .non
  | .bool b, _, h => by cases h; exact .bl b
  | .int i, _, h => by cases h; exact .int i
  | .str s, _, h => by cases h; exact .str s
  | .list ds, _, h => by
    cases h with
    | lst q r => exact .lst (Evl.ex_l e q) (dpAll_mono e ds _ r)
  | .tuple ds, _, h => by
    cases h with
    | tup q r => exact .tup (Evl.ex_t e q) (dpAll_mono e ds _ r)
  | .dict ds, _, h => by cases h
theorem dpAll_mono (e : Ex H H') : ∀ (ds : List PyData) (vs : List V), DpAll K H vs ds → DpAll K H' vs ds
  | [], _, h => by cases h; exact .nil
  | d :: ds, _, h => by
    cases h with
    | cons q r => exact .cons (dp_mono e d _ q) (dpAll_mono e ds _ r)
end
abbrev EvD (K : PySem.W.Frag) (te : TE) (σ : L2.St) (H : Hp) (d : PyData) : Prop := EvP te σ H (fun v H2 => Dp K H2 v d)
theorem ev_eqD {d e : PyData} (h1 : EvD K ta σ H d) (h2 : EvD K tb σ H e) (s1 : SeqAt.shaped d = true) (s2 : SeqAt.shaped e = true) : Ev (tOp (rEqD K) ta tb) σ H (.bl (PyData.eqv d e)) := fun H1 a Q q =>
  h1 H1 a _ fun v H2 a2 p => h2 H2 (a.trans a2) _ fun w H3 a3 p2 => ⟨d, e, dp_mono a3 _ _ p, p2, s1, s2, q H3 (a2.trans a3)⟩
theorem ev_neD {d e : PyData} (h1 : EvD K ta σ H d) (h2 : EvD K tb σ H e) (s1 : SeqAt.shaped d = true) (s2 : SeqAt.shaped e = true) : Ev (tOp (rNeD K) ta tb) σ H (.bl (!PyData.eqv d e)) := fun H1 a Q q =>
  h1 H1 a _ fun v H2 a2 p => h2 H2 (a.trans a2) _ fun w H3 a3 p2 => ⟨d, e, dp_mono a3 _ _ p, p2, s1, s2, q H3 (a2.trans a3)⟩
def tupD (xs : List Int) : PyData := .tuple (xs.map .int)
def intsD (xs : List Int) : PyData := .list (xs.map .int)
def tupsD (xss : List (List Int)) : PyData := .list (xss.map tupD)
theorem lay_ints : ∀ xs : List Int, PyData.canLayAll0 (xs.map .int) = true
  | [] => by simp [PyData.canLayAll0]
  | x :: xs => by simp [PyData.canLayAll0, PyData.canLay0, lay_ints xs]
theorem dep_ints : ∀ xs : List Int, PyData.depthAll (xs.map .int) ≤ 1
  | [] => by simp [PyData.depthAll]
  | x :: xs => by
    have h := dep_ints xs
    simp only [List.map_cons, PyData.depthAll, PyData.depth]
    omega
theorem lay_tups : ∀ xss : List (List Int), PyData.canLayAll0 (xss.map tupD) = true
  | [] => by simp [PyData.canLayAll0]
  | x :: xs => by simp [PyData.canLayAll0, tupD, PyData.canLay0, lay_ints x, lay_tups xs]
theorem dep_tups : ∀ xss : List (List Int), PyData.depthAll (xss.map tupD) ≤ 2
  | [] => by simp [PyData.depthAll]
  | x :: xs => by
    have h := dep_tups xs
    have h2 := dep_ints x
    simp only [List.map_cons, PyData.depthAll, tupD, PyData.depth]
    omega
theorem shp {d : PyData} (h1 : d.canLay0 = true) (h2 : d.depth ≤ 64) : SeqAt.shaped d = true := by
  unfold SeqAt.shaped
  rw [h1, decide_eq_true h2]
  rfl
theorem shp_tup (xs : List Int) : SeqAt.shaped (tupD xs) = true := shp (by simp only [tupD, PyData.canLay0]; exact lay_ints xs) (by have := dep_ints xs; simp only [tupD, PyData.depth]; omega)
theorem shp_ints (xs : List Int) : SeqAt.shaped (intsD xs) = true := shp (by simp only [intsD, PyData.canLay0]; exact lay_ints xs) (by have := dep_ints xs; simp only [intsD, PyData.depth]; omega)
theorem shp_tups (xs : List (List Int)) : SeqAt.shaped (tupsD xs) = true := shp (by simp only [tupsD, PyData.canLay0]; exact lay_tups xs) (by have := dep_tups xs; simp only [tupsD, PyData.depth]; omega)
theorem eqv_ints : ∀ xs ys : List Int, PyData.eqvAll (xs.map .int) (ys.map .int) = decide (xs = ys)
  | [], [] => by simp [PyData.eqvAll]
  | [], y :: ys => by simp [PyData.eqvAll]
  | x :: xs, [] => by simp [PyData.eqvAll]
  | x :: xs, y :: ys => by
    simp only [List.map_cons, PyData.eqvAll, PyData.eqv, eqv_ints xs ys]
    rw [Bool.eq_iff_iff]
    simp
theorem eqv_tup (xs ys : List Int) : PyData.eqv (tupD xs) (tupD ys) = decide (xs = ys) := by
  simp only [tupD, PyData.eqv]
  exact eqv_ints xs ys
theorem eqv_intsD (xs ys : List Int) : PyData.eqv (intsD xs) (intsD ys) = decide (xs = ys) := by
  simp only [intsD, PyData.eqv]
  exact eqv_ints xs ys
theorem eqv_tups : ∀ xs ys : List (List Int), PyData.eqvAll (xs.map tupD) (ys.map tupD) = decide (xs = ys)
  | [], [] => by simp [PyData.eqvAll]
  | [], y :: ys => by simp [PyData.eqvAll]
  | x :: xs, [] => by simp [PyData.eqvAll]
  | x :: xs, y :: ys => by
    simp only [List.map_cons, PyData.eqvAll, eqv_tup, eqv_tups xs ys]
    rw [Bool.eq_iff_iff]
    simp
theorem eqv_tupsD (xs ys : List (List Int)) : PyData.eqv (tupsD xs) (tupsD ys) = decide (xs = ys) := by
  simp only [tupsD, PyData.eqv]
  exact eqv_tups xs ys
theorem dpAll_ints : ∀ xs : List Int, DpAll K H (xs.map V.int) (xs.map .int)
  | [] => .nil
  | x :: xs => .cons (.int x) (dpAll_ints xs)
theorem dp_tup {xs : List Int} (h : TupI K H v xs) : Dp K H v (tupD xs) := by
  obtain ⟨t, rfl, h⟩ := h
  exact .tup h (dpAll_ints xs)
theorem dp_ints {a : Addr} {xs : List Int} (h : LI K H a xs) : Dp K H (.ref a) (intsD xs) := .lst h (dpAll_ints xs)
theorem dpAll_tups : ∀ {vs : List V} {xss : List (List Int)}, TupL K H vs xss → DpAll K H vs (xss.map tupD)
  | _, _, .nil => .nil
  | _, _, .cons h t => .cons (dp_tup h) (dpAll_tups t)
theorem dp_tups {a : Addr} {xss : List (List Int)} (h : LT K H a xss) : Dp K H (.ref a) (tupsD xss) := by
  obtain ⟨vs, h1, h2⟩ := h
  exact .lst h1 (dpAll_tups h2)
/-- == and != of tuples of ints -/
theorem ev_eqTup {xs ys : List Int} (h1 : EvI K ta σ H xs) (h2 : EvI K tb σ H ys) : Ev (tOp (rEqD K) ta tb) σ H (.bl (decide (xs = ys))) := by
  rw [← eqv_tup]
  exact ev_eqD (EvP.imp h1 fun _ _ _ h => dp_tup h) (EvP.imp h2 fun _ _ _ h => dp_tup h) (shp_tup _) (shp_tup _)
theorem ev_neTup {xs ys : List Int} (h1 : EvI K ta σ H xs) (h2 : EvI K tb σ H ys) : Ev (tOp (rNeD K) ta tb) σ H (.bl (!decide (xs = ys))) := by
  rw [← eqv_tup]
  exact ev_neD (EvP.imp h1 fun _ _ _ h => dp_tup h) (EvP.imp h2 fun _ _ _ h => dp_tup h) (shp_tup _) (shp_tup _)
/-- a list of ints told as an expression -/
abbrev EvLI (K : PySem.W.Frag) (te : TE) (σ : L2.St) (H : Hp) (xs : List Int) : Prop := EvP te σ H (fun v H2 => ∃ a, v = .ref a ∧ LI K H2 a xs)
abbrev EvLT (K : PySem.W.Frag) (te : TE) (σ : L2.St) (H : Hp) (xs : List (List Int)) : Prop := EvP te σ H (fun v H2 => ∃ a, v = .ref a ∧ LT K H2 a xs)
theorem ev_eqLI {xs ys : List Int} (h1 : EvLI K ta σ H xs) (h2 : EvLI K tb σ H ys) : Ev (tOp (rEqD K) ta tb) σ H (.bl (decide (xs = ys))) := by
  rw [← eqv_intsD]
  exact ev_eqD (EvP.imp h1 fun _ _ _ ⟨_, e, h⟩ => e ▸ dp_ints h) (EvP.imp h2 fun _ _ _ ⟨_, e, h⟩ => e ▸ dp_ints h) (shp_ints _) (shp_ints _)
theorem ev_neLI {xs ys : List Int} (h1 : EvLI K ta σ H xs) (h2 : EvLI K tb σ H ys) : Ev (tOp (rNeD K) ta tb) σ H (.bl (!decide (xs = ys))) := by
  rw [← eqv_intsD]
  exact ev_neD (EvP.imp h1 fun _ _ _ ⟨_, e, h⟩ => e ▸ dp_ints h) (EvP.imp h2 fun _ _ _ ⟨_, e, h⟩ => e ▸ dp_ints h) (shp_ints _) (shp_ints _)
theorem ev_eqLT {xs ys : List (List Int)} (h1 : EvLT K ta σ H xs) (h2 : EvLT K tb σ H ys) : Ev (tOp (rEqD K) ta tb) σ H (.bl (decide (xs = ys))) := by
  rw [← eqv_tupsD]
  exact ev_eqD (EvP.imp h1 fun _ _ _ ⟨_, e, h⟩ => e ▸ dp_tups h) (EvP.imp h2 fun _ _ _ ⟨_, e, h⟩ => e ▸ dp_tups h) (shp_tups _) (shp_tups _)
theorem ev_neLT {xs ys : List (List Int)} (h1 : EvLT K ta σ H xs) (h2 : EvLT K tb σ H ys) : Ev (tOp (rNeD K) ta tb) σ H (.bl (!decide (xs = ys))) := by
  rw [← eqv_tupsD]
  exact ev_neD (EvP.imp h1 fun _ _ _ ⟨_, e, h⟩ => e ▸ dp_tups h) (EvP.imp h2 fun _ _ _ ⟨_, e, h⟩ => e ▸ dp_tups h) (shp_tups _) (shp_tups _)

/-! ### dicts from ints to tuples of ints -/
inductive DTup (K : PySem.W.Frag) (H : Hp) : List (Key × V) → List (Int × List Int) → Prop
  | nil : DTup K H [] []
  | cons {k : Int} {v : V} {x : List Int} {kvs : List (Key × V)} {cs : List (Int × List Int)} : TupI K H v x → DTup K H kvs cs → DTup K H ((Sum.inl k, v) :: kvs) ((k, x) :: cs)
theorem DTup.mono (e : Ex H H') : ∀ {kvs : List (Key × V)} {cs : List (Int × List Int)}, DTup K H kvs cs → DTup K H' kvs cs
  | _, _, .nil => .nil
  | _, _, .cons h t => .cons (h.mono e) (DTup.mono e t)
theorem DTup.length : ∀ {kvs : List (Key × V)} {cs : List (Int × List Int)}, DTup K H kvs cs → kvs.length = cs.length
  | _, _, .nil => rfl
  | _, _, .cons _ t => congrArg Nat.succ t.length
theorem DTup.snoc {k : Int} {w : V} {x : List Int} (q : TupI K H w x) : ∀ {kvs : List (Key × V)} {cs : List (Int × List Int)}, DTup K H kvs cs → DTup K H (kvs ++ [(Sum.inl k, w)]) (cs ++ [(k, x)])
  | _, _, .nil => .cons q .nil
  | _, _, .cons h t => .cons h (DTup.snoc q t)
theorem DTup.look {k : Int} : ∀ {kvs : List (Key × V)} {cs : List (Int × List Int)}, DTup K H kvs cs → (∀ x, cs.lookup k = some x → ∃ w, valV kvs (Sum.inl k) = some w ∧ TupI K H w x) ∧ (cs.lookup k = none → valV kvs (Sum.inl k) = none)
  | _, _, .nil => ⟨fun x h => by simp at h, fun _ => rfl⟩
  | _, _, .cons (k := j) (v := w) (x := x) (kvs := kvs) (cs := cs) h t => by
    by_cases hj : k = j
    · subst hj
      refine ⟨fun y hy => ?_, fun hy => ?_⟩
      · simp at hy
        subst hy
        exact ⟨w, valV_pos rfl, h⟩
      · simp at hy
    · have hb : (k == j) = false := by simpa using hj
      have hv : valV ((Sum.inl j, w) :: kvs : List (Key × V)) (Sum.inl k) = valV kvs (Sum.inl k) := valV_neg (fun z => hj (Sum.inl.inj z).symm)
      rw [hv]
      simp only [List.lookup, hb]
      exact t.look
theorem DTup.isSome {k : Int} {kvs : List (Key × V)} {cs : List (Int × List Int)} (h : DTup K H kvs cs) : (valV kvs (Sum.inl k)).isSome = (cs.lookup k).isSome := by
  cases e : cs.lookup k with
  | none =>
    rw [h.look.2 e]
    rfl
  | some x =>
    obtain ⟨w, hw, _⟩ := h.look.1 x e
    rw [hw]
    rfl
theorem DTup.keys : ∀ {kvs : List (Key × V)} {cs : List (Int × List Int)}, DTup K H kvs cs → kvs.map (·.1) = (cs.map (·.1)).map Sum.inl
  | _, _, .nil => rfl
  | _, _, .cons _ t => by
    simp only [List.map_cons]
    rw [t.keys]
theorem look_mem {α : Type} {k : Int} : ∀ {cs : List (Int × α)}, (cs.lookup k).isSome = true ↔ k ∈ cs.map (·.1)
  | [] => by simp
  | (j, x) :: cs => by
    by_cases hj : k = j
    · subst hj
      simp
    · have hb : (k == j) = false := by simpa using hj
      simp only [List.lookup, hb, List.map_cons, List.mem_cons]
      rw [look_mem]
      simp [hj]
theorem look_none {α : Type} {k : Int} {cs : List (Int × α)} : cs.lookup k = none ↔ k ∉ cs.map (·.1) := by
  rw [← look_mem]
  cases cs.lookup k <;> simp
theorem look_app {α : Type} {k : Int} (ds : List (Int × α)) : ∀ {cs : List (Int × α)}, (cs ++ ds).lookup k = if (cs.lookup k).isSome then cs.lookup k else ds.lookup k
  | [] => by simp
  | (j, x) :: cs => by
    by_cases hj : k = j
    · subst hj
      simp
    · have hb : (k == j) = false := by simpa using hj
      simp only [List.cons_append, List.lookup, hb]
      exact look_app ds
theorem ei_dget {a : Addr} {kvs : List (Key × V)} {cs : List (Int × List Int)} {i : Int} {x : List Int} (ha : Ev ta σ H (.ref a)) (hb : Ev tb σ H (.int i)) (h : Rd H a (.dK kvs)) (ht : DTup K H kvs cs) (hi : cs.lookup i = some x) : EvI K (tDGet ta tb) σ H x := by
  obtain ⟨w, hw, tw⟩ := ht.look.1 x hi
  exact evi_of (ev_dget ha hb h hw) tw
theorem ev_dinC {a : Addr} {kvs : List (Key × V)} {cs : List (Int × List Int)} {i : Int} (ha : Ev ta σ H (.int i)) (hb : Ev tb σ H (.ref a)) (h : Rd H a (.dK kvs)) (ht : DTup K H kvs cs) : Ev (tDIn ta tb) σ H (.bl (decide (i ∈ cs.map (·.1)))) := by
  have e := ev_din ha hb h
  have q : (valV kvs (Sum.inl i)).isSome = decide (i ∈ cs.map (·.1)) := by
    rw [ht.isSome, Bool.eq_iff_iff, decide_eq_true_iff]
    exact look_mem
  rw [q] at e
  exact e
theorem ev_dnotinC {a : Addr} {kvs : List (Key × V)} {cs : List (Int × List Int)} {i : Int} (ha : Ev ta σ H (.int i)) (hb : Ev tb σ H (.ref a)) (h : Rd H a (.dK kvs)) (ht : DTup K H kvs cs) : Ev (tDNotIn ta tb) σ H (.bl (!decide (i ∈ cs.map (·.1)))) := by
  have e := ev_dnotin ha hb h
  have q : (valV kvs (Sum.inl i)).isSome = decide (i ∈ cs.map (·.1)) := by
    rw [ht.isSome, Bool.eq_iff_iff, decide_eq_true_iff]
    exact look_mem
  rw [q] at e
  exact e
end G

/-! Webs as graphs: beside, reached, way_back. -/
namespace G
open PySem PySem.Spec PyProof.Rows L2
open Evl (Ex Ev EvL EvU EvT EvA RV RetV)
local macro_rules | `(tactic| walk_at "hp") => `(tactic| first
  | with_reducible assumption
  | ((with_reducible show _ = some (_ : HO)); (with_reducible exact ex_app (by assumption) (by walk_at "hp")))
  | ((with_reducible show TupI _ _ _ _); (with_reducible exact TupI.mono (by assumption) (by walk_at "hp")))
  | ((with_reducible show LT _ _ _ _); (with_reducible exact LT.mono (by assumption) (by walk_at "hp")))
  | ((with_reducible show LI _ _ _ _); (first | (with_reducible exact li_of (by walk_at "hp")) | (with_reducible exact LI.mono (by assumption) (by walk_at "hp"))))
  | ((with_reducible show SqL _ _ _ _); (first | (with_reducible exact SqL.of (by walk_at "hp")) | (with_reducible exact Evl.ex_l (by assumption) (by walk_at "hp"))))
  | ((with_reducible show SqT _ _ _ _); (first | (with_reducible exact SqT.of (by walk_at "hp")) | (with_reducible exact Evl.ex_t (by assumption) (by walk_at "hp"))))
  | ((with_reducible show Rd _ _ _); (first | (with_reducible exact Rd.of (by walk_at "hp")) | (with_reducible exact Evl.ex_rd (by assumption) (by walk_at "hp"))))
  | walk_at "hpf")
local macro_rules | `(tactic| walk_at "at") => `(tactic| first
  | with_reducible assumption
  | with_reducible rfl
  | (refine atI_of ?va ?vb; (case va => omega); (case vb => assumption))
  | walk_at "atf"
  | rfl)
local macro_rules | `(tactic| walk_at "rv") => `(tactic| first
  | with_reducible exact rv_add | with_reducible exact rv_sub | with_reducible exact rv_eqI | with_reducible exact rv_neI | with_reducible exact rv_lt | with_reducible exact rv_le | with_reducible exact rv_gt | with_reducible exact rv_ge
  | with_reducible exact rv_eqB | with_reducible exact rv_neB | with_reducible exact rv_isB | with_reducible exact rv_notB
  | ((with_reducible refine rv_mod ?_); (first | assumption | omega))
  | ((with_reducible refine rv_mul ?_); (first | exact Or.inl ⟨by omega, by omega⟩ | exact Or.inr ⟨by omega, by omega⟩))
  | ((with_reducible refine rv_div ?_); exact ⟨by omega, by omega⟩))
local macro_rules | `(tactic| walk_at "ty") => `(tactic| first
  | with_reducible exact fun _ _ => .base (.int _) | with_reducible exact fun _ _ => .base (.bl _) | with_reducible exact fun _ _ => .base .non | with_reducible exact fun _ _ => .base (.str _)
  | ((with_reducible apply ty_tup); walk_at "hp")
  | ((with_reducible apply ty_lst); walk_at "hp")
  | walk_at "tyf")
local macro_rules | `(tactic| walk_at "ev") => `(tactic| repeat' (first
  | with_reducible exact Evl.ev_c
  | ((with_reducible apply Evl.ev_var); rfl)
  | with_reducible apply ev_neg
  | with_reducible apply ev_ixU
  | walk_at "evf"
  | ((with_reducible apply ev_lenI); (· walk_at "ev"); (· walk_at "hp"))
  | ((with_reducible apply ev_lenT); (· walk_at "ev"); (· walk_at "hp"))
  | ((with_reducible apply ev_lenU); (· walk_at "ev"))
  | with_reducible apply ev_lenSet
  | with_reducible apply ev_chain
  | with_reducible apply ev_isiTy
  | with_reducible apply Evl.ev_andV
  | with_reducible apply Evl.ev_orV
  | with_reducible apply Evl.ev_notV
  | ((with_reducible apply ev_ixI); (· walk_at "ev"); (· walk_at "ev"); (· walk_at "hp"); (· walk_at "at"))
  | with_reducible apply Evl.ev_op
  | ((with_reducible apply evi_of); (· (with_reducible apply Evl.ev_var); rfl); (· walk_at "hp"))
  | with_reducible apply ei_ix
  | with_reducible apply ei_tup
  | with_reducible exact eai_nil
  | with_reducible apply eai_cons
  | with_reducible exact Evl.ea_nil
  | with_reducible apply Evl.ea_cons
  | with_reducible apply Evl.et_test
  | with_reducible apply Evl.et_and
  | with_reducible apply Evl.et_or
  | with_reducible apply Evl.et_not
  | with_reducible apply Evl.et_B
  | walk_at "rv"
  | ((with_reducible show L2.kitB _ _ = _); rfl)
  | ((with_reducible show L2.atI _ _ = _); walk_at "at")
  | ((with_reducible show (_ : Nat) ≤ _); (first | omega | (simp; done) | (simp; omega)))
  | ((with_reducible show _ = true → _); intro _)
  | ((with_reducible show _ = false → _); intro _)
  | ((with_reducible show TupI _ _ _ _); walk_at "hp")
  | ((with_reducible show LT _ _ _ _); walk_at "hp")
  | ((with_reducible show LI _ _ _ _); walk_at "hp")
  | ((with_reducible show SqL _ _ _ _); walk_at "hp")
  | ((with_reducible show SqT _ _ _ _); walk_at "hp")
  | ((with_reducible show Rd _ _ _); walk_at "hp")
  | ((with_reducible show _ = some (_ : HO)); walk_at "hp")
  | walk_at "hpg"
  | walk_at "ty"))

local macro_rules | `(tactic| walk_at "hpf") => `(tactic| ((with_reducible show WebAt _ _ _ _ _ _); (with_reducible exact WebAt.mono (by assumption) (by walk_at "hp"))))
local macro_rules | `(tactic| walk_at "hpg") => `(tactic| ((with_reducible show WebAt _ _ _ _ _ _); walk_at "hp"))
local macro_rules | `(tactic| walk_at "evf") => `(tactic| with_reducible apply ev_points)
local macro_rules | `(tactic| walk_at "evf") => `(tactic| with_reducible apply ev_turn)
local macro_rules | `(tactic| walk_at "evf") => `(tactic| with_reducible apply ev_lenB)
local macro_rules | `(tactic| walk_at "evf") => `(tactic| with_reducible apply ei_bound)
local macro_rules | `(tactic| walk_at "evf") => `(tactic| with_reducible apply ev_is_whole)
local macro_rules | `(tactic| walk_at "evf") => `(tactic| with_reducible apply ev_is_below)
local macro_rules | `(tactic| walk_at "evf") => `(tactic| with_reducible apply ev_is_tie)
local macro_rules | `(tactic| walk_at "evf") => `(tactic| with_reducible apply ei_stepped)
variable {K : PySem.W.Frag} {σ : L2.St} {H H' H1 : Hp} {ta tb tc te : TE} {t u : TT} {tl : TA} {v x y z : V}

/-! ### a list of lists of steps -/
structure Rows (K : PySem.W.Frag) (H : Hp) (ps : List Addr) (rows : List (List Step)) : Prop where
  len : ps.length = rows.length
  nd : ps.Nodup
  at_ : ∀ (i : Nat) (p : Addr) (row : List Step), ps[i]? = some p → rows[i]? = some row → ∃ vs, H p = some (.lst vs) ∧ TupL K H vs (row.map stepL)
theorem Rows.mono {ps : List Addr} {rows : List (List Step)} (e : Ex H H') (h : Rows K H ps rows) : Rows K H' ps rows :=
  ⟨h.len, h.nd, fun i p row a b => by
    obtain ⟨vs, c, d⟩ := h.at_ i p row a b
    exact ⟨vs, e _ _ c, d.mono e⟩⟩
def setApp (rows : List (List Step)) (a : Int) (s : Step) : List (List Step) := rows.set a.toNat (rows.getD a.toNat [] ++ [s])
theorem setApp_len (rows : List (List Step)) (a : Int) (s : Step) : (setApp rows a s).length = rows.length := by simp [setApp]
theorem Rows.app {ps : List Addr} {rows : List (List Step)} {a : Int} {p : Addr} {s : Step} (h : Rows K H ps rows) (hp : ps[a.toNat]? = some p) (hv : TupI K H v (stepL s)) :
    ∃ vs, H p = some (.lst vs) ∧ Rows K (upd H p (.lst (vs ++ [v]))) ps (setApp rows a s) := by
  have hl : a.toNat < ps.length := (List.getElem?_eq_some_iff.mp hp).1
  have hr : rows[a.toNat]? = some (rows.getD a.toNat []) := by
    rw [List.getD_eq_getElem?_getD, List.getElem?_eq_getElem (by rw [← h.len]; exact hl)]
    rfl
  obtain ⟨vs, h1, h2⟩ := h.at_ _ _ _ hp hr
  refine ⟨vs, h1, ⟨by rw [setApp_len]; exact h.len, h.nd, fun i q row hq hrow => ?_⟩⟩
  by_cases hi : i = a.toNat
  · subst hi
    rw [hp] at hq
    cases hq
    have er : row = rows.getD a.toNat [] ++ [s] := by
      unfold setApp at hrow
      rw [List.getElem?_set_self (by rw [← h.len]; exact hl)] at hrow
      exact (Option.some.inj hrow).symm
    rw [er]
    refine ⟨_, upd_same, ?_⟩
    rw [List.map_append]
    exact (h2.updL h1).snoc (hv.updL h1)
  · have hrow' : rows[i]? = some row := by
      unfold setApp at hrow
      rw [List.getElem?_set_ne (Ne.symm hi)] at hrow
      exact hrow
    obtain ⟨ws, g1, g2⟩ := h.at_ i q row hq hrow'
    have nq : q ≠ p := fun z => by
      subst z
      obtain ⟨l1, e1⟩ := List.getElem?_eq_some_iff.mp hq
      obtain ⟨l2, e2⟩ := List.getElem?_eq_some_iff.mp hp
      exact hi ((List.getElem_inj h.nd).mp (e1.trans e2.symm))
    exact ⟨ws, by rw [upd_ne nq]; exact g1, g2.updL h1⟩
theorem Rows.app2 {ps : List Addr} {rows : List (List Step)} {a : Int} {p : Addr} {s : Step} {vs : List V} (h : Rows K H ps rows) (hp : ps[a.toNat]? = some p) (h1 : H p = some (.lst vs)) (hv : TupI K H v (stepL s)) :
    Rows K (upd H p (.lst (vs ++ [v]))) ps (setApp rows a s) := by
  obtain ⟨ws, q1, q2⟩ := h.app hp hv
  have e : ws = vs := by
    rw [q1] at h1
    cases h1
    rfl
  rw [← e]
  exact q2
theorem Rows.lst {ps : List Addr} {rows : List (List Step)} {a : Nat} {p : Addr} (h : Rows K H ps rows) (hp : ps[a]? = some p) : ∃ vs, H p = some (.lst vs) ∧ TupL K H vs ((rows.getD a []).map stepL) := by
  have hl : a < ps.length := (List.getElem?_eq_some_iff.mp hp).1
  refine h.at_ _ _ _ hp ?_
  rw [List.getD_eq_getElem?_getD, List.getElem?_eq_getElem (by rw [← h.len]; exact hl)]
  rfl
def NearAt (K : PySem.W.Frag) (H : Hp) (l : Addr) (rows : List (List Step)) : Prop := ∃ ps : List Addr, H l = some (.lst (ps.map V.ref)) ∧ Rows K H ps rows
theorem NearAt.mono {l : Addr} {rows : List (List Step)} (e : Ex H H') (h : NearAt K H l rows) : NearAt K H' l rows := by
  obtain ⟨ps, a, b⟩ := h
  exact ⟨ps, e _ _ a, b.mono e⟩

/-! ### beside -/
abbrev OkT := Nat → Tie → Bool
def addT (ok : OkT) (i : Nat) (t : Tie) (rows : List (List Step)) : List (List Step) :=
  if ok i t then setApp (setApp rows t.1 ((i : Int), 1)) t.2.1 ((i : Int), -1) else rows
def rowsUp (ok : OkT) (n : Int) (ts : List Tie) : Nat → List (List Step)
  | 0 => List.replicate n.toNat []
  | i + 1 => match ts[i]? with
    | some t => addT ok i t (rowsUp ok n ts i)
    | none => rowsUp ok n ts i
theorem rowsUp_len (ok : OkT) (n : Int) (ts : List Tie) : ∀ i, (rowsUp ok n ts i).length = n.toNat
  | 0 => List.length_replicate
  | i + 1 => by
    unfold rowsUp
    cases ts[i]? with
    | none => exact rowsUp_len ok n ts i
    | some t =>
      show (addT ok i t (rowsUp ok n ts i)).length = n.toNat
      unfold addT
      split
      · rw [setApp_len, setApp_len]
        exact rowsUp_len ok n ts i
      · exact rowsUp_len ok n ts i
theorem setApp_row (rows : List (List Step)) (a : Int) (s : Step) (j : Nat) : ((setApp rows a s).getD j []).length ≤ (rows.getD j []).length + 1 := by
  unfold setApp
  rw [List.getD_eq_getElem?_getD, List.getElem?_set]
  split
  · rename_i h
    subst h
    split
    · simp
    · simp
  · rw [← List.getD_eq_getElem?_getD]
    omega
theorem rowsUp_row (ok : OkT) (n : Int) (ts : List Tie) (j : Nat) : ∀ i, ((rowsUp ok n ts i).getD j []).length ≤ 2 * i
  | 0 => by
    unfold rowsUp
    rw [List.getD_eq_getElem?_getD, List.getElem?_replicate]
    split <;> simp
  | i + 1 => by
    have ih := rowsUp_row ok n ts j i
    unfold rowsUp
    cases ts[i]? with
    | none => exact Nat.le_trans ih (by omega)
    | some t =>
      show ((addT ok i t (rowsUp ok n ts i)).getD j []).length ≤ 2 * (i + 1)
      unfold addT
      split
      · have h1 := setApp_row (setApp (rowsUp ok n ts i) t.1 ((i : Int), 1)) t.2.1 ((i : Int), -1) j
        have h2 := setApp_row (rowsUp ok n ts i) t.1 ((i : Int), 1) j
        omega
      · omega
def okF (skip : Int) (fr : Bool) (turn : Int) : OkT := fun i t => decide ((i : Int) ≠ skip) && (!fr || noughtF turn t.2.2)
def Valid (n : Int) (ts : List Tie) : Prop := ∀ t ∈ ts, (0 ≤ t.1 ∧ t.1 < n) ∧ (0 ≤ t.2.1 ∧ t.2.1 < n) ∧ t.1 ≠ t.2.1
def nearF (skip : Int) (fr : Bool) (n turn : Int) (ts : List Tie) : List (List Step) := rowsUp (okF skip fr turn) n ts ts.length
def sp_beside (K : PySem.W.Frag) : Sp := fun vs H Q _ => ∃ (w : Addr) (skip n turn : Int) (fr : Bool) (ts : List Tie), vs = [.ref w, .int skip, .bl fr] ∧ WebAt K H w n ts turn ∧ (0 ≤ n ∧ n ≤ 5000) ∧ 0 ≤ turn ∧ ts.length ≤ 5000 ∧ Valid n ts ∧
  RetP (fun v H2 => ∃ l, v = .ref l ∧ NearAt K H2 l (nearF skip fr n turn ts)) H Q
theorem ep_beside {w : Addr} {skip n turn : Int} {fr : Bool} {ts : List Tie} (h : EvA tl σ H [.ref w, .int skip, .bl fr]) (hw : WebAt K H w n ts turn) (hn : 0 ≤ n ∧ n ≤ 5000) (h0 : 0 ≤ turn) (hl : ts.length ≤ 5000) (hv : Valid n ts) :
    EvP (tCall (sp_beside K) [] E0 tl) σ H (fun v H2 => ∃ l, v = .ref l ∧ NearAt K H2 l (nearF skip fr n turn ts)) :=
  ep_call h fun H1 Q e k => ⟨w, skip, n, turn, fr, ts, rfl, hw.mono e, hn, h0, hl, hv, k⟩
def t_beside (K : PySem.W.Frag) : TS :=
 (tSeq (tAsg (tLc (iRng1 (tCons (tFld K (tVar 0) "points") tNil)) (gName 6) tYes (tLst tNil) [6]) (gName 3))
 (tSeq (tFor (iEnum K (tCons (tFld K (tVar 0) "bound") tNil)) (gTup K 2 (gCons (gName 4) (gCons (gName 5) gNil))) (tIfS (tAnd (tTest (tOp rNe (tVar 4) (tVar 1))) (tOr (tNot (tB (tVar 2))) (tB (tMeth (ga K "Web") "is_nought" (sp_Web_is_nought K) [] E0 (tVar 0) (tCons (tOp (rIxT K) (tVar 5) (tC (.int 2))) tNil))))) (tSeq (tDrop (tBM K "list" rAppend (tOp (rIxL K) (tVar 3) (tOp (rIxT K) (tVar 5) (tC (.int 0)))) (tCons (tTup (tCons (tVar 4) (tCons (tC (.int 1)) tNil))) tNil)))
 (tDrop (tBM K "list" rAppend (tOp (rIxL K) (tVar 3) (tOp (rIxT K) (tVar 5) (tC (.int 1)))) (tCons (tTup (tCons (tVar 4) (tCons (tUn rNegI (tC (.int 1))) tNil))) tNil)))) tNext))
 (tRet (tVar 3))))
theorem rd_beside (vs : List V) (H : Hp) (Q : VK) (E : XK) (h : sp_beside K vs H Q E) : goal (t_beside K) ["web", "skipped", "friends", "found", "at", "tie", "point"] vs H Q := by
  obtain ⟨w, skip, n, turn, fr, ts, rfl, hw, hn, h0, hl, hv, k⟩ := h
  refine q_asgP (P := fun v H2 => ∃ (l : Addr) (ps : List Addr), v = .ref l ∧ H l = none ∧ H2 l = some (.lst (ps.map V.ref)) ∧ ps.length = n.toNat ∧ ps.Nodup ∧ l ∉ ps ∧ ∀ p ∈ ps, H p = none ∧ H2 p = some (.lst [])) ?_ fun v H1 e1 hv1 => ?_
  · refine (lc_gen (G := fun _ => True) (n := n.toNat) (fun H1 e R q => ?_) (walk_range (lo := 0)) (by omega)
      (fun Dl i acc H2 => ∃ ps : List Addr, acc = ps.map V.ref ∧ ps.length = i ∧ ps.Nodup ∧ Dl ∉ ps ∧ ∀ p ∈ ps, H p = none ∧ H2 p = some (.lst [])) (fun Dl i acc ys zs H1 b hD => ?_) (fun Dl H1 e _ => ⟨[], rfl, rfl, List.nodup_nil, by simp, by simp⟩) (fun _ _ => trivial) fun Dl i x H1 H2 acc Q hi e fr1 hD b y q => ?_).imp fun v H2 e hp => ?_
    · have ev : EvA (tCons (tFld K (tVar 0) "points") tNil) (L2.start ["web", "skipped", "friends", "found", "at", "tie", "point"] [V.ref w, V.int skip, V.bl fr]) H1 [.int n] := by walk_at "ev"
      exact ev H1 (Ex.refl H1) _ fun H2 e2 => ⟨n, rfl, by omega, by omega, q H2 e2⟩
    · obtain ⟨ps, a1, a2, a3, a4, a5⟩ := b
      exact ⟨ps, a1, a2, a3, a4, fun p hp => ⟨(a5 p hp).1, by rw [upd_ne (by rintro rfl; exact a4 hp)]; exact (a5 p hp).2⟩⟩
    · obtain ⟨rfl, rfl⟩ := y
      obtain ⟨ps, a1, a2, a3, a4, a5⟩ := b
      refine turn1 (P := fun v H3 => ∃ p, v = .ref p ∧ H2 p = none ∧ H3 p = some (.lst [])) rfl (fun H3 e3 Q' q' => ?_) fun v H3 e3 hv3 => ?_
      · exact ⟨Nat.zero_le _, fun p hp => q' _ _ (Ex.new hp) ⟨p, rfl, Evl.fresh_back e3 hp, upd_same⟩⟩
      · obtain ⟨p, rfl, p1, p2⟩ := hv3
        have np : p ∉ ps := fun z => by
          have := (a5 p z).2
          rw [p1] at this
          cases this
        refine q _ H3 e3 ⟨ps ++ [p], by rw [a1, List.map_append]; rfl, by rw [List.length_append, a2]; rfl, ?_, ?_, fun c hc => ?_⟩
        · rw [List.nodup_append]
          exact ⟨a3, by simp, fun a ha b hb => by simp at hb; subst hb; exact fun z => np (z ▸ ha)⟩
        · simp only [List.mem_append, List.mem_singleton, not_or]
          exact ⟨a4, fun z => by rw [← z, hD] at p1; cases p1⟩
        · rcases List.mem_append.mp hc with hc | hc
          · exact ⟨(a5 c hc).1, e3 _ _ (a5 c hc).2⟩
          · have : c = p := by simpa using hc
            subst this
            exact ⟨Evl.fresh_back e p1, p2⟩
    · obtain ⟨p, acc, rfl, f1, f2, f3, ps, a1, a2, a3, a4, a5⟩ := hp
      exact ⟨p, ps, rfl, f1, by rw [f2, a1], a2, a3, a4, a5⟩
  obtain ⟨l, ps, rfl, fl, hl1, hpl, hnd, hlp, hps⟩ := hv1
  obtain ⟨b, ⟨us, hq, hT⟩, fb⟩ := hw.bound
  have hul : us.length = ts.length := by rw [hT.length, List.length_map]
  have fps : ∀ p ∈ ps, H p = none := fun p hp => (hps p hp).1
  refine q_seq (f_enum (a := b) (xs := us) (Evl.Ev.mono e1 (fb (Evl.ev_var rfl))) (by walk_at "hp")
    (fun i σ' H' => ∃ (o1 o2 o3 : Option V), σ' = [some (.ref w), some (.int skip), some (.bl fr), some (.ref l), o1, o2, o3] ∧ Ex H H' ∧ H' l = some (.lst (ps.map V.ref)) ∧ Rows K H' ps (rowsUp (okF skip fr turn) n ts i))
    (fun H2 e2 => ⟨_, _, _, rfl, e1.trans e2, e2 _ _ hl1, ?_⟩) (fun i σ' H' _ ⟨_, _, _, _, e, _⟩ => Evl.ex_l e hq) ?_ ?_)
  · refine ⟨by rw [rowsUp_len]; exact hpl, hnd, fun i p row hp hr => ⟨[], e2 _ _ (hps p (List.mem_of_getElem? hp)).2, ?_⟩⟩
    have : row = [] := by
      have := List.mem_of_getElem? hr
      exact (List.mem_replicate.mp this).2
    rw [this]
    exact .nil
  · rintro i x σ' H' H2 hx ⟨o1, o2, o3, rfl, e, hl2, hR⟩ e2
    obtain ⟨zz, hz, tz⟩ := (hT.mono (e.trans e2)).getV hx
    rw [List.getElem?_map] at hz
    cases hti : ts[i]? with
    | none => rw [hti] at hz; cases hz
    | some t =>
      rw [hti] at hz
      cases hz
      obtain ⟨v1, v2, v3⟩ := hv t (List.mem_of_getElem? hti)
      have hup : rowsUp (okF skip fr turn) n ts (i + 1) = addT (okF skip fr turn) i t (rowsUp (okF skip fr turn) n ts i) := by
        rw [rowsUp, hti]
      have hw2 := hw.mono (e.trans e2)
      refine Evl.s_when (b := okF skip fr turn i t) (Evl.et_is (a := !decide ((i : Int) = skip) && (!fr || noughtF turn t.2.2)) (Evl.et_and (by walk_at "ev") fun _ => Evl.et_or (by walk_at "ev") fun _ => Evl.et_B (ev_nought hw2 h0 (by walk_at "ev") (by walk_at "ev"))) (by unfold okF; rw [Bool.eq_iff_iff]; simp)) (fun hb H3 e3 => ?_) fun hb H3 e3 => ?_
      · obtain ⟨pa, hpa⟩ : ∃ p, ps[t.1.toNat]? = some p := ⟨ps[t.1.toNat]'(by omega), List.getElem?_eq_getElem (by omega)⟩
        obtain ⟨pb, hpb⟩ : ∃ p, ps[t.2.1.toNat]? = some p := ⟨ps[t.2.1.toNat]'(by omega), List.getElem?_eq_getElem (by omega)⟩
        have R3 : Rows K H3 ps (rowsUp (okF skip fr turn) n ts i) := hR.mono (e2.trans e3)
        have l3 : H3 l = some (.lst (ps.map V.ref)) := e3 _ _ (e2 _ _ hl2)
        have tz3 : TupI K H3 x (tieL t) := tz.mono e3
        have aa : atI (ps.map V.ref) t.1 = some (.ref pa) := by rw [atI_map, atI_of v1.1 hpa]; rfl
        have ab : atI (ps.map V.ref) t.2.1 = some (.ref pb) := by rw [atI_map, atI_of v2.1 hpb]; rfl
        have hpa0 : H pa = none := fps pa (List.mem_of_getElem? hpa)
        have hpb0 : H pb = none := fps pb (List.mem_of_getElem? hpb)
        obtain ⟨vs0, g1, g2⟩ := R3.lst hpa
        have il : i < ts.length := (List.getElem?_eq_some_iff.mp hti).1
        have sz0 : vs0.length < 100000 := by
          have q1 := g2.length
          have q2 := rowsUp_row (okF skip fr turn) n ts t.1.toNat i
          rw [List.length_map] at q1
          omega
        refine q_appP (l := pa) (xs := vs0) (P := fun v H2 => TupI K H2 v [(i : Int), 1]) g1 (Evl.ev_op (by walk_at "ev") (by walk_at "ev") (Evl.rv_ixL (SqL.of l3) aa)) (by walk_at "ev") sz0 fun w1 H4 e4 tv => ?_
        have R5 := (R3.mono e4).app2 (s := ((i : Int), 1)) hpa (e4 _ _ g1) tv
        have l5 : (upd H4 pa (.lst (vs0 ++ [w1]))) l = some (.lst (ps.map V.ref)) := by
          rw [upd_ne (by rintro rfl; exact hlp (List.mem_of_getElem? hpa))]
          exact e4 _ _ l3
        have tz5 : TupI K (upd H4 pa (.lst (vs0 ++ [w1]))) x (tieL t) := (tz3.mono e4).updL (e4 _ _ g1)
        have x5 : Ex H (upd H4 pa (.lst (vs0 ++ [w1]))) := (e.trans (e2.trans (e3.trans e4))).mut hpa0
        obtain ⟨vs1, g3, g4⟩ := R5.lst hpb
        have sz1 : vs1.length < 100000 := by
          have q1 := g4.length
          have q2 := rowsUp_row (okF skip fr turn) n ts t.2.1.toNat i
          have q3 := setApp_row (rowsUp (okF skip fr turn) n ts i) t.1 ((i : Int), 1) t.2.1.toNat
          rw [List.length_map] at q1
          omega
        refine s_appP (l := pb) (xs := vs1) (P := fun v H2 => TupI K H2 v [(i : Int), -1]) g3 (Evl.ev_op (by walk_at "ev") (by walk_at "ev") (Evl.rv_ixL (SqL.of l5) ab)) (by walk_at "ev") sz1 fun w2 H6 e6 tv2 => ?_
        refine ⟨_, _, _, rfl, (x5.trans e6).mut hpb0, ?_, ?_⟩
        · rw [upd_ne (by rintro rfl; exact hlp (List.mem_of_getElem? hpb))]
          exact e6 _ _ l5
        · rw [hup]
          unfold addT
          rw [if_pos hb]
          exact (R5.mono e6).app2 (s := ((i : Int), -1)) hpb (e6 _ _ g3) tv2
      · refine ⟨_, _, _, rfl, e.trans (e2.trans e3), e3 _ _ (e2 _ _ hl2), ?_⟩
        rw [hup]
        unfold addT
        rw [hb]
        exact hR.mono (e2.trans e3)
  · rintro σ' H' ⟨o1, o2, o3, rfl, e, hl2, hR⟩
    dsimp only
    refine Evl.s_ret (v := .ref l) (by walk_at "ev") fun H2 e2 => k _ H2 (e.trans e2) ⟨l, rfl, ps, e2 _ _ hl2, ?_⟩
    rw [hul] at hR
    exact hR.mono e2
end G

/-! Webs as graphs: reached, way_back. -/
namespace G
open PySem PySem.Spec PyProof.Rows L2
open Evl (Ex Ev EvL EvU EvT EvA RV RetV)
local macro_rules | `(tactic| walk_at "hp") => `(tactic| first
  | with_reducible assumption
  | ((with_reducible show _ = some (_ : HO)); (with_reducible exact ex_app (by assumption) (by walk_at "hp")))
  | ((with_reducible show TupI _ _ _ _); (with_reducible exact TupI.mono (by assumption) (by walk_at "hp")))
  | ((with_reducible show LT _ _ _ _); (with_reducible exact LT.mono (by assumption) (by walk_at "hp")))
  | ((with_reducible show LI _ _ _ _); (first | (with_reducible exact li_of (by walk_at "hp")) | (with_reducible exact LI.mono (by assumption) (by walk_at "hp"))))
  | ((with_reducible show SqL _ _ _ _); (first | (with_reducible exact SqL.of (by walk_at "hp")) | (with_reducible exact Evl.ex_l (by assumption) (by walk_at "hp"))))
  | ((with_reducible show SqT _ _ _ _); (first | (with_reducible exact SqT.of (by walk_at "hp")) | (with_reducible exact Evl.ex_t (by assumption) (by walk_at "hp"))))
  | ((with_reducible show Rd _ _ _); (first | (with_reducible exact Rd.of (by walk_at "hp")) | (with_reducible exact Evl.ex_rd (by assumption) (by walk_at "hp"))))
  | walk_at "hpf")
local macro_rules | `(tactic| walk_at "at") => `(tactic| first
  | with_reducible assumption
  | with_reducible rfl
  | (refine atI_of ?va ?vb; (case va => omega); (case vb => assumption))
  | walk_at "atf"
  | rfl)
local macro_rules | `(tactic| walk_at "rv") => `(tactic| first
  | with_reducible exact rv_add | with_reducible exact rv_sub | with_reducible exact rv_eqI | with_reducible exact rv_neI | with_reducible exact rv_lt | with_reducible exact rv_le | with_reducible exact rv_gt | with_reducible exact rv_ge
  | with_reducible exact rv_eqB | with_reducible exact rv_neB | with_reducible exact rv_isB | with_reducible exact rv_notB
  | ((with_reducible refine rv_mod ?_); (first | assumption | omega))
  | ((with_reducible refine rv_mul ?_); (first | exact Or.inl ⟨by omega, by omega⟩ | exact Or.inr ⟨by omega, by omega⟩))
  | ((with_reducible refine rv_div ?_); exact ⟨by omega, by omega⟩))
local macro_rules | `(tactic| walk_at "ty") => `(tactic| first
  | with_reducible exact fun _ _ => .base (.int _) | with_reducible exact fun _ _ => .base (.bl _) | with_reducible exact fun _ _ => .base .non | with_reducible exact fun _ _ => .base (.str _)
  | ((with_reducible apply ty_tup); walk_at "hp")
  | ((with_reducible apply ty_lst); walk_at "hp")
  | walk_at "tyf")
local macro_rules | `(tactic| walk_at "ev") => `(tactic| repeat' (first
  | with_reducible exact Evl.ev_c
  | ((with_reducible apply Evl.ev_var); rfl)
  | with_reducible apply ev_neg
  | with_reducible apply ev_ixU
  | walk_at "evf"
  | ((with_reducible apply ev_lenI); (· walk_at "ev"); (· walk_at "hp"))
  | ((with_reducible apply ev_lenT); (· walk_at "ev"); (· walk_at "hp"))
  | ((with_reducible apply ev_lenU); (· walk_at "ev"))
  | with_reducible apply ev_lenSet
  | with_reducible apply ev_chain
  | with_reducible apply ev_isiTy
  | with_reducible apply Evl.ev_andV
  | with_reducible apply Evl.ev_orV
  | with_reducible apply Evl.ev_notV
  | ((with_reducible apply ev_ixI); (· walk_at "ev"); (· walk_at "ev"); (· walk_at "hp"); (· walk_at "at"))
  | with_reducible apply Evl.ev_op
  | ((with_reducible apply evi_of); (· (with_reducible apply Evl.ev_var); rfl); (· walk_at "hp"))
  | with_reducible apply ei_ix
  | with_reducible apply ei_tup
  | with_reducible exact eai_nil
  | with_reducible apply eai_cons
  | with_reducible exact Evl.ea_nil
  | with_reducible apply Evl.ea_cons
  | with_reducible apply Evl.et_test
  | with_reducible apply Evl.et_and
  | with_reducible apply Evl.et_or
  | with_reducible apply Evl.et_not
  | with_reducible apply Evl.et_B
  | walk_at "rv"
  | ((with_reducible show L2.kitB _ _ = _); rfl)
  | ((with_reducible show L2.atI _ _ = _); walk_at "at")
  | ((with_reducible show (_ : Nat) ≤ _); (first | omega | (simp; done) | (simp; omega)))
  | ((with_reducible show _ = true → _); intro _)
  | ((with_reducible show _ = false → _); intro _)
  | ((with_reducible show TupI _ _ _ _); walk_at "hp")
  | ((with_reducible show LT _ _ _ _); walk_at "hp")
  | ((with_reducible show LI _ _ _ _); walk_at "hp")
  | ((with_reducible show SqL _ _ _ _); walk_at "hp")
  | ((with_reducible show SqT _ _ _ _); walk_at "hp")
  | ((with_reducible show Rd _ _ _); walk_at "hp")
  | ((with_reducible show _ = some (_ : HO)); walk_at "hp")
  | walk_at "hpg"
  | walk_at "ty"))

local macro_rules | `(tactic| walk_at "hpf") => `(tactic| ((with_reducible show WebAt _ _ _ _ _ _); (with_reducible exact WebAt.mono (by assumption) (by walk_at "hp"))))
local macro_rules | `(tactic| walk_at "hpg") => `(tactic| ((with_reducible show WebAt _ _ _ _ _ _); walk_at "hp"))
local macro_rules | `(tactic| walk_at "evf") => `(tactic| with_reducible apply ev_points)
local macro_rules | `(tactic| walk_at "evf") => `(tactic| with_reducible apply ev_turn)
local macro_rules | `(tactic| walk_at "evf") => `(tactic| with_reducible apply ev_lenB)
local macro_rules | `(tactic| walk_at "evf") => `(tactic| with_reducible apply ei_bound)
local macro_rules | `(tactic| walk_at "evf") => `(tactic| with_reducible apply ev_is_whole)
local macro_rules | `(tactic| walk_at "evf") => `(tactic| with_reducible apply ev_is_below)
local macro_rules | `(tactic| walk_at "evf") => `(tactic| with_reducible apply ev_is_tie)
local macro_rules | `(tactic| walk_at "evf") => `(tactic| with_reducible apply ei_stepped)
variable {K : PySem.W.Frag} {σ : L2.St} {H H' H1 : Hp} {ta tb tc te : TE} {t u : TT} {tl : TA} {v x y z : V}

/-! ### what stays when a list or a dict changes -/
def isM : HO → Bool
  | .lst _ => true
  | .dK _ => true
  | .ins _ _ _ => true
  | _ => false
theorem SqT.updM {d p : Addr} {o u : HO} {xs : List V} (h : SqT K H p xs) (hd : H d = some u) (hu : isM u = true) : SqT K (upd H d o) p xs := by
  rcases h with (h | ⟨ob, h⟩) | h
  · exact .inl (.inl (by rw [upd_ne (ne_of h hd (by intro z; subst z; cases hu))]; exact h))
  · exact .inl (.inr ⟨ob, by rw [upd_ne (ne_of h hd (by intro z; subst z; cases hu))]; exact h⟩)
  · exact .inr h
theorem TupI.updM {d : Addr} {o u : HO} {xs : List Int} (h : TupI K H v xs) (hd : H d = some u) (hu : isM u = true) : TupI K (upd H d o) v xs := by
  obtain ⟨p, rfl, h⟩ := h
  exact ⟨p, rfl, SqT.updM h hd hu⟩
theorem TupL.updM {d : Addr} {o u : HO} (hd : H d = some u) (hu : isM u = true) : ∀ {vs : List V} {xs : List (List Int)}, TupL K H vs xs → TupL K (upd H d o) vs xs
  | _, _, .nil => .nil
  | _, _, .cons h t => .cons (h.updM hd hu) (TupL.updM hd hu t)
theorem DTup.updM {d : Addr} {o u : HO} (hd : H d = some u) (hu : isM u = true) : ∀ {kvs : List (Key × V)} {cs : List (Int × List Int)}, DTup K H kvs cs → DTup K (upd H d o) kvs cs
  | _, _, .nil => .nil
  | _, _, .cons h t => .cons (h.updM hd hu) (DTup.updM hd hu t)
def DAt (K : PySem.W.Frag) (H : Hp) (d : Addr) (cs : List (Int × List Int)) : Prop := ∃ kvs, H d = some (.dK kvs) ∧ DTup K H kvs cs
theorem DAt.mono {d : Addr} {cs : List (Int × List Int)} (e : Ex H H') (h : DAt K H d cs) : DAt K H' d cs := by
  obtain ⟨kvs, a, b⟩ := h
  exact ⟨kvs, e _ _ a, b.mono e⟩

/-! ### the tree that reached makes -/
abbrev keys (cs : List (Int × List Int)) : List Int := cs.map (·.1)
inductive Tree (ts : List Tie) (rows : List (List Step)) (start : Int) : List (Int × List Int) → Prop
  | root : Tree ts rows start [(start, [])]
  | grow {cs : List (Int × List Int)} {a : Int} {s : Step} : Tree ts rows start cs → a ∈ keys cs → s ∈ rows.getD a.toNat [] → (stepF ts a s).1 ∉ keys cs → Tree ts rows start (cs ++ [((stepF ts a s).1, stepL s)])
def GoodR (ts : List Tie) (n : Int) (rows : List (List Step)) : Prop := rows.length = n.toNat ∧ ∀ a, 0 ≤ a → a < n → ∀ s ∈ rows.getD a.toNat [], 0 ≤ (stepF ts a s).1 ∧ (stepF ts a s).1 < n
section
variable {ts : List Tie} {rows : List (List Step)} {start n : Int} {cs : List (Int × List Int)}
theorem Tree.nodup (h : Tree ts rows start cs) : (keys cs).Nodup := by
  induction h with
  | root => simp [keys]
  | grow h ha hs hn ih =>
    simp only [keys, List.map_append, List.nodup_append]
    refine ⟨ih, by simp, fun a ha b hb => ?_⟩
    simp at hb
    subst hb
    exact fun z => hn (z ▸ ha)
theorem Tree.range (h : Tree ts rows start cs) (g : GoodR ts n rows) (h0 : 0 ≤ start ∧ start < n) : ∀ k ∈ keys cs, 0 ≤ k ∧ k < n := by
  induction h with
  | root =>
    intro k hk
    simp [keys] at hk
    subst hk
    exact h0
  | grow h ha hs hn ih =>
    intro k hk
    simp only [keys, List.map_append, List.mem_append] at hk
    rcases hk with hk | hk
    · exact ih k hk
    · simp at hk
      subst hk
      exact g.2 _ (ih _ ha).1 (ih _ ha).2 _ hs
theorem nodup_le : ∀ (n : Nat) (l : List Nat), l.Nodup → (∀ x ∈ l, x < n) → l.length ≤ n
  | 0, l, _, h => by
    cases l with
    | nil => simp
    | cons x l => exact absurd (h x List.mem_cons_self) (by omega)
  | n + 1, l, nd, h => by
    have h1 : (l.erase n).length ≤ n := nodup_le n (l.erase n) (nd.erase n) fun x hx => by
      have := h x (List.mem_of_mem_erase hx)
      have : x ≠ n := (List.Nodup.mem_erase_iff nd).mp hx |>.1
      omega
    have h2 : l.length ≤ (l.erase n).length + 1 := by
      rw [List.length_erase]
      split <;> omega
    omega
theorem nodup_leI {l : List Int} {n : Int} (nd : l.Nodup) (h : ∀ x ∈ l, 0 ≤ x ∧ x < n) : l.length ≤ n.toNat := by
  have q := nodup_le n.toNat (l.map Int.toNat) ?_ ?_
  · rw [List.length_map] at q
    exact q
  · rw [List.nodup_iff_pairwise_ne, List.pairwise_map]
    refine (List.Pairwise.imp_of_mem (fun {a b} ha hb hab => ?_) nd)
    have := h a ha
    have := h b hb
    intro z
    exact hab (by omega)
  · intro x hx
    obtain ⟨y, hy, rfl⟩ := List.mem_map.mp hx
    have := h y hy
    omega
theorem Tree.len (h : Tree ts rows start cs) (g : GoodR ts n rows) (h0 : 0 ≤ start ∧ start < n) : cs.length ≤ n.toNat := by
  have := nodup_leI h.nodup (h.range g h0)
  rw [List.length_map] at this
  exact this
end
def Reach (ts : List Tie) (rows : List (List Step)) (start : Int) (cs : List (Int × List Int)) : Prop :=
  Tree ts rows start cs ∧ ∀ a ∈ keys cs, ∀ s ∈ rows.getD a.toNat [], (stepF ts a s).1 ∈ keys cs
def sp_reached (K : PySem.W.Frag) : Sp := fun vs H Q _ => ∃ (w l : Addr) (start n turn : Int) (ts : List Tie) (rows : List (List Step)), vs = [.ref w, .int start, .ref l] ∧ WebAt K H w n ts turn ∧ NearAt K H l rows ∧ GoodR ts n rows ∧ (0 ≤ start ∧ start < n) ∧ n ≤ 5000 ∧
  RetP (fun v H2 => ∃ d cs, v = .ref d ∧ H d = none ∧ DAt K H2 d cs ∧ Reach ts rows start cs) H Q
theorem ep_reached {w l : Addr} {start n turn : Int} {ts : List Tie} {rows : List (List Step)} (h : EvA tl σ H [.ref w, .int start, .ref l]) (hw : WebAt K H w n ts turn) (hn : NearAt K H l rows) (g : GoodR ts n rows) (h0 : 0 ≤ start ∧ start < n) (hb : n ≤ 5000) :
    EvP (tCall (sp_reached K) [] E0 tl) σ H (fun v H2 => ∃ d cs, v = .ref d ∧ H d = none ∧ DAt K H2 d cs ∧ Reach ts rows start cs) :=
  ep_call h fun H1 Q e k => ⟨w, l, start, n, turn, ts, rows, rfl, hw.mono e, hn.mono e, g, h0, hb, fun v H2 e2 ⟨d, cs, a, b, c⟩ => k v H2 e2 ⟨d, cs, a, Evl.fresh_back e b, c⟩⟩
def t_reached (K : PySem.W.Frag) : TS :=
 (tSeq (tAsg (tDisp [((tVar 1), (tTup tNil))]) (gName 3))
 (tSeq (tAsg (tLst (tCons (tVar 1) tNil)) (gName 4))
 (tSeq (tAsg (tC (.int 0)) (gName 5))
 (tSeq (tWhile (tTest (tOp rLtI (tVar 5) (tCB (rLenS K) (tCons (tVar 4) tNil)))) (tSeq (tFor (iList K (tOp (rIxL K) (tVar 2) (tOp (rIxL K) (tVar 4) (tVar 5)))) (gName 6) (tSeq (tAsg (tOp (rIxT K) (tCall (sp_stepped K) [] E0 (tCons (tVar 0) (tCons (tOp (rIxL K) (tVar 4) (tVar 5)) (tCons (tVar 6) tNil)))) (tC (.int 0))) (gName 7))
 (tIfS (tB (tDNotIn (tVar 7) (tVar 3))) (tSeq (sDPut (tVar 3) (tVar 7) (tVar 6))
 (tDrop (tBM K "list" rAppend (tVar 4) (tCons (tVar 7) tNil)))) tNext)))
 (tAug 5 (tC (.int 1)) (ipI fun i j => i + j))))
 (tRet (tVar 3))))))
def t_way_back (K : PySem.W.Frag) : TS :=
 (tSeq (tAsg (tLst tNil) (gName 3))
 (tSeq (tWhile (tTest (tOp (rNeD K) (tDGet (tVar 1) (tVar 2)) (tTup tNil))) (tSeq (tAsg (tDGet (tVar 1) (tVar 2)) (gName 4))
 (tSeq (tDrop (tBM K "list" rAppend (tVar 3) (tCons (tVar 4) tNil)))
 (tAsg (tOp (rIxT K) (tCall (sp_stepped K) [] E0 (tCons (tVar 0) (tCons (tVar 2) (tCons (tTup (tCons (tOp (rIxT K) (tVar 4) (tC (.int 0))) (tCons (tUn rNegI (tOp (rIxT K) (tVar 4) (tC (.int 1)))) tNil))) tNil)))) (tC (.int 0))) (gName 2)))))
 (tRet (tRevL K (tVar 3)))))
theorem rd_reached (vs : List V) (H : Hp) (Q : VK) (E : XK) (h : sp_reached K vs H Q E) : goal (t_reached K) ["web", "start", "near", "came", "left", "at", "step", "point"] vs H Q := by
  obtain ⟨w, l, start, n, turn, ts, rows, rfl, hw, hnr, g, h0, hb, k⟩ := h
  obtain ⟨ps, hps, hR⟩ := id hnr
  refine q_asgP (P := fun v H2 => ∃ d, v = .ref d ∧ H d = none ∧ DAt K H2 d [(start, [])]) (fun H1 e1 Q' q' => ?_) fun v H1 e1 hv => ?_
  · intro p hp
    refine ⟨_, rfl, ?_⟩
    refine ⟨Nat.zero_le _, fun t2 ht2 => ?_⟩
    have npt : p ≠ t2 := fun z => by rw [← z, upd_same] at ht2; cases ht2
    have ht3 : H1 t2 = none := by rw [upd_ne npt.symm] at ht2; exact ht2
    refine ⟨by rw [upd_ne npt]; exact upd_same, [(Sum.inl start, .ref t2)], rfl, by show 1 ≤ 15; decide, q' _ _ (fun a o ha => ?_) ⟨p, rfl, Evl.fresh_back e1 hp, _, upd_same, .cons ⟨t2, rfl, .inl (.inl ?_)⟩ .nil⟩⟩
    · rw [upd_ne (ne_of_none ha hp), upd_ne (ne_of_none ha ht3), upd_ne (ne_of_none ha hp)]
      exact ha
    · rw [upd_ne npt.symm, upd_same]
      rfl
  obtain ⟨d, rfl, fd, hD1⟩ := hv
  refine Evl.q_asgL (xs := [.int start]) (Evl.el_lst (by walk_at "ev") (by show 1 ≤ 100000; decide)) fun q H2 hq0 e2 hq2 => ?_
  refine Evl.q_asg Evl.ev_c fun H3 e3 => ?_
  have fq : H q = none := Evl.fresh_back e1 hq0
  refine q_seq (f_while (fun m σ' H' => ∃ (cs : List (Int × List Int)) (i : Nat) (o6 o7 : Option V), σ' = [some (.ref w), some (.int start), some (.ref l), some (.ref d), some (.ref q), some (.int (i : Int)), o6, o7] ∧ Ex H H' ∧ H' q = some (.lst ((keys cs).map V.int)) ∧ DAt K H' d cs ∧ Tree ts rows start cs ∧ i ≤ cs.length ∧
      (∀ (j : Nat) (a : Int), j < i → (keys cs)[j]? = some a → ∀ s ∈ rows.getD a.toNat [], (stepF ts a s).1 ∈ keys cs) ∧ m = n.toNat - i) (n.toNat) ⟨[(start, [])], 0, _, _, rfl, e1.trans (e2.trans e3), e3 _ _ hq2, (hD1.mono e2).mono e3, .root, Nat.zero_le _, fun j a hj => absurd hj (by omega), by omega⟩ ?_)
  rintro m σ' H' ⟨cs, i, o6, o7, rfl, e, hq, hD, hT, hi, hcl, rfl⟩
  have hlen : cs.length ≤ n.toNat := hT.len g h0
  refine ⟨decide ((i : Int) < ((keys cs).length : Int)), by walk_at "ev", fun hb1 H4 e4 => ?_, fun hb1 H4 e4 => ?_⟩
  · have hlt : i < cs.length := by
      have := of_decide_eq_true hb1
      rw [List.length_map] at this
      omega
    obtain ⟨cur, hcur⟩ : ∃ cur, (keys cs)[i]? = some cur := ⟨(keys cs)[i]'(by rw [List.length_map]; exact hlt), List.getElem?_eq_getElem (by rw [List.length_map]; exact hlt)⟩
    have hcm : cur ∈ keys cs := List.mem_of_getElem? hcur
    obtain ⟨c0, c1⟩ := hT.range g h0 cur hcm
    have hat : atI (keys cs) (i : Int) = some cur := atI_nat hcur
    obtain ⟨pr, hpr⟩ : ∃ p, ps[cur.toNat]? = some p := ⟨ps[cur.toNat]'(by rw [hR.len, g.1]; omega), List.getElem?_eq_getElem (by rw [hR.len, g.1]; omega)⟩
    obtain ⟨vr, hvr, tvr⟩ := hR.lst hpr
    have hpat : atI (ps.map V.ref) cur = some (.ref pr) := by rw [atI_map, atI_of c0 hpr]; rfl
    have hrl : vr.length = (rows.getD cur.toNat []).length := by rw [tvr.length, List.length_map]
    refine ⟨fun σ2 H2 => ∃ (cs : List (Int × List Int)) (o6 o7 : Option V), σ2 = [some (.ref w), some (.int start), some (.ref l), some (.ref d), some (.ref q), some (.int ((i + 1 : Nat) : Int)), o6, o7] ∧ Ex H H2 ∧ H2 q = some (.lst ((keys cs).map V.int)) ∧ DAt K H2 d cs ∧ Tree ts rows start cs ∧ i + 1 ≤ cs.length ∧
      (∀ (j : Nat) (a : Int), j < i + 1 → (keys cs)[j]? = some a → ∀ s ∈ rows.getD a.toNat [], (stepF ts a s).1 ∈ keys cs), ?_, ?_⟩
    · rintro σ2 H2 ⟨cs, o6, o7, rfl, x1, x2, x3, x4, x5, x6⟩
      exact ⟨n.toNat - (i + 1), by omega, cs, i + 1, o6, o7, rfl, x1, x2, x3, x4, x5, x6, rfl⟩
    have e04 : Ex H H4 := e.trans e4
    have hq4 : H4 q = some (.lst ((keys cs).map V.int)) := e4 _ _ hq
    refine q_seq (f_list (a := pr) (xs := vr) (Evl.ev_op (by walk_at "ev") (by walk_at "ev") (Evl.rv_ixL (SqL.of (e04 _ _ hps)) hpat)) (SqL.of (e04 _ _ hvr))
      (fun j σ2 H2 => ∃ (cs2 : List (Int × List Int)) (o6 o7 : Option V), σ2 = [some (.ref w), some (.int start), some (.ref l), some (.ref d), some (.ref q), some (.int (i : Int)), o6, o7] ∧ Ex H H2 ∧ H2 q = some (.lst ((keys cs2).map V.int)) ∧ DAt K H2 d cs2 ∧ Tree ts rows start cs2 ∧ (∃ ext, cs2 = cs ++ ext) ∧
        (∀ (m : Nat) (s : Step), m < j → (rows.getD cur.toNat [])[m]? = some s → (stepF ts cur s).1 ∈ keys cs2))
      (fun H5 e5 => ⟨cs, _, _, rfl, e04.trans e5, e5 _ _ hq4, (hD.mono e4).mono e5, hT, ⟨[], by simp⟩, fun m s hm => absurd hm (by omega)⟩)
      (fun j σ2 H2 _ ⟨_, _, _, _, e5, _⟩ => SqL.of (e5 _ _ hvr)) ?_ ?_)
    · rintro j x σ2 H2 hx ⟨cs2, o6, o7, rfl, e5, hq5, hD5, hT5, ⟨ext, hext⟩, hcl5⟩
      obtain ⟨zz, hz, tz⟩ := (tvr.mono e5).getV hx
      rw [List.getElem?_map] at hz
      cases hsj : (rows.getD cur.toNat [])[j]? with
      | none => rw [hsj] at hz; cases hz
      | some s =>
        rw [hsj] at hz
        cases hz
        have hat5 : atI (keys cs2) (i : Int) = some cur := by
          refine atI_nat ?_
          rw [hext]
          simp only [keys, List.map_append]
          rw [List.getElem?_append_left (by rw [List.length_map]; exact hlt)]
          exact hcur
        have hw5 := hw.mono e5
        have hli : LI K H2 q (keys cs2) := li_of hq5
        refine Evl.q_asg (v := .int (stepF ts cur s).1) (by walk_at "ev") fun H6 e6 => ?_
        obtain ⟨kvs, hk1, hk2⟩ := hD5.mono e6
        have hq6 := e6 _ _ hq5
        have tz6 := tz.mono e6
        refine Evl.s_when (b := !decide ((stepF ts cur s).1 ∈ keys cs2)) (Evl.et_B (ev_dnotinC (Evl.ev_var rfl) (Evl.ev_var rfl) (Rd.of hk1) hk2)) (fun hb2 H7 e7 => ?_) fun hb2 H7 e7 => ?_
        · have hnm : (stepF ts cur s).1 ∉ keys cs2 := by
            intro z
            rw [decide_eq_true z] at hb2
            cases hb2
          have hsm : s ∈ rows.getD cur.toNat [] := List.mem_of_getElem? hsj
          have hcm5 : cur ∈ keys cs2 := by rw [hext]; simp only [keys, List.map_append, List.mem_append]; exact .inl hcm
          have hT6 : Tree ts rows start (cs2 ++ [((stepF ts cur s).1, stepL s)]) := .grow hT5 hcm5 hsm hnm
          have hlen6 := hT6.len g h0
          have hkl := hk2.length
          rw [List.length_append, List.length_singleton] at hlen6
          have hd7 := e7 _ _ hk1
          have hnone : valV kvs (Sum.inl (stepF ts cur s).1) = none := hk2.look.2 (look_none.mpr hnm)
          refine q_dput (v := x) (a := d) (kvs := kvs) (i := (stepF ts cur s).1) (by walk_at "ev") (by walk_at "ev") (by walk_at "ev") hd7 (by omega) fun H8 e8 => ?_
          rw [putK_new _ hnone]
          have hd8 : H8 d = some (.dK kvs) := e8 _ _ hd7
          have hq8 : H8 q = some (.lst ((keys cs2).map V.int)) := e8 _ _ (e7 _ _ hq6)
          have nqd : q ≠ d := ne_of hq8 hd8 (by intro z; cases z)
          have hq9 : (upd H8 d (.dK (kvs ++ [(Sum.inl (stepF ts cur s).1, x)]))) q = some (.lst ((keys cs2).map V.int)) := by rw [upd_ne nqd]; exact hq8
          have x8 : Ex H (upd H8 d (.dK (kvs ++ [(Sum.inl (stepF ts cur s).1, x)]))) := ((e5.trans e6).trans (e7.trans e8)).mut fd
          refine Evl.s_app (l := q) (xs := (keys cs2).map V.int) (v := .int (stepF ts cur s).1) hq9 (by walk_at "ev") (by walk_at "ev") (by rw [List.length_map, List.length_map]; omega) fun H9 e9 => ?_
          have hd9 : H9 d = some (.dK (kvs ++ [(Sum.inl (stepF ts cur s).1, x)])) := e9 _ _ upd_same
          have hq10 := e9 _ _ hq9
          refine ⟨cs2 ++ [((stepF ts cur s).1, stepL s)], _, _, rfl, (x8.trans e9).mut fq, ?_, ⟨_, by rw [upd_ne nqd.symm]; exact hd9, ?_⟩, hT6, ⟨ext ++ [((stepF ts cur s).1, stepL s)], by rw [hext, List.append_assoc]⟩, fun m s2 hm hs2 => ?_⟩
          · rw [upd_same]
            simp [keys]
          · refine DTup.updM hq10 rfl (DTup.mono e9 (DTup.updM hd8 rfl ?_))
            exact (hk2.mono (e7.trans e8)).snoc (tz6.mono (e7.trans e8))
          · simp only [keys, List.map_append, List.mem_append]
            by_cases hmj : m = j
            · subst hmj
              rw [hsj] at hs2
              cases hs2
              exact .inr (by simp)
            · exact .inl (hcl5 m s2 (by omega) hs2)
        · have hm5 : (stepF ts cur s).1 ∈ keys cs2 := by
            have : decide ((stepF ts cur s).1 ∈ keys cs2) = true := by
              cases hc : decide ((stepF ts cur s).1 ∈ keys cs2)
              · rw [hc] at hb2; cases hb2
              · rfl
            exact of_decide_eq_true this
          refine ⟨cs2, _, _, rfl, e5.trans (e6.trans e7), e7 _ _ hq6, (hD5.mono e6).mono e7, hT5, ⟨ext, hext⟩, fun m s2 hm hs2 => ?_⟩
          by_cases hmj : m = j
          · subst hmj
            rw [hsj] at hs2
            cases hs2
            exact hm5
          · exact hcl5 m s2 (by omega) hs2
    · rintro σ2 H2 ⟨cs2, o6, o7, rfl, e5, hq5, hD5, hT5, ⟨ext, hext⟩, hcl5⟩
      dsimp only
      refine Evl.s_aug (a := (i : Int)) (b := 1) rfl (by walk_at "ev") fun H6 e6 => ?_
      refine ⟨cs2, _, _, rfl, e5.trans e6, e6 _ _ hq5, hD5.mono e6, hT5, by rw [hext, List.length_append]; omega, fun j a hj ha s hs => ?_⟩
      have hkeys : keys cs2 = keys cs ++ keys ext := by rw [hext]; simp [keys]
      by_cases hji : j = i
      · subst hji
        rw [hkeys, List.getElem?_append_left (by rw [List.length_map]; exact hlt), hcur] at ha
        cases ha
        obtain ⟨m, hm⟩ := List.mem_iff_getElem?.mp hs
        exact hcl5 m s (by rw [hrl]; exact (List.getElem?_eq_some_iff.mp hm).1) hm
      · rw [hkeys, List.getElem?_append_left (by rw [List.length_map]; omega)] at ha
        have := hcl j a (by omega) ha s hs
        rw [hkeys]
        exact List.mem_append_left _ this
  · dsimp only
    refine Evl.s_ret (v := .ref d) (by walk_at "ev") fun H5 e5 => k _ H5 (e.trans (e4.trans e5)) ⟨d, cs, rfl, fd, (hD.mono e4).mono e5, hT, fun a ha s hs => ?_⟩
    have hge : ¬ (i : Int) < ((keys cs).length : Int) := of_decide_eq_false hb1
    rw [List.length_map] at hge
    obtain ⟨j, hj⟩ := List.mem_iff_getElem?.mp ha
    have hjl := (List.getElem?_eq_some_iff.mp hj).1
    rw [List.length_map] at hjl
    exact hcl j a (by omega) hj s hs

/-! ### way_back -/
inductive Back (ts : List Tie) (cs : List (Int × List Int)) : Int → List Step → Prop
  | stop {k : Int} : cs.lookup k = some [] → Back ts cs k []
  | go {k : Int} {s : Step} {r : List Step} : cs.lookup k = some (stepL s) → Back ts cs (stepF ts k (s.1, -s.2)).1 r → Back ts cs k (s :: r)
abbrev NewLT (K : PySem.W.Frag) (H : Hp) (xss : List (List Int)) (v : V) (H2 : Hp) : Prop := ∃ l vs, v = .ref l ∧ H l = none ∧ H2 l = some (.lst vs) ∧ TupL K H2 vs xss
def sp_way_back (K : PySem.W.Frag) : Sp := fun vs H Q _ => ∃ (w d : Addr) (k n turn : Int) (ts : List Tie) (kvs : List (Key × V)) (cs : List (Int × List Int)) (r : List Step), vs = [.ref w, .ref d, .int k] ∧ WebAt K H w n ts turn ∧ Rd H d (.dK kvs) ∧ DTup K H kvs cs ∧ Back ts cs k r ∧ r.length ≤ 5000 ∧
  RetP (NewLT K H (r.reverse.map stepL)) H Q
theorem ep_way_back {w d : Addr} {k n turn : Int} {ts : List Tie} {kvs : List (Key × V)} {cs : List (Int × List Int)} {r : List Step} (h : EvA tl σ H [.ref w, .ref d, .int k]) (hw : WebAt K H w n ts turn) (hd : Rd H d (.dK kvs)) (hc : DTup K H kvs cs) (hb : Back ts cs k r) (hl : r.length ≤ 5000) :
    EvP (tCall (sp_way_back K) [] E0 tl) σ H (NewLT K H (r.reverse.map stepL)) :=
  ep_call h fun H1 Q e q => ⟨w, d, k, n, turn, ts, kvs, cs, r, rfl, hw.mono e, Evl.ex_rd e hd, hc.mono e, hb, hl, fun v H2 e2 ⟨l, vs, a, b, c⟩ => q v H2 e2 ⟨l, vs, a, Evl.fresh_back e b, c⟩⟩
theorem ep_rev {a : Addr} {vs : List V} {xss : List (List Int)} (ha : Ev ta σ H (.ref a)) (h : SqL K H a vs) (hT : TupL K H vs xss) : EvP (tRevL K ta) σ H (NewLT K H xss.reverse) := fun H1 e Q q =>
  ha H1 e _ fun H2 e2 => ⟨a, vs, rfl, Evl.ex_l (e.trans e2) h, fun p hp => q _ _ (e2.trans (Ex.new hp)) ⟨p, vs.reverse, rfl, Evl.fresh_back (e.trans e2) hp, upd_same, ((hT.mono (e.trans e2)).mono (Ex.new hp)).rev⟩⟩
theorem rd_way_back (vs : List V) (H : Hp) (Q : VK) (E : XK) (h : sp_way_back K vs H Q E) : goal (t_way_back K) ["web", "came", "point", "found", "step"] vs H Q := by
  obtain ⟨w, d, k0, n, turn, ts, kvs, cs, r, rfl, hw, hd, hc, hb, hl, k⟩ := h
  refine Evl.q_asgL (xs := []) (Evl.el_lst (by walk_at "ev") (by show 0 ≤ 100000; decide)) fun f H1 hf e1 hf1 => ?_
  refine q_seq (f_while (fun m σ' H' => ∃ (kk : Int) (r2 done : List Step) (vs : List V) (o4 : Option V), σ' = [some (.ref w), some (.ref d), some (.int kk), some (.ref f), o4] ∧ Ex H H' ∧ H' f = some (.lst vs) ∧ TupL K H' vs (done.map stepL) ∧ Back ts cs kk r2 ∧ r = done ++ r2 ∧ m = r2.length) r.length
    ⟨k0, r, [], [], _, rfl, e1, hf1, .nil, hb, rfl, rfl⟩ ?_)
  rintro m σ' H' ⟨kk, r2, done, us, o4, rfl, e, hfu, hT, hB, hr, rfl⟩
  have hw' := hw.mono e
  have hd' := Evl.ex_rd e hd
  have hc' := hc.mono e
  cases hB with
  | stop hk =>
    refine ⟨false, Evl.et_test (Evl.ev_is (ev_neTup (ei_dget (i := kk) (Evl.ev_var rfl) (Evl.ev_var rfl) hd' hc' hk) (ei_tup eai_nil (by decide))) (by rfl)), (fun z => nomatch z), fun _ H2 e2 => ?_⟩
    dsimp only
    refine s_retP (ep_rev (a := f) (vs := us) (xss := done.map stepL) (by walk_at "ev") (SqL.of (e2 _ _ hfu)) (hT.mono e2)) fun v H3 e3 hv => k v H3 (e.trans (e2.trans e3)) ?_
    obtain ⟨l, ws, a, b, c, c2⟩ := hv
    refine ⟨l, ws, a, Evl.fresh_back (e.trans e2) b, c, ?_⟩
    rw [hr, List.append_nil, List.map_reverse]
    exact c2
  | go hk hB2 =>
    rename_i s r3
    refine ⟨true, Evl.et_test (Evl.ev_is (ev_neTup (ei_dget (i := kk) (Evl.ev_var rfl) (Evl.ev_var rfl) hd' hc' hk) (ei_tup eai_nil (by decide))) (by rw [decide_eq_false (by simp)]; rfl)), fun _ H2 e2 => ?_, fun z => nomatch z⟩
    refine ⟨fun σ2 H2 => ∃ (vs : List V) (o4 : Option V), σ2 = [some (.ref w), some (.ref d), some (.int (stepF ts kk (s.1, -s.2)).1), some (.ref f), o4] ∧ Ex H H2 ∧ H2 f = some (.lst vs) ∧ TupL K H2 vs ((done ++ [s]).map stepL), ?_, ?_⟩
    · rintro σ2 H2 ⟨vs, o4, rfl, x1, x2, x3⟩
      exact ⟨r3.length, by simp, _, r3, done ++ [s], vs, o4, rfl, x1, x2, x3, hB2, by rw [hr]; simp, rfl⟩
    · have hd2 := Evl.ex_rd e2 hd'
      have hc2 := hc'.mono e2
      have hf2 := e2 _ _ hfu
      have hT2 := hT.mono e2
      refine q_asgP (ei_dget (K := K) (i := kk) (Evl.ev_var rfl) (Evl.ev_var rfl) hd2 hc2 hk) fun v H3 e3 hv => ?_
      have hus : us.length ≤ 5000 := by
        have := hT.length
        rw [List.length_map] at this
        rw [hr, List.length_append] at hl
        omega
      refine Evl.q_app (l := f) (xs := us) (v := v) (e3 _ _ hf2) (by walk_at "ev") (by walk_at "ev") (by omega) fun H4 e4 => ?_
      have x4 : Ex H (upd H4 f (.lst (us ++ [v]))) := (e.trans (e2.trans (e3.trans e4))).mut hf
      have hw4 := hw.mono x4
      have hf4 : H4 f = some (.lst us) := e4 _ _ (e3 _ _ hf2)
      have hv4 : TupI K (upd H4 f (.lst (us ++ [v]))) v (stepL s) := (hv.mono e4).updM hf4 rfl
      have hT4 : TupL K (upd H4 f (.lst (us ++ [v]))) (us ++ [v]) ((done ++ [s]).map stepL) := by
        rw [List.map_append]
        exact ((hT2.mono (e3.trans e4)).updM hf4 rfl).snoc hv4
      refine Evl.s_asg (v := .int (stepF ts kk (s.1, -s.2)).1) ?_ fun H5 e5 => ⟨_, _, rfl, x4.trans e5, e5 _ _ upd_same, hT4.mono e5⟩
      exact ev_ixU (ei_stepped (w := w) (p := kk) (s := (s.1, -s.2)) (by walk_at "ev") (by walk_at "ev") (by walk_at "ev") hw4) Evl.ev_c rfl
end G

/-! is_closed, and the answers that hold one list. -/
namespace G
open PySem PySem.Spec PyProof.Rows L2
open Evl (Ex Ev EvL EvU EvT EvA RV RetV)
local macro_rules | `(tactic| walk_at "hp") => `(tactic| first
  | with_reducible assumption
  | ((with_reducible show _ = some (_ : HO)); (with_reducible exact ex_app (by assumption) (by walk_at "hp")))
  | ((with_reducible show TupI _ _ _ _); (with_reducible exact TupI.mono (by assumption) (by walk_at "hp")))
  | ((with_reducible show LT _ _ _ _); (with_reducible exact LT.mono (by assumption) (by walk_at "hp")))
  | ((with_reducible show LI _ _ _ _); (first | (with_reducible exact li_of (by walk_at "hp")) | (with_reducible exact LI.mono (by assumption) (by walk_at "hp"))))
  | ((with_reducible show SqL _ _ _ _); (first | (with_reducible exact SqL.of (by walk_at "hp")) | (with_reducible exact Evl.ex_l (by assumption) (by walk_at "hp"))))
  | ((with_reducible show SqT _ _ _ _); (first | (with_reducible exact SqT.of (by walk_at "hp")) | (with_reducible exact Evl.ex_t (by assumption) (by walk_at "hp"))))
  | ((with_reducible show Rd _ _ _); (first | (with_reducible exact Rd.of (by walk_at "hp")) | (with_reducible exact Evl.ex_rd (by assumption) (by walk_at "hp"))))
  | walk_at "hpf")
local macro_rules | `(tactic| walk_at "at") => `(tactic| first
  | with_reducible assumption
  | with_reducible rfl
  | (refine atI_of ?va ?vb; (case va => omega); (case vb => assumption))
  | walk_at "atf"
  | rfl)
local macro_rules | `(tactic| walk_at "rv") => `(tactic| first
  | with_reducible exact rv_add | with_reducible exact rv_sub | with_reducible exact rv_eqI | with_reducible exact rv_neI | with_reducible exact rv_lt | with_reducible exact rv_le | with_reducible exact rv_gt | with_reducible exact rv_ge
  | with_reducible exact rv_eqB | with_reducible exact rv_neB | with_reducible exact rv_isB | with_reducible exact rv_notB
  | ((with_reducible refine rv_mod ?_); (first | assumption | omega))
  | ((with_reducible refine rv_mul ?_); (first | exact Or.inl ⟨by omega, by omega⟩ | exact Or.inr ⟨by omega, by omega⟩))
  | ((with_reducible refine rv_div ?_); exact ⟨by omega, by omega⟩))
local macro_rules | `(tactic| walk_at "ty") => `(tactic| first
  | with_reducible exact fun _ _ => .base (.int _) | with_reducible exact fun _ _ => .base (.bl _) | with_reducible exact fun _ _ => .base .non | with_reducible exact fun _ _ => .base (.str _)
  | ((with_reducible apply ty_tup); walk_at "hp")
  | ((with_reducible apply ty_lst); walk_at "hp")
  | walk_at "tyf")
local macro_rules | `(tactic| walk_at "ev") => `(tactic| repeat' (first
  | with_reducible exact Evl.ev_c
  | ((with_reducible apply Evl.ev_var); rfl)
  | with_reducible apply ev_neg
  | with_reducible apply ev_ixU
  | walk_at "evf"
  | ((with_reducible apply ev_lenI); (· walk_at "ev"); (· walk_at "hp"))
  | ((with_reducible apply ev_lenT); (· walk_at "ev"); (· walk_at "hp"))
  | ((with_reducible apply ev_lenU); (· walk_at "ev"))
  | with_reducible apply ev_lenSet
  | with_reducible apply ev_chain
  | with_reducible apply ev_isiTy
  | with_reducible apply Evl.ev_andV
  | with_reducible apply Evl.ev_orV
  | with_reducible apply Evl.ev_notV
  | ((with_reducible apply ev_ixI); (· walk_at "ev"); (· walk_at "ev"); (· walk_at "hp"); (· walk_at "at"))
  | with_reducible apply Evl.ev_op
  | ((with_reducible apply evi_of); (· (with_reducible apply Evl.ev_var); rfl); (· walk_at "hp"))
  | with_reducible apply ei_ix
  | with_reducible apply ei_tup
  | with_reducible exact eai_nil
  | with_reducible apply eai_cons
  | with_reducible exact Evl.ea_nil
  | with_reducible apply Evl.ea_cons
  | with_reducible apply Evl.et_test
  | with_reducible apply Evl.et_and
  | with_reducible apply Evl.et_or
  | with_reducible apply Evl.et_not
  | with_reducible apply Evl.et_B
  | walk_at "rv"
  | ((with_reducible show L2.kitB _ _ = _); rfl)
  | ((with_reducible show L2.atI _ _ = _); walk_at "at")
  | ((with_reducible show (_ : Nat) ≤ _); (first | omega | (simp; done) | (simp; omega)))
  | ((with_reducible show _ = true → _); intro _)
  | ((with_reducible show _ = false → _); intro _)
  | ((with_reducible show TupI _ _ _ _); walk_at "hp")
  | ((with_reducible show LT _ _ _ _); walk_at "hp")
  | ((with_reducible show LI _ _ _ _); walk_at "hp")
  | ((with_reducible show SqL _ _ _ _); walk_at "hp")
  | ((with_reducible show SqT _ _ _ _); walk_at "hp")
  | ((with_reducible show Rd _ _ _); walk_at "hp")
  | ((with_reducible show _ = some (_ : HO)); walk_at "hp")
  | walk_at "hpg"
  | walk_at "ty"))

local macro_rules | `(tactic| walk_at "hpf") => `(tactic| ((with_reducible show WebAt _ _ _ _ _ _); (with_reducible exact WebAt.mono (by assumption) (by walk_at "hp"))))
local macro_rules | `(tactic| walk_at "hpg") => `(tactic| ((with_reducible show WebAt _ _ _ _ _ _); walk_at "hp"))
local macro_rules | `(tactic| walk_at "evf") => `(tactic| with_reducible apply ev_points)
local macro_rules | `(tactic| walk_at "evf") => `(tactic| with_reducible apply ev_turn)
local macro_rules | `(tactic| walk_at "evf") => `(tactic| with_reducible apply ev_lenB)
local macro_rules | `(tactic| walk_at "evf") => `(tactic| with_reducible apply ei_bound)
local macro_rules | `(tactic| walk_at "evf") => `(tactic| with_reducible apply ev_is_whole)
local macro_rules | `(tactic| walk_at "evf") => `(tactic| with_reducible apply ev_is_below)
local macro_rules | `(tactic| walk_at "evf") => `(tactic| with_reducible apply ev_is_tie)
local macro_rules | `(tactic| walk_at "evf") => `(tactic| with_reducible apply ei_stepped)
variable {K : PySem.W.Frag} {σ : L2.St} {H H' H1 : Hp} {ta tb tc te : TE} {t u : TT} {tl : TA} {v x y z : V}

theorem inV_int (a : Int) : ∀ ns : List Int, inV (.int a) (ns.map V.int) = decide (a ∈ ns)
  | [] => rfl
  | n :: ns => by
    have ih := inV_int a ns
    have e : inV (.int a) ((n :: ns).map V.int) = (eqV (.int n) (.int a) || inV (.int a) (ns.map V.int)) := by
      simp [inV]
    rw [e, ih, Bool.eq_iff_iff]
    simp [eqV]
    constructor <;> (rintro (h | h) <;> simp [h])
theorem flat_ints (ns : List Int) : (ns.map V.int).all flatV = true := by
  rw [List.all_eq_true]
  intro b hb
  obtain ⟨n, _, rfl⟩ := List.mem_map.mp hb
  rfl
theorem ev_inI {a : Addr} {ns : List Int} {i : Int} (hb : Ev tb σ H (.int i)) (ha : Ev ta σ H (.ref a)) (h : LI K H a ns) : Ev (tOp (rIn K false) tb ta) σ H (.bl (decide (i ∈ ns))) := by
  rw [← inV_int]
  exact Evl.ev_op hb ha (Evl.rv_isL h rfl (flat_ints ns))
theorem ev_notInI {a : Addr} {ns : List Int} {i : Int} (hb : Ev tb σ H (.int i)) (ha : Ev ta σ H (.ref a)) (h : LI K H a ns) : Ev (tOp (rIn K true) tb ta) σ H (.bl (!decide (i ∈ ns))) := by
  rw [← inV_int]
  exact Evl.ev_op hb ha (Evl.rv_niL h rfl (flat_ints ns))

/-! ### is_closed -/
def risingF (n last : Int) : List Int → Bool
  | [] => true
  | p :: r => decide ((0 ≤ p ∧ p < n) ∧ last < p) && risingF n p r
def allT (f : Nat → Tie → Bool) : Nat → List Tie → Bool
  | _, [] => true
  | i, t :: r => f i t && allT f (i + 1) r
def sideF (pts : List Int) (skip : Int) (i : Nat) (t : Tie) : Bool := !(decide ((i : Int) ≠ skip) && !(decide (t.1 ∈ pts) == decide (t.2.1 ∈ pts)))
def closedF (n : Int) (ts : List Tie) (pts : List Int) (skip : Int) : Bool := risingF n (-1) pts && allT (sideF pts skip) 0 ts
def sp_is_closed (K : PySem.W.Frag) : Sp := fun vs H Q _ => ∃ (w l : Addr) (skip n turn : Int) (ts : List Tie) (pts : List Int), vs = [.ref w, .ref l, .int skip] ∧ WebAt K H w n ts turn ∧ LI K H l pts ∧ pts.length ≤ 5000 ∧ RetV (.bl (closedF n ts pts skip)) H Q
theorem ev_is_closed {w l : Addr} {skip n turn : Int} {ts : List Tie} {pts : List Int} (h : EvA tl σ H [.ref w, .ref l, .int skip]) (hw : WebAt K H w n ts turn) (hp : LI K H l pts) (hl : pts.length ≤ 5000) : Ev (tCall (sp_is_closed K) [] E0 tl) σ H (.bl (closedF n ts pts skip)) :=
  ev_call h fun H1 Q e k => ⟨w, l, skip, n, turn, ts, pts, rfl, hw.mono e, hp.mono e, hl, k⟩
theorem kmem {kvs : List (Key × V)} {ks : List Int} (h : kvs.map (·.1) = ks.map Sum.inl) (i : Int) : (valV kvs (Sum.inl i)).isSome = decide (i ∈ ks) := by
  rw [← valV_any, Bool.eq_iff_iff, List.any_eq_true, decide_eq_true_iff]
  constructor
  · rintro ⟨kv, hm, he⟩
    have e2 : kv.1 = Sum.inl i := of_decide_eq_true he
    have : kv.1 ∈ kvs.map (·.1) := List.mem_map.mpr ⟨kv, hm, rfl⟩
    rw [h, e2] at this
    obtain ⟨j, hj, e⟩ := List.mem_map.mp this
    cases e
    exact hj
  · intro hi
    have : (Sum.inl i : Key) ∈ kvs.map (·.1) := by rw [h]; exact List.mem_map.mpr ⟨i, hi, rfl⟩
    obtain ⟨kv, hm, e⟩ := List.mem_map.mp this
    exact ⟨kv, hm, decide_eq_true e⟩
theorem ev_dinK {a : Addr} {kvs : List (Key × V)} {ks : List Int} {i : Int} (ha : Ev ta σ H (.int i)) (hb : Ev tb σ H (.ref a)) (h : Rd H a (.dK kvs)) (hk : kvs.map (·.1) = ks.map Sum.inl) : Ev (tDIn ta tb) σ H (.bl (decide (i ∈ ks))) := by
  have e := ev_din ha hb h
  rw [kmem hk] at e
  exact e
theorem allT_drop {f : Nat → Tie → Bool} {ts : List Tie} {i : Nat} {t : Tie} (h : ts[i]? = some t) : allT f i (ts.drop i) = (f i t && allT f (i + 1) (ts.drop (i + 1))) := by
  obtain ⟨hl, e⟩ := List.getElem?_eq_some_iff.mp h
  rw [List.drop_eq_getElem_cons hl, e]
  rfl
def t_is_closed (K : PySem.W.Frag) : TS :=
 (tSeq (tAsg tDNewK (gName 3))
 (tSeq (tAsg (tUn rNegI (tC (.int 1))) (gName 4))
 (tSeq (tFor (iList K (tVar 1)) (gName 5) (tSeq (tIfS (tOr (tNot (tB (tCall (sp_is_below K) [] E0 (tCons (tVar 5) (tCons (tFld K (tVar 0) "points") tNil))))) (tTest (tOp rLeI (tVar 5) (tVar 4)))) (tRet (tC (.bl false))) tNext)
 (tSeq (sDPut (tVar 3) (tVar 5) (tC (.bl true)))
 (tAsg (tVar 5) (gName 4)))))
 (tSeq (tFor (iEnum K (tCons (tFld K (tVar 0) "bound") tNil)) (gTup K 2 (gCons (gName 6) (gCons (gName 7) gNil))) (tIfS (tAnd (tTest (tOp rNe (tVar 6) (tVar 2))) (tTest (tOp rNe (tDIn (tOp (rIxT K) (tVar 7) (tC (.int 0))) (tVar 3)) (tDIn (tOp (rIxT K) (tVar 7) (tC (.int 1))) (tVar 3))))) (tRet (tC (.bl false))) tNext))
 (tRet (tC (.bl true)))))))
theorem rd_is_closed (vs : List V) (H : Hp) (Q : VK) (E : XK) (h : sp_is_closed K vs H Q E) : goal (t_is_closed K) ["web", "points", "skipped", "inside", "last", "point", "at", "tie"] vs H Q := by
  obtain ⟨w, l, skip, n, turn, ts, pts, rfl, hw, hp, hl, k⟩ := h
  refine q_asgP (P := fun v H2 => ∃ d, v = .ref d ∧ H d = none ∧ H2 d = some (.dK [])) (fun H1 e1 Q' q' => fun p hp => q' _ _ (Ex.new hp) ⟨p, rfl, Evl.fresh_back e1 hp, upd_same⟩) fun v H1 e1 hv => ?_
  obtain ⟨d, rfl, fd, hd1⟩ := hv
  refine Evl.q_asg (v := .int (-1)) (by walk_at "ev") fun H2 e2 => ?_
  refine q_seq (f_list (a := l) (xs := pts.map V.int) (by walk_at "ev") ((hp.mono e1).mono e2)
    (fun i σ' H' => ∃ (last : Int) (kvs : List (Key × V)) (o5 o6 o7 : Option V), σ' = [some (.ref w), some (.ref l), some (.int skip), some (.ref d), some (.int last), o5, o6, o7] ∧ Ex H H' ∧ H' d = some (.dK kvs) ∧ kvs.map (·.1) = (pts.take i).map Sum.inl ∧ (∀ a ∈ pts.take i, a ≤ last) ∧ risingF n (-1) pts = risingF n last (pts.drop i))
    (fun H3 e3 => ⟨-1, [], _, _, _, rfl, e1.trans (e2.trans e3), e3 _ _ (e2 _ _ hd1), rfl, by simp, rfl⟩) (fun i σ' H' _ ⟨_, _, _, _, _, _, e, _⟩ => hp.mono e) ?_ ?_)
  · rintro i x σ' H' hx ⟨last, kvs, o5, o6, o7, rfl, e, hd, hk, hmax, hr⟩
    rw [List.getElem?_map] at hx
    cases hpi : pts[i]? with
    | none => rw [hpi] at hx; cases hx
    | some p =>
      rw [hpi] at hx
      cases hx
      obtain ⟨hil, hge⟩ := List.getElem?_eq_some_iff.mp hpi
      have hdr : pts.drop i = p :: pts.drop (i + 1) := by rw [List.drop_eq_getElem_cons hil, hge]
      have htk : pts.take (i + 1) = pts.take i ++ [p] := by rw [List.take_add_one, hpi]; rfl
      rw [hdr, show risingF n last (p :: pts.drop (i + 1)) = (decide ((0 ≤ p ∧ p < n) ∧ last < p) && risingF n p (pts.drop (i + 1))) from rfl] at hr
      refine Evl.q_when (by walk_at "ev") (fun hb H3 e3 => ?_) fun hb H3 e3 => ?_
      · refine Evl.s_ret Evl.ev_c fun H4 e4 => ?_
        have hf : closedF n ts pts skip = false := by
          unfold closedF
          rw [hr]
          simp at hb
          have : decide ((0 ≤ p ∧ p < n) ∧ last < p) = false := decide_eq_false (by omega)
          rw [this]
          rfl
        rw [hf] at k
        exact k H4 (e.trans (e3.trans e4))
      · have hin : (0 ≤ p ∧ p < n) ∧ last < p := by simp at hb; omega
        rw [decide_eq_true hin, Bool.true_and] at hr
        have hnone : valV kvs (Sum.inl p) = none := by
          have q := kmem hk p
          have : p ∉ pts.take i := fun z => by have := hmax p z; omega
          rw [decide_eq_false this] at q
          cases hv : valV kvs (Sum.inl p : Key) with
          | none => rfl
          | some _ => rw [hv] at q; cases q
        have hkl : kvs.length ≤ 5000 := by
          have := congrArg List.length hk
          rw [List.length_map, List.length_map, List.length_take] at this
          omega
        have hd3 := e3 _ _ hd
        refine q_dput (v := .bl true) (a := d) (kvs := kvs) (i := p) Evl.ev_c (by walk_at "ev") (by walk_at "ev") hd3 (by omega) fun H4 e4 => ?_
        rw [putK_new _ hnone]
        refine Evl.s_asg (v := .int p) (by walk_at "ev") fun H5 e5 => ⟨p, kvs ++ [(Sum.inl p, .bl true)], _, _, _, rfl, ((e.trans (e3.trans e4)).mut fd).trans e5, e5 _ _ upd_same, ?_, fun a ha => ?_, hr⟩
        · rw [List.map_append, hk, htk, List.map_append]
          rfl
        · rw [htk] at ha
          rcases List.mem_append.mp ha with ha | ha
          · have := hmax a ha; omega
          · simp at ha; omega
  · rintro σ' H' ⟨last, kvs, o5, o6, o7, rfl, e, hd, hk, hmax, hr⟩
    rw [List.length_map] at hk hr
    rw [List.take_length] at hk
    rw [List.drop_length] at hr
    have hr2 : risingF n (-1) pts = true := hr
    obtain ⟨b, ⟨us, hq, hT⟩, fb⟩ := (hw.mono e).bound
    have hul : us.length = ts.length := by rw [hT.length, List.length_map]
    dsimp only
    refine q_seq (f_enum (a := b) (xs := us) (fb (Evl.ev_var rfl)) hq
      (fun i σ2 H2 => ∃ (o5 o6 o7 : Option V), σ2 = [some (.ref w), some (.ref l), some (.int skip), some (.ref d), some (.int last), o5, o6, o7] ∧ Ex H' H2 ∧ allT (sideF pts skip) 0 ts = allT (sideF pts skip) i (ts.drop i))
      (fun H2 e2 => ⟨_, _, _, rfl, e2, rfl⟩) (fun i σ2 H2 _ ⟨_, _, _, _, e2, _⟩ => Evl.ex_l e2 hq) ?_ ?_)
    · rintro i x σ2 H2 H3 hx ⟨o5, o6, o7, rfl, e2, ha⟩ e3
      obtain ⟨zz, hz, tz⟩ := (hT.mono (e2.trans e3)).getV hx
      rw [List.getElem?_map] at hz
      cases hti : ts[i]? with
      | none => rw [hti] at hz; cases hz
      | some t =>
        rw [hti] at hz
        cases hz
        rw [allT_drop hti] at ha
        have hd3 := (e2.trans e3) _ _ hd
        refine Evl.s_when (b := !sideF pts skip i t) (Evl.et_is (a := !decide ((i : Int) = skip) && !(decide (t.1 ∈ pts) == decide (t.2.1 ∈ pts))) (Evl.et_and (by walk_at "ev") fun _ => Evl.et_test (Evl.ev_op (ev_dinK (by walk_at "ev") (by walk_at "ev") (Rd.of hd3) hk) (ev_dinK (by walk_at "ev") (by walk_at "ev") (Rd.of hd3) hk) rv_neB)) (by simp [sideF])) (fun hb H4 e4 => ?_) fun hb H4 e4 => ?_
        · refine Evl.s_ret Evl.ev_c fun H5 e5 => ?_
          have hs : sideF pts skip i t = false := by simpa using hb
          have hf : closedF n ts pts skip = false := by
            unfold closedF
            rw [ha, hs]
            simp
          rw [hf] at k
          exact k H5 (e.trans (e2.trans (e3.trans (e4.trans e5))))
        · have hs : sideF pts skip i t = true := by simpa using hb
          rw [hs, Bool.true_and] at ha
          exact ⟨_, _, _, rfl, e2.trans (e3.trans e4), ha⟩
    · rintro σ2 H2 ⟨o5, o6, o7, rfl, e2, ha⟩
      rw [hul, List.drop_length] at ha
      have ha2 : allT (sideF pts skip) 0 ts = true := ha
      dsimp only
      refine Evl.s_ret Evl.ev_c fun H5 e5 => ?_
      have hf : closedF n ts pts skip = true := by
        unfold closedF
        rw [hr2, ha2]
        rfl
      rw [hf] at k
      exact k H5 (e.trans (e2.trans e5))

/-! ### answers that hold one list -/
structure OneTop (K : PySem.W.Frag) (C f : Str) : Prop where
  cl : Cls K (ga K C)
  no : NoAttr K (ga K C) f
/-- an instance of C at p with one field f, the list at l -/
def One (K : PySem.W.Frag) (H : Hp) (C f : Str) (p l : Addr) : Prop := OneTop K C f ∧ ∃ dx, H p = some (.ins (ga K C) dx [(f, V.ref l)])
theorem One.mono {C f : Str} {p l : Addr} (e : Ex H H') (h : One K H C f p l) : One K H' C f p l := by
  obtain ⟨T, dx, a⟩ := h
  exact ⟨T, dx, e _ _ a⟩
theorem ev_one {C f : Str} {p l : Addr} (ha : Ev ta σ H (.ref p)) (h : One K H C f p l) : Ev (tFld K ta f) σ H (.ref l) := by
  obtain ⟨T, dx, a⟩ := h
  exact ev_fld ha a T.cl T.no (by simp)
def sp_one_init (C f : Str) (K : PySem.W.Frag) : Sp := fun vs H Q _ => ∃ (p l dx : Addr) (xs : List V), vs = [.ref p, .ref l] ∧ OneTop K C f ∧ H p = some (.ins (ga K C) dx []) ∧ SqL K H l xs ∧
  ∀ l2 H', ExBut p H H' → H l2 = none → l2 ≠ p → H' p = some (.ins (ga K C) dx [(f, V.ref l2)]) → H' l2 = some (.lst xs) → Q .non H'
def t_one_init (f : Str) (K : PySem.W.Frag) : TS := sFld K (tVar 0) (tCB (rListS K) (tCons (tVar 1) tNil)) f
theorem rd_one_init {C f : Str} {N : List Str} {o : List (Option V)} (vs : List V) (H : Hp) (Q : VK) (E : XK) (h : sp_one_init C f K vs H Q E) (hN : N.length = 2) : goal (t_one_init f K) N vs H Q := by
  obtain ⟨p, l, dx, xs, rfl, T, hp, hl, k⟩ := h
  obtain ⟨a, b, rfl⟩ : ∃ a b, N = [a, b] := by
    match N, hN with
    | [a, b], _ => exact ⟨a, b, rfl⟩
  refine s_fldP (a := p) (ep_list (by walk_at "ev") hl) (by walk_at "ev") hp T.cl T.no (by show 0 < 1000; decide) fun v H1 H2 e1 hv e2 => ?_
  obtain ⟨l2, rfl, f2, h2⟩ := hv
  have ne : l2 ≠ p := fun z => by rw [z, hp] at f2; cases f2
  refine k l2 _ ((e1.but.trans e2.but).trans upd_but) f2 ne upd_same ?_
  rw [upd_ne ne]
  exact e2 _ _ h2
/-- C(xs) made: a new instance, a new list -/
theorem ep_one {C f : Str} {B : List V → Hp → Prop} (bm : ∀ xs H1 H2, Ex H1 H2 → B xs H1 → B xs H2) (T : OneTop K C f) (h : EvP te σ H (fun v H1 => ∃ l xs, v = .ref l ∧ SqL K H1 l xs ∧ B xs H1)) :
    EvP (tMake (ga K C) (sp_one_init C f K) [] E0 (tCons te tNil)) σ H (fun v H2 => ∃ p l xs, v = .ref p ∧ H p = none ∧ H l = none ∧ l ≠ p ∧ One K H2 C f p l ∧ H2 l = some (.lst xs) ∧ B xs H2) := fun H1 e Q q => h H1 e _ fun v H2 e2 hv => by
  obtain ⟨l, xs, rfl, hl, hB⟩ := hv
  intro x dx hx hdx ne
  have big : Ex H H2 := e.trans e2
  have ex1 : Ex H2 (upd (upd H2 dx (.own x)) x (.ins (ga K C) dx [])) := (Ex.new hdx).trans (Ex.new (by rw [upd_ne ne.symm]; exact hx))
  refine ⟨x, l, dx, xs, rfl, T, upd_same, Evl.ex_l ex1 hl, fun l2 H3 eb f2 n2 hp3 hl3 => ⟨rfl, ?_⟩⟩
  have e23 : Ex H2 H3 := fun a o ha => eb a o (fun z => by rw [z, hx] at ha; cases ha) (ex1 a o ha)
  exact q _ H3 (e2.trans e23) ⟨x, l2, xs, rfl, Evl.fresh_back big hx, Evl.fresh_back big (Evl.fresh_back ex1 f2), n2, ⟨T, dx, hp3⟩, hl3, bm _ _ _ e23 hB⟩
end G

/-! Plain laws: what is come to from a point, and the ways there. -/
namespace G
open PySem L2

/-! ### steps beside a point -/
theorem setApp_mem {rows : List (List Step)} {a : Int} {s z : Step} {j : Nat} (ha : a.toNat < rows.length) : z ∈ (setApp rows a s).getD j [] ↔ z ∈ rows.getD j [] ∨ (z = s ∧ j = a.toNat) := by
  unfold setApp
  rw [List.getD_eq_getElem?_getD, List.getElem?_set]
  by_cases h : a.toNat = j
  · subst h
    rw [if_pos rfl, if_pos ha]
    simp
  · rw [if_neg h, ← List.getD_eq_getElem?_getD]
    constructor
    · exact .inl
    · rintro (q | ⟨_, q⟩)
      · exact q
      · exact absurd q.symm h
def Beside (ok : OkT) (ts : List Tie) (k : Nat) (j : Nat) (z : Step) : Prop :=
  ∃ (i : Nat) (t : Tie), i < k ∧ ts[i]? = some t ∧ ok i t = true ∧ ((z = ((i : Int), 1) ∧ j = t.1.toNat) ∨ (z = ((i : Int), -1) ∧ j = t.2.1.toNat))
theorem rowsUp_mem {ok : OkT} {n : Int} {ts : List Tie} (hv : Valid n ts) (j : Nat) (z : Step) : ∀ k, z ∈ (rowsUp ok n ts k).getD j [] ↔ Beside ok ts k j z
  | 0 => by
    unfold rowsUp Beside
    rw [List.getD_eq_getElem?_getD, List.getElem?_replicate]
    constructor
    · intro h
      split at h <;> simp at h
    · rintro ⟨i, t, h, _⟩
      omega
  | k + 1 => by
    have ih := rowsUp_mem (ok := ok) hv j z k
    unfold rowsUp
    cases ht : ts[k]? with
    | none =>
      show z ∈ (rowsUp ok n ts k).getD j [] ↔ _
      rw [ih]
      constructor
      · rintro ⟨i, t, h1, h2⟩
        exact ⟨i, t, by omega, h2⟩
      · rintro ⟨i, t, h1, h2, h3⟩
        refine ⟨i, t, ?_, h2, h3⟩
        by_cases e : i = k
        · subst e
          rw [ht] at h2
          cases h2
        · omega
    | some t =>
      show z ∈ (addT ok k t (rowsUp ok n ts k)).getD j [] ↔ _
      obtain ⟨v1, v2, v3⟩ := hv t (List.mem_of_getElem? ht)
      unfold addT
      by_cases hk : ok k t = true
      · rw [if_pos hk, setApp_mem (by rw [setApp_len, rowsUp_len]; omega), setApp_mem (by rw [rowsUp_len]; omega), ih]
        constructor
        · rintro ((⟨i, u, h1, h2⟩ | ⟨h1, h2⟩) | ⟨h1, h2⟩)
          · exact ⟨i, u, by omega, h2⟩
          · exact ⟨k, t, by omega, ht, hk, .inl ⟨h1, h2⟩⟩
          · exact ⟨k, t, by omega, ht, hk, .inr ⟨h1, h2⟩⟩
        · rintro ⟨i, u, h1, h2, h3, h4⟩
          by_cases e : i = k
          · subst e
            rw [ht] at h2
            cases h2
            rcases h4 with h4 | h4
            · exact .inl (.inr h4)
            · exact .inr h4
          · exact .inl (.inl ⟨i, u, by omega, h2, h3, h4⟩)
      · rw [if_neg hk, ih]
        constructor
        · rintro ⟨i, u, h1, h2⟩
          exact ⟨i, u, by omega, h2⟩
        · rintro ⟨i, u, h1, h2, h3, h4⟩
          refine ⟨i, u, ?_, h2, h3, h4⟩
          by_cases e : i = k
          · subst e
            rw [ht] at h2
            cases h2
            exact absurd h3 hk
          · omega
theorem stepF_fwd {ts : List Tie} {i : Nat} {t : Tie} (h : ts[i]? = some t) : stepF ts t.1 ((i : Int), 1) = (t.2.1, t.2.2) := by
  have hl := (List.getElem?_eq_some_iff.mp h).1
  unfold stepF
  rw [if_pos (by constructor <;> (show _ ; simp) <;> omega)]
  simp [h]
theorem stepF_back {ts : List Tie} {i : Nat} {t : Tie} (h : ts[i]? = some t) : stepF ts t.2.1 ((i : Int), -1) = (t.1, -t.2.2) := by
  have hl := (List.getElem?_eq_some_iff.mp h).1
  unfold stepF
  rw [if_pos (by constructor <;> (show _ ; simp) <;> omega)]
  simp [h]
/-- what is known of a step beside a point -/
structure StepOf (ok : OkT) (ts : List Tie) (n a : Int) (s : Step) (b : Int) : Prop where
  to : (stepF ts a s).1 = b
  back : (stepF ts b (s.1, -s.2)).1 = a
  lo : 0 ≤ b
  hi : b < n
  tie : ∃ (i : Nat) (t : Tie), ts[i]? = some t ∧ ok i t = true ∧ s.1 = (i : Int) ∧ ((s.2 = 1 ∧ t.1 = a ∧ t.2.1 = b) ∨ (s.2 = -1 ∧ t.2.1 = a ∧ t.1 = b))
theorem rows_step {ok : OkT} {n : Int} {ts : List Tie} (hv : Valid n ts) {a : Int} (h0 : 0 ≤ a) {s : Step} (h : s ∈ (rowsUp ok n ts ts.length).getD a.toNat []) : ∃ b, StepOf ok ts n a s b := by
  obtain ⟨i, t, h1, h2, h3, h4⟩ := (rowsUp_mem hv _ _ _).mp h
  obtain ⟨v1, v2, v3⟩ := hv t (List.mem_of_getElem? h2)
  rcases h4 with ⟨rfl, e⟩ | ⟨rfl, e⟩
  · have ea : a = t.1 := by omega
    subst ea
    exact ⟨t.2.1, by rw [stepF_fwd h2], by show (stepF ts t.2.1 ((i : Int), -1)).1 = _; rw [stepF_back h2], v2.1, v2.2, i, t, h2, h3, rfl, .inl ⟨rfl, rfl, rfl⟩⟩
  · have ea : a = t.2.1 := by omega
    subst ea
    refine ⟨t.1, by rw [stepF_back h2], ?_, v1.1, v1.2, i, t, h2, h3, rfl, .inr ⟨rfl, rfl, rfl⟩⟩
    show (stepF ts t.1 ((i : Int), - -1)).1 = _
    rw [show (- -1 : Int) = 1 from rfl, stepF_fwd h2]
theorem rows_of {ok : OkT} {n : Int} {ts : List Tie} (hv : Valid n ts) {i : Nat} {t : Tie} (h : ts[i]? = some t) (hk : ok i t = true) :
    ((i : Int), 1) ∈ (rowsUp ok n ts ts.length).getD t.1.toNat [] ∧ ((i : Int), -1) ∈ (rowsUp ok n ts ts.length).getD t.2.1.toNat [] := by
  have hl := (List.getElem?_eq_some_iff.mp h).1
  exact ⟨(rowsUp_mem hv _ _ _).mpr ⟨i, t, hl, h, hk, .inl ⟨rfl, rfl⟩⟩, (rowsUp_mem hv _ _ _).mpr ⟨i, t, hl, h, hk, .inr ⟨rfl, rfl⟩⟩⟩
theorem rows_good {ok : OkT} {n : Int} {ts : List Tie} (hv : Valid n ts) : GoodR ts n (rowsUp ok n ts ts.length) := by
  refine ⟨rowsUp_len .., fun a h0 h1 s hs => ?_⟩
  obtain ⟨b, q⟩ := rows_step hv h0 hs
  rw [q.to]
  exact ⟨q.lo, q.hi⟩

/-! ### walks -/
theorem walkA_snoc {ts : List Tie} {s : Step} : ∀ {ss : List Step} {pre : List Int} {p c : Int} {ps : List Int} {q d : Int}, walkA ts pre p c ss = some (ps ++ [q], d) → 0 ≤ (stepF ts q s).1 →
    walkA ts pre p c (ss ++ [s]) = some (ps ++ [q] ++ [(stepF ts q s).1], d + (stepF ts q s).2)
  | [], pre, p, c, ps, q, d, h, h0 => by
    unfold walkA at h
    obtain ⟨e1, e2⟩ := Prod.mk.inj (Option.some.inj h)
    obtain ⟨e3, e4⟩ := List.append_inj' e1 rfl
    cases e4
    subst e3 e2
    show (if (stepF ts p s).1 < 0 then none else walkA ts (pre ++ [p]) (stepF ts p s).1 (c + (stepF ts p s).2) []) = _
    rw [if_neg (by omega)]
    rfl
  | r :: ss, pre, p, c, ps, q, d, h, h0 => by
    unfold walkA at h
    show (if (stepF ts p r).1 < 0 then none else walkA ts (pre ++ [p]) (stepF ts p r).1 (c + (stepF ts p r).2) (ss ++ [s])) = _
    split at h
    · cases h
    · rename_i hn
      rw [if_neg hn]
      exact walkA_snoc h h0
theorem walkF_snoc {ts : List Tie} {s : Step} {ss : List Step} {p : Int} {ps : List Int} {q d : Int} (h : walkF ts p ss = some (ps, d)) (hq : ps.getLast? = some q) (h0 : 0 ≤ (stepF ts q s).1) :
    walkF ts p (ss ++ [s]) = some (ps ++ [(stepF ts q s).1], d + (stepF ts q s).2) := by
  obtain ⟨ys, rfl⟩ := List.getLast?_eq_some_iff.mp hq
  exact walkA_snoc h h0

/-! ### the tree's ways -/
theorem look_grow {cs : List (Int × List Int)} {k j : Int} {x y : List Int} (h : cs.lookup k = some x) : (cs ++ [(j, y)]).lookup k = some x := by
  rw [look_app, h]
  rfl
theorem Back.grow {ts : List Tie} {cs : List (Int × List Int)} {k j : Int} {r : List Step} {y : List Int} (h : Back ts cs k r) : Back ts (cs ++ [(j, y)]) k r := by
  induction h with
  | stop h => exact .stop (look_grow h)
  | go h _ ih => exact .go (look_grow h) ih
structure PathTo (ok : OkT) (ts : List Tie) (n start : Int) (cs : List (Int × List Int)) (k : Int) (r : List Step) (ps : List Int) (c : Int) : Prop where
  back : Back ts cs k r
  walk : walkF ts start r.reverse = some (ps, c)
  last : ps.getLast? = some k
  nd : ps.Nodup
  sub : ∀ p ∈ ps, p ∈ keys cs
  len : r.length < cs.length
  ok_ : ∀ s ∈ r, ∃ (i : Nat) (t : Tie), ts[i]? = some t ∧ ok i t = true ∧ s.1 = (i : Int)
theorem tree_path {ok : OkT} {ts : List Tie} {n start : Int} {cs : List (Int × List Int)} (hv : Valid n ts) (h0 : 0 ≤ start ∧ start < n) (h : Tree ts (rowsUp ok n ts ts.length) start cs) : ∀ k ∈ keys cs, ∃ r ps c, PathTo ok ts n start cs k r ps c := by
  have g := rows_good (ok := ok) hv
  induction h with
  | root =>
    intro k hk
    simp [keys] at hk
    subst hk
    exact ⟨[], [k], 0, .stop (by simp), rfl, rfl, by simp, by simp [keys], by simp, by simp⟩
  | grow h ha hs hn ih =>
    rename_i cs a s
    intro k hk
    simp only [keys, List.map_append, List.mem_append] at hk
    have hr := h.range g h0
    rcases hk with hk | hk
    · obtain ⟨r, ps, c, q⟩ := ih k hk
      exact ⟨r, ps, c, q.back.grow, q.walk, q.last, q.nd, fun p hp => by simp only [keys, List.map_append, List.mem_append]; exact .inl (q.sub p hp), by have := q.len; simp; omega, q.ok_⟩
    · simp at hk
      subst hk
      obtain ⟨b, sb⟩ := rows_step hv (hr a ha).1 hs
      obtain ⟨r, ps, c, q⟩ := ih a ha
      have e1 := sb.to
      have hw := walkF_snoc (s := s) q.walk q.last (by rw [e1]; exact sb.lo)
      refine ⟨s :: r, ps ++ [(stepF ts a s).1], c + (stepF ts a s).2, .go (s := s) ?_ ?_, ?_, by simp, ?_, ?_, by have := q.len; simp; omega, ?_⟩
      · rw [look_app]
        have : cs.lookup (stepF ts a s).1 = none := look_none.mpr hn
        rw [this]
        simp
      · rw [e1, sb.back]
        exact q.back.grow
      · rw [List.reverse_cons]
        exact hw
      · rw [List.nodup_append]
        refine ⟨q.nd, by simp, fun x hx y hy => ?_⟩
        simp at hy
        subst hy
        exact fun z => hn (z ▸ q.sub x hx)
      · intro p hp
        simp only [keys, List.map_append, List.mem_append]
        rcases List.mem_append.mp hp with hp | hp
        · exact .inl (q.sub p hp)
        · simp at hp
          subst hp
          exact .inr (by simp)
      · intro z hz
        rcases List.mem_cons.mp hz with rfl | hz
        · obtain ⟨i, t, h1, h2, h3, _⟩ := sb.tie
          exact ⟨i, t, h1, h2, h3⟩
        · exact q.ok_ z hz
theorem ucount_nodup {ps : List Int} (h : ps.Nodup) : ucount ps = ps.length := by
  unfold ucount
  rw [RZ.firstMet_nodup h ps.length (Nat.le_refl _), List.take_length]
theorem path_straight {ok : OkT} {ts : List Tie} {n start k c : Int} {cs : List (Int × List Int)} {r : List Step} {ps : List Int} (h : PathTo ok ts n start cs k r ps c) : straightF ts start r.reverse k = true := by
  unfold straightF
  rw [h.walk]
  show (decide (ps.getLast? = some k) && decide (ucount ps = ps.length)) = true
  rw [h.last, ucount_nodup h.nd]
  simp
/-- what is come to is closed -/
theorem reach_side {ok : OkT} {ts : List Tie} {n start : Int} {cs : List (Int × List Int)} (hv : Valid n ts) (h : Reach ts (rowsUp ok n ts ts.length) start cs) {i : Nat} {t : Tie} (ht : ts[i]? = some t) (hk : ok i t = true) : t.1 ∈ keys cs ↔ t.2.1 ∈ keys cs := by
  obtain ⟨r1, r2⟩ := rows_of hv ht hk
  constructor
  · intro q
    have := h.2 _ q _ r1
    rw [stepF_fwd ht] at this
    exact this
  · intro q
    have := h.2 _ q _ r2
    rw [stepF_back ht] at this
    exact this
theorem rising_of {n last : Int} : ∀ {ps : List Int}, ps.Pairwise (· < ·) → (∀ p ∈ ps, 0 ≤ p ∧ p < n) → (∀ p ∈ ps, last < p) → risingF n last ps = true
  | [], _, _, _ => rfl
  | p :: r, h, h1, h2 => by
    have h3 := h1 p List.mem_cons_self
    have h4 := h2 p List.mem_cons_self
    obtain ⟨a, b⟩ := List.pairwise_cons.mp h
    unfold risingF
    rw [rising_of b (fun q hq => h1 q (List.mem_cons_of_mem _ hq)) (fun q hq => a q hq), decide_eq_true ⟨h3, h4⟩]
    rfl
theorem allT_of {f : Nat → Tie → Bool} : ∀ {ts : List Tie} {i : Nat}, (∀ j t, ts[j]? = some t → f (i + j) t = true) → allT f i ts = true
  | [], _, _ => rfl
  | t :: r, i, h => by
    unfold allT
    rw [show f i t = true from h 0 t rfl, allT_of (fun j u hu => by have := h (j + 1) u (by simpa using hu); rwa [show i + (j + 1) = i + 1 + j by omega] at this)]
    rfl
theorem closed_of {ok : OkT} {ts : List Tie} {n start skip : Int} {cs : List (Int × List Int)} {pts : List Int} (hv : Valid n ts) (h0 : 0 ≤ start ∧ start < n) (h : Reach ts (rowsUp ok n ts ts.length) start cs) (hk : ∀ i t, ts[i]? = some t → ok i t = true ∨ (i : Int) = skip)
    (hp : pts.Perm (keys cs)) (hs : pts.Pairwise (· ≤ ·)) : closedF n ts pts skip = true := by
  have hr := h.1.range (rows_good hv) h0
  have nd : pts.Nodup := hp.nodup_iff.mpr h.1.nodup
  have hlt : pts.Pairwise (· < ·) := by
    have := List.Pairwise.and hs nd
    exact this.imp fun {a b} ⟨h1, h2⟩ => by
      have : a ≠ b := h2
      omega
  unfold closedF
  rw [rising_of hlt (fun p hp' => hr p (hp.mem_iff.mp hp')) (fun p hp' => by have := hr p (hp.mem_iff.mp hp'); omega), Bool.true_and]
  refine allT_of fun j t ht => ?_
  rw [Nat.zero_add]
  unfold sideF
  rcases hk j t ht with hk | hk
  · have := reach_side hv h ht hk
    have e : decide (t.1 ∈ pts) = decide (t.2.1 ∈ pts) := by
      rw [Bool.eq_iff_iff, decide_eq_true_iff, decide_eq_true_iff, hp.mem_iff, hp.mem_iff]
      exact this
    rw [e]
    simp
  · rw [hk]
    simp
theorem start_in {ts : List Tie} {rows : List (List Step)} {start : Int} {cs : List (Int × List Int)} (h : Tree ts rows start cs) : start ∈ keys cs := by
  induction h with
  | root => simp [keys]
  | grow _ _ _ _ ih =>
    simp only [keys, List.map_append, List.mem_append]
    exact .inl ih
end G

/-! spare, between, climb; Around, Held, Way, Apart. -/
namespace G
open PySem PySem.Spec PyProof.Rows L2
open Evl (Ex Ev EvL EvU EvT EvA RV RetV)
local macro_rules | `(tactic| walk_at "hp") => `(tactic| first
  | with_reducible assumption
  | ((with_reducible show _ = some (_ : HO)); (with_reducible exact ex_app (by assumption) (by walk_at "hp")))
  | ((with_reducible show TupI _ _ _ _); (with_reducible exact TupI.mono (by assumption) (by walk_at "hp")))
  | ((with_reducible show LT _ _ _ _); (with_reducible exact LT.mono (by assumption) (by walk_at "hp")))
  | ((with_reducible show LI _ _ _ _); (first | (with_reducible exact li_of (by walk_at "hp")) | (with_reducible exact LI.mono (by assumption) (by walk_at "hp"))))
  | ((with_reducible show SqL _ _ _ _); (first | (with_reducible exact SqL.of (by walk_at "hp")) | (with_reducible exact Evl.ex_l (by assumption) (by walk_at "hp"))))
  | ((with_reducible show SqT _ _ _ _); (first | (with_reducible exact SqT.of (by walk_at "hp")) | (with_reducible exact Evl.ex_t (by assumption) (by walk_at "hp"))))
  | ((with_reducible show Rd _ _ _); (first | (with_reducible exact Rd.of (by walk_at "hp")) | (with_reducible exact Evl.ex_rd (by assumption) (by walk_at "hp"))))
  | walk_at "hpf")
local macro_rules | `(tactic| walk_at "at") => `(tactic| first
  | with_reducible assumption
  | with_reducible rfl
  | (refine atI_of ?va ?vb; (case va => omega); (case vb => assumption))
  | walk_at "atf"
  | rfl)
local macro_rules | `(tactic| walk_at "rv") => `(tactic| first
  | with_reducible exact rv_add | with_reducible exact rv_sub | with_reducible exact rv_eqI | with_reducible exact rv_neI | with_reducible exact rv_lt | with_reducible exact rv_le | with_reducible exact rv_gt | with_reducible exact rv_ge
  | with_reducible exact rv_eqB | with_reducible exact rv_neB | with_reducible exact rv_isB | with_reducible exact rv_notB
  | ((with_reducible refine rv_mod ?_); (first | assumption | omega))
  | ((with_reducible refine rv_mul ?_); (first | exact Or.inl ⟨by omega, by omega⟩ | exact Or.inr ⟨by omega, by omega⟩))
  | ((with_reducible refine rv_div ?_); exact ⟨by omega, by omega⟩))
local macro_rules | `(tactic| walk_at "ty") => `(tactic| first
  | with_reducible exact fun _ _ => .base (.int _) | with_reducible exact fun _ _ => .base (.bl _) | with_reducible exact fun _ _ => .base .non | with_reducible exact fun _ _ => .base (.str _)
  | ((with_reducible apply ty_tup); walk_at "hp")
  | ((with_reducible apply ty_lst); walk_at "hp")
  | walk_at "tyf")
local macro_rules | `(tactic| walk_at "ev") => `(tactic| repeat' (first
  | with_reducible exact Evl.ev_c
  | ((with_reducible apply Evl.ev_var); rfl)
  | with_reducible apply ev_neg
  | with_reducible apply ev_ixU
  | walk_at "evf"
  | ((with_reducible apply ev_lenI); (· walk_at "ev"); (· walk_at "hp"))
  | ((with_reducible apply ev_lenT); (· walk_at "ev"); (· walk_at "hp"))
  | ((with_reducible apply ev_lenU); (· walk_at "ev"))
  | with_reducible apply ev_lenSet
  | with_reducible apply ev_chain
  | with_reducible apply ev_isiTy
  | with_reducible apply Evl.ev_andV
  | with_reducible apply Evl.ev_orV
  | with_reducible apply Evl.ev_notV
  | ((with_reducible apply ev_ixI); (· walk_at "ev"); (· walk_at "ev"); (· walk_at "hp"); (· walk_at "at"))
  | with_reducible apply Evl.ev_op
  | ((with_reducible apply evi_of); (· (with_reducible apply Evl.ev_var); rfl); (· walk_at "hp"))
  | with_reducible apply ei_ix
  | with_reducible apply ei_tup
  | with_reducible exact eai_nil
  | with_reducible apply eai_cons
  | with_reducible exact Evl.ea_nil
  | with_reducible apply Evl.ea_cons
  | with_reducible apply Evl.et_test
  | with_reducible apply Evl.et_and
  | with_reducible apply Evl.et_or
  | with_reducible apply Evl.et_not
  | with_reducible apply Evl.et_B
  | walk_at "rv"
  | ((with_reducible show L2.kitB _ _ = _); rfl)
  | ((with_reducible show L2.atI _ _ = _); walk_at "at")
  | ((with_reducible show (_ : Nat) ≤ _); (first | omega | (simp; done) | (simp; omega)))
  | ((with_reducible show _ = true → _); intro _)
  | ((with_reducible show _ = false → _); intro _)
  | ((with_reducible show TupI _ _ _ _); walk_at "hp")
  | ((with_reducible show LT _ _ _ _); walk_at "hp")
  | ((with_reducible show LI _ _ _ _); walk_at "hp")
  | ((with_reducible show SqL _ _ _ _); walk_at "hp")
  | ((with_reducible show SqT _ _ _ _); walk_at "hp")
  | ((with_reducible show Rd _ _ _); walk_at "hp")
  | ((with_reducible show _ = some (_ : HO)); walk_at "hp")
  | walk_at "hpg"
  | walk_at "ty"))

local macro_rules | `(tactic| walk_at "hpf") => `(tactic| ((with_reducible show WebAt _ _ _ _ _ _); (with_reducible exact WebAt.mono (by assumption) (by walk_at "hp"))))
local macro_rules | `(tactic| walk_at "hpg") => `(tactic| ((with_reducible show WebAt _ _ _ _ _ _); walk_at "hp"))
local macro_rules | `(tactic| walk_at "evf") => `(tactic| with_reducible apply ev_points)
local macro_rules | `(tactic| walk_at "evf") => `(tactic| with_reducible apply ev_turn)
local macro_rules | `(tactic| walk_at "evf") => `(tactic| with_reducible apply ev_lenB)
local macro_rules | `(tactic| walk_at "evf") => `(tactic| with_reducible apply ei_bound)
local macro_rules | `(tactic| walk_at "evf") => `(tactic| with_reducible apply ev_is_whole)
local macro_rules | `(tactic| walk_at "evf") => `(tactic| with_reducible apply ev_is_below)
local macro_rules | `(tactic| walk_at "evf") => `(tactic| with_reducible apply ev_is_tie)
local macro_rules | `(tactic| walk_at "evf") => `(tactic| with_reducible apply ei_stepped)
variable {K : PySem.W.Frag} {σ : L2.St} {H H' H1 : Hp} {ta tb tc te : TE} {t u : TT} {tl : TA} {v x y z : V}

/-! ### the lists that answers hold -/
def HasS (K : PySem.W.Frag) (H : Hp) (l : Addr) (ss : List Step) : Prop := ∃ vs, H l = some (.lst vs) ∧ TupL K H vs (ss.map stepL)
theorem HasS.mono {l : Addr} {ss : List Step} (e : Ex H H') (h : HasS K H l ss) : HasS K H' l ss := by
  obtain ⟨vs, a, b⟩ := h
  exact ⟨vs, e _ _ a, b.mono e⟩
theorem HasS.lt {l : Addr} {ss : List Step} (h : HasS K H l ss) : LStep K H l ss := by
  obtain ⟨vs, a, b⟩ := h
  exact ⟨vs, SqL.of a, b⟩
def HasI (H : Hp) (l : Addr) (ns : List Int) : Prop := H l = some (.lst (ns.map V.int))
theorem HasI.mono {l : Addr} {ns : List Int} (e : Ex H H') (h : HasI H l ns) : HasI H' l ns := e _ _ h
theorem HasI.li {l : Addr} {ns : List Int} (h : HasI H l ns) : LI K H l ns := li_of h
abbrev sp_Around_init := sp_one_init "Around" "steps"
abbrev sp_Way_init := sp_one_init "Way" "steps"
abbrev sp_Held_init := sp_one_init "Held" "points"
abbrev sp_Apart_init := sp_one_init "Apart" "points"

/-! ### check_tie, check_point -/
def sp_check_tie (K : PySem.W.Frag) : Sp := fun vs H Q _ => ∃ (w : Addr) (i n turn : Int) (ts : List Tie), vs = [.ref w, .int i] ∧ WebAt K H w n ts turn ∧ (0 ≤ i ∧ i < ts.length) ∧ RetV .non H Q
theorem ev_check_tie {w : Addr} {i n turn : Int} {ts : List Tie} (h : EvA tl σ H [.ref w, .int i]) (hw : WebAt K H w n ts turn) (hi : 0 ≤ i ∧ i < ts.length) : Ev (tCall (sp_check_tie K) [] E0 tl) σ H .non :=
  ev_call h fun H1 Q e k => ⟨w, i, n, turn, ts, rfl, hw.mono e, hi, k⟩
def sp_check_point (K : PySem.W.Frag) : Sp := fun vs H Q _ => ∃ (w : Addr) (i n turn : Int) (ts : List Tie), vs = [.ref w, .int i] ∧ WebAt K H w n ts turn ∧ (0 ≤ i ∧ i < n) ∧ RetV .non H Q
theorem ev_check_point {w : Addr} {i n turn : Int} {ts : List Tie} (h : EvA tl σ H [.ref w, .int i]) (hw : WebAt K H w n ts turn) (hi : 0 ≤ i ∧ i < n) : Ev (tCall (sp_check_point K) [] E0 tl) σ H .non :=
  ev_call h fun H1 Q e k => ⟨w, i, n, turn, ts, rfl, hw.mono e, hi, k⟩
def t_check_tie (K : PySem.W.Frag) : TS :=
 (tIfS (tNot (tB (tCall (sp_is_below K) [] E0 (tCons (tVar 1) (tCons (tCB (rLenS K) (tCons (tFld K (tVar 0) "bound") tNil)) tNil))))) tNever tNext)
def t_Around_shows (K : PySem.W.Frag) : TS :=
 (tSeq (tAsg (tOp (rIxL K) (tFld K (tVar 1) "bound") (tVar 2)) (gTup K 3 (gCons (gName 3) (gCons (gName 4) (gCons (gName 5) gNil)))))
 (tSeq (tIfS (tNot (tB (tCall (sp_is_straight K) [] E0 (tCons (tVar 1) (tCons (tVar 3) (tCons (tFld K (tVar 0) "steps") (tCons (tVar 4) tNil))))))) (tRet (tC (.bl false))) tNext)
 (tRet (tCB (rAll K) (tCons (tLc (iList K (tFld K (tVar 0) "steps")) (gName 6) tYes (tOp rNe (tOp (rIxT K) (tVar 6) (tC (.int 0))) (tVar 2)) [6]) tNil)))))
def t_Held_shows (K : PySem.W.Frag) : TS :=
 (tSeq (tAsg (tOp (rIxL K) (tFld K (tVar 1) "bound") (tVar 2)) (gTup K 3 (gCons (gName 3) (gCons (gName 4) (gCons (gName 5) gNil)))))
 (tRet (tAndV (tOp (rIn K false) (tVar 3) (tFld K (tVar 0) "points")) (tAndV (tOp (rIn K true) (tVar 4) (tFld K (tVar 0) "points")) (tCall (sp_is_closed K) [] E0 (tCons (tVar 1) (tCons (tFld K (tVar 0) "points") (tCons (tVar 2) tNil))))))))
def t_spare (K : PySem.W.Frag) : TS :=
 (tSeq (tDrop (tCall (sp_check_tie K) [] E0 (tCons (tVar 0) (tCons (tVar 1) tNil))))
 (tSeq (tAsg (tOp (rIxL K) (tFld K (tVar 0) "bound") (tVar 1)) (gTup K 3 (gCons (gName 2) (gCons (gName 3) (gCons (gName 4) gNil)))))
 (tSeq (tAsg (tCall (sp_reached K) [] E0 (tCons (tVar 0) (tCons (tVar 2) (tCons (tCall (sp_beside K) [] E0 (tCons (tVar 0) (tCons (tVar 1) (tCons (tC (.bl false)) tNil)))) tNil)))) (gName 5))
 (tSeq (tIfS (tB (tDIn (tVar 3) (tVar 5))) (tRet (tMake (ga K "Around") (sp_Around_init K) [] E0 (tCons (tCall (sp_way_back K) [] E0 (tCons (tVar 0) (tCons (tVar 5) (tCons (tVar 3) tNil)))) tNil))) tNext)
 (tRet (tMake (ga K "Held") (sp_Held_init K) [] E0 (tCons (tCB rSortedD (tCons (tVar 5) tNil)) tNil)))))))
def t_check_point (K : PySem.W.Frag) : TS :=
 (tIfS (tNot (tB (tCall (sp_is_below K) [] E0 (tCons (tVar 1) (tCons (tFld K (tVar 0) "points") tNil))))) tNever tNext)
def t_Way_shows (K : PySem.W.Frag) : TS :=
 (tRet (tCall (sp_is_straight K) [] E0 (tCons (tVar 1) (tCons (tVar 2) (tCons (tFld K (tVar 0) "steps") (tCons (tVar 3) tNil))))))
def t_Apart_shows (K : PySem.W.Frag) : TS :=
 (tRet (tAndV (tOp (rIn K false) (tVar 2) (tFld K (tVar 0) "points")) (tAndV (tOp (rIn K true) (tVar 3) (tFld K (tVar 0) "points")) (tCall (sp_is_closed K) [] E0 (tCons (tVar 1) (tCons (tFld K (tVar 0) "points") (tCons (tUn rNegI (tC (.int 1))) tNil)))))))
theorem rd_check_tie (vs : List V) (H : Hp) (Q : VK) (E : XK) (h : sp_check_tie K vs H Q E) : goal (t_check_tie K) ["web", "tie"] vs H Q := by
  obtain ⟨w, i, n, turn, ts, rfl, hw, hi, k⟩ := h
  exact s_never (by walk_at "ev") (by rw [decide_eq_true hi]; rfl) fun H1 e1 => k H1 e1
theorem rd_check_point (vs : List V) (H : Hp) (Q : VK) (E : XK) (h : sp_check_point K vs H Q E) : goal (t_check_point K) ["web", "point"] vs H Q := by
  obtain ⟨w, i, n, turn, ts, rfl, hw, hi, k⟩ := h
  exact s_never (by walk_at "ev") (by rw [decide_eq_true hi]; rfl) fun H1 e1 => k H1 e1

/-! ### shows -/
def aroundF (ts : List Tie) (tt : Tie) (ss : List Step) (tie : Int) : Bool := straightF ts tt.1 ss tt.2.1 && ss.all fun s => !decide (s.1 = tie)
def heldF (n : Int) (ts : List Tie) (tt : Tie) (pts : List Int) (tie : Int) : Bool := decide (tt.1 ∈ pts) && (!decide (tt.2.1 ∈ pts) && closedF n ts pts tie)
def apartF (n : Int) (ts : List Tie) (pts : List Int) (one other : Int) : Bool := decide (one ∈ pts) && (!decide (other ∈ pts) && closedF n ts pts (-1))
def sp_Around_shows (K : PySem.W.Frag) : Sp := fun vs H Q _ => ∃ (a l w : Addr) (tie n turn : Int) (ts : List Tie) (tt : Tie) (ss : List Step), vs = [.ref a, .ref w, .int tie] ∧ One K H "Around" "steps" a l ∧ HasS K H l ss ∧ ss.length ≤ 3000 ∧ WebAt K H w n ts turn ∧ atI ts tie = some tt ∧ RetV (.bl (aroundF ts tt ss tie)) H Q
def sp_Held_shows (K : PySem.W.Frag) : Sp := fun vs H Q _ => ∃ (a l w : Addr) (tie n turn : Int) (ts : List Tie) (tt : Tie) (pts : List Int), vs = [.ref a, .ref w, .int tie] ∧ One K H "Held" "points" a l ∧ HasI H l pts ∧ pts.length ≤ 3000 ∧ WebAt K H w n ts turn ∧ atI ts tie = some tt ∧ RetV (.bl (heldF n ts tt pts tie)) H Q
def sp_Way_shows (K : PySem.W.Frag) : Sp := fun vs H Q _ => ∃ (a l w : Addr) (one other n turn : Int) (ts : List Tie) (ss : List Step), vs = [.ref a, .ref w, .int one, .int other] ∧ One K H "Way" "steps" a l ∧ HasS K H l ss ∧ ss.length ≤ 3000 ∧ WebAt K H w n ts turn ∧ RetV (.bl (straightF ts one ss other)) H Q
def sp_Apart_shows (K : PySem.W.Frag) : Sp := fun vs H Q _ => ∃ (a l w : Addr) (one other n turn : Int) (ts : List Tie) (pts : List Int), vs = [.ref a, .ref w, .int one, .int other] ∧ One K H "Apart" "points" a l ∧ HasI H l pts ∧ pts.length ≤ 3000 ∧ WebAt K H w n ts turn ∧ RetV (.bl (apartF n ts pts one other)) H Q
theorem One.ins {C f : Str} {p l : Addr} (h : One K H C f p l) : ∃ dx, H p = some (.ins (ga K C) dx [(f, V.ref l)]) := h.2
theorem one_no {f m : Str} {l : Addr} (h : ¬ m = f) : List.lookup m [(f, V.ref l)] = none := by
  have : (m == f) = false := by simpa using h
  simp [List.lookup, this]
theorem ev_shows1 {C f : Str} {a l w : Addr} {i : Int} {sp : Sp} {b : Bool} (h : One K H C f a l) (hf : ¬ (("shows" : Str) = f)) (h1 : Ev ta σ H (.ref a)) (h2 : EvA tl σ H [.ref w, .int i]) (hs : ∀ H1 Q, Ex H H1 → RetV (.bl b) H1 Q → sp [.ref a, .ref w, .int i] H1 Q E0) :
    Ev (tMeth (ga K C) "shows" sp [] E0 ta tl) σ H (.bl b) := by
  obtain ⟨dx, g⟩ := h.ins
  exact ev_meth h1 g (one_no hf) h2 hs
theorem ev_shows2 {C f : Str} {a l w : Addr} {i j : Int} {sp : Sp} {b : Bool} (h : One K H C f a l) (hf : ¬ (("shows" : Str) = f)) (h1 : Ev ta σ H (.ref a)) (h2 : EvA tl σ H [.ref w, .int i, .int j]) (hs : ∀ H1 Q, Ex H H1 → RetV (.bl b) H1 Q → sp [.ref a, .ref w, .int i, .int j] H1 Q E0) :
    Ev (tMeth (ga K C) "shows" sp [] E0 ta tl) σ H (.bl b) := by
  obtain ⟨dx, g⟩ := h.ins
  exact ev_meth h1 g (one_no hf) h2 hs
theorem neSS : ¬ (("shows" : Str) = "steps") := by decide +kernel
theorem neSP : ¬ (("shows" : Str) = "points") := by decide +kernel
theorem ev_around {a l w : Addr} {tie n turn : Int} {ts : List Tie} {tt : Tie} {ss : List Step} (h : One K H "Around" "steps" a l) (hs : HasS K H l ss) (hl : ss.length ≤ 3000) (hw : WebAt K H w n ts turn) (ht : atI ts tie = some tt) (h1 : Ev ta σ H (.ref a)) (h2 : EvA tl σ H [.ref w, .int tie]) :
    Ev (tMeth (ga K "Around") "shows" (sp_Around_shows K) [] E0 ta tl) σ H (.bl (aroundF ts tt ss tie)) := ev_shows1 h neSS h1 h2 fun H1 Q e k => ⟨a, l, w, tie, n, turn, ts, tt, ss, rfl, h.mono e, hs.mono e, hl, hw.mono e, ht, k⟩
theorem ev_held {a l w : Addr} {tie n turn : Int} {ts : List Tie} {tt : Tie} {pts : List Int} (h : One K H "Held" "points" a l) (hs : HasI H l pts) (hl : pts.length ≤ 3000) (hw : WebAt K H w n ts turn) (ht : atI ts tie = some tt) (h1 : Ev ta σ H (.ref a)) (h2 : EvA tl σ H [.ref w, .int tie]) :
    Ev (tMeth (ga K "Held") "shows" (sp_Held_shows K) [] E0 ta tl) σ H (.bl (heldF n ts tt pts tie)) := ev_shows1 h neSP h1 h2 fun H1 Q e k => ⟨a, l, w, tie, n, turn, ts, tt, pts, rfl, h.mono e, hs.mono e, hl, hw.mono e, ht, k⟩
theorem ev_way {a l w : Addr} {one other n turn : Int} {ts : List Tie} {ss : List Step} (h : One K H "Way" "steps" a l) (hs : HasS K H l ss) (hl : ss.length ≤ 3000) (hw : WebAt K H w n ts turn) (h1 : Ev ta σ H (.ref a)) (h2 : EvA tl σ H [.ref w, .int one, .int other]) :
    Ev (tMeth (ga K "Way") "shows" (sp_Way_shows K) [] E0 ta tl) σ H (.bl (straightF ts one ss other)) := ev_shows2 h neSS h1 h2 fun H1 Q e k => ⟨a, l, w, one, other, n, turn, ts, ss, rfl, h.mono e, hs.mono e, hl, hw.mono e, k⟩
theorem ev_apart {a l w : Addr} {one other n turn : Int} {ts : List Tie} {pts : List Int} (h : One K H "Apart" "points" a l) (hs : HasI H l pts) (hl : pts.length ≤ 3000) (hw : WebAt K H w n ts turn) (h1 : Ev ta σ H (.ref a)) (h2 : EvA tl σ H [.ref w, .int one, .int other]) :
    Ev (tMeth (ga K "Apart") "shows" (sp_Apart_shows K) [] E0 ta tl) σ H (.bl (apartF n ts pts one other)) := ev_shows2 h neSP h1 h2 fun H1 Q e k => ⟨a, l, w, one, other, n, turn, ts, pts, rfl, h.mono e, hs.mono e, hl, hw.mono e, k⟩
theorem rd_Around_shows (vs : List V) (H : Hp) (Q : VK) (E : XK) (h : sp_Around_shows K vs H Q E) : goal (t_Around_shows K) ["self", "web", "tie", "one", "other", "number", "step"] vs H Q := by
  obtain ⟨a, l, w, tie, n, turn, ts, tt, ss, rfl, h1, hs, hl, hw, ht, k⟩ := h
  refine q_un3 (a := tt.1) (b := tt.2.1) (c := tt.2.2) (by walk_at "ev") fun H1 e1 => ?_
  refine Evl.q_when (b := !straightF ts tt.1 ss tt.2.1) (Evl.et_not (Evl.et_B (ev_is_straight (w := w) (l := l) (n := n) (turn := turn) (Evl.ea_cons (by walk_at "ev") (Evl.ea_cons (by walk_at "ev") (Evl.ea_cons (ev_one (by walk_at "ev") (h1.mono e1)) (by walk_at "ev")))) (hw.mono e1) (hs.mono e1).lt hl))) (fun hb H2 e2 => ?_) fun hb H2 e2 => ?_
  · have hf : straightF ts tt.1 ss tt.2.1 = false := by simpa using hb
    unfold aroundF at k
    rw [hf, Bool.false_and] at k
    exact Evl.s_ret Evl.ev_c fun H3 e3 => k H3 (e1.trans (e2.trans e3))
  · have hf : straightF ts tt.1 ss tt.2.1 = true := by simpa using hb
    unfold aroundF at k
    rw [hf, Bool.true_and] at k
    obtain ⟨us, hq, hT⟩ := hs.mono (e1.trans e2)
    have hul : us.length = ss.length := by rw [hT.length, List.length_map]
    refine Evl.s_ret (v := .bl (ss.all fun s => !decide (s.1 = tie))) (Evl.ev_is (ev_all (p := l) (bs := ss.map fun s => !decide (s.1 = tie)) ?_) ?_) fun H3 e3 => k H3 (e1.trans (e2.trans e3))
    · refine (lc_vals (a := l) (xs := us) (ys := (ss.map fun s => !decide (s.1 = tie)).map V.bl) (ev_one (by walk_at "ev") (h1.mono (e1.trans e2))) (SqL.of hq) (by omega) (by simp [hul]) (fun _ => rfl) fun i x H3 e3 hx => ?_).imp fun v H3 e3 hh => ?_
      · obtain ⟨zz, hz, tz⟩ := hT.getV hx
        rw [List.getElem?_map] at hz
        cases hsi : ss[i]? with
        | none => rw [hsi] at hz; cases hz
        | some s =>
          rw [hsi] at hz
          cases hz
          have tz3 := tz.mono e3
          exact ⟨.bl (!decide (s.1 = tie)), by simp [hsi], by walk_at "ev"⟩
      · obtain ⟨q, a, _, b⟩ := hh
        exact ⟨q, a, SqL.of b⟩
    · rw [List.all_map]
      rfl
theorem rd_Held_shows (vs : List V) (H : Hp) (Q : VK) (E : XK) (h : sp_Held_shows K vs H Q E) : goal (t_Held_shows K) ["self", "web", "tie", "one", "other", "number"] vs H Q := by
  obtain ⟨a, l, w, tie, n, turn, ts, tt, pts, rfl, h1, hs, hl, hw, ht, k⟩ := h
  refine q_un3 (a := tt.1) (b := tt.2.1) (c := tt.2.2) (by walk_at "ev") fun H1 e1 => ?_
  have hi := (hs.mono e1).li (K := K)
  have o1 := h1.mono e1
  have hw1 := hw.mono e1
  refine Evl.s_ret (v := .bl (heldF n ts tt pts tie)) (Evl.ev_andV (ev_inI (by walk_at "ev") (ev_one (by walk_at "ev") o1) hi) fun _ => Evl.ev_andV (ev_notInI (by walk_at "ev") (ev_one (by walk_at "ev") o1) hi) fun _ =>
    ev_is_closed (w := w) (l := l) (Evl.ea_cons (by walk_at "ev") (Evl.ea_cons (ev_one (by walk_at "ev") o1) (by walk_at "ev"))) hw1 hi (by omega)) fun H3 e3 => k H3 (e1.trans e3)
theorem rd_Way_shows (vs : List V) (H : Hp) (Q : VK) (E : XK) (h : sp_Way_shows K vs H Q E) : goal (t_Way_shows K) ["self", "web", "one", "other"] vs H Q := by
  obtain ⟨a, l, w, one, other, n, turn, ts, ss, rfl, h1, hs, hl, hw, k⟩ := h
  refine Evl.s_ret (v := .bl (straightF ts one ss other)) (ev_is_straight (w := w) (l := l) (n := n) (turn := turn) (Evl.ea_cons (by walk_at "ev") (Evl.ea_cons (by walk_at "ev") (Evl.ea_cons (ev_one (by walk_at "ev") h1) (by walk_at "ev")))) hw hs.lt hl) fun H3 e3 => k H3 e3
theorem rd_Apart_shows (vs : List V) (H : Hp) (Q : VK) (E : XK) (h : sp_Apart_shows K vs H Q E) : goal (t_Apart_shows K) ["self", "web", "one", "other"] vs H Q := by
  obtain ⟨a, l, w, one, other, n, turn, ts, pts, rfl, h1, hs, hl, hw, k⟩ := h
  have hi := hs.li (K := K)
  refine Evl.s_ret (v := .bl (apartF n ts pts one other)) (Evl.ev_andV (ev_inI (by walk_at "ev") (ev_one (by walk_at "ev") h1) hi) fun _ => Evl.ev_andV (ev_notInI (by walk_at "ev") (ev_one (by walk_at "ev") h1) hi) fun _ =>
    ev_is_closed (w := w) (l := l) (Evl.ea_cons (by walk_at "ev") (Evl.ea_cons (ev_one (by walk_at "ev") h1) (by walk_at "ev"))) hw hi (by omega)) fun H3 e3 => k H3 e3

/-! ### spare, between -/
structure TopA (K : PySem.W.Frag) : Prop where
  ar : OneTop K "Around" "steps"
  he : OneTop K "Held" "points"
structure TopB (K : PySem.W.Frag) : Prop where
  wa : OneTop K "Way" "steps"
  ap : OneTop K "Apart" "points"
/-- an answer of class C over a list of steps, of points -/
def AnsS (K : PySem.W.Frag) (H : Hp) (C : Str) (ss : List Step) (v : V) (H2 : Hp) : Prop := ∃ a l, v = .ref a ∧ H a = none ∧ H l = none ∧ l ≠ a ∧ One K H2 C "steps" a l ∧ HasS K H2 l ss
def AnsI (K : PySem.W.Frag) (H : Hp) (C : Str) (pts : List Int) (v : V) (H2 : Hp) : Prop := ∃ a l, v = .ref a ∧ H a = none ∧ H l = none ∧ l ≠ a ∧ One K H2 C "points" a l ∧ HasI H2 l pts
theorem ep_ansS {C : Str} {ss : List Step} (T : OneTop K C "steps") (h : EvP te σ H (NewLT K H (ss.map stepL))) : EvP (tMake (ga K C) (sp_one_init C "steps" K) [] E0 (tCons te tNil)) σ H (AnsS K H C ss) :=
  (ep_one (B := fun xs H => TupL K H xs (ss.map stepL)) (fun _ _ _ e h => h.mono e) T (h.imp fun v H2 e ⟨l, vs, a, _, c, d⟩ => ⟨l, vs, a, SqL.of c, d⟩)).imp fun v H2 e ⟨p, l, xs, a, b, c, d, f, g, h⟩ => ⟨p, l, a, b, c, d, f, xs, g, h⟩
theorem ep_ansI {C : Str} {pts : List Int} (T : OneTop K C "points") (h : EvP te σ H (fun v H1 => ∃ l, v = .ref l ∧ LI K H1 l pts)) : EvP (tMake (ga K C) (sp_one_init C "points" K) [] E0 (tCons te tNil)) σ H (AnsI K H C pts) :=
  (ep_one (B := fun xs H => xs = pts.map V.int) (fun _ _ _ e h => h) T (h.imp fun v H2 e ⟨l, a, b⟩ => ⟨l, _, a, b, rfl⟩)).imp fun v H2 e ⟨p, l, xs, a, b, c, d, f, g, h⟩ => ⟨p, l, a, b, c, d, f, by rw [h] at g; exact g⟩
/-- sorted(came) -/
theorem ep_sorted {d : Addr} {cs : List (Int × List Int)} {P : List Int → Prop} (ha : Ev ta σ H (.ref d)) (h : DAt K H d cs) (hl : cs.length ≤ 5000) (hP : ∀ ns : List Int, ns.Perm (keys cs) → ns.Pairwise (· ≤ ·) → P ns) {Pv : List Int → V → Hp → Prop} (hv : ∀ ns p H2, P ns → H p = none → H2 p = some (.lst (ns.map V.int)) → Pv ns (.ref p) H2) :
    EvP (tCB rSortedD (tCons ta tNil)) σ H (fun v H2 => ∃ ns, P ns ∧ Pv ns v H2) := fun H1 e Q q =>
  ha H1 e _ fun H2 e2 => by
    obtain ⟨kvs, h1, h2⟩ := h.mono (e.trans e2)
    exact ⟨d, kvs, keys cs, rfl, Rd.of h1, h2.keys, by rw [List.length_map]; omega, fun ns p hp hs hf => q _ _ (e2.trans (Ex.new hf)) ⟨ns, hP ns hp hs, hv ns p _ (hP ns hp hs) (Evl.fresh_back (e.trans e2) hf) upd_same⟩⟩
/-- sizes that the laws' webs keep -/
structure WebOk (n turn : Int) (ts : List Tie) : Prop where
  n0 : 1 ≤ n
  n1 : n ≤ 1000
  t0 : 0 ≤ turn
  len : ts.length ≤ 1000
  val : Valid n ts
def SpareV (K : PySem.W.Frag) (H : Hp) (n : Int) (ts : List Tie) (tt : Tie) (tie : Int) (v : V) (H2 : Hp) : Prop :=
  (∃ ss, AnsS K H "Around" ss v H2 ∧ ss.length ≤ 1000 ∧ aroundF ts tt ss tie = true) ∨ ∃ pts, AnsI K H "Held" pts v H2 ∧ pts.length ≤ 1000 ∧ heldF n ts tt pts tie = true
def sp_spare (K : PySem.W.Frag) : Sp := fun vs H Q _ => ∃ (w : Addr) (tie n turn : Int) (ts : List Tie) (tt : Tie), vs = [.ref w, .int tie] ∧ TopA K ∧ WebAt K H w n ts turn ∧ WebOk n turn ts ∧ 0 ≤ tie ∧ ts[tie.toNat]? = some tt ∧ RetP (SpareV K H n ts tt tie) H Q
theorem ep_spare {w : Addr} {tie n turn : Int} {ts : List Tie} {tt : Tie} (T : TopA K) (h : EvA tl σ H [.ref w, .int tie]) (hw : WebAt K H w n ts turn) (ok : WebOk n turn ts) (h0 : 0 ≤ tie) (ht : ts[tie.toNat]? = some tt) : EvP (tCall (sp_spare K) [] E0 tl) σ H (SpareV K H n ts tt tie) :=
  ep_call h fun H1 Q e k => ⟨w, tie, n, turn, ts, tt, rfl, T, hw.mono e, ok, h0, ht, fun v H2 e2 hv => k v H2 e2 (by
    rcases hv with ⟨ss, ⟨a, l, b1, b2, b3, b4⟩, c⟩ | ⟨ss, ⟨a, l, b1, b2, b3, b4⟩, c⟩
    · exact .inl ⟨ss, ⟨a, l, b1, Evl.fresh_back e b2, Evl.fresh_back e b3, b4⟩, c⟩
    · exact .inr ⟨ss, ⟨a, l, b1, Evl.fresh_back e b2, Evl.fresh_back e b3, b4⟩, c⟩)⟩
theorem okF_true {skip turn : Int} {i : Nat} {t : Tie} : okF skip false turn i t = true ↔ (i : Int) ≠ skip := by simp [okF]
theorem AnsS.back {C : Str} {ss : List Step} {H2 : Hp} (e : Ex H H1) (h : AnsS K H1 C ss v H2) : AnsS K H C ss v H2 := by
  obtain ⟨a, l, b1, b2, b3, b4⟩ := h
  exact ⟨a, l, b1, Evl.fresh_back e b2, Evl.fresh_back e b3, b4⟩
theorem AnsI.back {C : Str} {ss : List Int} {H2 : Hp} (e : Ex H H1) (h : AnsI K H1 C ss v H2) : AnsI K H C ss v H2 := by
  obtain ⟨a, l, b1, b2, b3, b4⟩ := h
  exact ⟨a, l, b1, Evl.fresh_back e b2, Evl.fresh_back e b3, b4⟩
theorem rd_spare (vs : List V) (H : Hp) (Q : VK) (E : XK) (h : sp_spare K vs H Q E) : goal (t_spare K) ["web", "tie", "one", "other", "number", "came"] vs H Q := by
  obtain ⟨w, tie, n, turn, ts, tt, rfl, T, hw, ok, h0, ht, k⟩ := h
  have hin : tie.toNat < ts.length := (List.getElem?_eq_some_iff.mp ht).1
  obtain ⟨v1, v2, v3⟩ := ok.val tt (List.mem_of_getElem? ht)
  refine Evl.q_drop (ev_check_tie (w := w) (by walk_at "ev") hw ⟨h0, by omega⟩) fun H1 e1 => ?_
  have hat : atI ts tie = some tt := atI_of h0 ht
  refine q_un3 (a := tt.1) (b := tt.2.1) (c := tt.2.2) (by walk_at "ev") fun H2 e2 => ?_
  have hw2 := hw.mono (e1.trans e2)
  refine q_asgP (P := fun v H3 => ∃ d cs, v = .ref d ∧ H2 d = none ∧ DAt K H3 d cs ∧ Reach ts (nearF tie false n turn ts) tt.1 cs) (fun H3 e3 Q3 q3 => ?_) fun v H3 e3 hv => ?_
  · have hb := ep_beside (K := K) (tl := tCons (tVar 0) (tCons (tVar 1) (tCons (tC (.bl false)) tNil))) (σ := ((((L2.start ["web", "tie", "one", "other", "number", "came"] [V.ref w, V.int tie]).set 2 (some (V.int tt.1))).set 3 (some (V.int tt.2.1))).set 4 (some (V.int tt.2.2)))) (H := H3) (w := w) (skip := tie) (n := n) (turn := turn) (fr := false) (ts := ts) (by walk_at "ev") (hw2.mono e3) ⟨by have := ok.n0; omega, by have := ok.n1; omega⟩ ok.t0 (by have := ok.len; omega) ok.val
    refine ⟨_, rfl, _, rfl, hb H3 (Ex.refl H3) _ fun v4 H4 e4 hv4 => ?_⟩
    obtain ⟨l4, rfl, hn4⟩ := hv4
    exact ⟨w, l4, tt.1, n, turn, ts, nearF tie false n turn ts, rfl, (hw2.mono e3).mono e4, hn4, rows_good ok.val, v1, by have := ok.n1; omega, fun v5 H5 e5 ⟨d, cs, a, b, c⟩ => q3 v5 H5 (e4.trans e5) ⟨d, cs, a, Evl.fresh_back (e3.trans e4) b, c⟩⟩
  obtain ⟨d, cs, rfl, fd, hD, hR⟩ := hv
  obtain ⟨kvs, hk1, hk2⟩ := id hD
  have big : Ex H H3 := e1.trans (e2.trans e3)
  have hcl : cs.length ≤ n.toNat := hR.1.len (rows_good ok.val) v1
  refine Evl.q_when (b := decide (tt.2.1 ∈ keys cs)) (Evl.et_B (ev_dinC (by walk_at "ev") (by walk_at "ev") (Rd.of hk1) hk2)) (fun hb H4 e4 => ?_) fun hb H4 e4 => ?_
  · obtain ⟨r, ps, c, hp⟩ := tree_path ok.val v1 hR.1 tt.2.1 (of_decide_eq_true hb)
    have hrl := hp.len
    have hn1 := ok.n1
    refine s_retP (ep_ansS T.ar (ep_way_back (w := w) (d := d) (k := tt.2.1) (n := n) (turn := turn) (ts := ts) (kvs := kvs) (cs := cs) (r := r) (by walk_at "ev") (hw2.mono (e3.trans e4)) (Rd.of (e4 _ _ hk1)) (hk2.mono e4) hp.back (by omega))) fun v H5 e5 hv => k v H5 (big.trans (e4.trans e5)) (.inl ⟨r.reverse, hv.back (big.trans e4), by rw [List.length_reverse]; omega, ?_⟩)
    unfold aroundF
    rw [path_straight hp, Bool.true_and, List.all_eq_true]
    intro s hs
    obtain ⟨i, t, g1, g2, g3⟩ := hp.ok_ s (List.mem_reverse.mp hs)
    have := okF_true.mp g2
    rw [g3, decide_eq_false this]
    rfl
  · have hn1 := ok.n1
    refine s_retP (P := fun v H5 => ∃ ns : List Int, (ns.Perm (keys cs) ∧ ns.Pairwise (· ≤ ·)) ∧ AnsI K H4 "Held" ns v H5) ?_ fun v H5 e5 hv => ?_
    · intro H5 e5 Q5 q5
      refine ep_sorted (K := K) (P := fun ns => ns.Perm (keys cs) ∧ ns.Pairwise (· ≤ ·)) (Pv := fun ns v H2 => ∃ l, v = .ref l ∧ LI K H2 l ns) (by walk_at "ev") (hD.mono e4) (by omega) (fun ns a b => ⟨a, b⟩) (fun ns p H2 _ _ c => ⟨p, rfl, li_of c⟩) H5 e5 _ fun v6 H6 e6 hv6 => ?_
      obtain ⟨ns, hns, l6, rfl, hl6⟩ := hv6
      have mk := ep_ansI (C := "Held") (te := tC (.ref l6)) (σ := []) (H := H6) T.he (Ev.toP Evl.ev_c fun H2 e => ⟨l6, rfl, hl6.mono e⟩)
      exact mk H6 (Ex.refl H6) Q5 fun v7 H7 e7 hv7 => q5 v7 H7 (e6.trans e7) ⟨ns, hns, hv7.back (e5.trans e6)⟩
    · obtain ⟨ns, ⟨g1, g2⟩, hv⟩ := hv
      refine k v H5 (big.trans (e4.trans e5)) (.inr ⟨ns, hv.back (big.trans e4), by rw [g1.length_eq, List.length_map]; omega, ?_⟩)
      unfold heldF
      have hcl2 := closed_of (skip := tie) (pts := ns) ok.val v1 hR (fun i t hti => by
        by_cases e : (i : Int) = tie
        · exact .inr e
        · exact .inl (okF_true.mpr e)) g1 g2
      have m1 : tt.1 ∈ ns := g1.mem_iff.mpr (start_in hR.1)
      have m2 : tt.2.1 ∉ ns := fun z => of_decide_eq_false hb (g1.mem_iff.mp z)
      rw [hcl2, decide_eq_true m1, decide_eq_false m2]
      rfl
end G

/-! The law's own defs: the cell, the draw, the web. -/
namespace G
open PySem PySem.Spec PyProof.Rows L2
open Evl (Ex Ev EvL EvU EvT EvA RV RetV)
local macro_rules | `(tactic| walk_at "hp") => `(tactic| first
  | with_reducible assumption
  | ((with_reducible show _ = some (_ : HO)); (with_reducible exact ex_app (by assumption) (by walk_at "hp")))
  | ((with_reducible show TupI _ _ _ _); (with_reducible exact TupI.mono (by assumption) (by walk_at "hp")))
  | ((with_reducible show LT _ _ _ _); (with_reducible exact LT.mono (by assumption) (by walk_at "hp")))
  | ((with_reducible show LI _ _ _ _); (first | (with_reducible exact li_of (by walk_at "hp")) | (with_reducible exact LI.mono (by assumption) (by walk_at "hp"))))
  | ((with_reducible show SqL _ _ _ _); (first | (with_reducible exact SqL.of (by walk_at "hp")) | (with_reducible exact Evl.ex_l (by assumption) (by walk_at "hp"))))
  | ((with_reducible show SqT _ _ _ _); (first | (with_reducible exact SqT.of (by walk_at "hp")) | (with_reducible exact Evl.ex_t (by assumption) (by walk_at "hp"))))
  | ((with_reducible show Rd _ _ _); (first | (with_reducible exact Rd.of (by walk_at "hp")) | (with_reducible exact Evl.ex_rd (by assumption) (by walk_at "hp"))))
  | walk_at "hpf")
local macro_rules | `(tactic| walk_at "at") => `(tactic| first
  | with_reducible assumption
  | with_reducible rfl
  | (refine atI_of ?va ?vb; (case va => omega); (case vb => assumption))
  | walk_at "atf"
  | rfl)
local macro_rules | `(tactic| walk_at "rv") => `(tactic| first
  | with_reducible exact rv_add | with_reducible exact rv_sub | with_reducible exact rv_eqI | with_reducible exact rv_neI | with_reducible exact rv_lt | with_reducible exact rv_le | with_reducible exact rv_gt | with_reducible exact rv_ge
  | with_reducible exact rv_eqB | with_reducible exact rv_neB | with_reducible exact rv_isB | with_reducible exact rv_notB
  | ((with_reducible refine rv_mod ?_); (first | assumption | omega))
  | ((with_reducible refine rv_mul ?_); (first | exact Or.inl ⟨by omega, by omega⟩ | exact Or.inr ⟨by omega, by omega⟩))
  | ((with_reducible refine rv_div ?_); exact ⟨by omega, by omega⟩))
local macro_rules | `(tactic| walk_at "ty") => `(tactic| first
  | with_reducible exact fun _ _ => .base (.int _) | with_reducible exact fun _ _ => .base (.bl _) | with_reducible exact fun _ _ => .base .non | with_reducible exact fun _ _ => .base (.str _)
  | ((with_reducible apply ty_tup); walk_at "hp")
  | ((with_reducible apply ty_lst); walk_at "hp")
  | walk_at "tyf")
local macro_rules | `(tactic| walk_at "ev") => `(tactic| repeat' (first
  | with_reducible exact Evl.ev_c
  | ((with_reducible apply Evl.ev_var); rfl)
  | with_reducible apply ev_neg
  | with_reducible apply ev_ixU
  | walk_at "evf"
  | ((with_reducible apply ev_lenI); (· walk_at "ev"); (· walk_at "hp"))
  | ((with_reducible apply ev_lenT); (· walk_at "ev"); (· walk_at "hp"))
  | ((with_reducible apply ev_lenU); (· walk_at "ev"))
  | with_reducible apply ev_lenSet
  | with_reducible apply ev_chain
  | with_reducible apply ev_isiTy
  | with_reducible apply Evl.ev_andV
  | with_reducible apply Evl.ev_orV
  | with_reducible apply Evl.ev_notV
  | ((with_reducible apply ev_ixI); (· walk_at "ev"); (· walk_at "ev"); (· walk_at "hp"); (· walk_at "at"))
  | with_reducible apply Evl.ev_op
  | ((with_reducible apply evi_of); (· (with_reducible apply Evl.ev_var); rfl); (· walk_at "hp"))
  | with_reducible apply ei_ix
  | with_reducible apply ei_tup
  | with_reducible exact eai_nil
  | with_reducible apply eai_cons
  | with_reducible exact Evl.ea_nil
  | with_reducible apply Evl.ea_cons
  | with_reducible apply Evl.et_test
  | with_reducible apply Evl.et_and
  | with_reducible apply Evl.et_or
  | with_reducible apply Evl.et_not
  | with_reducible apply Evl.et_B
  | walk_at "rv"
  | ((with_reducible show L2.kitB _ _ = _); rfl)
  | ((with_reducible show L2.atI _ _ = _); walk_at "at")
  | ((with_reducible show (_ : Nat) ≤ _); (first | omega | (simp; done) | (simp; omega)))
  | ((with_reducible show _ = true → _); intro _)
  | ((with_reducible show _ = false → _); intro _)
  | ((with_reducible show TupI _ _ _ _); walk_at "hp")
  | ((with_reducible show LT _ _ _ _); walk_at "hp")
  | ((with_reducible show LI _ _ _ _); walk_at "hp")
  | ((with_reducible show SqL _ _ _ _); walk_at "hp")
  | ((with_reducible show SqT _ _ _ _); walk_at "hp")
  | ((with_reducible show Rd _ _ _); walk_at "hp")
  | ((with_reducible show _ = some (_ : HO)); walk_at "hp")
  | walk_at "hpg"
  | walk_at "ty"))

local macro_rules | `(tactic| walk_at "hpf") => `(tactic| ((with_reducible show WebAt _ _ _ _ _ _); (with_reducible exact WebAt.mono (by assumption) (by walk_at "hp"))))
local macro_rules | `(tactic| walk_at "hpg") => `(tactic| ((with_reducible show WebAt _ _ _ _ _ _); walk_at "hp"))
local macro_rules | `(tactic| walk_at "evf") => `(tactic| with_reducible apply ev_points)
local macro_rules | `(tactic| walk_at "evf") => `(tactic| with_reducible apply ev_turn)
local macro_rules | `(tactic| walk_at "evf") => `(tactic| with_reducible apply ev_lenB)
local macro_rules | `(tactic| walk_at "evf") => `(tactic| with_reducible apply ei_bound)
local macro_rules | `(tactic| walk_at "evf") => `(tactic| with_reducible apply ev_is_whole)
local macro_rules | `(tactic| walk_at "evf") => `(tactic| with_reducible apply ev_is_below)
local macro_rules | `(tactic| walk_at "evf") => `(tactic| with_reducible apply ev_is_tie)
local macro_rules | `(tactic| walk_at "evf") => `(tactic| with_reducible apply ei_stepped)
variable {K : PySem.W.Frag} {σ : L2.St} {H H' H1 : Hp} {ta tb tc te : TE} {t u : TT} {tl : TA} {v x y z : V}

/-! ### the cell and the draw -/
def cellF (ns : List Int) (k : Int) : Int := (atI ns k).getD 0
def sp__law_cell_at (K : PySem.W.Frag) : Sp := fun vs H Q _ => ∃ (a : Addr) (ns : List Int) (k : Int), vs = [.ref a, .int k] ∧ LI K H a ns ∧ 0 ≤ k ∧ RetV (.int (cellF ns k)) H Q
theorem ev_cell {a : Addr} {ns : List Int} {k : Int} (h : EvA tl σ H [.ref a, .int k]) (hn : LI K H a ns) (hk : 0 ≤ k) : Ev (tCall (sp__law_cell_at K) [] E0 tl) σ H (.int (cellF ns k)) := ev_call h fun _ _ e c => ⟨a, ns, k, rfl, hn.mono e, hk, c⟩
def prL : List Int := [1000003, 1000033, 1000037, 1000039, 1000081, 1000099, 1000117, 1000121, 1000133, 1000151, 1000159, 1000171, 1000183, 1000187, 1000193, 1000199]
def prF (k : Int) : Int := (atI prL (k % 16)).getD 1
theorem pr_at (k : Int) : atI prL (k % 16) = some (prF k) := by
  have h0 : 0 ≤ k % 16 := Int.emod_nonneg _ (by decide)
  have h1 : k % 16 < 16 := Int.emod_lt_of_pos _ (by decide)
  unfold prF
  rw [atI_pos h0, List.getElem?_eq_getElem (by show (k % 16).toNat < 16; omega)]
  rfl
theorem pr_pos (k : Int) : 0 < prF k := by
  have h0 : 0 ≤ k % 16 := Int.emod_nonneg _ (by decide)
  have h := pr_at k
  rw [atI_pos h0] at h
  have hm := List.mem_of_getElem? h
  have all : ∀ p ∈ prL, (0 : Int) < p := by decide
  exact all _ hm
def drawF (c k m : Int) : Int := (c * 48271 + k * 69621) % prF k % m
theorem draw_lt (c k : Int) {m : Int} (h : 0 < m) : drawF c k m < m := Int.emod_lt_of_pos _ h
theorem draw_ge (c k : Int) {m : Int} (h : 0 < m) : 0 ≤ drawF c k m := Int.emod_nonneg _ (by omega)
def sp__law_draw (K : PySem.W.Frag) : Sp := fun vs H Q _ => ∃ (c k m : Int), vs = [.int c, .int k, .int m] ∧ 0 < m ∧ RetV (.int (drawF c k m)) H Q
theorem ev_draw {c k m : Int} (h : EvA tl σ H [.int c, .int k, .int m]) (hm : 0 < m) : Ev (tCall (sp__law_draw K) [] E0 tl) σ H (.int (drawF c k m)) := ev_call h fun _ _ e q => ⟨c, k, m, rfl, hm, q⟩
theorem cell_lt {ns : List Int} {k : Int} (h0 : 0 ≤ k) (h : k < ns.length) : atI ns k = some (cellF ns k) := by
  unfold cellF
  rw [atI_pos h0, List.getElem?_eq_getElem (by omega)]
  rfl
theorem cell_ge {ns : List Int} {k : Int} (h0 : 0 ≤ k) (h : ¬ k < ns.length) : cellF ns k = 0 := by
  unfold cellF
  rw [atI_pos h0, List.getElem?_eq_none_iff.mpr (by omega)]
  rfl
def t__law_cell_at (K : PySem.W.Frag) : TS :=
 (tSeq (tIfS (tTest (tOp rLtI (tVar 1) (tCB (rLenS K) (tCons (tVar 0) tNil)))) (tRet (tOp (rIxL K) (tVar 0) (tVar 1))) tNext)
 (tRet (tC (.int 0))))
def t__law_draw (K : PySem.W.Frag) : TS :=
 (tSeq (tAsg (tTup (tCons (tC (.int 1000003)) (tCons (tC (.int 1000033)) (tCons (tC (.int 1000037)) (tCons (tC (.int 1000039)) (tCons (tC (.int 1000081)) (tCons (tC (.int 1000099)) (tCons (tC (.int 1000117)) (tCons (tC (.int 1000121)) (tCons (tC (.int 1000133)) (tCons (tC (.int 1000151)) (tCons (tC (.int 1000159)) (tCons (tC (.int 1000171)) (tCons (tC (.int 1000183)) (tCons (tC (.int 1000187)) (tCons (tC (.int 1000193)) (tCons (tC (.int 1000199)) tNil))))))))))))))))) (gName 3))
 (tRet (tOp rModI (tOp rModI (tOp rAddI (tOp rMulI (tVar 0) (tC (.int 48271))) (tOp rMulI (tVar 1) (tC (.int 69621)))) (tOp (rIxT K) (tVar 3) (tOp rModI (tVar 1) (tC (.int 16))))) (tVar 2))))
def t__law_web (K : PySem.W.Frag) : TS :=
 (tSeq (tAsg (tOp rDivI (tOp rMulI (tCB (rLenS K) (tCons (tVar 0) tNil)) (tOp (rIxT K) (tTup (tCons (tC (.int 1)) (tCons (tC (.int 2)) (tCons (tC (.int 3)) tNil)))) (tCall (sp__law_draw K) [] E0 (tCons (tCall (sp__law_cell_at K) [] E0 (tCons (tVar 0) (tCons (tC (.int 1)) tNil))) (tCons (tC (.int 2)) (tCons (tC (.int 3)) tNil)))))) (tC (.int 3))) (gName 1))
 (tSeq (tAsg (tOp rAddI (tC (.int 2)) (tCall (sp__law_draw K) [] E0 (tCons (tCall (sp__law_cell_at K) [] E0 (tCons (tVar 0) (tCons (tC (.int 0)) tNil))) (tCons (tC (.int 1)) (tCons (tOp rAddI (tC (.int 2)) (tVar 1)) tNil))))) (gName 2))
 (tSeq (tAsg (tOp (rIxT K) (tTup (tCons (tC (.int 0)) (tCons (tC (.int 0)) (tCons (tC (.int 2)) (tCons (tC (.int 3)) (tCons (tC (.int 12)) (tCons (tC (.int 1)) (tCons (tC (.int 1000000)) tNil)))))))) (tCall (sp__law_draw K) [] E0 (tCons (tCall (sp__law_cell_at K) [] E0 (tCons (tVar 0) (tCons (tC (.int 2)) tNil))) (tCons (tC (.int 3)) (tCons (tC (.int 7)) tNil))))) (gName 3))
 (tSeq (tAsg (tOp (rIxT K) (tTup (tCons (tC (.int 2)) (tCons (tC (.int 3)) (tCons (tC (.int 40)) (tCons (tC (.int 400000)) tNil))))) (tCall (sp__law_draw K) [] E0 (tCons (tCall (sp__law_cell_at K) [] E0 (tCons (tVar 0) (tCons (tC (.int 0)) tNil))) (tCons (tC (.int 4)) (tCons (tC (.int 4)) tNil))))) (gName 4))
 (tSeq (tAsg (tOp (rIxT K) (tTup (tCons (tC (.int 0)) (tCons (tC (.int 0)) (tCons (tC (.int 5)) (tCons (tC (.int 30)) tNil))))) (tCall (sp__law_draw K) [] E0 (tCons (tCall (sp__law_cell_at K) [] E0 (tCons (tVar 0) (tCons (tC (.int 1)) tNil))) (tCons (tC (.int 5)) (tCons (tC (.int 4)) tNil))))) (gName 5))
 (tSeq (tAsg (tAndV (tOp rGtI (tVar 2) (tC (.int 3))) (tOp rEq (tCall (sp__law_draw K) [] E0 (tCons (tCall (sp__law_cell_at K) [] E0 (tCons (tVar 0) (tCons (tC (.int 2)) tNil))) (tCons (tC (.int 8)) (tCons (tC (.int 4)) tNil)))) (tC (.int 0)))) (gName 6))
 (tSeq (tAsg (tLst tNil) (gName 7))
 (tSeq (tFor (iRng1 (tCons (tCB (rLenS K) (tCons (tVar 0) tNil)) tNil)) (gName 8) (tSeq (tAsg (tCall (sp__law_draw K) [] E0 (tCons (tOp (rIxL K) (tVar 0) (tVar 8)) (tCons (tOp rAddI (tOp rModI (tVar 8) (tC (.int 5))) (tC (.int 1))) (tCons (tVar 2) tNil)))) (gName 9))
 (tSeq (tAsg (tOp rModI (tOp rAddI (tOp rAddI (tVar 9) (tC (.int 1))) (tCall (sp__law_draw K) [] E0 (tCons (tOp (rIxL K) (tVar 0) (tVar 8)) (tCons (tOp rAddI (tOp rModI (tVar 8) (tC (.int 7))) (tC (.int 2))) (tCons (tOp rSubI (tVar 2) (tC (.int 1))) tNil))))) (tVar 2)) (gName 10))
 (tSeq (tIfS (tB (tVar 6)) (tSeq (tAsg (tIf (tTest (tOp rLtI (tVar 9) (tOp rDivI (tVar 2) (tC (.int 2))))) (tC (.int 0)) (tOp rDivI (tVar 2) (tC (.int 2)))) (gName 11))
 (tSeq (tAsg (tIf (tTest (tOp rEq (tVar 11) (tC (.int 0)))) (tOp rDivI (tVar 2) (tC (.int 2))) (tOp rSubI (tVar 2) (tVar 11))) (gName 12))
 (tSeq (tAsg (tOp rAddI (tC (.int 1)) (tCall (sp__law_draw K) [] E0 (tCons (tOp (rIxL K) (tVar 0) (tVar 8)) (tCons (tOp rAddI (tOp rModI (tVar 8) (tC (.int 7))) (tC (.int 2))) (tCons (tOp rSubI (tVar 12) (tC (.int 1))) tNil))))) (gName 13))
 (tAsg (tOp rAddI (tVar 11) (tOp rModI (tOp rAddI (tOp rSubI (tVar 9) (tVar 11)) (tVar 13)) (tVar 12))) (gName 10))))) tNext)
 (tSeq (tAsg (tOp rSubI (tCall (sp__law_draw K) [] E0 (tCons (tOp rMulI (tVar 10) (tC (.int 7919))) (tCons (tC (.int 6)) (tCons (tVar 4) tNil)))) (tCall (sp__law_draw K) [] E0 (tCons (tOp rMulI (tVar 9) (tC (.int 7919))) (tCons (tC (.int 6)) (tCons (tVar 4) tNil))))) (gName 14))
 (tSeq (tIfS (tAnd (tTest (tOp rGtI (tVar 5) (tC (.int 0)))) (tTest (tOp rEq (tCall (sp__law_draw K) [] E0 (tCons (tOp (rIxL K) (tVar 0) (tVar 8)) (tCons (tOp rAddI (tOp rModI (tVar 8) (tC (.int 3))) (tC (.int 9))) (tCons (tVar 5) tNil)))) (tC (.int 0))))) (tAsg (tOp rAddI (tVar 14) (tC (.int 1))) (gName 14)) tNext)
 (tSeq (tIfS (tAnd (tTest (tOp rGtI (tVar 3) (tC (.int 0)))) (tAnd (tTest (tOp rEq (tCall (sp__law_draw K) [] E0 (tCons (tOp (rIxL K) (tVar 0) (tVar 8)) (tCons (tC (.int 12)) (tCons (tC (.int 3)) tNil)))) (tC (.int 0)))) (tTest (tOp rLtI (tOp rAddI (tCB rAbs (tCons (tVar 14) tNil)) (tVar 3)) (tC (.int 1000000)))))) (tAsg (tOp rSubI (tVar 14) (tVar 3)) (gName 14)) tNext)
 (tDrop (tBM K "list" rAppend (tVar 7) (tCons (tTup (tCons (tVar 9) (tCons (tVar 10) (tCons (tVar 14) tNil)))) tNil))))))))))
 (tRet (tTup (tCons (tVar 2) (tCons (tVar 7) (tCons (tVar 3) tNil)))))))))))))
theorem rd__law_cell_at (vs : List V) (H : Hp) (Q : VK) (E : XK) (h : sp__law_cell_at K vs H Q E) : goal (t__law_cell_at K) ["_law_script", "_law_k"] vs H Q := by
  obtain ⟨a, ns, k, rfl, hn, hk, q⟩ := h
  refine Evl.q_when (b := decide (k < (ns.length : Int))) (by walk_at "ev") (fun hb H1 e1 => ?_) fun hb H1 e1 => ?_
  · have hat := cell_lt hk (of_decide_eq_true hb)
    exact Evl.s_ret (v := .int (cellF ns k)) (by walk_at "ev") fun H2 e2 => q H2 (e1.trans e2)
  · rw [cell_ge hk (of_decide_eq_false hb)] at q
    exact Evl.s_ret Evl.ev_c fun H2 e2 => q H2 (e1.trans e2)
theorem rd__law_draw (vs : List V) (H : Hp) (Q : VK) (E : XK) (h : sp__law_draw K vs H Q E) : goal (t__law_draw K) ["_law_cell", "_law_k", "_law_many", "_law_primes"] vs H Q := by
  obtain ⟨c, k, m, rfl, hm, q⟩ := h
  refine q_asgP (P := fun v H2 => TupI K H2 v prL) (ei_tup (by unfold prL; walk_at "ev") (by show 16 ≤ 100000; decide)) fun v H1 e1 hv => ?_
  have hat := pr_at k
  have hpp := pr_pos k
  refine Evl.s_ret (v := .int (drawF c k m)) ?_ fun H2 e2 => q H2 (e1.trans e2)
  have hix : Ev (tOp (rIxT K) (tVar 3) (tOp rModI (tVar 1) (tC (.int 16)))) ((start ["_law_cell", "_law_k", "_law_many", "_law_primes"] [V.int c, V.int k, V.int m]).set 3 (some v)) H1 (.int (prF k)) :=
    ev_ixU (evi_of (Evl.ev_var rfl) hv) (by walk_at "ev") hat
  exact Evl.ev_op (Evl.ev_op (by walk_at "ev") hix (rv_mod hpp)) (by walk_at "ev") (rv_mod hm)

/-! ### the law's web -/
structure LawWeb (n turn : Int) (ts : List Tie) : Prop where
  n2 : 2 ≤ n
  n66 : n ≤ 66
  t0 : 0 ≤ turn
  t1 : turn ≤ 1000000
  len : ts.length ≤ 63
  ok : ∀ t ∈ ts, okTie n t = true
def LawWebV (K : PySem.W.Frag) (H : Hp) (len : Nat) (v : V) (H2 : Hp) : Prop := ∃ (p l : Addr) (n turn : Int) (ts : List Tie), v = .ref p ∧ SqT K H2 p [.int n, .ref l, .int turn] ∧ H l = none ∧ (∃ vs, H2 l = some (.lst vs) ∧ TupL K H2 vs (ts.map tieL)) ∧ LawWeb n turn ts ∧ ts.length = len
def sp__law_web (K : PySem.W.Frag) : Sp := fun vs H Q _ => ∃ (a : Addr) (ns : List Int), vs = [.ref a] ∧ LI K H a ns ∧ ns.length ≤ 63 ∧ RetP (LawWebV K H ns.length) H Q
theorem ep_law_web {a : Addr} {ns : List Int} (h : EvA tl σ H [.ref a]) (hn : LI K H a ns) (hl : ns.length ≤ 63) : EvP (tCall (sp__law_web K) [] E0 tl) σ H (LawWebV K H ns.length) :=
  ep_call h fun H1 Q e k => ⟨a, ns, rfl, hn.mono e, hl, fun v H2 e2 ⟨p, l, n, turn, ts, a1, a2, a3, a4⟩ => k v H2 e2 ⟨p, l, n, turn, ts, a1, a2, Evl.fresh_back e a3, a4⟩⟩
theorem atI_pick {xs : List Int} {i : Int} (h0 : 0 ≤ i) (h1 : i < xs.length) {P : Int → Prop} (h : ∀ x ∈ xs, P x) : ∃ x, atI xs i = some x ∧ P x := by
  refine ⟨xs[i.toNat]'(by omega), by rw [atI_pos h0, List.getElem?_eq_getElem (by omega)], h _ (List.getElem_mem _)⟩
theorem other_ne {a b m : Int} (h0 : 0 ≤ a) (h1 : a < m) (h2 : 1 ≤ b) (h3 : b < m) : 0 ≤ (a + b) % m ∧ (a + b) % m < m ∧ (a + b) % m ≠ a := by
  refine ⟨Int.emod_nonneg _ (by omega), Int.emod_lt_of_pos _ (by omega), ?_⟩
  by_cases h : a + b < m
  · rw [Int.emod_eq_of_lt (by omega) h]
    omega
  · have e : (a + b) % m = (a + b - m) % m := (Int.sub_emod_right (a + b) m).symm
    rw [e, Int.emod_eq_of_lt (by omega) (by omega)]
    omega
local macro_rules | `(tactic| walk_at "evf") => `(tactic| ((with_reducible apply ev_cell); (· walk_at "ev"); (· walk_at "hp"); (· omega)))
local macro_rules | `(tactic| walk_at "evf") => `(tactic| ((with_reducible apply ev_draw); (· walk_at "ev"); (· omega)))
theorem ev_absI {i : Int} (h : Ev ta σ H (.int i)) : Ev (tCB rAbs (tCons ta tNil)) σ H (.int (if i < 0 then -i else i)) := fun H1 e Q q => h H1 e _ fun H2 e2 => ⟨i, rfl, q H2 e2⟩
local macro_rules | `(tactic| walk_at "evf") => `(tactic| with_reducible apply ev_absI)
/-- an if whose ways meet again: what is known where they meet -/
theorem q_meet {α : Type} {D : Ends} {tu tz : TS} {b : Bool} (st : α → L2.St) (J : α → Hp → Prop) (hT : EvT t σ H b) (h1 : b = true → ∀ H1, Ex H H1 → (∀ x H2, J x H2 → tz D (st x) H2) → tu { D with nx := tz D } σ H1)
    (h2 : b = false → ∀ H1, Ex H H1 → ∃ x, σ = st x ∧ J x H1) (k : ∀ x H2, J x H2 → tz D (st x) H2) : tSeq (tIfS t tu tNext) tz D σ H :=
  Evl.q_when hT (fun hb H1 e => h1 hb H1 e k) fun hb H1 e => by
    obtain ⟨x, ex, i⟩ := h2 hb H1 e
    rw [ex]
    exact k x H1 i
theorem okTie_of {n a b c : Int} (h1 : 0 ≤ a) (h2 : a < n) (h3 : 0 ≤ b) (h4 : b < n) (h5 : b ≠ a) (h6 : -1000000 ≤ c) (h7 : c ≤ 1000000) : okTie n (a, b, c) = true := by
  unfold okTie
  exact decide_eq_true ⟨⟨h1, h2⟩, ⟨h3, h4⟩, fun z => h5 z.symm, h6, h7⟩
theorem rd__law_web (vs : List V) (H : Hp) (Q : VK) (E : XK) (h : sp__law_web K vs H Q E) : goal (t__law_web K) ["_law_script", "_law_few", "_law_points", "_law_turn", "_law_most", "_law_wrong", "_law_halves", "_law_ties", "_law_k", "_law_one", "_law_other", "_law_low", "_law_many", "_law_by", "_law_number"] vs H Q := by
  obtain ⟨a, ns, rfl, hn, hl, q⟩ := h
  obtain ⟨x, hx, x1, x2⟩ := atI_pick (xs := [1, 2, 3]) (i := drawF (cellF ns 1) 2 3) (draw_ge _ _ (by decide)) (draw_lt _ _ (by decide)) (P := fun x => 1 ≤ x ∧ x ≤ 3) (by decide)
  have hm : 0 ≤ (ns.length : Int) * x ∧ (ns.length : Int) * x ≤ 189 := by
    have : x = 1 ∨ x = 2 ∨ x = 3 := by omega
    rcases this with rfl | rfl | rfl <;> omega
  refine Evl.q_asg (v := .int ((ns.length : Int) * x / 3)) (by walk_at "ev") fun H1 e1 => ?_
  generalize hf : (ns.length : Int) * x / 3 = few
  have f0 : 0 ≤ few ∧ few ≤ 63 := by omega
  refine Evl.q_asg (v := .int (2 + drawF (cellF ns 0) 1 (2 + few))) (by walk_at "ev") fun H2 e2 => ?_
  have d1 := draw_ge (cellF ns 0) 1 (m := 2 + few) (by omega)
  have d2 := draw_lt (cellF ns 0) 1 (m := 2 + few) (by omega)
  generalize hn0 : 2 + drawF (cellF ns 0) 1 (2 + few) = n
  have hn1 : 2 ≤ n ∧ n ≤ 66 := by omega
  obtain ⟨turn, ht, ht0, ht1⟩ := atI_pick (xs := [0, 0, 2, 3, 12, 1, 1000000]) (i := drawF (cellF ns 2) 3 7) (draw_ge _ _ (by decide)) (draw_lt _ _ (by decide)) (P := fun x => 0 ≤ x ∧ x ≤ 1000000) (by decide)
  refine Evl.q_asg (v := .int turn) (by walk_at "ev") fun H3 e3 => ?_
  obtain ⟨most, hmo, hmo0, hmo1⟩ := atI_pick (xs := [2, 3, 40, 400000]) (i := drawF (cellF ns 0) 4 4) (draw_ge _ _ (by decide)) (draw_lt _ _ (by decide)) (P := fun x => 2 ≤ x ∧ x ≤ 400000) (by decide)
  refine Evl.q_asg (v := .int most) (by walk_at "ev") fun H4 e4 => ?_
  obtain ⟨wrong, hwr, hwr0⟩ := atI_pick (xs := [0, 0, 5, 30]) (i := drawF (cellF ns 1) 5 4) (draw_ge _ _ (by decide)) (draw_lt _ _ (by decide)) (P := fun x => 0 ≤ x) (by decide)
  refine Evl.q_asg (v := .int wrong) (by walk_at "ev") fun H5 e5 => ?_
  refine Evl.q_asg (v := .bl (decide (3 < n) && decide (drawF (cellF ns 2) 8 4 = 0))) (by walk_at "ev") fun H6 e6 => ?_
  generalize hhv : (decide (3 < n) && decide (drawF (cellF ns 2) 8 4 = 0)) = halves
  have hh : halves = true → 3 < n := fun z => by
    rw [← hhv, Bool.and_eq_true] at z
    exact of_decide_eq_true z.1
  refine Evl.q_asgL (xs := []) (Evl.el_lst (by walk_at "ev") (by decide)) fun l H7 hfr e7 h7 => ?_
  have e06 : Ex H H6 := e1.trans (e2.trans (e3.trans (e4.trans (e5.trans e6))))
  have hfr0 : H l = none := Evl.fresh_back e06 hfr
  refine q_seq (f_range (n := (ns.length : Int)) (by walk_at "ev") ⟨by omega, by omega⟩
    (fun i σ' H' => ∃ (us : List V) (ts : List Tie) (o8 o9 o10 o11 o12 o13 o14 : Option V), σ' = [some (.ref a), some (.int few), some (.int n), some (.int turn), some (.int most), some (.int wrong), some (.bl halves), some (.ref l), o8, o9, o10, o11, o12, o13, o14] ∧ Ex H H' ∧ H' l = some (.lst us) ∧ TupL K H' us (ts.map tieL) ∧ ts.length = i ∧ ∀ t ∈ ts, okTie n t = true)
    (fun H8 e8 => ⟨[], [], _, _, _, _, _, _, _, rfl, e06.trans (e7.trans e8), e8 _ _ h7, .nil, rfl, fun t ht => by cases ht⟩) ?_ ?_)
  · rintro i σ' H' hi ⟨us, ts, o8, o9, o10, o11, o12, o13, o14, rfl, e, hll, hT, hlen, hok⟩
    have hn' : LI K H' a ns := hn.mono e
    have hci := cell_lt (ns := ns) (k := (i : Int)) (by omega) hi
    generalize hcc : cellF ns (i : Int) = c at hci
    have r5 : 0 ≤ (i : Int) % 5 := by omega
    have r7 : 0 ≤ (i : Int) % 7 := by omega
    have r3 : 0 ≤ (i : Int) % 3 := by omega
    dsimp only
    refine Evl.q_asg (v := .int (drawF c ((i : Int) % 5 + 1) n)) (by walk_at "ev") fun H8 e8 => ?_
    have g1 := draw_ge c ((i : Int) % 5 + 1) (m := n) (by omega)
    have g2 := draw_lt c ((i : Int) % 5 + 1) (m := n) (by omega)
    generalize drawF c ((i : Int) % 5 + 1) n = one at g1 g2
    refine Evl.q_asg (v := .int ((one + 1 + drawF c ((i : Int) % 7 + 2) (n - 1)) % n)) (by walk_at "ev") fun H9 e9 => ?_
    have g3 := draw_ge c ((i : Int) % 7 + 2) (m := n - 1) (by omega)
    have g4 := draw_lt c ((i : Int) % 7 + 2) (m := n - 1) (by omega)
    have g5 := other_ne (a := one) (b := 1 + drawF c ((i : Int) % 7 + 2) (n - 1)) (m := n) g1 g2 (by omega) (by omega)
    rw [← Int.add_assoc] at g5
    generalize (one + 1 + drawF c ((i : Int) % 7 + 2) (n - 1)) % n = other at g5
    have hn9 : LI K H9 a ns := hn'.mono (e8.trans e9)
    refine q_meet (α := Int × Option V × Option V × Option V) (fun z => [some (.ref a), some (.int few), some (.int n), some (.int turn), some (.int most), some (.int wrong), some (.bl halves), some (.ref l), some (.int (i : Int)), some (.int one), some (.int z.1), z.2.1, z.2.2.1, z.2.2.2, o14])
      (fun z H2 => Ex H' H2 ∧ 0 ≤ z.1 ∧ z.1 < n ∧ z.1 ≠ one) (b := halves) (Evl.et_B (by walk_at "ev")) (fun hb H10 e10 kk => ?_) (fun hb H10 e10 => ⟨(other, o11, o12, o13), rfl, e8.trans (e9.trans e10), g5.1, g5.2.1, g5.2.2⟩) ?_
    · have hn3 := hh hb
      have e8' : Ex H' H10 := e8.trans (e9.trans e10)
      have hn10 : LI K H10 a ns := hn'.mono e8'
      refine Evl.q_asg (v := .int (if decide (one < n / 2) = true then 0 else n / 2)) (Evl.ev_if (by walk_at "ev") (fun hc => by rw [if_pos hc]; exact Evl.ev_c) fun hc => by rw [if_neg (by rw [hc]; decide)]; walk_at "ev") fun H11 e11 => ?_
      generalize hlow : (if decide (one < n / 2) = true then 0 else n / 2) = low
      have low1 : (one < n / 2 ∧ low = 0) ∨ (¬ one < n / 2 ∧ low = n / 2) := by
        by_cases c : one < n / 2
        · rw [if_pos (decide_eq_true c)] at hlow
          exact .inl ⟨c, hlow.symm⟩
        · rw [if_neg (by rw [decide_eq_false c]; decide)] at hlow
          exact .inr ⟨c, hlow.symm⟩
      refine Evl.q_asg (v := .int (if decide (low = 0) = true then n / 2 else n - low)) (Evl.ev_if (by walk_at "ev") (fun hc => by rw [if_pos hc]; walk_at "ev") fun hc => by rw [if_neg (by rw [hc]; decide)]; walk_at "ev") fun H12 e12 => ?_
      generalize hmany : (if decide (low = 0) = true then n / 2 else n - low) = many
      have many1 : 2 ≤ many ∧ low ≤ one ∧ one < low + many ∧ low + many ≤ n ∧ 0 ≤ low := by
        by_cases c : low = 0
        · rw [if_pos (decide_eq_true c)] at hmany
          omega
        · rw [if_neg (by rw [decide_eq_false c]; decide)] at hmany
          omega
      refine Evl.q_asg (v := .int (1 + drawF c ((i : Int) % 7 + 2) (many - 1))) (by walk_at "ev") fun H13 e13 => ?_
      have g6 := draw_ge c ((i : Int) % 7 + 2) (m := many - 1) (by omega)
      have g7 := draw_lt c ((i : Int) % 7 + 2) (m := many - 1) (by omega)
      have g8 := other_ne (a := one - low) (b := 1 + drawF c ((i : Int) % 7 + 2) (many - 1)) (m := many) (by omega) (by omega) (by omega) (by omega)
      refine Evl.s_asg (v := .int (low + (one - low + (1 + drawF c ((i : Int) % 7 + 2) (many - 1))) % many)) (by walk_at "ev") fun H14 e14 => ?_
      generalize (one - low + (1 + drawF c ((i : Int) % 7 + 2) (many - 1))) % many = z at g8
      exact kk (low + z, _, _, _) H14 ⟨e8'.trans (e11.trans (e12.trans (e13.trans e14))), by omega, by omega, by omega⟩
    rintro ⟨other2, p11, p12, p13⟩ H10 ⟨e10, k1, k2, k3⟩
    dsimp only at k1 k2 k3 ⊢
    have hn10 : LI K H10 a ns := hn'.mono e10
    have q1 := draw_ge (other2 * 7919) 6 (m := most) (by omega)
    have q2 := draw_lt (other2 * 7919) 6 (m := most) (by omega)
    have q3 := draw_ge (one * 7919) 6 (m := most) (by omega)
    have q4 := draw_lt (one * 7919) 6 (m := most) (by omega)
    refine Evl.q_asg (v := .int (drawF (other2 * 7919) 6 most - drawF (one * 7919) 6 most)) (by walk_at "ev") fun H11 e11 => ?_
    have nb : -399999 ≤ drawF (other2 * 7919) 6 most - drawF (one * 7919) 6 most ∧ drawF (other2 * 7919) 6 most - drawF (one * 7919) 6 most ≤ 399999 := by omega
    generalize drawF (other2 * 7919) 6 most - drawF (one * 7919) 6 most = num at nb
    obtain ⟨nb1, nb2⟩ := nb
    have hn11 : LI K H11 a ns := hn10.mono e11
    refine q_meet (α := Int) (fun z => [some (.ref a), some (.int few), some (.int n), some (.int turn), some (.int most), some (.int wrong), some (.bl halves), some (.ref l), some (.int (i : Int)), some (.int one), some (.int other2), p11, p12, p13, some (.int z)])
      (fun z H2 => Ex H' H2 ∧ -400000 ≤ z ∧ z ≤ 400000) (b := decide (0 < wrong) && decide (drawF c ((i : Int) % 3 + 9) wrong = 0)) (Evl.et_and (by walk_at "ev") fun hc => ?_) (fun hb H12 e12 kk => ?_) (fun hb H12 e12 => ⟨num, rfl, e10.trans (e11.trans e12), by omega, by omega⟩) ?_
    · have hw := of_decide_eq_true hc
      walk_at "ev"
    · refine Evl.s_asg (v := .int (num + 1)) (by walk_at "ev") fun H13 e13 => kk (num + 1) H13 ⟨e10.trans (e11.trans (e12.trans e13)), by omega, by omega⟩
    rintro num2 H12 ⟨e12, m1, m2⟩
    have hn12 : LI K H12 a ns := hn'.mono e12
    refine q_meet (α := Int) (fun z => [some (.ref a), some (.int few), some (.int n), some (.int turn), some (.int most), some (.int wrong), some (.bl halves), some (.ref l), some (.int (i : Int)), some (.int one), some (.int other2), p11, p12, p13, some (.int z)])
      (fun z H2 => Ex H' H2 ∧ -1000000 ≤ z ∧ z ≤ 1000000) (b := decide (0 < turn) && (decide (drawF c 12 3 = 0) && decide ((if num2 < 0 then -num2 else num2) + turn < 1000000))) (Evl.et_and (by walk_at "ev") fun hc => Evl.et_and (by walk_at "ev") fun hc => by walk_at "ev") (fun hb H13 e13 kk => ?_) (fun hb H13 e13 => ⟨num2, rfl, e12.trans e13, by omega, by omega⟩) ?_
    · rw [Bool.and_eq_true, Bool.and_eq_true] at hb
      have hlt := of_decide_eq_true hb.2.2
      have bd : -1000000 ≤ num2 - turn ∧ num2 - turn ≤ 1000000 := by
        split at hlt <;> omega
      refine Evl.s_asg (v := .int (num2 - turn)) (by walk_at "ev") fun H14 e14 => kk (num2 - turn) H14 ⟨e12.trans (e13.trans e14), bd.1, bd.2⟩
    rintro num3 H13 ⟨e13, m3, m4⟩
    refine s_appP (l := l) (xs := us) (P := fun v H2 => TupI K H2 v (tieL (one, other2, num3))) (e13 _ _ hll) (by walk_at "ev") (by walk_at "ev") (by rw [hT.length, List.length_map]; omega) fun v H14 e14 hv => ?_
    have hl14 := e14 _ _ (e13 _ _ hll)
    refine ⟨us ++ [v], ts ++ [(one, other2, num3)], _, _, _, _, _, _, _, rfl, ((e.trans e13).trans e14).mut hfr0, upd_same, ?_, by simp [hlen], ?_⟩
    · rw [List.map_append]
      exact (TupL.snoc (hT.mono (e13.trans e14)) hv).updL hl14
    · intro t ht
      rcases List.mem_append.mp ht with ht | ht
      · exact hok t ht
      · rw [List.mem_singleton.mp ht]
        exact okTie_of g1 g2 k1 k2 k3 m3 m4
  · rintro σ' H' ⟨us, ts, o8, o9, o10, o11, o12, o13, o14, rfl, e, hll, hT, hlen, hok⟩
    dsimp only
    refine s_retP (P := LawWebV K H ns.length) (fun H8 e8 Q8 q8 => ?_) fun v H8 e8 hv => q v H8 (e.trans e8) hv
    have ev : EvA (tCons (tVar 2) (tCons (tVar 7) (tCons (tVar 3) tNil))) [some (.ref a), some (.int few), some (.int n), some (.int turn), some (.int most), some (.int wrong), some (.bl halves), some (.ref l), o8, o9, o10, o11, o12, o13, o14] H' [.int n, .ref l, .int turn] := by walk_at "ev"
    refine Evl.eu_tup ev (by show 3 ≤ 100000; decide) H8 e8 _ fun p H9 hp e9 h9 => q8 _ H9 e9 ⟨p, l, n, turn, ts, rfl, .inl (.inl h9), hfr0, ⟨us, e9 _ _ (e8 _ _ hll), hT.mono (e8.trans e9)⟩, ⟨hn1.1, hn1.2, ht0, ht1, by omega, hok⟩, by omega⟩
end G

/-! The law's own defs: the walk, straight, closed, numbers. -/
namespace G
open PySem PySem.Spec PyProof.Rows L2
open Evl (Ex Ev EvL EvU EvT EvA RV RetV)
local macro_rules | `(tactic| walk_at "hp") => `(tactic| first
  | with_reducible assumption
  | ((with_reducible show _ = some (_ : HO)); (with_reducible exact ex_app (by assumption) (by walk_at "hp")))
  | ((with_reducible show TupI _ _ _ _); (with_reducible exact TupI.mono (by assumption) (by walk_at "hp")))
  | ((with_reducible show LT _ _ _ _); (with_reducible exact LT.mono (by assumption) (by walk_at "hp")))
  | ((with_reducible show LI _ _ _ _); (first | (with_reducible exact li_of (by walk_at "hp")) | (with_reducible exact LI.mono (by assumption) (by walk_at "hp"))))
  | ((with_reducible show SqL _ _ _ _); (first | (with_reducible exact SqL.of (by walk_at "hp")) | (with_reducible exact Evl.ex_l (by assumption) (by walk_at "hp"))))
  | ((with_reducible show SqT _ _ _ _); (first | (with_reducible exact SqT.of (by walk_at "hp")) | (with_reducible exact Evl.ex_t (by assumption) (by walk_at "hp"))))
  | ((with_reducible show Rd _ _ _); (first | (with_reducible exact Rd.of (by walk_at "hp")) | (with_reducible exact Evl.ex_rd (by assumption) (by walk_at "hp"))))
  | walk_at "hpf")
local macro_rules | `(tactic| walk_at "at") => `(tactic| first
  | with_reducible assumption
  | with_reducible rfl
  | (refine atI_of ?va ?vb; (case va => omega); (case vb => assumption))
  | walk_at "atf"
  | rfl)
local macro_rules | `(tactic| walk_at "rv") => `(tactic| first
  | with_reducible exact rv_add | with_reducible exact rv_sub | with_reducible exact rv_eqI | with_reducible exact rv_neI | with_reducible exact rv_lt | with_reducible exact rv_le | with_reducible exact rv_gt | with_reducible exact rv_ge
  | with_reducible exact rv_eqB | with_reducible exact rv_neB | with_reducible exact rv_isB | with_reducible exact rv_notB
  | ((with_reducible refine rv_mod ?_); (first | assumption | omega))
  | ((with_reducible refine rv_mul ?_); (first | exact Or.inl ⟨by omega, by omega⟩ | exact Or.inr ⟨by omega, by omega⟩))
  | ((with_reducible refine rv_div ?_); exact ⟨by omega, by omega⟩))
local macro_rules | `(tactic| walk_at "ty") => `(tactic| first
  | with_reducible exact fun _ _ => .base (.int _) | with_reducible exact fun _ _ => .base (.bl _) | with_reducible exact fun _ _ => .base .non | with_reducible exact fun _ _ => .base (.str _)
  | ((with_reducible apply ty_tup); walk_at "hp")
  | ((with_reducible apply ty_lst); walk_at "hp")
  | walk_at "tyf")
local macro_rules | `(tactic| walk_at "ev") => `(tactic| repeat' (first
  | with_reducible exact Evl.ev_c
  | ((with_reducible apply Evl.ev_var); rfl)
  | with_reducible apply ev_neg
  | with_reducible apply ev_ixU
  | walk_at "evf"
  | ((with_reducible apply ev_lenI); (· walk_at "ev"); (· walk_at "hp"))
  | ((with_reducible apply ev_lenT); (· walk_at "ev"); (· walk_at "hp"))
  | ((with_reducible apply ev_lenU); (· walk_at "ev"))
  | with_reducible apply ev_lenSet
  | with_reducible apply ev_chain
  | with_reducible apply ev_isiTy
  | with_reducible apply Evl.ev_andV
  | with_reducible apply Evl.ev_orV
  | with_reducible apply Evl.ev_notV
  | ((with_reducible apply ev_ixI); (· walk_at "ev"); (· walk_at "ev"); (· walk_at "hp"); (· walk_at "at"))
  | with_reducible apply Evl.ev_op
  | ((with_reducible apply evi_of); (· (with_reducible apply Evl.ev_var); rfl); (· walk_at "hp"))
  | with_reducible apply ei_ix
  | with_reducible apply ei_tup
  | with_reducible exact eai_nil
  | with_reducible apply eai_cons
  | with_reducible exact Evl.ea_nil
  | with_reducible apply Evl.ea_cons
  | with_reducible apply Evl.et_test
  | with_reducible apply Evl.et_and
  | with_reducible apply Evl.et_or
  | with_reducible apply Evl.et_not
  | with_reducible apply Evl.et_B
  | walk_at "rv"
  | ((with_reducible show L2.kitB _ _ = _); rfl)
  | ((with_reducible show L2.atI _ _ = _); walk_at "at")
  | ((with_reducible show (_ : Nat) ≤ _); (first | omega | (simp; done) | (simp; omega)))
  | ((with_reducible show _ = true → _); intro _)
  | ((with_reducible show _ = false → _); intro _)
  | ((with_reducible show TupI _ _ _ _); walk_at "hp")
  | ((with_reducible show LT _ _ _ _); walk_at "hp")
  | ((with_reducible show LI _ _ _ _); walk_at "hp")
  | ((with_reducible show SqL _ _ _ _); walk_at "hp")
  | ((with_reducible show SqT _ _ _ _); walk_at "hp")
  | ((with_reducible show Rd _ _ _); walk_at "hp")
  | ((with_reducible show _ = some (_ : HO)); walk_at "hp")
  | walk_at "hpg"
  | walk_at "ty"))

local macro_rules | `(tactic| walk_at "hpf") => `(tactic| ((with_reducible show WebAt _ _ _ _ _ _); (with_reducible exact WebAt.mono (by assumption) (by walk_at "hp"))))
local macro_rules | `(tactic| walk_at "hpg") => `(tactic| ((with_reducible show WebAt _ _ _ _ _ _); walk_at "hp"))
local macro_rules | `(tactic| walk_at "evf") => `(tactic| with_reducible apply ev_points)
local macro_rules | `(tactic| walk_at "evf") => `(tactic| with_reducible apply ev_turn)
local macro_rules | `(tactic| walk_at "evf") => `(tactic| with_reducible apply ev_lenB)
local macro_rules | `(tactic| walk_at "evf") => `(tactic| with_reducible apply ei_bound)
local macro_rules | `(tactic| walk_at "evf") => `(tactic| with_reducible apply ev_is_whole)
local macro_rules | `(tactic| walk_at "evf") => `(tactic| with_reducible apply ev_is_below)
local macro_rules | `(tactic| walk_at "evf") => `(tactic| with_reducible apply ev_is_tie)
local macro_rules | `(tactic| walk_at "evf") => `(tactic| with_reducible apply ei_stepped)
variable {K : PySem.W.Frag} {σ : L2.St} {H H' H1 : Hp} {ta tb tc te : TE} {t u : TT} {tl : TA} {v x y z : V}

theorem ev_niI {xs : List Int} {i : Int} (ha : Ev ta σ H (.int i)) (hb : EvI K tb σ H xs) : Ev (tOp (rIn K true) ta tb) σ H (.bl (!decide (i ∈ xs))) := fun H1 e Q q =>
  ha H1 e _ fun H2 e2 => hb H2 (e.trans e2) _ fun v H3 e3 ⟨p, ev, hp⟩ => ⟨p, xs.map V.int, ev, .inr hp, rfl, flat_ints xs, by
    show Q (.bl (!inV (.int i) (xs.map V.int))) H3
    rw [inV_int]
    exact q H3 (e2.trans e3)⟩
/-- t[:2] -/
theorem ei_cut2 {a b c : Int} (h : EvI K te σ H [a, b, c]) : EvI K (tSl (rSlT K) te tNoPart (tPart (tC (.int 2)))) σ H [a, b] := fun H1 e Q q =>
  h H1 e _ fun v H2 e2 ⟨p, ev, hp⟩ => ⟨2, rfl, p, _, ev, hp, by show ¬ (HT.sIx 3 0 none = 0 ∧ HT.sIx 3 3 (some 2) = 3); decide, fun r hr => q _ _ (e2.trans (Ex.new hr)) ⟨r, rfl, .inl (.inl (by rw [upd_same]; rfl))⟩⟩
/-- t[1::-1] -/
theorem ei_swap {a b c : Int} (h : EvI K te σ H [a, b, c]) : EvI K (tSwapT K te) σ H [b, a] := fun H1 e Q q =>
  h H1 e _ fun v H2 e2 ⟨p, ev, hp⟩ => ⟨p, .int a, .int b, .int c, ev, hp, fun r hr => q _ _ (e2.trans (Ex.new hr)) ⟨r, rfl, .inl (.inl (by rw [upd_same]; rfl))⟩⟩
theorem ei_if {b : Bool} {xs : List Int} (h : EvT t σ H b) (h1 : b = true → EvI K ta σ H xs) (h2 : b = false → EvI K tb σ H xs) : EvI K (tIf t ta tb) σ H xs := fun H1 e Q q => h H1 e _ fun H2 e2 => by
  cases b with
  | true =>
    show ta σ H2 Q
    exact h1 rfl H2 (e.trans e2) Q fun v H3 e3 p => q v H3 (e2.trans e3) p
  | false =>
    show tb σ H2 Q
    exact h2 rfl H2 (e.trans e2) Q fun v H3 e3 p => q v H3 (e2.trans e3) p
/-- a, b = [x], 0 -/
theorem q_parL {D : Ends} {tz : TS} {i j : Nat} {xs : List V} (h : EvL te σ H xs) (hb : ∀ H1, Ex H H1 → Ev tb σ H1 y) (k : ∀ p H1, H p = none → Ex H H1 → H1 p = some (.lst xs) → tz D ((σ.set i (some (.ref p))).set j (some y)) H1) :
    tSeq (tPar i j (tCons te (tCons tb tNil))) tz D σ H :=
  h H (Ex.refl H) _ fun p H1 hp e1 h1 => hb H1 e1 H1 (Ex.refl H1) _ fun H2 e2 => ⟨_, _, rfl, k p H2 hp (e1.trans e2) (e2 _ _ h1)⟩

/-! ### the walk -/
def Pos (ts : List Tie) : Prop := ∀ t ∈ ts, 0 ≤ t.1 ∧ 0 ≤ t.2.1
def sp__law_walk (K : PySem.W.Frag) : Sp := fun vs H Q _ => ∃ (tl l : Addr) (p : Int) (ss : List Step) (ts : List Tie), vs = [.ref tl, .int p, .ref l] ∧ LTie K H tl ts ∧ Pos ts ∧ LStep K H l ss ∧ ss.length ≤ 3000 ∧ RetP (WalkV K H (walkR ts p ss)) H Q
theorem ep_law_walk {tl' l : Addr} {p : Int} {ss : List Step} {ts : List Tie} (h : EvA tl σ H [.ref tl', .int p, .ref l]) (hw : LTie K H tl' ts) (hp : Pos ts) (hs : LStep K H l ss) (hl : ss.length ≤ 3000) : EvP (tCall (sp__law_walk K) [] E0 tl) σ H (WalkV K H (walkR ts p ss)) :=
  ep_call h fun H1 Q e k => ⟨tl', l, p, ss, ts, rfl, hw.mono e, hp, hs.mono e, hl, fun v H2 e2 ⟨t, l, a, b, c, d⟩ => k v H2 e2 ⟨t, l, a, b, Evl.fresh_back e c, d⟩⟩
def t__law_walk (K : PySem.W.Frag) : TS :=
 (tSeq (tPar 3 4 (tCons (tLst (tCons (tVar 1) tNil)) (tCons (tC (.int 0)) tNil)))
 (tSeq (tFor (iList K (tVar 2)) (gName 5) (tSeq (tIfS (tOr (tNot (tB (tCB (rIsi K) (tCons (tVar 5) (tCons (tC (.ty "tuple")) tNil))))) (tTest (tOp rNe (tCB (rLenS K) (tCons (tVar 5) tNil)) (tC (.int 2))))) (tRet (tTup (tCons (tLst tNil) (tCons (tC (.int 0)) tNil)))) tNext)
 (tSeq (tAsg (tVar 5) (gTup K 2 (gCons (gName 6) (gCons (gName 7) gNil))))
 (tSeq (tIfS (tOr (tB (tCB (rIsi K) (tCons (tVar 6) (tCons (tC (.ty "bool")) tNil)))) (tOr (tNot (tB (tCB (rIsi K) (tCons (tVar 6) (tCons (tC (.ty "int")) tNil))))) (tOr (tNot (tTest (tChain rLeI rLtI (tC (.int 0)) (tVar 6) (tCB (rLenS K) (tCons (tVar 0) tNil))))) (tTest (tOp (rIn K true) (tVar 7) (tTup (tCons (tC (.int 1)) (tCons (tUn rNegI (tC (.int 1))) tNil)))))))) (tRet (tTup (tCons (tLst tNil) (tCons (tC (.int 0)) tNil)))) tNext)
 (tSeq (tAsg (tIf (tTest (tOp rEq (tVar 7) (tC (.int 1)))) (tSl (rSlT K) (tOp (rIxL K) (tVar 0) (tVar 6)) tNoPart (tPart (tC (.int 2)))) (tSwapT K (tOp (rIxL K) (tVar 0) (tVar 6)))) (gName 8))
 (tSeq (tIfS (tTest (tOp rNe (tOp (rIxL K) (tVar 3) (tUn rNegI (tC (.int 1)))) (tOp (rIxT K) (tVar 8) (tC (.int 0))))) (tRet (tTup (tCons (tLst tNil) (tCons (tC (.int 0)) tNil)))) tNext)
 (tSeq (tDrop (tBM K "list" rAppend (tVar 3) (tCons (tOp (rIxT K) (tVar 8) (tC (.int 1))) tNil)))
 (tAsg (tOp rAddI (tVar 4) (tOp rMulI (tVar 7) (tOp (rIxT K) (tOp (rIxL K) (tVar 0) (tVar 6)) (tC (.int 2))))) (gName 4)))))))))
 (tRet (tTup (tCons (tVar 3) (tCons (tVar 4) tNil))))))
def t__law_straight (K : PySem.W.Frag) : TS :=
 (tSeq (tAsg (tOp (rIxT K) (tCall (sp__law_walk K) [] E0 (tCons (tVar 0) (tCons (tVar 1) (tCons (tVar 2) tNil)))) (tC (.int 0))) (gName 4))
 (tRet (tAndV (tOp (rNeD K) (tVar 4) (tLst tNil)) (tAndV (tOp rEq (tOp (rIxL K) (tVar 4) (tUn rNegI (tC (.int 1)))) (tVar 3)) (tOp rEq (tLenSetD K (tVar 4)) (tCB (rLenS K) (tCons (tVar 4) tNil)))))))
def t__law_closed (K : PySem.W.Frag) : TS :=
 (tSeq (tIfS (tOr (tTest (tOp (rNeD K) (tVar 2) (tSortSet K (tVar 2)))) (tB (tCB (rAny K) (tCons (tLc (iList K (tVar 2)) (gName 5) tYes (tNotV (tChain rLeI rLtI (tC (.int 0)) (tVar 5) (tVar 0))) [5]) tNil)))) (tRet (tC (.bl false))) tNext)
 (tSeq (tFor (iRng1 (tCons (tCB (rLenS K) (tCons (tVar 1) tNil)) tNil)) (gName 4) (tIfS (tAnd (tTest (tOp rNe (tVar 4) (tVar 3))) (tTest (tOp rNe (tOp (rIn K false) (tOp (rIxT K) (tOp (rIxL K) (tVar 1) (tVar 4)) (tC (.int 0))) (tVar 2)) (tOp (rIn K false) (tOp (rIxT K) (tOp (rIxL K) (tVar 1) (tVar 4)) (tC (.int 1))) (tVar 2))))) (tRet (tC (.bl false))) tNext))
 (tRet (tC (.bl true)))))
def t__law_numbers (K : PySem.W.Frag) : TS :=
 (tSeq (tIfS (tNot (tB (tCB (rIsi K) (tCons (tVar 0) (tCons (tC (.ty "list")) tNil))))) (tRet (tC (.bl false))) tNext)
 (tRet (tNotV (tCB (rAny K) (tCons (tLc (iList K (tVar 0)) (gName 1) tYes (tOrV (tCB (rIsi K) (tCons (tVar 1) (tCons (tC (.ty "bool")) tNil))) (tNotV (tCB (rIsi K) (tCons (tVar 1) (tCons (tC (.ty "int")) tNil))))) [1]) tNil)))))
theorem walk_nil : EvP (tTup (tCons (tLst tNil) (tCons (tC (.int 0)) tNil))) σ H (WalkV K H ([], 0)) := fun H5 e5 Q' q' => by
  refine ⟨Nat.zero_le _, fun l2 hl2 => ?_⟩
  refine ⟨by show 2 ≤ sizeLine; decide, fun t2 ht2 => ?_⟩
  refine q' _ _ ((Ex.new hl2).trans (Ex.new ht2)) ⟨t2, l2, rfl, .inl (.inl upd_same), Evl.fresh_back e5 hl2, ?_⟩
  have n2 : l2 ≠ t2 := fun z => by rw [z, upd_same] at ht2; cases ht2
  rw [upd_ne n2, upd_same]
  rfl
theorem WalkV.back {r : List Int × Int} {H2 : Hp} (e : Ex H H1) (h : WalkV K H1 r v H2) : WalkV K H r v H2 := by
  obtain ⟨t, l, a, b, c, d⟩ := h
  exact ⟨t, l, a, b, Evl.fresh_back e c, d⟩
theorem rd__law_walk (vs : List V) (H : Hp) (Q : VK) (E : XK) (h : sp__law_walk K vs H Q E) : goal (t__law_walk K) ["_law_ties", "_law_start", "_law_steps", "_law_points", "_law_total", "_law_step", "_law_at", "_law_way", "_law_ends"] vs H Q := by
  obtain ⟨tl', l, p, ss, ts, rfl, hw, hpos, hs, hl, k⟩ := h
  refine q_parL (xs := [.int p]) (y := .int 0) (Evl.el_lst (by walk_at "ev") (by show 1 ≤ 100000; decide)) (fun H1 e1 => Evl.ev_c) fun a H1 hfr e1 h1 => ?_
  obtain ⟨us, hq, hT⟩ := id hs
  have hul : us.length = ss.length := by rw [hT.length, List.length_map]
  refine q_seq (f_list (a := l) (xs := us) (by walk_at "ev") (by walk_at "hp")
    (fun i σ' H' => ∃ (pre : List Int) (q c : Int) (o5 o6 o7 o8 : Option V), σ' = [some (.ref tl'), some (.int p), some (.ref l), some (.ref a), some (.int c), o5, o6, o7, o8] ∧ Ex H H' ∧ H' a = some (.lst ((pre ++ [q]).map V.int)) ∧ pre.length ≤ i ∧ walkF ts p ss = walkA ts pre q c (ss.drop i))
    (fun H3 e3 => ⟨[], p, 0, _, _, _, _, rfl, e1.trans e3, e3 _ _ h1, Nat.le_refl _, rfl⟩) (fun i σ' H' _ ⟨_, _, _, _, _, _, _, _, e, _⟩ => Evl.ex_l e hq) ?_ ?_)
  · rintro i x σ' H' hx ⟨pre, q, c, o5, o6, o7, o8, rfl, e, ha, hi, hv⟩
    obtain ⟨z, hz, tz⟩ := (hT.mono e).getV hx
    rw [List.getElem?_map] at hz
    cases hsi : ss[i]? with
    | none => rw [hsi] at hz; cases hz
    | some s =>
      rw [hsi] at hz
      cases hz
      have hil : i < us.length := (List.getElem?_eq_some_iff.mp hx).1
      have hlast : atI (pre ++ [q]) (-1) = some q := atI_last pre q
      have hdr : ss.drop i = s :: ss.drop (i + 1) := by
        obtain ⟨hlt, hg⟩ := List.getElem?_eq_some_iff.mp hsi
        rw [List.drop_eq_getElem_cons hlt, hg]
      rw [hdr] at hv
      unfold walkA at hv
      obtain ⟨sa, sb⟩ := s
      -- the answer where the step is no step
      have no : ∀ {σ2 : L2.St} {H2 : Hp} {nx ct bk : L2.St → Hp → Prop}, Ex H' H2 → (stepF ts q (sa, sb)).1 < 0 → (tRet (tTup (tCons (tLst tNil) (tCons (tC (.int 0)) tNil)))) { nx := nx, rt := Q, ct := ct, bk := bk } σ2 H2 := fun e2 hneg => by
        rw [if_pos hneg] at hv
        exact s_retP walk_nil fun v H5 e5 hq5 => k v H5 (e.trans (e2.trans e5)) (by unfold walkR; rw [hv]; exact hq5.back (e.trans e2))
      have hw' := hw.mono e
      refine Evl.q_when (b := false) (Evl.et_is (by walk_at "ev") (by rfl)) (fun hb _ _ => by cases hb) fun _ H2 e2 => ?_
      refine q_un2 (a := sa) (b := sb) (by walk_at "ev") fun H3 e3 => ?_
      have hw3 := hw'.mono (e2.trans e3)
      refine Evl.q_when (b := !decide (0 ≤ sa ∧ sa < (ts.length : Int)) || !decide (sb ∈ [1, -1])) (Evl.et_is (Evl.et_or (a := false) (Evl.et_is (by walk_at "ev") (by rfl)) fun _ => Evl.et_or (a := false) (Evl.et_is (by walk_at "ev") (by rfl)) fun _ => Evl.et_or (by walk_at "ev") fun _ => Evl.et_test (ev_niI (xs := [1, -1]) (by walk_at "ev") (by walk_at "ev"))) (by simp)) (fun hb H4 e4 => ?_) fun hb H4 e4 => ?_
      · refine no (e2.trans (e3.trans e4)) ?_
        unfold stepF
        by_cases hr : 0 ≤ sa ∧ sa < (ts.length : Int)
        · rw [if_pos hr]
          rw [decide_eq_true hr] at hb
          have hnm : sb ∉ [1, -1] := by simpa using hb
          split
          · rw [if_neg (fun z => hnm (by rw [show sb = 1 from z.1]; decide)), if_neg (fun z => hnm (by rw [show sb = -1 from z.1]; decide))]
            decide
          · decide
        · rw [if_neg hr]
          decide
      rw [Bool.or_eq_false_iff] at hb
      have hin : 0 ≤ sa ∧ sa < (ts.length : Int) := by simpa using hb.1
      have hway : sb ∈ [1, -1] := by
        have h2 := hb.2
        cases hd : decide (sb ∈ [1, -1]) with
        | true => exact of_decide_eq_true hd
        | false => rw [hd] at h2; cases h2
      have hway2 : sb = 1 ∨ sb = -1 := by simpa using hway
      obtain ⟨tt, ht⟩ : ∃ tt, ts[sa.toNat]? = some tt := ⟨ts[sa.toNat]'(by omega), List.getElem?_eq_getElem (by omega)⟩
      have hat : atI ts sa = some tt := atI_of hin.1 ht
      have hat2 : atI (ts.map tieL) sa = some [tt.1, tt.2.1, tt.2.2] := by rw [atI_map, hat]; rfl
      obtain ⟨pp1, pp2⟩ := hpos tt (List.mem_of_getElem? ht)
      have hsf : stepF ts q (sa, sb) = if sb = 1 ∧ q = tt.1 then (tt.2.1, tt.2.2) else if sb = -1 ∧ q = tt.2.1 then (tt.1, -tt.2.2) else (-1, 0) := by
        unfold stepF
        rw [if_pos hin]
        simp only [ht]
      have e14 := e2.trans (e3.trans e4)
      have hw4 := hw'.mono e14
      obtain ⟨x1, x2, hxx, hends⟩ : ∃ x1 x2, (x1, x2) = (if sb = 1 then (tt.1, tt.2.1) else (tt.2.1, tt.1)) ∧ EvI K (tIf (tTest (tOp rEq (tVar 7) (tC (.int 1)))) (tSl (rSlT K) (tOp (rIxL K) (tVar 0) (tVar 6)) tNoPart (tPart (tC (.int 2)))) (tSwapT K (tOp (rIxL K) (tVar 0) (tVar 6)))) [some (.ref tl'), some (.int p), some (.ref l), some (.ref a), some (.int c), some x, some (.int sa), some (.int sb), o8] H4 [x1, x2] := by
        rcases hway2 with rfl | rfl
        · exact ⟨tt.1, tt.2.1, rfl, ei_if (b := true) (Evl.et_is (by walk_at "ev") (by rfl)) (fun _ => ei_cut2 (c := tt.2.2) (ei_ix (by walk_at "ev") (by walk_at "ev") hw4 hat2)) fun z => by cases z⟩
        · exact ⟨tt.2.1, tt.1, rfl, ei_if (b := false) (Evl.et_is (by walk_at "ev") (by rfl)) (fun z => by cases z) fun _ => ei_swap (c := tt.2.2) (ei_ix (by walk_at "ev") (by walk_at "ev") hw4 hat2)⟩
      have hends2 := hends
      refine q_asgP hends2 fun v H5 e5 hv5 => ?_
      have e15 := e14.trans e5
      refine Evl.q_when (b := !decide (q = x1)) (by walk_at "ev") (fun hb5 H6 e6 => ?_) fun hb5 H6 e6 => ?_
      · refine no (e15.trans e6) ?_
        have hne : q ≠ x1 := by simpa using hb5
        rw [hsf]
        rcases hway2 with rfl | rfl
        · have : x1 = tt.1 := (Prod.mk.inj hxx).1
          rw [if_neg (fun z => hne (z.2.trans this.symm)), if_neg (fun z => by cases z.1)]
          decide
        · have : x1 = tt.2.1 := (Prod.mk.inj hxx).1
          rw [if_neg (fun z => by cases z.1), if_neg (fun z => hne (z.2.trans this.symm))]
          decide
      have heq : q = x1 := by simpa using hb5
      have hst : stepF ts q (sa, sb) = (x2, sb * tt.2.2) := by
        rw [hsf]
        rcases hway2 with rfl | rfl
        · have h1 := (Prod.mk.inj hxx)
          rw [if_pos ⟨rfl, heq.trans h1.1⟩, h1.2, Int.one_mul]
        · have h1 := (Prod.mk.inj hxx)
          rw [if_neg (fun z => by cases z.1), if_pos ⟨rfl, heq.trans h1.1⟩, h1.2, Int.neg_mul, Int.one_mul]
      have hx2 : ¬ x2 < 0 := by
        rcases hway2 with rfl | rfl
        · have h1 := (Prod.mk.inj hxx).2; omega
        · have h1 := (Prod.mk.inj hxx).2; omega
      rw [hst, if_neg hx2] at hv
      have e16 := e15.trans e6
      have ha6 : H6 a = some (.lst ((pre ++ [q]).map V.int)) := e16 _ _ ha
      have hw6 := hw'.mono e16
      refine Evl.q_app (l := a) (xs := (pre ++ [q]).map V.int) (v := .int x2) ha6 (by walk_at "ev") (ev_ixU (evi_of (Evl.ev_var rfl) (hv5.mono e6)) Evl.ev_c rfl) (by simp; omega) fun H7 e7 => ?_
      have ha7 : H7 a = some (.lst ((pre ++ [q]).map V.int)) := e7 _ _ ha6
      have hw8 : LTie K (upd H7 a (.lst ((pre ++ [q]).map V.int ++ [.int x2]))) tl' ts := hw.mono ((e.trans (e16.trans e7)).mut hfr)
      refine Evl.s_asg (v := .int (c + sb * tt.2.2)) (Evl.ev_op (Evl.ev_var rfl) (Evl.ev_op (Evl.ev_var rfl) (ev_ixU (ei_ix (Evl.ev_var rfl) (Evl.ev_var rfl) hw8 hat2) Evl.ev_c rfl) (rv_mul (.inl ?_))) rv_add) fun H8 e8 => ?_
      · rcases hway2 with rfl | rfl <;> exact ⟨by decide, by decide⟩
      refine ⟨pre ++ [q], x2, c + sb * tt.2.2, _, _, _, _, rfl, ((e.trans (e16.trans e7)).mut hfr).trans e8, ?_, by simp; omega, hv⟩
      refine e8 _ _ ?_
      rw [upd_same]
      simp
  · rintro σ' H' ⟨pre, q, c, o5, o6, o7, o8, rfl, e, ha, hi, hv⟩
    have hd : ss.drop us.length = [] := List.drop_of_length_le (by omega)
    rw [hd] at hv
    unfold walkA at hv
    dsimp only
    refine s_retP (P := WalkV K H (pre ++ [q], c)) ?_ fun v H5 e5 hq5 => ?_
    rotate_left
    · exact k v H5 (e.trans e5) (by unfold walkR; rw [hv]; exact hq5)
    intro H5 e5 Q' q'
    have ev : EvA (tCons (tVar 3) (tCons (tVar 4) tNil)) [some (.ref tl'), some (.int p), some (.ref l), some (.ref a), some (.int c), o5, o6, o7, o8] H' [.ref a, .int c] := by walk_at "ev"
    refine ev H5 e5 _ fun H6 e6 => ⟨by show 2 ≤ sizeLine; decide, fun t2 ht2 => q' _ _ (e6.trans (Ex.new ht2)) ⟨t2, a, rfl, .inl (.inl upd_same), hfr, ?_⟩⟩
    have n2 : a ≠ t2 := ne_of_none (e6 _ _ (e5 _ _ ha)) ht2
    rw [upd_ne n2]
    exact e6 _ _ (e5 _ _ ha)

/-! ### straight -/
def sp__law_straight (K : PySem.W.Frag) : Sp := fun vs H Q _ => ∃ (tl l : Addr) (p q : Int) (ss : List Step) (ts : List Tie), vs = [.ref tl, .int p, .ref l, .int q] ∧ LTie K H tl ts ∧ Pos ts ∧ LStep K H l ss ∧ ss.length ≤ 3000 ∧ RetV (.bl (straightF ts p ss q)) H Q
theorem ev_law_straight {tl' l : Addr} {p q : Int} {ss : List Step} {ts : List Tie} (h : EvA tl σ H [.ref tl', .int p, .ref l, .int q]) (hw : LTie K H tl' ts) (hp : Pos ts) (hs : LStep K H l ss) (hl : ss.length ≤ 3000) : Ev (tCall (sp__law_straight K) [] E0 tl) σ H (.bl (straightF ts p ss q)) :=
  ev_call h fun H1 Q e k => ⟨tl', l, p, q, ss, ts, rfl, hw.mono e, hp, hs.mono e, hl, k⟩
theorem rd__law_straight (vs : List V) (H : Hp) (Q : VK) (E : XK) (h : sp__law_straight K vs H Q E) : goal (t__law_straight K) ["_law_ties", "_law_start", "_law_steps", "_law_end", "_law_points"] vs H Q := by
  obtain ⟨tl', l, p, q, ss, ts, rfl, hw, hp, hs, hl, k⟩ := h
  refine q_asgP (ep_fst (ep_law_walk (tl' := tl') (l := l) (p := p) (by walk_at "ev") hw hp hs hl)) fun v H1 e1 hv => ?_
  obtain ⟨a, rfl, fr, h1⟩ := hv
  refine Evl.s_ret (v := .bl (straightF ts p ss q)) ?_ fun H2 e2 => k H2 (e1.trans e2)
  have nl : ∀ {σ2 : L2.St} {H2 : Hp}, EvLI K (tLst tNil) σ2 H2 [] := fun H3 e3 Q3 q3 => ⟨Nat.zero_le _, fun l2 hl2 => q3 _ _ (Ex.new hl2) ⟨l2, rfl, li_of upd_same⟩⟩
  unfold straightF
  unfold walkR at h1
  cases hc : walkF ts p ss with
  | none =>
    rw [hc] at h1
    have h1' : LI K H1 a [] := li_of h1
    exact Evl.ev_is (Evl.ev_andV (a := false) (b := true) (ev_neLI (xs := []) (ys := []) (Ev.toP (Evl.ev_var rfl) fun H2 e => ⟨a, rfl, h1'.mono e⟩) nl) fun z => by cases z) (by rfl)
  | some r =>
    rw [hc] at h1
    obtain ⟨ps, c⟩ := r
    have h1' : LI K H1 a ps := li_of h1
    have hlen : ps.length = ss.length + 1 := by
      have := walkA_len hc
      simpa using this
    have hne : ps ≠ [] := fun z => by rw [z] at hlen; simp at hlen
    obtain ⟨m, hm⟩ : ∃ m, ps.getLast? = some m := ⟨ps.getLast hne, List.getLast?_eq_some_getLast hne⟩
    have hat : atI ps (-1) = some m := atI_lastOf hm
    refine Evl.ev_is (Evl.ev_andV (ev_neLI (xs := ps) (ys := []) (Ev.toP (Evl.ev_var rfl) fun H2 e => ⟨a, rfl, h1'.mono e⟩) nl) fun _ => Evl.ev_andV (by walk_at "ev") fun _ => Evl.ev_op (ev_lenSet (Evl.ev_var rfl) h1' (by omega)) (ev_lenI (Evl.ev_var rfl) h1') rv_eqI) ?_
    refine congrArg V.bl (Bool.eq_iff_iff.mpr ?_)
    simp [hm, hne]
    intro _
    omega
/-! ### numbers -/
def sp__law_numbers (K : PySem.W.Frag) : Sp := fun vs H Q _ => ∃ (l : Addr) (ns : List Int), vs = [.ref l] ∧ LI K H l ns ∧ ns.length ≤ 5000 ∧ RetV (.bl true) H Q
theorem ev_law_numbers {l : Addr} {ns : List Int} (h : EvA tl σ H [.ref l]) (hn : LI K H l ns) (hl : ns.length ≤ 5000) : Ev (tCall (sp__law_numbers K) [] E0 tl) σ H (.bl true) := ev_call h fun H1 Q e k => ⟨l, ns, rfl, hn.mono e, hl, k⟩
theorem rd__law_numbers (vs : List V) (H : Hp) (Q : VK) (E : XK) (h : sp__law_numbers K vs H Q E) : goal (t__law_numbers K) ["_law_found", "_law_one"] vs H Q := by
  obtain ⟨l, ns, rfl, hn, hl, k⟩ := h
  refine Evl.q_when (b := false) (Evl.et_is (Evl.et_not (Evl.et_B (ev_isiTy (a := "list") (b := "list") (bb := true) (Evl.ev_var rfl) (ty_lst hn) rfl))) (by rfl)) (fun hb _ _ => by cases hb) fun _ H1 e1 => ?_
  have hn1 := hn.mono e1
  refine Evl.s_ret (v := .bl true) (Evl.ev_is (Evl.ev_notV (ev_any (p := l) (bs := ns.map fun _ => false) ?_)) ?_) fun H2 e2 => k H2 (e1.trans e2)
  · refine (lc_vals (a := l) (xs := ns.map V.int) (ys := (ns.map fun _ => false).map V.bl) (Evl.ev_var rfl) hn1 (by simp; omega) (by simp) (fun _ => rfl) fun i x H3 e3 hx => ?_).imp fun v H3 e3 hh => ?_
    · rw [List.getElem?_map] at hx
      cases hni : ns[i]? with
      | none => rw [hni] at hx; cases hx
      | some n =>
        rw [hni] at hx
        cases hx
        exact ⟨.bl false, by simp [hni], Evl.ev_is (Evl.ev_orV (a := false) (Evl.ev_is (by walk_at "ev") (by rfl)) fun _ => Evl.ev_notV (a := true) (Evl.ev_is (by walk_at "ev") (by rfl))) (by rfl)⟩
    · obtain ⟨q, a, _, b⟩ := hh
      exact ⟨q, a, SqL.of b⟩
  · have : (ns.map fun _ => false).any id = false := by
      rw [List.any_eq_false]
      intro x hx
      obtain ⟨_, _, rfl⟩ := List.mem_map.mp hx
      decide
    rw [this]
    rfl
/-! ### closed -/
theorem rising_iff {n last : Int} : ∀ {ps : List Int}, risingF n last ps = true → ps.Pairwise (· < ·) ∧ (∀ p ∈ ps, 0 ≤ p ∧ p < n) ∧ ∀ p ∈ ps, last < p
  | [], _ => ⟨.nil, by simp, by simp⟩
  | p :: r, h => by
    unfold risingF at h
    rw [Bool.and_eq_true] at h
    obtain ⟨h1, h2⟩ := h
    have h3 := of_decide_eq_true h1
    obtain ⟨a, b, c⟩ := rising_iff h2
    refine ⟨List.pairwise_cons.mpr ⟨c, a⟩, ?_, ?_⟩
    · intro q hq
      rcases List.mem_cons.mp hq with rfl | hq
      · exact h3.1
      · exact b q hq
    · intro q hq
      rcases List.mem_cons.mp hq with rfl | hq
      · exact h3.2
      · have := c q hq; omega
theorem rising_uniq : ∀ {xs ys : List Int}, xs.Pairwise (· < ·) → ys.Pairwise (· < ·) → (∀ k, k ∈ xs ↔ k ∈ ys) → xs = ys
  | [], [], _, _, _ => rfl
  | [], y :: ys, _, _, h => by have := (h y).mpr List.mem_cons_self; cases this
  | x :: xs, [], _, _, h => by have := (h x).mp List.mem_cons_self; cases this
  | x :: xs, y :: ys, hx, hy, h => by
    obtain ⟨a1, a2⟩ := List.pairwise_cons.mp hx
    obtain ⟨b1, b2⟩ := List.pairwise_cons.mp hy
    have e : x = y := by
      rcases List.mem_cons.mp ((h x).mp List.mem_cons_self) with e | hm
      · exact e
      · rcases List.mem_cons.mp ((h y).mpr List.mem_cons_self) with e | hm2
        · exact e.symm
        · have := b1 x hm; have := a1 y hm2; omega
    subst e
    congr 1
    refine rising_uniq a2 b2 fun k => ?_
    constructor
    · intro hk
      rcases List.mem_cons.mp ((h k).mp (List.mem_cons_of_mem _ hk)) with e | hm
      · have := a1 k hk; omega
      · exact hm
    · intro hk
      rcases List.mem_cons.mp ((h k).mpr (List.mem_cons_of_mem _ hk)) with e | hm
      · have := b1 k hk; omega
      · exact hm
theorem rising_law {n : Int} {ps : List Int} : risingF n (-1) ps = !(!decide (ps.Pairwise (· < ·)) || ps.any fun p => !(decide (0 ≤ p) && decide (p < n))) := by
  rw [Bool.eq_iff_iff]
  constructor
  · intro h
    obtain ⟨a, b, c⟩ := rising_iff h
    rw [decide_eq_true a, Bool.not_true, Bool.false_or, Bool.not_eq_true', List.any_eq_false]
    intro p hp
    have := b p hp
    simp [this]
  · intro h
    rw [Bool.not_eq_true', Bool.or_eq_false_iff] at h
    have e : ps.Pairwise (· < ·) := by simpa using h.1
    have h3 := h.2
    rw [List.any_eq_false] at h3
    have hr : ∀ p ∈ ps, 0 ≤ p ∧ p < n := fun p hp => by have := h3 p hp; simp at this; omega
    exact rising_of e hr fun p hp => by have := hr p hp; omega
/-- xs != sorted(set(xs)) -/
theorem ev_neSS {l : Addr} {ns : List Int} (ha : Ev ta σ H (.ref l)) (hn : LI K H l ns) (hl : ns.length ≤ 4000) : Ev (tOp (rNeD K) ta (tSortSet K ta)) σ H (.bl (!decide (ns.Pairwise (· < ·)))) := fun H1 e Q q =>
  ha H1 e _ fun H2 e2 => ha H2 (e.trans e2) _ fun H3 e3 => ⟨l, ns, rfl, hn.mono ((e.trans e2).trans e3), hl, fun ms p h1 h2 hf => by
    have e4 : Ex H3 (upd H3 p (.lst (ms.map V.int))) := Ex.new hf
    have h := ev_neLI (K := K) (ta := tC (.ref l)) (tb := tC (.ref p)) (σ := []) (H := upd H3 p (.lst (ms.map V.int))) (xs := ns) (ys := ms) (Ev.toP Evl.ev_c fun H5 e5 => ⟨l, rfl, hn.mono ((((e.trans e2).trans e3).trans e4).trans e5)⟩) (Ev.toP Evl.ev_c fun H5 e5 => ⟨p, rfl, (li_of (K := K) (show upd H3 p (.lst (ms.map V.int)) p = _ from upd_same)).mono e5⟩)
    have ed : decide (ns = ms) = decide (ns.Pairwise (· < ·)) := by
      rw [Bool.eq_iff_iff, decide_eq_true_iff, decide_eq_true_iff]
      exact ⟨fun z => z ▸ h1, fun z => rising_uniq z h1 fun k => (h2 k).symm⟩
    rw [ed] at h
    exact h _ (Ex.refl _) Q fun H5 e5 => q H5 (((e2.trans e3).trans e4).trans e5)⟩
def sp__law_closed (K : PySem.W.Frag) : Sp := fun vs H Q _ => ∃ (tl l : Addr) (skip n : Int) (ts : List Tie) (pts : List Int), vs = [.int n, .ref tl, .ref l, .int skip] ∧ LTie K H tl ts ∧ ts.length ≤ 90000 ∧ LI K H l pts ∧ pts.length ≤ 3500 ∧ RetV (.bl (closedF n ts pts skip)) H Q
theorem ev_law_closed {tl' l : Addr} {skip n : Int} {ts : List Tie} {pts : List Int} (h : EvA tl σ H [.int n, .ref tl', .ref l, .int skip]) (hw : LTie K H tl' ts) (ht : ts.length ≤ 90000) (hp : LI K H l pts) (hl : pts.length ≤ 3500) : Ev (tCall (sp__law_closed K) [] E0 tl) σ H (.bl (closedF n ts pts skip)) :=
  ev_call h fun H1 Q e k => ⟨tl', l, skip, n, ts, pts, rfl, hw.mono e, ht, hp.mono e, hl, k⟩
theorem rd__law_closed (vs : List V) (H : Hp) (Q : VK) (E : XK) (h : sp__law_closed K vs H Q E) : goal (t__law_closed K) ["_law_points", "_law_ties", "_law_some", "_law_skipped", "_law_at", "_law_point"] vs H Q := by
  obtain ⟨tl', l, skip, n, ts, pts, rfl, hw, htl, hp, hl, k⟩ := h
  refine Evl.q_when (b := !risingF n (-1) pts) ?_ (fun hb H1 e1 => ?_) fun hb H1 e1 => ?_
  · rw [rising_law, Bool.not_not]
    refine Evl.et_or (Evl.et_test (ev_neSS (Evl.ev_var rfl) hp (by omega))) fun _ => Evl.et_B (Evl.ev_is (ev_any (p := l) (bs := pts.map fun p => !(decide (0 ≤ p) && decide (p < n))) ?_) ?_)
    · refine (lc_vals (a := l) (xs := pts.map V.int) (ys := (pts.map fun p => !(decide (0 ≤ p) && decide (p < n))).map V.bl) (Evl.ev_var rfl) hp (by simp; omega) (by simp) (fun _ => rfl) fun i x H3 e3 hx => ?_).imp fun v H3 e3 hh => ?_
      · rw [List.getElem?_map] at hx
        cases hni : pts[i]? with
        | none => rw [hni] at hx; cases hx
        | some p =>
          rw [hni] at hx
          cases hx
          exact ⟨.bl (!(decide (0 ≤ p) && decide (p < n))), by simp [hni], by walk_at "ev"⟩
      · obtain ⟨q, a, _, b⟩ := hh
        exact ⟨q, a, SqL.of b⟩
    · rw [List.any_map]
      rfl
  · have hf : closedF n ts pts skip = false := by
      unfold closedF
      have : risingF n (-1) pts = false := by simpa using hb
      rw [this]
      rfl
    rw [hf] at k
    exact Evl.s_ret Evl.ev_c fun H2 e2 => k H2 (e1.trans e2)
  · have hr : risingF n (-1) pts = true := by simpa using hb
    have hw1 := hw.mono e1
    have hlen : ∀ {σ2 : L2.St}, Ev (tVar 1) σ2 H1 (.ref tl') → Ev (tCB (rLenS K) (tCons (tVar 1) tNil)) σ2 H1 (.int (ts.length : Int)) := fun h => by
      have e := ev_lenT h hw1
      rwa [List.length_map] at e
    refine q_seq (f_range (n := (ts.length : Int)) (Evl.ea_cons (hlen (Evl.ev_var rfl)) Evl.ea_nil) ⟨by omega, by omega⟩
      (fun i σ' H' => ∃ o4 o5 : Option V, σ' = [some (.int n), some (.ref tl'), some (.ref l), some (.int skip), o4, o5] ∧ Ex H H' ∧ closedF n ts pts skip = allT (sideF pts skip) i (ts.drop i))
      (fun H2 e2 => ⟨_, _, rfl, e1.trans e2, by unfold closedF; rw [hr]; rfl⟩) ?_ ?_)
    · rintro i σ' H' hi ⟨o4, o5, rfl, e, hc⟩
      obtain ⟨tt, ht⟩ : ∃ tt, ts[i]? = some tt := ⟨ts[i]'(by omega), List.getElem?_eq_getElem (by omega)⟩
      have hat2 : atI (ts.map tieL) (i : Int) = some (tieL tt) := by rw [atI_map, atI_of (by omega) (w := tt) (by simpa using ht)]; rfl
      rw [allT_drop ht] at hc
      have hw2 := hw.mono e
      have hp2 := hp.mono e
      refine Evl.s_when (b := !sideF pts skip i tt) (Evl.et_is (Evl.et_and (Evl.et_test (Evl.ev_op (Evl.ev_var rfl) (Evl.ev_var rfl) rv_neI)) fun _ => Evl.et_test (Evl.ev_op (ev_inI (ev_ixU (ei_ix (Evl.ev_var rfl) (Evl.ev_var rfl) hw2 hat2) Evl.ev_c rfl) (Evl.ev_var rfl) hp2) (ev_inI (ev_ixU (ei_ix (Evl.ev_var rfl) (Evl.ev_var rfl) hw2 hat2) Evl.ev_c rfl) (Evl.ev_var rfl) hp2) rv_neB)) ?_) (fun hb2 H3 e3 => ?_) fun hb2 H3 e3 => ?_
      · unfold sideF
        by_cases c : (i : Int) = skip <;> simp [c]
      · have : sideF pts skip i tt = false := by simpa using hb2
        rw [this] at hc
        rw [hc] at k
        exact Evl.s_ret Evl.ev_c fun H4 e4 => k H4 (e.trans (e3.trans e4))
      · have : sideF pts skip i tt = true := by simpa using hb2
        rw [this, Bool.true_and] at hc
        exact ⟨_, _, rfl, e.trans e3, hc⟩
    · rintro σ' H' ⟨o4, o5, rfl, e, hc⟩
      have hd : ts.drop (ts.length : Int).toNat = [] := List.drop_of_length_le (by omega)
      rw [hd] at hc
      rw [hc] at k
      dsimp only
      exact Evl.s_ret Evl.ev_c fun H4 e4 => k H4 (e.trans e4)
end G

/-! What a law asks of an answer: its class, one of two classes. -/
namespace G
open PySem PySem.Spec PyProof.Rows L2
open Evl (Ex Ev EvL EvU EvT EvA RV RetV)
local macro_rules | `(tactic| walk_at "hp") => `(tactic| first
  | with_reducible assumption
  | ((with_reducible show _ = some (_ : HO)); (with_reducible exact ex_app (by assumption) (by walk_at "hp")))
  | ((with_reducible show TupI _ _ _ _); (with_reducible exact TupI.mono (by assumption) (by walk_at "hp")))
  | ((with_reducible show LT _ _ _ _); (with_reducible exact LT.mono (by assumption) (by walk_at "hp")))
  | ((with_reducible show LI _ _ _ _); (first | (with_reducible exact li_of (by walk_at "hp")) | (with_reducible exact LI.mono (by assumption) (by walk_at "hp"))))
  | ((with_reducible show SqL _ _ _ _); (first | (with_reducible exact SqL.of (by walk_at "hp")) | (with_reducible exact Evl.ex_l (by assumption) (by walk_at "hp"))))
  | ((with_reducible show SqT _ _ _ _); (first | (with_reducible exact SqT.of (by walk_at "hp")) | (with_reducible exact Evl.ex_t (by assumption) (by walk_at "hp"))))
  | ((with_reducible show Rd _ _ _); (first | (with_reducible exact Rd.of (by walk_at "hp")) | (with_reducible exact Evl.ex_rd (by assumption) (by walk_at "hp"))))
  | walk_at "hpf")
local macro_rules | `(tactic| walk_at "at") => `(tactic| first
  | with_reducible assumption
  | with_reducible rfl
  | (refine atI_of ?va ?vb; (case va => omega); (case vb => assumption))
  | walk_at "atf"
  | rfl)
local macro_rules | `(tactic| walk_at "rv") => `(tactic| first
  | with_reducible exact rv_add | with_reducible exact rv_sub | with_reducible exact rv_eqI | with_reducible exact rv_neI | with_reducible exact rv_lt | with_reducible exact rv_le | with_reducible exact rv_gt | with_reducible exact rv_ge
  | with_reducible exact rv_eqB | with_reducible exact rv_neB | with_reducible exact rv_isB | with_reducible exact rv_notB
  | ((with_reducible refine rv_mod ?_); (first | assumption | omega))
  | ((with_reducible refine rv_mul ?_); (first | exact Or.inl ⟨by omega, by omega⟩ | exact Or.inr ⟨by omega, by omega⟩))
  | ((with_reducible refine rv_div ?_); exact ⟨by omega, by omega⟩))
local macro_rules | `(tactic| walk_at "ty") => `(tactic| first
  | with_reducible exact fun _ _ => .base (.int _) | with_reducible exact fun _ _ => .base (.bl _) | with_reducible exact fun _ _ => .base .non | with_reducible exact fun _ _ => .base (.str _)
  | ((with_reducible apply ty_tup); walk_at "hp")
  | ((with_reducible apply ty_lst); walk_at "hp")
  | walk_at "tyf")
local macro_rules | `(tactic| walk_at "ev") => `(tactic| repeat' (first
  | with_reducible exact Evl.ev_c
  | ((with_reducible apply Evl.ev_var); rfl)
  | with_reducible apply ev_neg
  | with_reducible apply ev_ixU
  | walk_at "evf"
  | ((with_reducible apply ev_lenI); (· walk_at "ev"); (· walk_at "hp"))
  | ((with_reducible apply ev_lenT); (· walk_at "ev"); (· walk_at "hp"))
  | ((with_reducible apply ev_lenU); (· walk_at "ev"))
  | with_reducible apply ev_lenSet
  | with_reducible apply ev_chain
  | with_reducible apply ev_isiTy
  | with_reducible apply Evl.ev_andV
  | with_reducible apply Evl.ev_orV
  | with_reducible apply Evl.ev_notV
  | ((with_reducible apply ev_ixI); (· walk_at "ev"); (· walk_at "ev"); (· walk_at "hp"); (· walk_at "at"))
  | with_reducible apply Evl.ev_op
  | ((with_reducible apply evi_of); (· (with_reducible apply Evl.ev_var); rfl); (· walk_at "hp"))
  | with_reducible apply ei_ix
  | with_reducible apply ei_tup
  | with_reducible exact eai_nil
  | with_reducible apply eai_cons
  | with_reducible exact Evl.ea_nil
  | with_reducible apply Evl.ea_cons
  | with_reducible apply Evl.et_test
  | with_reducible apply Evl.et_and
  | with_reducible apply Evl.et_or
  | with_reducible apply Evl.et_not
  | with_reducible apply Evl.et_B
  | walk_at "rv"
  | ((with_reducible show L2.kitB _ _ = _); rfl)
  | ((with_reducible show L2.atI _ _ = _); walk_at "at")
  | ((with_reducible show (_ : Nat) ≤ _); (first | omega | (simp; done) | (simp; omega)))
  | ((with_reducible show _ = true → _); intro _)
  | ((with_reducible show _ = false → _); intro _)
  | ((with_reducible show TupI _ _ _ _); walk_at "hp")
  | ((with_reducible show LT _ _ _ _); walk_at "hp")
  | ((with_reducible show LI _ _ _ _); walk_at "hp")
  | ((with_reducible show SqL _ _ _ _); walk_at "hp")
  | ((with_reducible show SqT _ _ _ _); walk_at "hp")
  | ((with_reducible show Rd _ _ _); walk_at "hp")
  | ((with_reducible show _ = some (_ : HO)); walk_at "hp")
  | walk_at "hpg"
  | walk_at "ty"))

local macro_rules | `(tactic| walk_at "hpf") => `(tactic| ((with_reducible show WebAt _ _ _ _ _ _); (with_reducible exact WebAt.mono (by assumption) (by walk_at "hp"))))
local macro_rules | `(tactic| walk_at "hpg") => `(tactic| ((with_reducible show WebAt _ _ _ _ _ _); walk_at "hp"))
local macro_rules | `(tactic| walk_at "evf") => `(tactic| with_reducible apply ev_points)
local macro_rules | `(tactic| walk_at "evf") => `(tactic| with_reducible apply ev_turn)
local macro_rules | `(tactic| walk_at "evf") => `(tactic| with_reducible apply ev_lenB)
local macro_rules | `(tactic| walk_at "evf") => `(tactic| with_reducible apply ei_bound)
local macro_rules | `(tactic| walk_at "evf") => `(tactic| with_reducible apply ev_is_whole)
local macro_rules | `(tactic| walk_at "evf") => `(tactic| with_reducible apply ev_is_below)
local macro_rules | `(tactic| walk_at "evf") => `(tactic| with_reducible apply ev_is_tie)
local macro_rules | `(tactic| walk_at "evf") => `(tactic| with_reducible apply ei_stepped)
variable {K : PySem.W.Frag} {σ : L2.St} {H H' H1 : Hp} {ta tb tc te : TE} {t u : TT} {tl : TA} {v x y z : V}

/-! ### one reading or the other -/
def tEither (ta tb : TE) : TE := fun σ H Q => ta σ H Q ∨ tb σ H Q
theorem pe_either {X : Cx} {e : Expr} (h1 : PE X e ta) (h2 : PE X e tb) : PE X e (tEither ta tb) := ⟨fun pins s σ H Q I h => h.elim (h1.run pins s σ H Q I) (h2.run pins s σ H Q I)⟩
theorem ev_left (h : Ev ta σ H v) : Ev (tEither ta tb) σ H v := fun H1 e Q q => .inl (h H1 e Q q)
theorem ev_right (h : Ev tb σ H v) : Ev (tEither ta tb) σ H v := fun H1 e Q q => .inr (h H1 e Q q)

/-! ### classes of answers -/
def kinds : List Str := ["Answer", "Heights", "Ring", "Way", "Apart", "Around", "Held", "Fewest", "Camps", "Quarrel"]
/-- the class C is the j-th of these -/
structure Knd (K : PySem.W.Frag) (C : Str) (j : Nat) : Prop where
  cl : Cls K (ga K C)
  ha : PySem.W.findIn K (.ref (ga K C)) "__class__" = some (some (.builtin "object.__class__"))
  hn : PySem.W.specialIn K (.builtin "object.__class__") "__get__" = some (some (.builtin "getset_descriptor.__get__"))
  htk : PySem.W.takesIn K (.builtin "object.__class__") = some true
  hm : PySem.W.mroIn K (ga K C) (.type "object") = some true
  is : ∀ (i : Nat) (D : Str), kinds[i]? = some D → PySem.W.kitOne K (.ref (ga K C)) (.ref (ga K D)) = some (decide (i = 0 ∨ i = j))
theorem ev_isiO {a dx : Addr} {fs : List (Str × V)} {C D : Str} {j : Nat} (i : Nat) (k : Knd K C j) (ha : Ev ta σ H (.ref a)) (h : H a = some (.ins (ga K C) dx fs)) (hD : kinds[i]? = some D) :
    Ev (tCB (rIsi K) (tCons ta (tCons (tC (.ref (ga K D))) tNil))) σ H (.bl (decide (i = 0 ∨ i = j))) :=
  ev_isi ha Evl.ev_c (.own _) (fun H2 e => .base (.ins (e _ _ h) k.cl k.ha k.hn k.htk k.hm)) (k.is i D hD)

/-! ### an answer that holds one list -/
abbrev Fnd := List Step ⊕ List Int
def FAt (K : PySem.W.Frag) (H : Hp) (C1 C2 : Str) (a l : Addr) : Fnd → Prop
  | .inl ss => One K H C1 "steps" a l ∧ HasS K H l ss ∧ ss.length ≤ 3000
  | .inr ps => One K H C2 "points" a l ∧ HasI H l ps ∧ ps.length ≤ 3000
theorem FAt.mono {C1 C2 : Str} {a l : Addr} {f : Fnd} (e : Ex H H') (h : FAt K H C1 C2 a l f) : FAt K H' C1 C2 a l f := by
  cases f with
  | inl ss => exact ⟨h.1.mono e, h.2.1.mono e, h.2.2⟩
  | inr ps => exact ⟨h.1.mono e, h.2.1.mono e, h.2.2⟩
def Fnd.j (j1 j2 : Nat) : Fnd → Nat
  | .inl _ => j1
  | .inr _ => j2
theorem ev_isiF {C1 C2 D : Str} {a l : Addr} {j1 j2 : Nat} {f : Fnd} (i : Nat) (k1 : Knd K C1 j1) (k2 : Knd K C2 j2) (h : FAt K H C1 C2 a l f) (ha : Ev ta σ H (.ref a)) (hD : kinds[i]? = some D) :
    Ev (tCB (rIsi K) (tCons ta (tCons (tC (.ref (ga K D))) tNil))) σ H (.bl (decide (i = 0 ∨ i = f.j j1 j2))) := by
  cases f with
  | inl ss =>
    obtain ⟨dx, g⟩ := h.1.ins
    exact ev_isiO i k1 ha g hD
  | inr ps =>
    obtain ⟨dx, g⟩ := h.1.ins
    exact ev_isiO i k2 ha g hD
/-- a, b, c = e, any tuple -/
theorem q_unV3 {D : Ends} {tz : TS} {i j l : Nat} {P : V → V → V → Hp → Prop} (h : EvP te σ H (fun v H2 => ∃ p a b c, v = .ref p ∧ SqT K H2 p [a, b, c] ∧ P a b c H2)) (k : ∀ a b c H1, Ex H H1 → P a b c H1 → tz D (((σ.set i (some a)).set j (some b)).set l (some c)) H1) :
    tSeq (tAsg te (gTup K 3 (gCons (gName i) (gCons (gName j) (gCons (gName l) gNil))))) tz D σ H :=
  h H (Ex.refl H) _ fun v H1 e ⟨p, a, b, c, ev, hp, pp⟩ => ⟨p, [a, b, c], ev, hp, rfl, a, [b, c], rfl, b, [c], rfl, c, [], rfl, rfl, k a b c H1 e pp⟩
/-- one value after the other -/
def EvP2 (te tu : TE) (σ : L2.St) (H : Hp) (P : V → V → Hp → Prop) : Prop := ∀ H1, Ex H H1 → ∀ Q : V → V → Hp → Prop, (∀ v w H2, Ex H1 H2 → P v w H2 → Q v w H2) → te σ H1 fun v H2 => tu σ H2 fun w H3 => Q v w H3
theorem ep_pair {P : V → Hp → Prop} {tu : TE} {w : V} (h1 : EvP te σ H P) (h2 : Ev tu σ H w) (hm : ∀ v H1 H2, Ex H1 H2 → P v H1 → P v H2) : EvP (tTup (tCons te (tCons tu tNil))) σ H (fun v H2 => ∃ p a, v = .ref p ∧ SqT K H2 p [a, w] ∧ P a H2) := fun H1 e Q q =>
  h1 H1 e _ fun a H2 e2 pa => h2 H2 (e.trans e2) _ fun H3 e3 => ⟨by show 2 ≤ sizeLine; decide, fun p hp => q _ _ ((e2.trans e3).trans (Ex.new hp)) ⟨p, a, rfl, .inl (.inl upd_same), hm _ _ _ (e3.trans (Ex.new hp)) pa⟩⟩
theorem LawWeb.pos {n turn : Int} {ts : List Tie} (h : LawWeb n turn ts) : Pos ts := fun t ht => by
  have := of_decide_eq_true (show decide _ = true from h.ok t ht)
  exact ⟨this.1.1, this.2.1.1⟩
theorem LawWeb.okW {n turn : Int} {ts : List Tie} (h : LawWeb n turn ts) : okWeb n ts turn := ⟨by have := h.n2; omega, by have := h.n66; omega, h.t0, h.t1, h.ok, by have := h.len; omega⟩
theorem LawWeb.web {n turn : Int} {ts : List Tie} (h : LawWeb n turn ts) : WebOk n turn ts := ⟨by have := h.n2; omega, by have := h.n66; omega, h.t0, by have := h.len; omega, fun t ht => by
  have := of_decide_eq_true (show decide _ = true from h.ok t ht)
  exact ⟨this.1, this.2.1, this.2.2.1⟩⟩
/-- -1 is no point -/
theorem rising_no {n : Int} : ∀ {ps : List Int} {last : Int}, risingF n last (ps ++ [-1]) = false
  | [], last => by simp [risingF]
  | p :: r, last => by
    show (_ && risingF n p (r ++ [-1])) = false
    rw [rising_no, Bool.and_false]
/-- what is known stays, where the list at l grows -/
theorem FAt.grow {C1 C2 : Str} {a l : Addr} {f : Fnd} (h : FAt K H C1 C2 a l f) : ∃ xs, H l = some (.lst xs) ∧ xs.length ≤ 3000 := by
  cases f with
  | inl ss =>
    obtain ⟨vs, b, c⟩ := h.2.1
    exact ⟨vs, b, by rw [c.length, List.length_map]; exact h.2.2⟩
  | inr ps => exact ⟨_, h.2.1, by rw [List.length_map]; exact h.2.2⟩

/-- a for over a list that is known by P alone -/
theorem f_listP {D : Ends} {tu : TS} {g : TG} {P : List V → Prop} (h : EvP te σ H (fun v H2 => ∃ a xs, v = .ref a ∧ SqL K H2 a xs ∧ P xs)) (k : ∀ a xs H1, Ex H H1 → SqL K H1 a xs → P xs → tFor (iList K (tC (.ref a))) g tu D σ H1) : tFor (iList K te) g tu D σ H :=
  h H (Ex.refl H) _ fun v H1 e ⟨a, xs, ev, hx, p⟩ => by
    subst ev
    exact k a xs H1 e hx p
/-- a for over a tuple of ints -/
theorem f_tupP {D : Ends} {tu : TS} {g : TG} {ns : List Int} (h : EvI K te σ H ns) (k : ∀ p H1, Ex H H1 → SqT K H1 p (ns.map V.int) → tFor (iTup K (tC (.ref p))) g tu D σ H1) : tFor (iTup K te) g tu D σ H :=
  h H (Ex.refl H) _ fun v H1 e ⟨p, ev, hp⟩ => by
    subst ev
    exact k p H1 e hp
/-- [e for j in range(n)], each an int -/
theorem lc_rng {n : Nat} {j : Nat} {ys : List V} (h : EvA tl σ H [.int (n : Int)]) (hn : n ≤ 90000) (hy : ys.length = n) (hw : ∀ x, wipe ((wipe σ [j]).set j (some x)) [j] = wipe σ [j])
    (he : ∀ (i : Nat) H1, Ex H H1 → i < n → ∃ y, ys[i]? = some y ∧ Ev te ((wipe σ [j]).set j (some (.int (i : Int)))) H1 y) :
    EvP (tLc (iRng1 tl) (gName j) tYes te [j]) σ H (fun v H2 => ∃ p, v = .ref p ∧ H p = none ∧ H2 p = some (.lst ys)) := by
  refine (lc_gen (J := Itr 0 n) (G := fun _ => True) (n := n) (fun H1 e R q => h H1 e _ fun H2 e2 => ⟨(n : Int), rfl, by omega, by omega, by rw [Int.toNat_natCast]; exact q H2 e2⟩) walk_range hn (fun _ i acc _ => acc = ys.take i) (fun _ _ _ _ _ _ b _ => b) (fun _ _ _ _ => by simp) (fun H1 e => trivial) fun Dl i x H1 H2 acc Q hi e fr hD b y q => ?_).imp fun v H2 e hp => ?_
  · obtain ⟨rfl, rfl⟩ := y
    obtain ⟨w, hw2, ev⟩ := he i H2 e hi
    show gName j (V.int ((0 : Int) + (i : Int))) _ _ _
    rw [show (0 : Int) + (i : Int) = (i : Int) from Int.zero_add _]
    exact turn1 (hw _) (Ev.toP (P := fun v _ => v = w) ev fun _ _ => rfl) fun v H3 e3 hv => q v H3 e3 (by rw [hv, b, List.take_add_one, hw2]; rfl)
  · obtain ⟨p, acc, rfl, fr, h2, hl, b⟩ := hp
    rw [b, List.take_of_length_le (by omega)] at h2
    exact ⟨p, rfl, fr, h2⟩
theorem ev_niLI {ns : List Int} {i : Int} (ha : Ev ta σ H (.int i)) (hb : EvLI K tb σ H ns) : Ev (tOp (rIn K true) ta tb) σ H (.bl (!decide (i ∈ ns))) := fun H1 e Q q =>
  ha H1 e _ fun H2 e2 => hb H2 (e.trans e2) _ fun v H3 e3 ⟨p, ev, hp⟩ => ⟨p, ns.map V.int, ev, .inl hp, rfl, flat_ints ns, by
    show Q (.bl (!inV (.int i) (ns.map V.int))) H3
    rw [inV_int]
    exact q H3 (e2.trans e3)⟩
end G

/-! Lists of tuples of ints of which each keeps P. -/
namespace G
open PySem PySem.Spec PyProof.Rows L2
open Evl (Ex Ev EvL EvU EvT EvA RV RetV)
local macro_rules | `(tactic| walk_at "hp") => `(tactic| first
  | with_reducible assumption
  | ((with_reducible show _ = some (_ : HO)); (with_reducible exact ex_app (by assumption) (by walk_at "hp")))
  | ((with_reducible show TupI _ _ _ _); (with_reducible exact TupI.mono (by assumption) (by walk_at "hp")))
  | ((with_reducible show LT _ _ _ _); (with_reducible exact LT.mono (by assumption) (by walk_at "hp")))
  | ((with_reducible show LI _ _ _ _); (first | (with_reducible exact li_of (by walk_at "hp")) | (with_reducible exact LI.mono (by assumption) (by walk_at "hp"))))
  | ((with_reducible show SqL _ _ _ _); (first | (with_reducible exact SqL.of (by walk_at "hp")) | (with_reducible exact Evl.ex_l (by assumption) (by walk_at "hp"))))
  | ((with_reducible show SqT _ _ _ _); (first | (with_reducible exact SqT.of (by walk_at "hp")) | (with_reducible exact Evl.ex_t (by assumption) (by walk_at "hp"))))
  | ((with_reducible show Rd _ _ _); (first | (with_reducible exact Rd.of (by walk_at "hp")) | (with_reducible exact Evl.ex_rd (by assumption) (by walk_at "hp"))))
  | walk_at "hpf")
local macro_rules | `(tactic| walk_at "at") => `(tactic| first
  | with_reducible assumption
  | with_reducible rfl
  | (refine atI_of ?va ?vb; (case va => omega); (case vb => assumption))
  | walk_at "atf"
  | rfl)
local macro_rules | `(tactic| walk_at "rv") => `(tactic| first
  | with_reducible exact rv_add | with_reducible exact rv_sub | with_reducible exact rv_eqI | with_reducible exact rv_neI | with_reducible exact rv_lt | with_reducible exact rv_le | with_reducible exact rv_gt | with_reducible exact rv_ge
  | with_reducible exact rv_eqB | with_reducible exact rv_neB | with_reducible exact rv_isB | with_reducible exact rv_notB
  | ((with_reducible refine rv_mod ?_); (first | assumption | omega))
  | ((with_reducible refine rv_mul ?_); (first | exact Or.inl ⟨by omega, by omega⟩ | exact Or.inr ⟨by omega, by omega⟩))
  | ((with_reducible refine rv_div ?_); exact ⟨by omega, by omega⟩))
local macro_rules | `(tactic| walk_at "ty") => `(tactic| first
  | with_reducible exact fun _ _ => .base (.int _) | with_reducible exact fun _ _ => .base (.bl _) | with_reducible exact fun _ _ => .base .non | with_reducible exact fun _ _ => .base (.str _)
  | ((with_reducible apply ty_tup); walk_at "hp")
  | ((with_reducible apply ty_lst); walk_at "hp")
  | walk_at "tyf")
local macro_rules | `(tactic| walk_at "ev") => `(tactic| repeat' (first
  | with_reducible exact Evl.ev_c
  | ((with_reducible apply Evl.ev_var); rfl)
  | with_reducible apply ev_neg
  | with_reducible apply ev_ixU
  | walk_at "evf"
  | ((with_reducible apply ev_lenI); (· walk_at "ev"); (· walk_at "hp"))
  | ((with_reducible apply ev_lenT); (· walk_at "ev"); (· walk_at "hp"))
  | ((with_reducible apply ev_lenU); (· walk_at "ev"))
  | with_reducible apply ev_lenSet
  | with_reducible apply ev_chain
  | with_reducible apply ev_isiTy
  | with_reducible apply Evl.ev_andV
  | with_reducible apply Evl.ev_orV
  | with_reducible apply Evl.ev_notV
  | ((with_reducible apply ev_ixI); (· walk_at "ev"); (· walk_at "ev"); (· walk_at "hp"); (· walk_at "at"))
  | with_reducible apply Evl.ev_op
  | ((with_reducible apply evi_of); (· (with_reducible apply Evl.ev_var); rfl); (· walk_at "hp"))
  | with_reducible apply ei_ix
  | with_reducible apply ei_tup
  | with_reducible exact eai_nil
  | with_reducible apply eai_cons
  | with_reducible exact Evl.ea_nil
  | with_reducible apply Evl.ea_cons
  | with_reducible apply Evl.et_test
  | with_reducible apply Evl.et_and
  | with_reducible apply Evl.et_or
  | with_reducible apply Evl.et_not
  | with_reducible apply Evl.et_B
  | walk_at "rv"
  | ((with_reducible show L2.kitB _ _ = _); rfl)
  | ((with_reducible show L2.atI _ _ = _); walk_at "at")
  | ((with_reducible show (_ : Nat) ≤ _); (first | omega | (simp; done) | (simp; omega)))
  | ((with_reducible show _ = true → _); intro _)
  | ((with_reducible show _ = false → _); intro _)
  | ((with_reducible show TupI _ _ _ _); walk_at "hp")
  | ((with_reducible show LT _ _ _ _); walk_at "hp")
  | ((with_reducible show LI _ _ _ _); walk_at "hp")
  | ((with_reducible show SqL _ _ _ _); walk_at "hp")
  | ((with_reducible show SqT _ _ _ _); walk_at "hp")
  | ((with_reducible show Rd _ _ _); walk_at "hp")
  | ((with_reducible show _ = some (_ : HO)); walk_at "hp")
  | walk_at "hpg"
  | walk_at "ty"))

local macro_rules | `(tactic| walk_at "hpf") => `(tactic| ((with_reducible show WebAt _ _ _ _ _ _); (with_reducible exact WebAt.mono (by assumption) (by walk_at "hp"))))
local macro_rules | `(tactic| walk_at "hpg") => `(tactic| ((with_reducible show WebAt _ _ _ _ _ _); walk_at "hp"))
local macro_rules | `(tactic| walk_at "evf") => `(tactic| with_reducible apply ev_points)
local macro_rules | `(tactic| walk_at "evf") => `(tactic| with_reducible apply ev_turn)
local macro_rules | `(tactic| walk_at "evf") => `(tactic| with_reducible apply ev_lenB)
local macro_rules | `(tactic| walk_at "evf") => `(tactic| with_reducible apply ei_bound)
local macro_rules | `(tactic| walk_at "evf") => `(tactic| with_reducible apply ev_is_whole)
local macro_rules | `(tactic| walk_at "evf") => `(tactic| with_reducible apply ev_is_below)
local macro_rules | `(tactic| walk_at "evf") => `(tactic| with_reducible apply ev_is_tie)
local macro_rules | `(tactic| walk_at "evf") => `(tactic| with_reducible apply ei_stepped)
variable {K : PySem.W.Frag} {σ : L2.St} {H H' H1 : Hp} {ta tb tc te : TE} {t u : TT} {tl : TA} {v x y z : V}
def AllP (K : PySem.W.Frag) (H : Hp) (vs : List V) (P : List Int → Prop) : Prop := ∀ v ∈ vs, ∃ xs, TupI K H v xs ∧ P xs
theorem AllP.mono {vs : List V} {P : List Int → Prop} (e : Ex H H') (h : AllP K H vs P) : AllP K H' vs P := fun v hv => by
  obtain ⟨xs, a, b⟩ := h v hv
  exact ⟨xs, a.mono e, b⟩
theorem AllP.updL {vs : List V} {P : List Int → Prop} {l : Addr} {ys zs : List V} (h : AllP K H vs P) (hl : H l = some (.lst ys)) : AllP K (upd H l (.lst zs)) vs P := fun v hv => by
  obtain ⟨xs, a, b⟩ := h v hv
  exact ⟨xs, a.updL hl, b⟩
theorem AllP.append {vs ws : List V} {P : List Int → Prop} (h : AllP K H vs P) (g : AllP K H ws P) : AllP K H (vs ++ ws) P := fun v hv => by
  rcases List.mem_append.mp hv with hv | hv
  · exact h v hv
  · exact g v hv
theorem AllP.one {w : V} {xs : List Int} {P : List Int → Prop} (h : TupI K H w xs) (p : P xs) : AllP K H [w] P := fun v hv => by
  rw [List.mem_singleton.mp hv]
  exact ⟨xs, h, p⟩
theorem AllP.sub {vs ws : List V} {P : List Int → Prop} (h : AllP K H vs P) (s : ∀ v ∈ ws, v ∈ vs) : AllP K H ws P := fun v hv => h v (s v hv)
theorem TupL.allP {vs : List V} {xss : List (List Int)} {P : List Int → Prop} (h : TupL K H vs xss) (p : ∀ xs ∈ xss, P xs) : AllP K H vs P := fun v hv => by
  obtain ⟨i, hi⟩ := List.mem_iff_getElem?.mp hv
  obtain ⟨xs, a, b⟩ := h.getV hi
  exact ⟨xs, b, p xs (List.mem_of_getElem? a)⟩
/-- a list at l of at most m tuples, each keeps P -/
def HasP (K : PySem.W.Frag) (H : Hp) (m : Nat) (P : List Int → Prop) (v : V) : Prop := ∃ l vs, v = .ref l ∧ H l = some (.lst vs) ∧ vs.length ≤ m ∧ AllP K H vs P
/-- xs + ys -/
theorem ep_catP {m1 m2 : Nat} {P : List Int → Prop} (ha : EvP ta σ H (fun v H2 => HasP K H2 m1 P v)) (hb : EvP tb σ H (fun v H2 => HasP K H2 m2 P v)) (hm : m1 + m2 ≤ 100000) : EvP (tOp rCat ta tb) σ H (fun v H2 => HasP K H2 (m1 + m2) P v) := fun H1 e Q q =>
  ha H1 e _ fun v H2 e2 ⟨l, vs, ev, h1, h2, h3⟩ => hb H2 (e.trans e2) _ fun w H3 e3 ⟨l', ws, ew, g1, g2, g3⟩ =>
    ⟨l, l', vs, ws, ev, ew, e3 _ _ h1, g1, Nat.le_trans (Nat.le_trans (Nat.add_le_add h2 g2) hm) (by decide), fun r hr => q _ _ ((e2.trans e3).trans (Ex.new hr)) ⟨r, vs ++ ws, rfl, upd_same, by rw [List.length_append]; omega, (((h3.mono e3).append g3).mono (Ex.new hr))⟩⟩
/-- a comprehension over a list that is known by P alone -/
theorem lc_listP {g : TG} {tt : TT} {js : List Nat} {P : Hp → List V → Prop} {R : V → Hp → Prop} {tu : TE} (h : EvP te σ H (fun v H2 => ∃ a xs, v = .ref a ∧ SqL K H2 a xs ∧ P H2 xs)) (k : ∀ a xs H1, Ex H H1 → SqL K H1 a xs → P H1 xs → EvP (tLc (iList K (tC (.ref a))) g tt tu js) σ H1 R) : EvP (tLc (iList K te) g tt tu js) σ H R := fun H1 e Q q =>
  h H1 e _ fun v H2 e2 ⟨a, xs, ev, hx, p⟩ => by
    subst ev
    exact k a xs H2 (e.trans e2) hx p H2 (Ex.refl _) Q fun v H3 e3 r => q v H3 (e2.trans e3) r
/-- [a tuple of x for x in xs] -/
theorem lc_tupP {a : Addr} {xs : List V} {j : Nat} {P R : List Int → Prop} (h : Ev ta σ H (.ref a)) (hx : SqL K H a xs) (hz : xs.length ≤ 90000) (hP : AllP K H xs P) (hw : ∀ x, wipe ((wipe σ [j]).set j (some x)) [j] = wipe σ [j])
    (he : ∀ (x : V) (ns : List Int) H1, Ex H H1 → TupI K H1 x ns → P ns → EvP te ((wipe σ [j]).set j (some x)) H1 (fun v H2 => ∃ ms, TupI K H2 v ms ∧ R ms)) :
    EvP (tLc (iList K ta) (gName j) tYes te [j]) σ H (fun v H2 => HasP K H2 xs.length R v) := by
  refine (lc_gen (G := fun H => SqL K H a xs) (n := xs.length) (fun H1 e R q => h H1 e _ fun H2 e2 => ⟨a, rfl, ⟨xs, Evl.ex_l (e.trans e2) hx⟩, q H2 e2⟩) walk_list hz (fun _ i acc H => AllP K H acc R) (fun _ _ _ _ _ _ b c => b.updL c) (fun _ _ _ _ v hv => by cases hv) (fun H1 e => Evl.ex_l e hx) fun Dl i x H1 H2 acc Q hi e fr hD b y q => ?_).imp fun v H2 e hp => ?_
  · obtain ⟨rfl, hxi⟩ := y
    obtain ⟨ns, t1, t2⟩ := hP x (List.mem_of_getElem? hxi)
    refine turn1 (hw x) (he x ns H2 e (t1.mono e) t2) fun v H3 e3 hv => q v H3 e3 ?_
    obtain ⟨ms, m1, m2⟩ := hv
    exact (b.mono e3).append (.one m1 m2)
  · obtain ⟨p, acc, rfl, fr, h2, hl, b⟩ := hp
    exact ⟨p, acc, rfl, h2, by omega, b⟩
/-- a slice of a list of tuples -/
theorem ep_slP {th tk : TO} {a : Addr} {xs : List V} {lo hi : Option Int} {P : List Int → Prop} (h : Ev te σ H (.ref a)) (h1 : Evl.EvO th σ H lo) (h2 : Evl.EvO tk σ H hi) (hs : SqL K H a xs) (hP : AllP K H xs P) : EvP (tSl (rSlL K) te th tk) σ H (fun v H2 => ∃ a ys, v = .ref a ∧ SqL K H2 a ys ∧ (ys.length ≤ xs.length ∧ AllP K H2 ys P)) := fun H1 e Q q =>
  Evl.el_sl h h1 h2 hs H1 e _ fun p H2 hp e2 h3 => q _ H2 e2 ⟨p, _, rfl, SqL.of h3, cutV_length _ _ _, (hP.mono (e.trans e2)).sub fun v hv => List.mem_of_mem_drop (List.mem_of_mem_take hv)⟩

/-- arguments that are tuples, each keeps P -/
theorem eap_nil {P : List Int → Prop} : EvAP tNil σ H (fun vs H2 => vs.length = 0 ∧ AllP K H2 vs P) := fun H1 e Q q => q [] H1 (Ex.refl H1) ⟨rfl, fun v hv => by cases hv⟩
theorem eap_cons {P : List Int → Prop} {xs : List Int} {m : Nat} (h : EvI K te σ H xs) (p : P xs) (hr : EvAP tl σ H (fun vs H2 => vs.length = m ∧ AllP K H2 vs P)) : EvAP (tCons te tl) σ H (fun vs H2 => vs.length = m + 1 ∧ AllP K H2 vs P) := fun H1 e Q q =>
  h H1 e _ fun v H2 e2 hv => hr H2 (e.trans e2) _ fun vs H3 e3 hvs => q (v :: vs) H3 (e2.trans e3) ⟨by rw [List.length_cons, hvs.1], fun w hw => by
    rcases List.mem_cons.mp hw with rfl | hw
    · exact ⟨xs, hv.mono e3, p⟩
    · exact hvs.2 w hw⟩
/-- [t1, t2, ..]: a new list of tuples -/
theorem ep_lstP {P : List Int → Prop} {m : Nat} (h : EvAP tl σ H (fun vs H2 => vs.length = m ∧ AllP K H2 vs P)) (hm : m ≤ 100000) : EvP (tLst tl) σ H (fun v H2 => ∃ l vs, v = .ref l ∧ H l = none ∧ H2 l = some (.lst vs) ∧ vs.length = m ∧ AllP K H2 vs P) := fun H1 e Q q =>
  h H1 e _ fun vs H2 e2 hvs => ⟨by rw [hvs.1]; exact Nat.le_trans hm (by decide), fun p hp => q _ _ (e2.trans (Ex.new hp)) ⟨p, vs, rfl, Evl.fresh_back (e.trans e2) hp, upd_same, hvs.1, hvs.2.mono (Ex.new hp)⟩⟩
/-- a, b of a tuple, in a for -/
theorem g_tup2 {i j : Nat} {a b : Int} {k : L2.St → Hp → Prop} (hx : TupI K H x [a, b]) (h : k ((σ.set i (some (.int a))).set j (some (.int b))) H) : gTup K 2 (gCons (gName i) (gCons (gName j) gNil)) x σ H k := by
  obtain ⟨p, rfl, hp⟩ := hx
  exact ⟨p, _, rfl, hp, rfl, _, _, rfl, _, _, rfl, rfl, h⟩
end G

/-! More of what laws do: arguments that are new, comprehensions of tuples. -/
namespace G
open PySem PySem.Spec PyProof.Rows L2
open Evl (Ex Ev EvL EvU EvT EvA RV RetV)
local macro_rules | `(tactic| walk_at "hp") => `(tactic| first
  | with_reducible assumption
  | ((with_reducible show _ = some (_ : HO)); (with_reducible exact ex_app (by assumption) (by walk_at "hp")))
  | ((with_reducible show TupI _ _ _ _); (with_reducible exact TupI.mono (by assumption) (by walk_at "hp")))
  | ((with_reducible show LT _ _ _ _); (with_reducible exact LT.mono (by assumption) (by walk_at "hp")))
  | ((with_reducible show LI _ _ _ _); (first | (with_reducible exact li_of (by walk_at "hp")) | (with_reducible exact LI.mono (by assumption) (by walk_at "hp"))))
  | ((with_reducible show SqL _ _ _ _); (first | (with_reducible exact SqL.of (by walk_at "hp")) | (with_reducible exact Evl.ex_l (by assumption) (by walk_at "hp"))))
  | ((with_reducible show SqT _ _ _ _); (first | (with_reducible exact SqT.of (by walk_at "hp")) | (with_reducible exact Evl.ex_t (by assumption) (by walk_at "hp"))))
  | ((with_reducible show Rd _ _ _); (first | (with_reducible exact Rd.of (by walk_at "hp")) | (with_reducible exact Evl.ex_rd (by assumption) (by walk_at "hp"))))
  | walk_at "hpf")
local macro_rules | `(tactic| walk_at "at") => `(tactic| first
  | with_reducible assumption
  | with_reducible rfl
  | (refine atI_of ?va ?vb; (case va => omega); (case vb => assumption))
  | walk_at "atf"
  | rfl)
local macro_rules | `(tactic| walk_at "rv") => `(tactic| first
  | with_reducible exact rv_add | with_reducible exact rv_sub | with_reducible exact rv_eqI | with_reducible exact rv_neI | with_reducible exact rv_lt | with_reducible exact rv_le | with_reducible exact rv_gt | with_reducible exact rv_ge
  | with_reducible exact rv_eqB | with_reducible exact rv_neB | with_reducible exact rv_isB | with_reducible exact rv_notB
  | ((with_reducible refine rv_mod ?_); (first | assumption | omega))
  | ((with_reducible refine rv_mul ?_); (first | exact Or.inl ⟨by omega, by omega⟩ | exact Or.inr ⟨by omega, by omega⟩))
  | ((with_reducible refine rv_div ?_); exact ⟨by omega, by omega⟩))
local macro_rules | `(tactic| walk_at "ty") => `(tactic| first
  | with_reducible exact fun _ _ => .base (.int _) | with_reducible exact fun _ _ => .base (.bl _) | with_reducible exact fun _ _ => .base .non | with_reducible exact fun _ _ => .base (.str _)
  | ((with_reducible apply ty_tup); walk_at "hp")
  | ((with_reducible apply ty_lst); walk_at "hp")
  | walk_at "tyf")
local macro_rules | `(tactic| walk_at "ev") => `(tactic| repeat' (first
  | with_reducible exact Evl.ev_c
  | ((with_reducible apply Evl.ev_var); rfl)
  | with_reducible apply ev_neg
  | with_reducible apply ev_ixU
  | walk_at "evf"
  | ((with_reducible apply ev_lenI); (· walk_at "ev"); (· walk_at "hp"))
  | ((with_reducible apply ev_lenT); (· walk_at "ev"); (· walk_at "hp"))
  | ((with_reducible apply ev_lenU); (· walk_at "ev"))
  | with_reducible apply ev_lenSet
  | with_reducible apply ev_chain
  | with_reducible apply ev_isiTy
  | with_reducible apply Evl.ev_andV
  | with_reducible apply Evl.ev_orV
  | with_reducible apply Evl.ev_notV
  | ((with_reducible apply ev_ixI); (· walk_at "ev"); (· walk_at "ev"); (· walk_at "hp"); (· walk_at "at"))
  | with_reducible apply Evl.ev_op
  | ((with_reducible apply evi_of); (· (with_reducible apply Evl.ev_var); rfl); (· walk_at "hp"))
  | with_reducible apply ei_ix
  | with_reducible apply ei_tup
  | with_reducible exact eai_nil
  | with_reducible apply eai_cons
  | with_reducible exact Evl.ea_nil
  | with_reducible apply Evl.ea_cons
  | with_reducible apply Evl.et_test
  | with_reducible apply Evl.et_and
  | with_reducible apply Evl.et_or
  | with_reducible apply Evl.et_not
  | with_reducible apply Evl.et_B
  | walk_at "rv"
  | ((with_reducible show L2.kitB _ _ = _); rfl)
  | ((with_reducible show L2.atI _ _ = _); walk_at "at")
  | ((with_reducible show (_ : Nat) ≤ _); (first | omega | (simp; done) | (simp; omega)))
  | ((with_reducible show _ = true → _); intro _)
  | ((with_reducible show _ = false → _); intro _)
  | ((with_reducible show TupI _ _ _ _); walk_at "hp")
  | ((with_reducible show LT _ _ _ _); walk_at "hp")
  | ((with_reducible show LI _ _ _ _); walk_at "hp")
  | ((with_reducible show SqL _ _ _ _); walk_at "hp")
  | ((with_reducible show SqT _ _ _ _); walk_at "hp")
  | ((with_reducible show Rd _ _ _); walk_at "hp")
  | ((with_reducible show _ = some (_ : HO)); walk_at "hp")
  | walk_at "hpg"
  | walk_at "ty"))

local macro_rules | `(tactic| walk_at "hpf") => `(tactic| ((with_reducible show WebAt _ _ _ _ _ _); (with_reducible exact WebAt.mono (by assumption) (by walk_at "hp"))))
local macro_rules | `(tactic| walk_at "hpg") => `(tactic| ((with_reducible show WebAt _ _ _ _ _ _); walk_at "hp"))
local macro_rules | `(tactic| walk_at "evf") => `(tactic| with_reducible apply ev_points)
local macro_rules | `(tactic| walk_at "evf") => `(tactic| with_reducible apply ev_turn)
local macro_rules | `(tactic| walk_at "evf") => `(tactic| with_reducible apply ev_lenB)
local macro_rules | `(tactic| walk_at "evf") => `(tactic| with_reducible apply ei_bound)
local macro_rules | `(tactic| walk_at "evf") => `(tactic| with_reducible apply ev_is_whole)
local macro_rules | `(tactic| walk_at "evf") => `(tactic| with_reducible apply ev_is_below)
local macro_rules | `(tactic| walk_at "evf") => `(tactic| with_reducible apply ev_is_tie)
local macro_rules | `(tactic| walk_at "evf") => `(tactic| with_reducible apply ei_stepped)
variable {K : PySem.W.Frag} {σ : L2.St} {H H' H1 : Hp} {ta tb tc te : TE} {t u : TT} {tl : TA} {v x y z : V}
/-- an if with two ways that meet again: what the heap keeps there -/
theorem q_join {D : Ends} {tu tw tz : TS} {b : Bool} (J : Hp → Prop) (hT : EvT t σ H b) (h1 : b = true → ∀ H1, Ex H H1 → (∀ H2, J H2 → tz D σ H2) → tu { D with nx := tz D } σ H1)
    (h2 : b = false → ∀ H1, Ex H H1 → (∀ H2, J H2 → tz D σ H2) → tw { D with nx := tz D } σ H1) (k : ∀ H2, J H2 → tz D σ H2) : tSeq (tIfS t tu tw) tz D σ H :=
  Evl.q_if hT (fun hb H1 e => h1 hb H1 e k) fun hb H1 e => h2 hb H1 e k
theorem ep_if {b : Bool} {P : V → Hp → Prop} (h : EvT t σ H b) (h1 : b = true → EvP ta σ H P) (h2 : b = false → EvP tb σ H P) : EvP (tIf t ta tb) σ H P := fun H1 e Q q => h H1 e _ fun H2 e2 => by
  cases b with
  | true =>
    show ta σ H2 Q
    exact h1 rfl H2 (e.trans e2) Q fun v H3 e3 p => q v H3 (e2.trans e3) p
  | false =>
    show tb σ H2 Q
    exact h2 rfl H2 (e.trans e2) Q fun v H3 e3 p => q v H3 (e2.trans e3) p
theorem ev_law_numbersP (h : EvP te σ H (fun v H2 => ∃ l ns, v = .ref l ∧ LI K H2 l ns ∧ ns.length ≤ 5000)) : Ev (tCall (sp__law_numbers K) [] E0 (tCons te tNil)) σ H (.bl true) := fun H1 e Q q =>
  h H1 e _ fun v H2 e2 ⟨l, ns, ev, hl, hn⟩ => ⟨l, ns, by rw [ev]; rfl, hl, hn, fun H3 e3 => q H3 (e2.trans e3)⟩
/-- [x], [x, y] of ints: a new list -/
theorem ep_lstI {ns : List Int} (h : EvA tl σ H (ns.map V.int)) (hl : ns.length ≤ 100000) : EvP (tLst tl) σ H (fun v H2 => ∃ l, v = .ref l ∧ H l = none ∧ HasI H2 l ns) := fun H1 e Q q =>
  Evl.el_lst h (by rw [List.length_map]; exact hl) H1 e _ fun p H2 hp e2 h2 => q _ H2 e2 ⟨p, rfl, Evl.fresh_back e hp, h2⟩
/-- Web(n, an expression, turn) -/
theorem ep_WebP {n turn : Int} {ts : List Tie} (T : WebTop K) (ha : Ev ta σ H (.int n)) (hb : EvP te σ H (fun v H2 => ∃ l, v = .ref l ∧ LTie K H2 l ts)) (hc : ∀ H1, Ex H H1 → Ev tc σ H1 (.int turn)) (ok : okWeb n ts turn) :
    EvP (tMake (ga K "Web") (sp_Web_init K) [] E0 (tCons ta (tCons te (tCons tc tNil)))) σ H (fun v H2 => ∃ p, v = .ref p ∧ H p = none ∧ WebAt K H2 p n ts turn) := fun H1 e Q q =>
  ha H1 e _ fun H2 e2 => hb H2 (e.trans e2) _ fun v H3 e3 ⟨l, ev, hl⟩ => hc H3 ((e.trans e2).trans e3) H3 (Ex.refl H3) _ fun H4 e4 => by
    subst ev
    have mk := ep_Web (K := K) (tl := tCons (tC (.int n)) (tCons (tC (.ref l)) (tCons (tC (.int turn)) tNil))) (σ := []) (H := H4) (l := l) T (Evl.ea_cons Evl.ev_c (Evl.ea_cons Evl.ev_c (Evl.ea_cons Evl.ev_c Evl.ea_nil))) (hl.mono e4) ok
    exact mk H4 (Ex.refl H4) Q fun v5 H5 e5 ⟨p, a1, a2, a3⟩ => q v5 H5 (((e2.trans e3).trans e4).trans e5) ⟨p, a1, Evl.fresh_back (((e.trans e2).trans e3).trans e4) a2, a3⟩
theorem cutV_tail (us : List V) : cutV us (some 1) none = us.drop 1 := by
  cases us with
  | nil => rfl
  | cons a r =>
    unfold cutV
    have h1 : HT.sIx (a :: r).length 0 (some 1) = 1 := by
      show (if (1 : Int) < 0 then ((1 : Int) + ((a :: r).length : Int)).toNat else min (1 : Int).toNat (a :: r).length) = 1
      rw [if_neg (by decide)]
      show min 1 (r.length + 1) = 1
      omega
    have h2 : HT.sIx (a :: r).length (a :: r).length none = (a :: r).length := rfl
    rw [h1, h2]
    show r.take (r.length + 1 - 1) = r
    rw [Nat.add_sub_cancel, List.take_length]
/-- ties[1:] -/
theorem ep_tail {a : Addr} {ts : List Tie} (h : Ev te σ H (.ref a)) (hs : LTie K H a ts) : EvP (tSl (rSlL K) te (tPart (tC (.int 1))) tNoPart) σ H (fun v H2 => ∃ l, v = .ref l ∧ LTie K H2 l (ts.drop 1)) := fun H1 e Q q => by
  obtain ⟨us, h1, h2⟩ := hs
  refine Evl.el_sl h (Evl.eo_some Evl.ev_c) Evl.eo_none h1 H1 e _ fun p H2 hp e2 h3 => q _ H2 e2 ⟨p, rfl, us.drop 1, SqL.of (by rw [← cutV_tail]; exact h3), ?_⟩
  rw [List.map_drop]
  exact TupL.drop 1 (h2.mono (e.trans e2))
theorem LawWeb.drop {n turn : Int} {ts : List Tie} (h : LawWeb n turn ts) : LawWeb n turn (ts.drop 1) := ⟨h.n2, h.n66, h.t0, h.t1, by have := h.len; rw [List.length_drop]; omega, fun t ht => h.ok t (List.mem_of_mem_drop ht)⟩
/-- each element a flat value: over a list of pairs of ints by two names -/
theorem lc_vals2 {a : Addr} {xss : List (List Int)} {ys : List V} {i1 i2 : Nat} {vs : List Nat} (h : Ev ta σ H (.ref a)) (hx : LT K H a xss) (hz : xss.length ≤ 90000) (hy : ys.length = xss.length)
    (hw : ∀ x y, wipe (((wipe σ vs).set i1 (some x)).set i2 (some y)) vs = wipe σ vs)
    (he : ∀ (i : Nat) (x : List Int) H1, Ex H H1 → xss[i]? = some x → ∃ a b y, x = [a, b] ∧ ys[i]? = some y ∧ Ev te (((wipe σ vs).set i1 (some (.int a))).set i2 (some (.int b))) H1 y) :
    EvP (tLc (iList K ta) (gTup K 2 (gCons (gName i1) (gCons (gName i2) gNil))) tYes te vs) σ H (fun v H2 => ∃ p, v = .ref p ∧ H p = none ∧ H2 p = some (.lst ys)) := by
  obtain ⟨us, hx, hT⟩ := hx
  have hul := hT.length
  refine (lc_gen (G := fun H => SqL K H a us) (n := us.length) (fun H1 e R q => h H1 e _ fun H2 e2 => ⟨a, rfl, ⟨us, Evl.ex_l (e.trans e2) hx⟩, q H2 e2⟩) walk_list (by omega) (fun _ i acc _ => acc = ys.take i) (fun _ _ _ _ _ _ b _ => b) (fun _ _ _ _ => by simp) (fun H1 e => Evl.ex_l e hx) fun Dl i x H1 H2 acc Q hi e fr hD b y q => ?_).imp fun v H2 e hp => ?_
  · obtain ⟨rfl, hxi⟩ := y
    obtain ⟨u, hu, tu⟩ := (hT.mono e).getV hxi
    obtain ⟨a1, b1, w, rfl, hw2, ev⟩ := he i u H2 e hu
    exact turn2 tu (hw _ _) (Ev.toP (P := fun v _ => v = w) ev fun _ _ => rfl) fun v H3 e3 hv => q v H3 e3 (by rw [hv, b, List.take_add_one, hw2]; rfl)
  · obtain ⟨p, acc, rfl, fr, h2, hl, b⟩ := hp
    rw [b, List.take_of_length_le (by omega)] at h2
    exact ⟨p, rfl, fr, h2⟩
/-- each element a new tuple of ints: over a list of 3-tuples by three names -/
theorem lc_tup3 {a : Addr} {xss yss : List (List Int)} {i1 i2 i3 : Nat} {vs : List Nat} (h : Ev ta σ H (.ref a)) (hx : LT K H a xss) (hz : xss.length ≤ 90000) (hy : yss.length = xss.length)
    (hw : ∀ x y z, wipe ((((wipe σ vs).set i1 (some x)).set i2 (some y)).set i3 (some z)) vs = wipe σ vs)
    (he : ∀ (i : Nat) (x : List Int) H1, Ex H H1 → xss[i]? = some x → ∃ a b c y, x = [a, b, c] ∧ yss[i]? = some y ∧ EvI K te ((((wipe σ vs).set i1 (some (.int a))).set i2 (some (.int b))).set i3 (some (.int c))) H1 y) :
    EvP (tLc (iList K ta) (gTup K 3 (gCons (gName i1) (gCons (gName i2) (gCons (gName i3) gNil)))) tYes te vs) σ H (NewLT K H yss) := by
  obtain ⟨us, hx, hT⟩ := hx
  have hul := hT.length
  refine (lc_gen (G := fun H => SqL K H a us) (n := us.length) (fun H1 e R q => h H1 e _ fun H2 e2 => ⟨a, rfl, ⟨us, Evl.ex_l (e.trans e2) hx⟩, q H2 e2⟩) walk_list (by omega) (fun _ i acc H => TupL K H acc (yss.take i)) (fun _ _ _ _ _ _ b c => b.updL c) (fun _ _ _ _ => by simp; exact .nil) (fun H1 e => Evl.ex_l e hx) fun Dl i x H1 H2 acc Q hi e fr hD b y q => ?_).imp fun v H2 e hp => ?_
  · obtain ⟨rfl, hxi⟩ := y
    obtain ⟨u, hu, tu⟩ := (hT.mono e).getV hxi
    obtain ⟨a1, b1, c1, w, rfl, hw2, ev⟩ := he i u H2 e hu
    refine turn3 tu (hw _ _ _) ev fun v H3 e3 hv => q v H3 e3 ?_
    rw [List.take_add_one, hw2]
    exact (b.mono e3).snoc hv
  · obtain ⟨p, acc, rfl, fr, h2, hl, b⟩ := hp
    rw [List.take_of_length_le (by omega)] at b
    exact ⟨p, acc, rfl, fr, h2, b⟩
/-- [a tuple of ints for j in range(n)] -/
theorem lc_tupR {n : Nat} {j : Nat} {yss : List (List Int)} (h : EvA tl σ H [.int (n : Int)]) (hn : n ≤ 90000) (hy : yss.length = n) (hw : ∀ x, wipe ((wipe σ [j]).set j (some x)) [j] = wipe σ [j])
    (he : ∀ (i : Nat) H1, Ex H H1 → i < n → ∃ y, yss[i]? = some y ∧ EvI K te ((wipe σ [j]).set j (some (.int (i : Int)))) H1 y) :
    EvP (tLc (iRng1 tl) (gName j) tYes te [j]) σ H (NewLT K H yss) := by
  refine (lc_gen (J := Itr 0 n) (G := fun _ => True) (n := n) (fun H1 e R q => h H1 e _ fun H2 e2 => ⟨(n : Int), rfl, by omega, by omega, by rw [Int.toNat_natCast]; exact q H2 e2⟩) walk_range hn (fun _ i acc H => TupL K H acc (yss.take i)) (fun _ _ _ _ _ _ b c => b.updL c) (fun _ _ _ _ => by simp; exact .nil) (fun H1 e => trivial) fun Dl i x H1 H2 acc Q hi e fr hD b y q => ?_).imp fun v H2 e hp => ?_
  · obtain ⟨rfl, rfl⟩ := y
    obtain ⟨w, hw2, ev⟩ := he i H2 e hi
    show gName j (V.int ((0 : Int) + (i : Int))) _ _ _
    rw [show (0 : Int) + (i : Int) = (i : Int) from Int.zero_add _]
    refine turn1 (hw _) ev fun v H3 e3 hv => q v H3 e3 ?_
    rw [List.take_add_one, hw2]
    exact (b.mono e3).snoc hv
  · obtain ⟨p, acc, rfl, fr, h2, hl, b⟩ := hp
    rw [List.take_of_length_le (by omega)] at b
    exact ⟨p, acc, rfl, fr, h2, b⟩
theorem ev_intB {b : Bool} (h : Ev ta σ H (.bl b)) : Ev (tCB rInt1 (tCons ta tNil)) σ H (.int (if b then 1 else 0)) := fun H1 e Q q => h H1 e _ fun H2 e2 => .inr ⟨b, rfl, q H2 e2⟩
/-- xs.pop() -/
theorem s_pop {D : Ends} {l : Addr} {xs : List V} {w : V} (hl : H l = some (.lst xs)) (ha : Ev ta σ H (.ref l)) (hw : xs[xs.length - 1]? = some w) (k : ∀ H1, Ex H H1 → D.nx σ (upd H1 l (.lst xs.dropLast))) : tDrop (tBM0 K "list" rPop ta) D σ H :=
  ha H (Ex.refl H) _ fun H1 e1 => ⟨Or.inl ⟨rfl, xs, Evl.sq_of (e1 l _ hl)⟩, l, xs, w, rfl, rfl, e1 _ _ hl, hw, k H1 e1⟩
/-- nought as the law reckons it -/
def sp__law_nought (K : PySem.W.Frag) : Sp := fun vs H Q _ => ∃ (n turn : Int), vs = [.int n, .int turn] ∧ 0 ≤ turn ∧ RetV (.bl (noughtF turn n)) H Q
theorem ev_law_nought {n turn : Int} (h : EvA tl σ H [.int n, .int turn]) (h0 : 0 ≤ turn) : Ev (tCall (sp__law_nought K) [] E0 tl) σ H (.bl (noughtF turn n)) := ev_call h fun _ _ _ k => ⟨n, turn, rfl, h0, k⟩
def t__law_nought (K : PySem.W.Frag) : TS :=
 (tRet (tIf (tTest (tOp rEq (tVar 1) (tC (.int 0)))) (tOp rEq (tVar 0) (tC (.int 0))) (tOp rEq (tOp rModI (tVar 0) (tVar 1)) (tC (.int 0)))))
theorem rd__law_nought (vs : List V) (H : Hp) (Q : VK) (E : XK) (h : sp__law_nought K vs H Q E) : goal (t__law_nought K) ["_law_number", "_law_turn"] vs H Q := by
  obtain ⟨n, turn, rfl, h0, k⟩ := h
  refine Evl.s_ret (v := .bl (noughtF turn n)) (Evl.ev_if (b := decide (turn = 0)) (Evl.et_test (Evl.ev_op (Evl.ev_var rfl) Evl.ev_c rv_eqI)) (fun hb => ?_) fun hb => ?_) fun H2 e2 => k H2 e2
  · have : turn = 0 := of_decide_eq_true hb
    refine Evl.ev_is (Evl.ev_op (Evl.ev_var rfl) Evl.ev_c rv_eqI) ?_
    simp [noughtF, this]
  · have : turn ≠ 0 := of_decide_eq_false hb
    refine Evl.ev_is (Evl.ev_op (Evl.ev_op (Evl.ev_var rfl) (Evl.ev_var rfl) (rv_mod (by omega))) Evl.ev_c rv_eqI) ?_
    simp [noughtF, this]

/-- a for over a new list, what it holds known by P -/
theorem f_listH {D : Ends} {tu : TS} {g : TG} {P : List V → Hp → Prop} (h : EvP te σ H (fun v H2 => ∃ a xs, v = .ref a ∧ SqL K H2 a xs ∧ P xs H2)) (k : ∀ a xs H1, Ex H H1 → SqL K H1 a xs → P xs H1 → tFor (iList K (tC (.ref a))) g tu D σ H1) : tFor (iList K te) g tu D σ H :=
  h H (Ex.refl H) _ fun v H1 e ⟨a, xs, ev, hx, p⟩ => by
    subst ev
    exact k a xs H1 e hx p
/-- pairs of a list of ties and a turn -/
def WebsP (K : PySem.W.Frag) (n : Int) (xs : List V) (H : Hp) : Prop := ∀ v ∈ xs, ∃ (p l : Addr) (turn : Int) (ts : List Tie), v = .ref p ∧ SqT K H p [.ref l, .int turn] ∧ LTie K H l ts ∧ LawWeb n turn ts
theorem WebsP.mono {n : Int} {xs : List V} (e : Ex H H') (h : WebsP K n xs H) : WebsP K n xs H' := fun v hv => by
  obtain ⟨p, l, turn, ts, a, b, c, d⟩ := h v hv
  exact ⟨p, l, turn, ts, a, Evl.ex_t e b, c.mono e, d⟩
theorem ews_nil {n : Int} : EvAP tNil σ H (fun vs H2 => vs.length ≤ 0 ∧ WebsP K n vs H2) := fun H1 e Q q => q [] H1 (Ex.refl H1) ⟨Nat.le_refl _, fun v hv => by cases hv⟩
theorem ews_cons {n turn : Int} {l : Addr} {ts : List Tie} {m : Nat} (h1 : Ev ta σ H (.ref l)) (h2 : Ev tb σ H (.int turn)) (hl : LTie K H l ts) (LW : LawWeb n turn ts) (hr : EvAP tl σ H (fun vs H2 => vs.length ≤ m ∧ WebsP K n vs H2)) :
    EvAP (tCons (tTup (tCons ta (tCons tb tNil))) tl) σ H (fun vs H2 => vs.length ≤ m + 1 ∧ WebsP K n vs H2) := fun H1 e Q q =>
  Evl.eu_tup (Evl.ea_cons h1 (Evl.ea_cons h2 Evl.ea_nil)) (by show 2 ≤ 100000; decide) H1 e _ fun p H2 hp e2 h3 => hr H2 (e.trans e2) _ fun vs H3 e3 hvs => q (.ref p :: vs) H3 (e2.trans e3) ⟨by rw [List.length_cons]; have := hvs.1; omega, fun w hw => by
    rcases List.mem_cons.mp hw with rfl | hw
    · exact ⟨p, l, turn, ts, rfl, .inl (.inl (e3 _ _ h3)), hl.mono ((e.trans e2).trans e3), LW⟩
    · exact hvs.2 w hw⟩
theorem ep_lstW {n : Int} {m : Nat} (h : EvAP tl σ H (fun vs H2 => vs.length ≤ m ∧ WebsP K n vs H2)) (hm : m ≤ 100000) : EvP (tLst tl) σ H (fun v H2 => ∃ a xs, v = .ref a ∧ SqL K H2 a xs ∧ WebsP K n xs H2) := fun H1 e Q q =>
  h H1 e _ fun vs H2 e2 hvs => ⟨Nat.le_trans (Nat.le_trans hvs.1 hm) (by decide), fun p hp => q _ _ (e2.trans (Ex.new hp)) ⟨p, vs, rfl, SqL.of upd_same, hvs.2.mono (Ex.new hp)⟩⟩
end G

/-! The engine, part 5: exceptions. -/
namespace G
open PySem PySem.Spec PyProof.Rows L2
open Evl (Ex Ev EvL EvU EvT EvA RV RetV)
open L2H (HotC Hot1)

/-! ### a list walked to its end while an exception is handled -/
section
variable {prog : Program} {w : World} {A : Around} {E : Value → Shared → Prop} {s : Shared}
theorem next_list_end_hot {it l x1 : Addr} {i : Nat} {items : Array Value} {Q : Option Value → Shared → Prop} (hot : HotX.HotAt A x1 s.heap) (hne : x1 ≠ it) (hit : s.heap.IsListIter it l i) (hl : s.heap.IsList l items) (hx : items[i]? = none)
    (hQ : ∀ h', Heap.ExtBut it s.heap h' → Q none { s with heap := h' }) : wpAny (model prog w) A (pyNext (.ref it)) Q E s := by
  obtain ⟨o, hO, _, hD⟩ := id hit; obtain ⟨ol, hOl, _, _, hDl⟩ := hl; obtain ⟨hh, o1, vs1, h1, d1, c1⟩ := hot
  unfold pyNext; refine wpAny_bind (wpAny_attempt (wpAny_callSpecial?_slot (name := Str.ofString "__next__") hit.typeIs slot_listiter_next (wpAny_call_entry slot_listiter_next hit.typeIs entry_listiter_next ?_ (args_listiter_next _)))); show wpAny _ _ (field (.ref it) 0 >>= _) _ _ s
  refine wpAny_bind (wpAny_field hO hD (x := .ref l) rfl ?_); show wpAny _ _ (if (Value.ref l == Value.none) = true then _ else _) _ _ s; rw [if_neg (show ¬ ((Value.ref l == Value.none) = true) from Bool.false_ne_true)]
  show wpAny _ _ (field (.ref it) 1 >>= _) _ _ s; refine wpAny_bind (wpAny_field hO hD (x := .int i 0) rfl ?_); show wpAny _ _ (seqItems? (.ref l) >>= _) _ _ s
  refine wpAny_bind (wpAny_seqItems hOl hDl ?_); simp only [Int.toNat_natCast, hx]; refine wpAny_bind (wpAny_rule (wpAny_bind (wpAny_setField hO hD (by simp) ?_)))
  show wpAny _ _ (newExc (.type "StopIteration") [] >>= _) _ _ _; refine wpAny_bind ?_; simp only [newExc, newTuple]
  refine wpAny_bind (wpAny_newObj_type ?_ (by size_fits)); refine wpAny_bind (m := firstArgMember _ _) (wpAny_of_eq (a := Value.none) (by first | rfl | (simp only [firstArgMember]; rfl)) ?_); refine wpAny_newObj_type ?_ (by size_fits)
  have g1 : (s.heap.update it (Obj.mapFields fun fs => fs.setIfInBounds 0 Value.none)).get? x1 = some o1 := (Heap.get?_update_other _ _ (Ne.symm hne)).trans h1
  refine HotX.raiseNew_hot ⟨hh, o1, vs1, Heap.get?_push_of_some _ (Heap.get?_push_of_some _ g1), d1, c1⟩ (Nat.ne_of_lt (Heap.lt_size (Heap.get?_push_of_some _ g1))) (Heap.get?_push_size _ rfl) rfl (by first | (simp; done) | (simp; omega) | (simp only [Array.size_append]; simp; omega)) ?_
  refine wpAny_bind (wpAny_isInstance (T := "StopIteration") (b := true) ⟨_, Heap.get?_update_self _ (Heap.get?_push_size _ rfl) rfl, rfl⟩ isSubtype_stop (wpAny_pure (hQ _ ?_)))
  refine fun b u hb e => ?_
  refine (Heap.get?_update_other _ _ ?_).trans (Heap.get?_push_of_some _ (Heap.get?_push_of_some _ ((Heap.get?_update_other _ _ (Ne.symm hb)).trans e)))
  exact Nat.ne_of_gt (Heap.lt_size (Heap.get?_push_of_some _ ((Heap.get?_update_other _ _ (Ne.symm hb)).trans e)))
/-- a list's walk there -/
theorem walks_hot {I l x1 : Addr} {o1 : Obj} {vs1 : Array Value} (hh : A.handled = some (.ref x1)) (d1 : o1.data = .fields vs1) (c1 : vs1[2]? = some .none) (hI : x1 ≠ I) (hne : l ≠ I) (items : Array Value) :
    Walks prog w A I [I, l, x1] [I] items.size (fun i v => items[i]? = some v) (fun i h => (h.IsListIter I l i ∧ h.IsList l items) ∧ h.get? x1 = some o1) where
  sub := fun b hb => by
    rcases List.mem_singleton.mp hb with rfl
    exact List.mem_cons_self
  frame := fun _ _ _ st hk => ⟨⟨st.1.1.at fun o e => hk I (by simp) o e, st.1.2.at fun o e => hk l (by simp) o e⟩, hk x1 (by simp) _ st.2⟩
  item := fun i s Q E hi st hQ => by
    refine wpAny_pyNext_list_item st.1.1 st.1.2 (x := items[i]) (by simp [hi]) fun h' hit' hs' => ?_
    refine hQ _ h' s.toks (by simp [hi]) ⟨⟨hit', st.1.2.extBut hs'.extBut hne⟩, hs'.extBut x1 _ hI st.2⟩ fun b o hb e => ?_
    exact hs'.extBut b o (fun h => hb (by rw [h]; exact List.mem_cons_self)) e
  done := fun s Q E st hQ => next_list_end_hot ⟨hh, o1, vs1, st.2, d1, c1⟩ hI st.1.1 st.1.2 (by simp) fun h' he' => hQ h' s.toks fun b o hb e => he' b o (fun h => hb (by rw [h]; exact List.mem_cons_self)) e
  self := fun _ _ _ _ st hQ => wpAny_pyIter_listiter st.1.1 hQ
end
/-- any(xs) in an except suite -/
theorem cr_anyH {X : Cx} (hc : HotC X) : CallR X (.builtin "any") (rAny X.K) := by
  intro pins s σ H vs us Q I r h
  obtain ⟨a, bs, rfl, hs, q⟩ := h
  obtain ⟨its, rv, hl, _⟩ := I.list hs
  obtain ⟨p, ⟨hh, v1, e1, c1⟩, hp⟩ := hc
  have hpin := (I.pin p (List.mem_append_left _ hp)).1
  rw [Vals.ref1 r]
  have hb := rv.bls
  refine call_any_walk (iter_any hl.isList fun s₂ e2 st hne => ?_)
  subst e2
  have hp2 : p.1 ≠ s.heap.objs.size := Nat.ne_of_lt (Heap.lt_size hpin)
  refine ⟨_, _, _, _, _, _, _, rfl, walks_hot (A := X.A.in1) hh e1 c1 hp2 hne its.toArray, ⟨st, Heap.get?_push_of_some _ hpin⟩, truth_bools hb, fun h' tk hk => ⟨.bl _, H, I.kept fun b o eo => hk b o (fun hmem => ?_) (Heap.get?_push_of_some _ eo), ?_, q⟩⟩
  · rcases List.mem_cons.mp hmem with e1 | hmem
    · exact absurd (e1 ▸ Heap.lt_size eo) (Nat.lt_irrefl _)
    · cases hmem
  · show Value.bool _ = Value.bool _
    rw [← L2.any_range, hb, List.size_toArray, List.length_map]
/-- the suite bears its exception -/
theorem hot_suite {X : Cx} {a : Addr} {oe : Obj} {cls : Value} {d : Option Addr} {pn : List (Addr × Obj)} (hz : L2N.Zn cls d oe) (hf : ∃ vs, oe.data = .fields vs) : HotC (X.suite a ((a, oe) :: pn)) := by
  obtain ⟨vs, hv⟩ := hf
  exact ⟨(a, oe), ⟨rfl, vs, hv, hz.2.2 vs hv⟩, List.mem_cons_self⟩
/-- isinstance(e, c) of the exception that is held -/
def rIsX (K : PySem.W.Frag) (a : Addr) (cls : Value) (d : Option Addr) : List V → Hp → VK → Prop := fun xs H Q => ∃ D, cls = .ref D ∧ d = none ∧ ExcC K D ∧ rIsE K D a xs H Q
theorem call_isP {X : Cx} {a D : Addr} {oe : Obj} (C : ExcC X.K D) (hm : (a, oe) ∈ X.pn) (hz : Zc (.ref D) none oe) (hf : ∃ vs, oe.data = .fields vs) : CallR X (.builtin "isinstance") (rIsE X.K D a) := by
  intro pins s σ H xs us Q I r h
  obtain ⟨c, cv, b, rfl, hcv, e, q⟩ := h
  cases r with
  | cons rx rr =>
    cases rr with
    | cons rt rr =>
      cases rr
      cases rx
      have ec := hcv _ rt
      subst ec
      obtain ⟨hget, _⟩ := I.pin (a, oe) (List.mem_append_left _ hm)
      obtain ⟨vs, hv⟩ := hf
      have J : PySem.W.InstAt s.heap a oe D none := by
        obtain ⟨oc, od, oda, osl⟩ := oe
        obtain ⟨h1, h2⟩ := hz
        dsimp only at h1 h2 hv
        subst h1 h2 hv
        exact ⟨hget, rfl, rfl, trivial⟩
      exact PySem.W.kia_one (PySem.W.handS_kitx_exc C.hg C.hk C.hs C.hd C.ha C.hn C.ht C.hm) I.kIn J e (fun z => nomatch z) fun tk => ⟨.bl b, H, I.kept (t' := tk) fun _ _ z => z, rfl, q⟩
theorem call_isX {X : Cx} {a : Addr} {cls : Value} {d : Option Addr} {oe : Obj} {pn : List (Addr × Obj)} (hz : L2N.Zn cls d oe) (hf : ∃ vs, oe.data = .fields vs) : CallR (X.suite a ((a, oe) :: pn)) (.builtin "isinstance") (rIsX X.K a cls d) := by
  intro pins s σ H xs us Q I r h
  obtain ⟨D, rfl, rfl, C, h⟩ := h
  exact call_isP (X := X.suite a ((a, oe) :: pn)) C List.mem_cons_self hz.zc hf pins s σ H xs us Q I r h
section
variable {K : PySem.W.Frag} {σ : L2.St} {H H' H1 : Hp} {ta tb tc te : TE} {t u : TT} {tl : TA} {v x y z : V}
theorem ev_isX {a D C : Addr} {b : Bool} (hE : ExcC K D) (hk : PySem.W.kitOne K (.ref D) (.ref C) = some b) (ha : Ev ta σ H (.ref a)) : Ev (tCB (rIsX K a (.ref D) none) (tCons ta (tCons (tC (.ref C)) tNil))) σ H (.bl b) := fun H1 e Q q =>
  ha H1 e _ fun H2 e2 => ⟨D, rfl, rfl, hE, .ref C, .ref C, b, rfl, fun u h => h, hk, q H2 e2⟩
theorem ev_isXT {a D : Addr} {n : String} {b : Bool} (hE : ExcC K D) (hk : PySem.W.kitOne K (.ref D) (.type n) = some b) (ha : Ev ta σ H (.ref a)) : Ev (tCB (rIsX K a (.ref D) none) (tCons ta (tCons (tC (.ty n)) tNil))) σ H (.bl b) := fun H1 e Q q =>
  ha H1 e _ fun H2 e2 => ⟨D, rfl, rfl, hE, .ty n, .type n, b, rfl, fun u h => h, hk, q H2 e2⟩
/-- raise C('..') -/
def tRaise (C : Addr) (E : XK) : TS := fun _ _ H => E (.ref C) none H
end
theorem takesN0 {X : Cx} : L2N.Takes X (fun _ _ _ _ => False) := fun _ _ x => by
  obtain ⟨_, _, _, _, _, _, _, _, _, _, _, _, _, _, _, _, z⟩ := x
  exact z.elim
/-! ### uses of defs that may raise -/
section
variable {X : Cx} {W : WX} {k m : Nat} {x : Str} {ps : List Str} {sp : Sp} {p pos : PySem.Pos} {e : Expr} {es : List Expr} {t : TA}
theorem pe_useS (U : Use X.prog X.w X.K X.mg X.base (L2N.CX X.prog X.w) k x ps sp) (hr : Room m X.A) (tk : L2N.Takes X W) (ha : PA X (e :: es) t) (hk : k ≤ m := by decide) (hg : Gl X x := by rfl) (hdb : (x == ("__debug__" : Str)) = false := by decide)
    (he : starEach (e :: es) X.env = (false, eval e X.env) :: starEach es X.env := by rfl) (hpl : (backTo pos (starEach es X.env)).any (·.1) = false := by rfl) :
    PE X (.Call (.Name x p) (e :: es) [] pos) (tCallS sp (WE W) t) := by
  obtain ⟨f, fd, hm, kp, hb, F⟩ := U
  exact pe_callS F (hr.mono hk) hg hm kp hb (fun σ => L2N.passAt tk σ) ha hdb he hpl
end
end G

/-! The engine, part 6: instances whose making may raise; a def called in an except suite with the error that is held. -/
namespace G
open PySem PySem.Spec PyProof.Rows L2
open Evl (Ex Ev EvL EvU EvT EvA RV RetV)
open L2H (HotC Hot1 RoomH PinOk cxH)

/-! ### C(..) that may raise -/
def tMakeS (C : Addr) (sp : Sp) (E : L2.St → XK) (t : TA) : TE := fun σ H Q => t σ H fun vs H1 => ∀ x dx, H1 x = none → H1 dx = none → dx ≠ x → sp (.ref x :: vs) (upd (upd H1 dx (.own x)) x (.ins C dx [])) (fun v H2 => v = .non ∧ Q (.ref x) H2) (E σ)
section
variable {X : Cx} {W : WX} {k m : Nat} {x : Str} {C f : Addr} {fd : FuncData} {ps : List Str} {sp : Sp} {p pos : PySem.Pos} {e : Expr} {es : List Expr} {t : TA}
theorem make_mayraise {pins : List (Addr × Obj)} {σ : L2.St} {H : Hp} {s : Shared} {Q : VK} {us : List Value} {vs : List V} (M : Mk X.K C f) (F : FnOk X.prog X.w X.K X.mg X.base (L2N.CX X.prog X.w) k f fd ps sp) (hr : Room (k + 1) X.A) (hb : Binds X.K fd ps [])
    (tk : L2N.Takes X W) (I : Inv X pins σ H s) (r : Vals vs us) (h : ∀ y dx, H y = none → H dx = none → dx ≠ y → sp (.ref y :: vs) (upd (upd H dx (.own y)) y (.ins C dx [])) (fun v H2 => v = .non ∧ Q (.ref y) H2) (WE W σ)) :
    wpAny (model X.prog X.w) X.A (call (.ref C) us) (EP X pins σ Q) X.xe s := by
  have go := h (s.heap.objs.size + 1) s.heap.objs.size (I.hok.fresh (Nat.le_succ _)) (I.hok.fresh (Nat.le_refl _)) (Nat.ne_of_lt (Nat.lt_succ_self _))
  have J := Inv.made (C := C) I
  have rr : Vals (V.ref (s.heap.objs.size + 1) :: vs) (Value.ref (s.heap.objs.size + 1) :: us) := .cons rfl r
  have ln : (Value.ref (s.heap.objs.size + 1) :: us ++ ([] : List Value)).length = ps.length := by
    rw [List.append_nil, ← rr.length]
    exact F.len _ _ _ _ go
  have bd := hb _ (Value.ref (s.heap.objs.size + 1) :: us) J.kIn ln
  rw [List.append_nil] at bd
  refine wpAny_call (make_map (f := f) I.kIn M.makes M.init (beq_iff_eq.mp M.fn) (codeAny_mono (F.run _ X.stack _ _ ⟨Value.ref (s.heap.objs.size + 1) :: us, []⟩ (Value.ref (s.heap.objs.size + 1) :: us) _ _ (WE W σ) (hr.make C us []) (J.env0.make C us []) bd rr go) fun r s' hq => ?_))
  cases r with
  | error er => exact L2N.passAt tk σ pins _ _ er s' J hq
  | ok fl =>
    cases fl with
    | ret u =>
      obtain ⟨v, H', J3, rv, ev, q3⟩ := J.after hq
      subst ev
      exact ⟨rv, ⟨V.ref (s.heap.objs.size + 1), H', J3, rfl, q3⟩⟩
    | next => exact hq.elim
    | brk => exact hq.elim
    | cont => exact hq.elim
theorem pe_usemkS (U : UseC X.prog X.w X.K X.mg X.base (L2N.CX X.prog X.w) k x C ps sp) (hr : Room m X.A) (tk : L2N.Takes X W) (ha : PA X (e :: es) t) (hk : k + 1 ≤ m := by decide) (hg : Gl X x := by rfl) (hdb : (x == ("__debug__" : Str)) = false := by decide)
    (he : starEach (e :: es) X.env = (false, eval e X.env) :: starEach es X.env := by rfl) (hpl : (backTo pos (starEach es X.env)).any (·.1) = false := by rfl) : PE X (.Call (.Name x p) (e :: es) [] pos) (tMakeS C sp (WE W) t) := by
  obtain ⟨hm, f, fd, M, hb, F⟩ := U
  exact ⟨fun pins s σ H Q I h => wpAny_Call_Name_kw (ld_glob I hg hm (PySem.W.callWith_K (h₀ := X.base) I.ok.mod.kin M.kp (thn (ha.run pos pins s σ H _ I h) fun us s1 ⟨vs, H1, I1, r, q⟩ => ⟨I1.kIn, make_mayraise M F (hr.mono hk) hb tk I1 r q⟩) he hpl) hdb)⟩
end

/-! ### a def called in an except suite with the error that is held -/
structure FnK (P : Program) (w : World) (K : PySem.W.Frag) (mg : Str → Option Value) (base : Heap) (k : Nat) (f : Addr) (fd : FuncData) (ps : List Str) (sp : Addr → Value → Option Addr → Sp) : Prop where
  len : ∀ a cls d vs H Q E, sp a cls d vs H Q E → vs.length = ps.length
  run : ∀ (A : Around) (outer : List Env) (s : Shared) (H : Hp) (args : Args) (us : List Value) (vs : List V) (Q : VK) (E : XK) (p : Addr × Obj) (cls : Value) (d : Option Addr), RoomH k A → Hot1 A p → L2N.Zn cls d p.2 → (∃ ws, p.2.data = .fields ws) → PinOk outer H s p → Env0 P w K mg base A outer s H →
    BindsTo s fd args (ps.zip us) → Vals vs us → sp p.1 cls d vs H Q E → codeAny (model P w) A (.call (.ref f) args) (CR CX0 outer P w H s Q E) s
section
variable {P : Program} {w : World} {K : PySem.W.Frag} {mg : Str → Option Value} {base : Heap} {k : Nat} {f : Addr} {fd : FuncData} {N ps : List Str} {sp : Addr → Value → Option Addr → Sp}
theorem FunD.okK {x qual : Str} {params : Arguments} {body : List Stmt} {scope : Scope} {dvs : List V} {kws : List (Str × V)} (F : FunD K x qual params body scope dvs kws f fd) (S : FnScope N ps scope) (len : ∀ a cls d vs H Q E, sp a cls d vs H Q E → vs.length = ps.length)
    (hbody : ∀ (cdv : Value) (A : Around) (outer : List Env) (s : Shared) (H : Hp) (vs : List V) (Q : VK) (E : XK) (p : Addr × Obj) (cls : Value) (d : Option Addr), Hot1 A p → L2N.Zn cls d p.2 → (∃ ws, p.2.data = .fields ws) → RoomH k (A.deeper (envOfC qual scope s.heap.objs.size f cdv)) → sp p.1 cls d vs H Q E →
      ∃ t, PSs (cxH CX0 P w K mg base N qual scope f cdv A outer s H E p) body t ∧ t { nx := fun _ H' => Q .non H', rt := Q } (L2.start N vs) H) : FnK P w K mg base (k + 1) f fd ps sp := by
  obtain ⟨oc, od, dV, kV, doc, pm, an, cdv, ct, osl, rfl, lk, hcd, _, _⟩ := F.ex
  refine ⟨len, fun A outer s H args us vs Q E p cls d hr hot hz hf hpin e0 hb r hsp => ?_⟩
  have hl := len _ _ _ _ _ _ _ hsp
  have here : ∀ b o, base.get? b = some o → s.heap.get? b = some o := fun b o e => (e0.bs b o e).1
  have KX : K.In s.heap := e0.mod.kin.keeps here
  have knd : ∀ y ∈ ps.zip us, scope.names.lookup y.1 = some .local ∨ (scope.names.lookup y.1 = some .cell ∧ ((cellsFrom (s.heap.objs.size + 1) scope.names []).lookup y.1).isSome = true) := fun ⟨n, v⟩ hy => (S.par n (List.of_mem_zip hy).1).elim .inl fun q => .inr ⟨q, PySem.W.cellsFrom_some _ _ _ (.inl q)⟩
  refine codeAny_call_function hr.depth (KX _ _ lk) rfl S.co S.gen rfl (PySem.W.codeRec_of KX hcd) (hb _ _ _ _ (wpAny_newFunctionEnv_cells S.kind knd fun env he s1 x => ?_))
  subst he
  obtain ⟨t, ht, hq⟩ := hbody cdv A outer s H vs Q E p cls d hot hz hf (hr.deeper _) hsp
  have I : Inv (cxH CX0 P w K mg base N qual scope f cdv A outer s H E p) [] (L2.start N vs) H s1 := L2H.inv_startH S hpin e0 hl r x
  refine ⟨(e0.mod.nolimit.keeps here).keeps x.toInCall.keep, codeAny_func (wpAny_mono (ht.run [] s1 (L2.start N vs) H _ I hq) (fun fl s' hs => ?_) fun e s' hs => hs)⟩
  have fin : ∀ {σ' : L2.St} {H' : Hp} {v : V} {u : Value}, Inv (cxH CX0 P w K mg base N qual scope f cdv A outer s H E p) [] σ' H' s' → RelV v u → Q v H' → CE outer P w H s Q u s' := fun J rv q => ⟨_, _, J.os, J.bare, J.base, J.hok, rv, q⟩
  cases fl with
  | ret u =>
    obtain ⟨v, σ', H', J, rv, q⟩ := hs
    exact fin J rv q
  | next =>
    obtain ⟨σ', H', J, q⟩ := hs
    exact fin (v := V.non) (u := Value.none) J rfl q
  | brk => exact (hs.choose_spec.choose_spec.2 : False).elim
  | cont => exact (hs.choose_spec.choose_spec.2 : False).elim
end
section
variable (P : Program) (w : World) (K : PySem.W.Frag) (mg : Str → Option Value) (base : Heap)
def UseK (k : Nat) (x : Str) (ps : List Str) (sp : Addr → Value → Option Addr → Sp) : Prop :=
  ∃ (f : Addr) (fd : FuncData), mg x = some (.ref f) ∧ PySem.W.keepIn K (.ref f) = true ∧ Binds K fd ps [] ∧ FnK P w K mg base k f fd ps sp
end
def tCallK (sp : Sp) (t : TA) : TE := fun σ H Q => t σ H fun vs H1 => sp vs H1 Q E0
theorem roomH_suite {X : Cx} {m : Nat} {a : Addr} {pn : List (Addr × Obj)} (hr : Room m X.A) : RoomH m (X.suite a pn).A := ⟨hr.dp, hr.un⟩
section
variable {X : Cx} {k m : Nat} {x : Str} {ps : List Str} {sp : Addr → Value → Option Addr → Sp} {p pos : PySem.Pos} {e : Expr} {es : List Expr} {t : TA} {a : Addr} {oe : Obj} {cls : Value} {d : Option Addr} {pn : List (Addr × Obj)}
theorem pe_useK (U : UseK X.prog X.w X.K X.mg X.base k x ps sp) (hr : RoomH m (X.suite a ((a, oe) :: pn)).A) (hz : L2N.Zn cls d oe) (hf : ∃ vs, oe.data = .fields vs) (ha : PA (X.suite a ((a, oe) :: pn)) (e :: es) t) (hk : k ≤ m := by decide) (hg : Gl (X.suite a ((a, oe) :: pn)) x := by rfl) (hdb : (x == ("__debug__" : Str)) = false := by decide)
    (he : starEach (e :: es) X.env = (false, eval e X.env) :: starEach es X.env := by rfl) (hpl : (backTo pos (starEach es X.env)).any (·.1) = false := by rfl) : PE (X.suite a ((a, oe) :: pn)) (.Call (.Name x p) (e :: es) [] pos) (tCallK (sp a cls d) t) := by
  obtain ⟨f, fd, hm, kp, hb, F⟩ := U
  obtain ⟨ws, hv⟩ := hf
  refine ⟨fun pins s σ H Q I h => wpAny_Call_Name_kw (ld_glob I hg hm (PySem.W.callWith_K (h₀ := X.base) I.ok.mod.kin kp (thn (ha.run pos pins s σ H _ I h) fun us s1 ⟨vs, H1, I1, r, q⟩ => ⟨I1.kIn, ?_⟩) he hpl) hdb)⟩
  have hl : (us ++ ([] : List Value)).length = ps.length := by rw [List.append_nil, ← r.length]; exact F.len _ _ _ _ _ _ _ q
  have b := hb s1 us I1.kIn hl
  rw [List.append_nil] at b
  have P1 := I1.pin (a, oe) (List.mem_append_left _ List.mem_cons_self)
  have hpin : PinOk X.stack H1 s1 (a, oe) := ⟨P1.1, P1.2.1, fun hm => (List.mem_cons.mp (I1.stkSub a hm)).elim P1.2.2.1 P1.2.2.2.1, P1.2.2.2.2⟩
  refine wpAny_call (codeAny_mono (F.run _ X.stack s1 H1 ⟨us, []⟩ us vs Q E0 (a, oe) cls d ⟨(hr.mono hk).dp, (hr.mono hk).un⟩ ⟨rfl, ws, hv, hz.2.2 ws hv⟩ hz ⟨ws, hv⟩ hpin I1.env0 b r q) fun r s' hq => ?_)
  cases r with
  | error er => exact (hq : False).elim
  | ok fl =>
    cases fl with
    | ret u => exact I1.after hq
    | next => exact hq.elim
    | brk => exact hq.elim
    | cont => exact hq.elim
end
theorem call_isP2 {X : Cx} {p : Addr × Obj} {cls : Value} {d : Option Addr} (hz : L2N.Zn cls d p.2) (hf : ∃ vs, p.2.data = .fields vs) (hp : p ∈ X.pn) : CallR X (.builtin "isinstance") (rIsX X.K p.1 cls d) := by
  intro pins s σ H xs us Q I r h
  obtain ⟨D, rfl, rfl, C, h⟩ := h
  exact call_isP C hp hz.zc hf pins s σ H xs us Q I r h
end G

/-! The engine, part 7: an exception that is raised in an except suite, held in another def's suite. -/
namespace GM
open PySem PySem.Spec PyProof.Rows L2
open L2H (HotC Hot1 suiteX suiteX_of unsuiteX)
abbrev St := L2.St
/-- the context is None, or an exception that stands in B whose own context is None -/
def CtxM (B : Heap) (H : Hp) (o : Obj) : Prop := ∀ vs : Array Value, o.data = .fields vs → vs[2]? = some .none ∨ ∃ (a2 : Addr) (o2 : Obj) (vs2 : Array Value), vs[2]? = some (.ref a2) ∧ B.get? a2 = some o2 ∧ o2.data = .fields vs2 ∧ vs2[2]? = some .none ∧ H a2 = none
theorem steady_ctxM {B : Heap} {H : Hp} : PXN.Steady1 (CtxM B H) := fun o v h => by
  obtain ⟨c, d, dt, sl⟩ := o
  cases dt with
  | fields vs0 =>
    intro vs e
    have e2 : vs0.setIfInBounds 1 v = vs := Data.fields.inj e
    have e3 : (vs0.setIfInBounds 1 v)[2]? = vs0[2]? := by
      first
      | exact Array.getElem?_setIfInBounds_ne (by decide)
      | simp [Array.getElem?_setIfInBounds]
    rw [← e2, e3]
    exact h vs0 rfl
  | _ =>
    intro vs e
    first
    | exact Data.noConfusion e
    | cases e
def Zm (B : Heap) (H : Hp) (cls : Value) (d : Option Addr) : Obj → Prop := fun o => o.cls = cls ∧ o.dict = d ∧ CtxM B H o
theorem Zm.steady {B : Heap} {H : Hp} {cls : Value} {d : Option Addr} : PXN.Steady1 (Zm B H cls d) := fun o v h => ⟨PXN.steady_cls o v h.1, PXN.steady_dict o v h.2.1, steady_ctxM o v h.2.2⟩
theorem Zm.of_n {B : Heap} {H : Hp} {cls : Value} {d : Option Addr} {o : Obj} (h : L2N.Zn cls d o) : Zm B H cls d o := ⟨h.1, h.2.1, fun vs e => .inl (h.2.2 vs e)⟩
theorem sky_imp {B : Heap} {l : List Env} {a L : Addr} {Z Z' : Obj → Prop} {h : Heap} (z : ∀ o, Z o → Z' o) (x : Sky B l a Z L h) : Sky B l a Z' L h := by
  rcases x with ⟨x1, x2, x3, oe, vs, y1, y2, y3⟩ | fl | hd
  · exact .inl ⟨x1, x2, x3, oe, vs, y1, z _ y2, y3⟩
  · exact .inr (.inl (L2H.flyingZ_imp z fl))
  · exact .inr (.inr ⟨hd.1, hd.2.1, hd.2.2.1, L2H.tracedZ_imp z hd.2.2.2⟩)
/-- an exception in the air of X -/
def XE (X : Cx) (W : WX) (u : Value) (s' : Shared) : Prop :=
  ∃ (a : Addr) (B : Heap) (sI : Shared) (pins : List (Addr × Obj)) (σ : St) (H : Hp) (cls : Value) (d : Option Addr),
    u = .ref a ∧ Inv X pins σ H sI ∧ (∀ b o, sI.heap.get? b = some o → b ∉ frs X.stack → B.get? b = some o) ∧ sI.heap.UpToSlots s'.heap ∧
      Sky B X.stack a (Zm B H cls d) X.env.locals s'.heap ∧ H a = none ∧ s'.os = sI.os ∧ AllBare s'.gens ∧ W cls d σ H
def Takes (X : Cx) (W : WX) : Prop := ∀ u s', XE X W u s' → X.xe u s'
theorem Takes.n {X : Cx} {W : WX} (tk : Takes X W) : L2N.Takes X W := fun u s' ⟨a, B, sI, pins, σ, H, cls, d, e, I, nb, up, sky, na, os, ag, w⟩ =>
  tk u s' ⟨a, B, sI, pins, σ, H, cls, d, e, I, nb, up, sky_imp (fun _ z => Zm.of_n z) sky, na, os, ag, w⟩
theorem takes0 {X : Cx} : Takes X (fun _ _ _ _ => False) := fun _ _ x => by
  obtain ⟨_, _, _, _, _, _, _, _, _, _, _, _, _, _, _, _, z⟩ := x
  exact z.elim
/-- behind a call that let an exception out -/
def CX (P : Program) (w : World) (outer : List Env) (H : Hp) (s : Shared) (E : XK) (u : Value) (s' : Shared) : Prop :=
  ∃ (a : Addr) (B : Heap) (H' : Hp) (cls : Value) (d : Option Addr), u = .ref a ∧ HandSPX.FlyingZ B outer a (Zm B H' cls d) s'.heap ∧ HOk P w H' B ∧ UB (frs outer) H H' s.heap B s'.heap ∧ H' a = none ∧ s'.os = s.os ∧ AllBare s'.gens ∧ E cls d H'
section
variable {X : Cx} {pins : List (Addr × Obj)} {σ : St} {H : Hp} {sI s s' : Shared} {B : Heap} {W : WX} {E : XK}
theorem XE.of_call (I : Inv X pins σ H s) (hW : ∀ cls d H', E cls d H' → W cls d σ H') {u : Value} (c : CX X.prog X.w X.stack H s E u s') : XE X W u s' := by
  obtain ⟨a, B, H', cls, d, rfl, fl, hok, ub, na, os, ag, hE⟩ := c
  obtain ⟨G, g1, g2⟩ := restrict s'.heap fun b => (B.get? b).isSome || decide (b ∈ frs X.stack)
  have st : B.StaysIn s'.heap := fl.1
  have gB : ∀ b o, B.get? b = some o → G.get? b = some o := fun b o e => by
    rw [g1 b (by simp [e])]
    exact st b o e
  have gF : ∀ b, b ∈ frs X.stack → G.get? b = s'.heap.get? b := fun b hb => g1 b (by simp [hb])
  have og : ∀ b o, G.get? b = some o → s'.heap.get? b = some o ∧ ((B.get? b).isSome = true ∨ b ∈ frs X.stack) := fun b o e => by
    cases q : ((B.get? b).isSome || decide (b ∈ frs X.stack)) with
    | false => rw [g2 b q] at e; cases e
    | true =>
      rw [g1 b q] at e
      exact ⟨e, by simpa [Bool.or_eq_true] using q⟩
  refine ⟨a, B, { s with heap := G, gens := s'.gens, drawn := s'.drawn, toks := s'.toks }, pins, σ, H', cls, d, rfl, ?_, fun b o e hb => ?_, Heap.UpToSlots.of_keeps fun b o e => (og b o e).1, .inr (.inl fl), na, os, ag, hW _ _ _ hE⟩
  · refine I.call (ch := []) ⟨fun b o e n hb _ => gB b o (ub.keep b o e n hb), fun b o e n hb _ => ?_, fun b o e n _ => ub.free b o e n, fun b o e _ => ?_, ub.tups, ub.frzs, ub.tbls⟩ (hok.kept gB) ag (fun _ z => nomatch z)
    · obtain ⟨sl, q⟩ := ub.slot b o e hb
      exact ⟨sl, by rw [gF b hb]; exact q⟩
    · by_cases hb : b ∈ frs X.stack
      · obtain ⟨sl, q⟩ := ub.slot b o e hb
        exact ⟨_, by rw [gF b hb]; exact q⟩
      · obtain ⟨o', q⟩ := ub.there b o e hb
        exact ⟨o', gB b o' q⟩
  · obtain ⟨e', h⟩ := og b o e
    rcases h with h | h
    · obtain ⟨o', q⟩ := Option.isSome_iff_exists.mp h
      have z := st b o' q
      rw [e'] at z; cases z
      exact q
    · exact absurd h hb
/-- a new exception is in our air -/
theorem XE.new {a : Addr} {oe : Obj} {vs : Array Value} {cls : Value} {d : Option Addr} (I : Inv X pins σ H sI) (k : ∀ b o, sI.heap.get? b = some o → s'.heap.get? b = some o) (hne : sI.heap.get? a = none) (he : s'.heap.get? a = some oe)
    (hz : Zm (PySem.W.hideAll sI.heap (frs X.stack)) H cls d oe) (hd : oe.data = .fields vs) (h1 : vs[1]? = some .none) (na : H a = none) (os : s'.os = sI.os) (ag : AllBare s'.gens) (w : W cls d σ H) : XE X W (.ref a) s' := by
  refine ⟨a, PySem.W.hideAll sI.heap (frs X.stack), sI, pins, σ, H, cls, d, rfl, I, fun b o e hb => PySem.W.hideAll_get _ e hb, Heap.UpToSlots.of_keeps k,
    .inl ⟨fun b o e => k b o (PySem.W.of_hideAll _ e), ?_, ?_, oe, vs, he, hz, hd, h1⟩, na, os, ag, w⟩
  · cases q : (PySem.W.hideAll sI.heap (frs X.stack)).get? a with
    | none => rfl
    | some o =>
      have z := PySem.W.of_hideAll _ q
      rw [hne] at z; cases z
  · exact Heap.FunFrames.of_keeps (fun b o e _ => ⟨o, k b o e, rfl⟩) (funFrames_none I.stack fun b hb => PySem.W.hideAll_none _ hb)
/-- it leaves the def -/
theorem XE.leave (hs : X.stack = X.env :: X.outer) (hf : X.env.frame = some X.env.locals) (hex : X.ex = []) {E₁ : Value → Shared → Prop} (hW : ∀ cls d σ H, W cls d σ H → E cls d H) {u : Value} (x : XE X W u s') :
    wpAny (model X.prog X.w) X.A (leaving X.env u) (fun _ s'' => CX X.prog X.w X.outer X.H_0 X.s_0 E u s'') E₁ s' := by
  obtain ⟨a, B, sI, pins, σ, H, cls, d, rfl, I, nb, up, sky, na, os, ag, w⟩ := x
  have hfr : X.A.frames = some (X.env :: X.outer) := by rw [I.ok.frames, hs]
  have nst : ∀ b o, X.s_0.heap.get? b = some o → b ∉ X.fs → b ∉ frs X.stack := fun b o e hb hm => by
    rcases List.mem_cons.mp (I.stkSub b hm) with z | z
    · have h1 := Heap.lt_size e
      have h2 := I.ok.above
      rw [z] at h1
      exact absurd (Nat.lt_of_lt_of_le h1 h2) (Nat.lt_irrefl _)
    · exact hb z
  have hex' : ∀ b, b ∉ X.ex := fun b hb => by rw [hex] at hb; cases hb
  have hokB := I.inGround nb
  have fin : ∀ h', HandSPX.FlyingZ B X.outer a (Zm B H cls d) h' → s'.heap.UpToSlots h' → CX X.prog X.w X.outer X.H_0 X.s_0 E (.ref a) { s' with heap := h' } := fun h' fl up' => by
    refine ⟨a, B, H, cls, d, rfl, fl, hokB, ⟨fun b o e n hb => nb b o (I.base.keep b o e n hb (hex' b)) (nst b o e hb), fun b o e hb => ?_, fun b o e n => I.base.free b o e n (hex' b), fun b o e hb => ?_, I.base.tups, I.base.frzs, I.base.tbls⟩,
      na, os.trans I.os, ag, hW _ _ _ _ w⟩
    · obtain ⟨_, o₀, e₀, hnf⟩ := I.ok.funs.mem hb
      rw [e] at e₀; cases e₀
      obtain ⟨sl, e1⟩ := I.base.slot b o e (I.ok.frf b hb) hb (hex' b)
      obtain ⟨sl2, e2⟩ := up b _ e1 hnf
      obtain ⟨sl3, e3⟩ := up' b _ e2 hnf
      exact ⟨sl3, e3⟩
    · obtain ⟨o', e1⟩ := I.base.there b o e (hex' b)
      exact ⟨o', nb b o' e1 (nst b o e hb)⟩
  rw [hs] at sky
  rcases sky with ⟨hB, hn, hl, oe, vs, he, hz, hd, h1⟩ | fl | hd
  · exact PXN.leaving_firstZ Zm.steady hfr hl hf he hB hn hd h1 hz fin
  · exact PXN.leaves_onZ Zm.steady hfr hf fl fin
  · exact HandSPX.leaves_heldZ hf hd fin
theorem takes_of (hs : X.stack = X.env :: X.outer) (hf : X.env.frame = some X.env.locals) (hex : X.ex = []) {E₁ : Value → Shared → Prop}
    (hx : X.xe = fun e s' => wpAny (model X.prog X.w) X.A (leaving X.env e) (fun _ s'' => CX X.prog X.w X.outer X.H_0 X.s_0 E e s'') E₁ s') : Takes X (fun cls d _ H => E cls d H) := fun u s' x => by
  rw [hx]
  exact XE.leave (W := fun cls d _ H => E cls d H) (E := E) hs hf hex (fun _ _ _ _ h => h) x
end
theorem passAt {X : Cx} {W : WX} (tk : Takes X W) (σ : St) : PassesAt (CX X.prog X.w) X σ (WE W σ) := fun _ _ _ e s' I c => tk e s' (XE.of_call I (fun _ _ _ h => h) c)
/-- raise X('m') in an except suite -/
theorem ps_raiseM {X : Cx} {W : WX} {e : Expr} {t : St → Hp → XK → Prop} {pos : Pos} (hc : HotC X) (tk : Takes X W) (he : L2N.PMk X e t) : PS X (.Raise (some e) none pos) (fun _ σ H => t σ H fun cls d H' => W cls d σ H') := by
  refine ⟨fun pins s σ H D I h => ?_⟩
  obtain ⟨p, ⟨hh, v1, e1, c1⟩, hp⟩ := hc
  show wpAny _ _ (do standAt pos; raiseStmt X.env (some (do let v ← eval e X.env; standAt pos; pure v)) none) _ _ _
  refine wpAny_bind (wpAny_standAt (HotX.raise_made_hot (x1 := p.1) (wpAny_bind (wpAny_mono (he pins s σ H _ I h) (fun u s1 hu => wpAny_bind (wpAny_standAt (wpAny_pure ?_))) fun _ _ x => x))))
  obtain ⟨a, oe, vs, sI, H', cls, d, rfl, J, k, hne, ha, hz, hd, h1, na, os, ag, r, q⟩ := hu
  obtain ⟨r1, r2⟩ := r (model X.prog X.w) s1.heap (J.kIn.keeps k)
  have PP := J.pin p (List.mem_append_left _ hp)
  have P1 := PP.1
  have nap : p.1 ≠ a := fun z => by
    rw [z, hne] at P1
    cases P1
  have hi : 2 < vs.size := (Array.getElem?_eq_some_iff.mp (hz.2.2 vs hd)).1
  have h1' : (vs.setIfInBounds 2 (Value.ref p.1))[1]? = some Value.none := by
    have e3 : (vs.setIfInBounds 2 (Value.ref p.1))[1]? = vs[1]? := by
      first
      | exact Array.getElem?_setIfInBounds_ne (by decide)
      | simp [Array.getElem?_setIfInBounds]
    rw [e3]
    exact h1
  have nfr : p.1 ∉ frs X.stack := fun hm => (List.mem_cons.mp (J.stkSub p.1 hm)).elim PP.2.2.1 PP.2.2.2.1
  have hB : (PySem.W.hideAll sI.heap (frs X.stack)).get? p.1 = some p.2 := PySem.W.hideAll_get _ P1 nfr
  have hd' := Obj.data_mapFields hd (·.setIfInBounds 2 (Value.ref p.1))
  refine ⟨a, oe, vs, cls, rfl, ha, hz.1, hd, h1, hi, nap, ⟨hh, p.2, v1, k _ _ P1, e1, c1⟩, r1, r2, tk _ _ (XE.new J (fun b u z => ?_) hne (Heap.get?_update_self _ ha (Obj.isFreed_of_fields hd')) ⟨(Obj.cls_mapFields ..).trans hz.1, (HandSPX.dict_mapFields ..).trans hz.2.1, fun vs' e' => .inr ⟨p.1, p.2, v1, ?_, hB, e1, c1, PP.2.1⟩⟩ hd' h1' na os ag q)⟩
  · have nab : a ≠ b := fun y => by
      rw [← y, hne] at z
      cases z
    show (s1.heap.update a (Obj.mapFields (·.setIfInBounds 2 (.ref p.1)))).get? b = some u
    rw [Heap.get?_update_other _ _ nab]
    exact k b u z
  · rw [hd'] at e'
    have e2 := Data.fields.inj e'
    rw [← e2]
    simp [Array.getElem?_setIfInBounds, hi]
/-- try: .. except X: a suite that raises out of the try; the body raises where nothing is handled -/
theorem ps_try_onlyM {X : Cx} {x : Str} {c : Value} {body suite : List Stmt} {b₀ : Stmt} {np pos pos' : Pos} {tb : WX → TS} {ts : Addr → Value → Option Addr → TS} {Wout : WX} (hs : X.stack = X.env :: X.outer) (hf : X.env.frame = some X.env.locals) (hc : Names X x c) (hpa : ∀ hd : Option Value, PassesOwnAt (model X.prog X.w) (X.A.mark hd) X.A X.env X.xe) (tk : Takes X Wout)
    (hb : ∀ (W : WX) (pn : List (Addr × Obj)) (xe : Value → Shared → Prop), L2N.Takes (X.tr pn xe) W → PassesOwn (model X.prog X.w) X.A X.env xe → PSs (X.tr pn xe) body (tb W))
    (hsu : ∀ (a : Addr) (oe : Obj) (cls : Value) (d : Option Addr) (pn : List (Addr × Obj)), L2N.Zn cls d oe → (∃ vs, oe.data = .fields vs) → Takes (suiteX X a ((a, oe) :: pn)) Wout → HotC (suiteX X a ((a, oe) :: pn)) →
      PSs (suiteX X a ((a, oe) :: pn)) (b₀ :: suite) (ts a cls d)) :
    PS X (.Try body [.ExceptHandler (some (.Name x np)) none (b₀ :: suite) pos'] [] [] pos) (fun D σ H => tb (wOnly X.K c ts Wout D) D σ H) := by
  refine ⟨fun pins s σ H D I h => ?_⟩
  have ok := I.ok
  have hfr : X.A.frames = some (X.env :: X.outer) := by rw [ok.frames, hs]
  have notFr : ∀ {B h : Heap} {a : Addr} {o : Obj} {vs : Array Value}, h.FunFrames B (X.env :: X.outer) → h.get? a = some o → o.data = .fields vs → a ∉ frs (X.env :: X.outer) := fun {B h a o vs} ff e dd hm => by
    obtain ⟨_, o', e', hnf⟩ := ff.mem hm
    rw [e] at e'; cases e'
    exact hnf _ dd
  have flyOn : ∀ {a : Addr} {B : Heap} {sI s' : Shared} {σ' : L2.St} {H' : Hp} {cls : Value} {d : Option Addr} {h3 : Heap}, Inv X pins σ' H' sI → (∀ b o, sI.heap.get? b = some o → b ∉ frs X.stack → B.get? b = some o) → sI.heap.UpToSlots h3 →
      HandSPX.FlyingZ B (X.env :: X.outer) a (Zm B H' cls d) h3 → H' a = none → s'.os = sI.os → AllBare s'.gens → Wout cls d σ' H' → wpAny (model X.prog X.w) X.A (handleBy (.ref a) X.env []) (SP X pins D) X.xe { s' with heap := h3 } := by
    intro a B sI s' σ' H' cls d h3 J nb up fl3 na os ag w
    refine wpAny_handleBy_nil ?_
    obtain ⟨k1, k2, k3, oe, vs, T, oT, ts', he, hz, hd, h1, hr⟩ := id fl3
    unfold PySem.passOn
    refine wpAny_bind (wpAny_field he hd h1 ?_)
    rw [if_neg (show ¬ ((Value.ref T == Value.none) = true) from by simp)]
    have fin : wpAny (model X.prog X.w) X.A (setFlight (.ref a) X.env.frame) (fun _ s4 => wpAny (model X.prog X.w) X.A (throw (.ref a) : Sem Flow) (SP X pins D) X.xe s4) X.xe { s' with heap := h3 } := by
      rw [hf]
      refine HandSPX.setFlight_upZ fl3 fun h4 hh4 up4 => wpAny_throw (tk _ _ ?_)
      exact ⟨a, B, sI, pins, σ', H', cls, d, rfl, J, nb, up.trans up4, .inr (.inr (by rw [hs]; exact hh4)), na, os, ag, w⟩
    first
      | exact wpAny_bind (wpAny_pure (wpAny_bind fin))
      | exact wpAny_bind fin
  refine wpAny_Try_except ?_
  refine wpAny_mono ((hb (wOnly X.K c ts Wout D) (X.pn ++ pins) (fun e s₁ => wpAny (model X.prog X.w) X.A (noteFrame e X.env) (fun _ s₂ => wpAny (model X.prog X.w) X.A (setFlight e none) (fun _ s₃ =>
    wpAny (model X.prog X.w) X.A (handleBy e X.env [.ExceptHandler (some (.Name x np)) none (b₀ :: suite) pos']) (SP X pins D) X.xe s₃) X.xe s₂) X.xe s₁) (fun u s' xx => ?_) PassesOwn.looking).run [] s σ H D (I.toTry _) h) (fun f s1 hsp => ?_) (fun e s1 he => he)
  · obtain ⟨a, B, sI, pins', σ', H', cls, d, rfl, J', nb, up, sky, na, os, ag, b, hb1, hyes, hno⟩ := xx
    have J : Inv X pins σ' H' sI := J'.ofTry ok
    have sky' : Sky B (X.env :: X.outer) a (L2N.Zn cls d) X.env.locals s'.heap := by rw [← hs]; exact sky
    show wpAny (model X.prog X.w) X.A (noteFrame (.ref a) X.env) _ _ _
    refine L2N.Sky.land L2N.Zn.steady hfr hf sky' fun h3 fl3 up3 => ?_
    have J3 : Inv X pins σ' H' { s' with heap := h3 } := J.landed nb fl3.1 (up.trans up3) os ag
    obtain ⟨oe3, vs3, he3, hz3, hd3⟩ := fl3.there
    have nfr : a ∉ frs (X.env :: X.outer) := notFr fl3.2.2.1 he3 hd3
    have nL : a ≠ X.env.locals := fun z => nfr (List.mem_filterMap.mpr ⟨X.env, List.mem_cons_self, by rw [hf, z]⟩)
    have nF : a ∉ X.fs := fun hm => by
      obtain ⟨e, he, q⟩ := List.mem_filterMap.mp hm
      exact nfr (List.mem_filterMap.mpr ⟨e, List.mem_cons_of_mem _ he, q⟩)
    have S3 := J3.suite he3 hd3 na nL nF
    refine wpAny_handleBy_cons (codeAny_handlers_test ?_) (by intro q; cases q)
    have LT : PySem.W.Looks (model X.prog X.w) h3 (typeOf (.ref a)) cls := fun A Q E s k q => wpAny_typeOf_ref (k _ _ he3) (by rw [hz3.1]; exact q)
    have LM := PySem.W.exm_one (M := model X.prog X.w) (J3.kIn) LT hb1
    have test : ∀ {Q : Value → Shared → Prop} {E : Value → Shared → Prop}, Q c { s' with heap := h3 } → wpAny (model X.prog X.w) (X.A.mark (some (.ref a))) (eval (.Name x np) X.env) Q E { s' with heap := h3 } := fun {Q E} q => by
      obtain ⟨hg, hdbg, hm | ⟨hm, hv, hnn⟩⟩ := hc
      · exact ld_glob (X := X.suite a ((a, oe3) :: (X.pn ++ pins))) S3 hg hm q hdbg
      · exact ld_blt (X := X.suite a ((a, oe3) :: (X.pn ++ pins))) S3 hg hm hv q hnn hdbg
    refine test (LM.here ?_)
    cases b with
    | true =>
      refine codeAny_handlers_suite ?_
      refine HandSPX.lands_againZ fl3 fun h4 fl4 up4 => ?_
      have J4 : Inv X pins σ' H' { s' with heap := h4 } := J.landed nb fl4.1 ((up.trans up3).trans up4) os ag
      obtain ⟨oe4, vs4, he4, hz4, hd4⟩ := fl4.there
      have S4 := J4.suite he4 hd4 na nL nF
      have tkS : Takes (suiteX X a ((a, oe4) :: (X.pn ++ pins))) Wout := fun u2 s2 x2 => by
        obtain ⟨a2, B2, sI2, pn2, σ2, H2, cls2, d2, e2, I2, nb2, up2, sky2, na2, os2, ag2, w2⟩ := x2
        exact tk u2 s2 ⟨a2, B2, sI2, pins, σ2, H2, cls2, d2, e2, unsuiteX I2 ok, nb2, up2, sky2, na2, os2, ag2, w2⟩
      have hot : HotC (suiteX X a ((a, oe4) :: (X.pn ++ pins))) := ⟨(a, oe4), ⟨rfl, vs4, hd4, hz4.2.2 vs4 hd4⟩, List.mem_cons_self⟩
      refine wpAny_mono ((hsu a oe4 cls d (X.pn ++ pins) hz4 ⟨_, hd4⟩ tkS hot).run [] _ _ H' _ (suiteX_of S4) (hyes rfl a na)) (fun f s6 hsp => ?_) (fun e6 s6 z => hpa (some (.ref a)) e6 s6 z)
      cases f with
      | next =>
        obtain ⟨σ6, H6, S6, q6⟩ := hsp
        exact ⟨_, _, unsuiteX S6 ok, q6⟩
      | brk =>
        obtain ⟨σ6, H6, S6, q6⟩ := hsp
        exact ⟨_, _, unsuiteX S6 ok, q6⟩
      | cont =>
        obtain ⟨σ6, H6, S6, q6⟩ := hsp
        exact ⟨_, _, unsuiteX S6 ok, q6⟩
      | ret u =>
        obtain ⟨v6, σ6, H6, S6, r6, q6⟩ := hsp
        exact ⟨_, _, _, unsuiteX S6 ok, r6, q6⟩
    | false =>
      show wpAny _ X.A (handleBy (.ref a) X.env []) _ _ _
      exact flyOn J nb (up.trans up3) (L2H.flyingZ_imp (fun o z => Zm.of_n z) fl3) na os ag (hno rfl)
  · cases f with
    | next =>
      obtain ⟨σ', H', J', q⟩ := hsp
      exact wpAny_execs_nil ⟨σ', H', J'.ofTry ok, q⟩
    | brk =>
      obtain ⟨σ', H', J', q⟩ := hsp
      exact ⟨σ', H', J'.ofTry ok, q⟩
    | cont =>
      obtain ⟨σ', H', J', q⟩ := hsp
      exact ⟨σ', H', J'.ofTry ok, q⟩
    | ret u =>
      obtain ⟨v, σ', H', J', r, q⟩ := hsp
      exact ⟨v, σ', H', J'.ofTry ok, r, q⟩

/-! ### the held one's chain has one more link, or none -/
def Hot2 (A : Around) (p q : Addr × Obj) : Prop := A.handled = some (.ref p.1) ∧ (∃ vs : Array Value, p.2.data = .fields vs ∧ vs[2]? = some (.ref q.1)) ∧ ∃ vs : Array Value, q.2.data = .fields vs ∧ vs[2]? = some .none
def HotM (X : Cx) : Prop := HotC X ∨ ∃ p q : Addr × Obj, Hot2 X.A p q ∧ p ∈ X.pn ∧ q ∈ X.pn
theorem addpin {X : Cx} {pins : List (Addr × Obj)} {σ : St} {H : Hp} {s : Shared} (I : Inv X pins σ H s) {a : Addr} {oe : Obj} {vs : Array Value} (ha : s.heap.get? a = some oe) (hd : oe.data = .fields vs) (na : H a = none) (nL : a ≠ X.env.locals) (nF : a ∉ X.fs) : Inv X ((a, oe) :: pins) σ H s :=
  ⟨I.ok, I.os, I.bare, I.base, I.loc, I.cell, I.free, I.freeC, fun p hp => by
    rcases List.mem_append.mp hp with h | h
    · exact I.pin p (List.mem_append_left _ h)
    · rcases List.mem_cons.mp h with e | h
      · rw [e]; exact ⟨ha, na, nL, nF, fun v z => by have z' : oe.data = .cell v := z; rw [hd] at z'; cases z'⟩
      · exact I.pin p (List.mem_append_right _ h), I.hok, I.len⟩
theorem droppin {X : Cx} {q : Addr × Obj} {pins : List (Addr × Obj)} {σ : St} {H : Hp} {s : Shared} (I : Inv X (q :: pins) σ H s) : Inv X pins σ H s :=
  ⟨I.ok, I.os, I.bare, I.base, I.loc, I.cell, I.free, I.freeC, fun p hp => by
    rcases List.mem_append.mp hp with h | h
    · exact I.pin p (List.mem_append_left _ h)
    · exact I.pin p (List.mem_append_right _ (List.mem_cons_of_mem _ h)), I.hok, I.len⟩
/-- try: .. except X as n: the exception may have been raised in a suite -/
theorem ps_try_asM {X : Cx} {x n : Str} {c : Value} {i : Nat} {body suite : List Stmt} {b₀ : Stmt} {np pos pos' : Pos} {tb : WX → TS} {ts : Addr → Value → Option Addr → TS} {Wout : WX} (hs : X.stack = X.env :: X.outer) (hf : X.env.frame = some X.env.locals) (hN : X.N.Nodup) (hi : X.N[i]? = some n) (hln : X.env.kindOf n = some .local) (hc : Names X x c) (tk : Takes X Wout)
    (hb : ∀ (W : WX) (pn : List (Addr × Obj)) (xe : Value → Shared → Prop), Takes (X.tr pn xe) W → PassesOwn (model X.prog X.w) X.A X.env xe → PSs (X.tr pn xe) body (tb W))
    (hsu : ∀ (a : Addr) (oe : Obj) (cls : Value) (d : Option Addr) (pn : List (Addr × Obj)), Zc cls d oe → (∃ vs, oe.data = .fields vs) → HotM (X.suite a ((a, oe) :: pn)) → PSs (X.suite a ((a, oe) :: pn)) (b₀ :: suite) (ts a cls d)) :
    PS X (.Try body [.ExceptHandler (some (.Name x np)) (some n) (b₀ :: suite) pos'] [] [] pos) (fun D σ H => tb (wAs X.K c i ts Wout D) D σ H) := by
  refine ⟨fun pins s σ H D I h => ?_⟩
  have ok := I.ok
  have hfr : X.A.frames = some (X.env :: X.outer) := by rw [ok.frames, hs]
  have hloc : Loc X.env.scope n := .inl hln
  refine wpAny_Try_except ?_
  refine wpAny_mono ((hb (wAs X.K c i ts Wout D) (X.pn ++ pins) (fun e s₁ => wpAny (model X.prog X.w) X.A (noteFrame e X.env) (fun _ s₂ => wpAny (model X.prog X.w) X.A (setFlight e none) (fun _ s₃ =>
    wpAny (model X.prog X.w) X.A (handleBy e X.env [.ExceptHandler (some (.Name x np)) (some n) (b₀ :: suite) pos']) (SP X pins D) X.xe s₃) X.xe s₂) X.xe s₁) (fun u s' xx => ?_) PassesOwn.looking).run [] s σ H D (I.toTry _) h) (fun f s1 hsp => ?_) (fun e s1 he => he)
  · obtain ⟨a, B, sI, pins', σ', H', cls, d, rfl, J', nb, up, sky, na, os, ag, b, hb1, hyes, hno⟩ := xx
    have J : Inv X pins σ' H' sI := J'.ofTry ok
    have sky' : Sky B (X.env :: X.outer) a (Zm B H' cls d) X.env.locals s'.heap := by rw [← hs]; exact sky
    show wpAny (model X.prog X.w) X.A (noteFrame (.ref a) X.env) _ _ _
    refine L2N.Sky.land Zm.steady hfr hf sky' fun h3 fl3 up3 => ?_
    have J3 : Inv X pins σ' H' { s' with heap := h3 } := J.landed nb fl3.1 (up.trans up3) os ag
    obtain ⟨oe3, vs3, he3, hz3, hd3⟩ := fl3.there
    have notFr : ∀ {h : Heap} {a : Addr} {o : Obj} {vs : Array Value}, h.FunFrames B (X.env :: X.outer) → h.get? a = some o → o.data = .fields vs → a ∉ frs (X.env :: X.outer) := fun {h a o vs} ff e dd hm => by
      obtain ⟨_, o', e', hnf⟩ := ff.mem hm
      rw [e] at e'; cases e'
      exact hnf _ dd
    have nLF : ∀ {a : Addr}, a ∉ frs (X.env :: X.outer) → a ≠ X.env.locals ∧ a ∉ X.fs := fun {a} nfr => ⟨fun z => nfr (List.mem_filterMap.mpr ⟨X.env, List.mem_cons_self, by rw [hf, z]⟩), fun hm => by
      obtain ⟨e, he, q⟩ := List.mem_filterMap.mp hm
      exact nfr (List.mem_filterMap.mpr ⟨e, List.mem_cons_of_mem _ he, q⟩)⟩
    obtain ⟨nL, nF⟩ := nLF (notFr fl3.2.2.1 he3 hd3)
    have S3 := J3.suite he3 hd3 na nL nF
    refine wpAny_handleBy_cons (codeAny_handlers_test ?_) (by intro q; cases q)
    have LT : PySem.W.Looks (model X.prog X.w) h3 (typeOf (.ref a)) cls := fun A Q E s k q => wpAny_typeOf_ref (k _ _ he3) (by rw [hz3.1]; exact q)
    have LM := PySem.W.exm_one (M := model X.prog X.w) (J3.kIn) LT hb1
    have test : ∀ {Q : Value → Shared → Prop} {E : Value → Shared → Prop}, Q c { s' with heap := h3 } → wpAny (model X.prog X.w) (X.A.mark (some (.ref a))) (eval (.Name x np) X.env) Q E { s' with heap := h3 } := fun {Q E} q => by
      obtain ⟨hg, hdbg, hm | ⟨hm, hv, hnn⟩⟩ := hc
      · exact ld_glob (X := X.suite a ((a, oe3) :: (X.pn ++ pins))) S3 hg hm q hdbg
      · exact ld_blt (X := X.suite a ((a, oe3) :: (X.pn ++ pins))) S3 hg hm hv q hnn hdbg
    refine test (LM.here ?_)
    cases b with
    | true =>
      refine codeAny_handlers_suite_as ?_
      refine HandSPX.lands_againZ fl3 fun h4 fl4 up4 => ?_
      have J4 : Inv X pins σ' H' { s' with heap := h4 } := J.landed nb fl4.1 ((up.trans up3).trans up4) os ag
      obtain ⟨oe4, vs4, he4, hz4, hd4⟩ := fl4.there
      -- one more pin, or none
      obtain ⟨pins2, J5, hot, back⟩ : ∃ pins2 : List (Addr × Obj), Inv X pins2 σ' H' { s' with heap := h4 } ∧ HotM (X.suite a ((a, oe4) :: (X.pn ++ pins2))) ∧ ∀ (σ6 : St) (H6 : Hp) (s6 : Shared), Inv X pins2 σ6 H6 s6 → Inv X pins σ6 H6 s6 := by
        rcases hz4.2.2 vs4 hd4 with c0 | ⟨a2, o2, vs2, c1, c2, c3, c4, c5⟩
        · exact ⟨pins, J4, .inl ⟨(a, oe4), ⟨rfl, vs4, hd4, c0⟩, List.mem_cons_self⟩, fun _ _ _ z => z⟩
        · have g2 : h4.get? a2 = some o2 := fl4.1 _ _ c2
          obtain ⟨nL2, nF2⟩ := nLF (notFr fl4.2.2.1 g2 c3)
          exact ⟨(a2, o2) :: pins, addpin J4 g2 c3 c5 nL2 nF2, .inr ⟨(a, oe4), (a2, o2), ⟨rfl, ⟨vs4, hd4, c1⟩, vs2, c3, c4⟩, List.mem_cons_self, List.mem_cons_of_mem _ (List.mem_append_right _ List.mem_cons_self)⟩, fun _ _ _ z => droppin z⟩
      have S4 := J5.suite he4 hd4 na nL nF
      refine store_ok (X := X.suite a ((a, oe4) :: (X.pn ++ pins2))) (v := .ref a) S4 hN hi hloc rfl (fun s5 S5 => ?_) (.inr hln)
      refine wpAny_mono ((hsu a oe4 cls d (X.pn ++ pins2) ⟨hz4.1, hz4.2.1⟩ ⟨_, hd4⟩ hot).run [] s5 _ H' _ S5 (hyes rfl a na)) (fun f s6 hsp => ?_) (fun _ _ z => False.elim z)
      have end_ : ∀ {σ6 : St} {H6 : Hp} {Q : Shared → Prop}, Inv (X.suite a ((a, oe4) :: (X.pn ++ pins2))) [] σ6 H6 s6 → (∀ s7, Inv X pins (σ6.set i none) H6 s7 → Q s7) →
          wpAny (model X.prog X.w) X.A (do bindName X.env n .none; unbindBehindTheSuite X.env n pos') (fun _ s7 => Q s7) X.xe s6 := fun {σ6 H6 Q} S6 hq => gone_ok (back _ _ _ (S6.unsuite ok)) hN hi hln hq
      cases f with
      | next =>
        obtain ⟨σ6, H6, S6, q6⟩ := hsp
        exact end_ S6 fun s7 J7 => ⟨_, _, J7, q6⟩
      | brk =>
        obtain ⟨σ6, H6, S6, q6⟩ := hsp
        exact end_ S6 fun s7 J7 => ⟨_, _, J7, q6⟩
      | cont =>
        obtain ⟨σ6, H6, S6, q6⟩ := hsp
        exact end_ S6 fun s7 J7 => ⟨_, _, J7, q6⟩
      | ret u =>
        obtain ⟨v6, σ6, H6, S6, r6, q6⟩ := hsp
        exact end_ S6 fun s7 J7 => ⟨_, _, _, J7, r6, q6⟩
    | false =>
      show wpAny _ X.A (handleBy (.ref a) X.env []) _ _ _
      refine wpAny_handleBy_nil ?_
      obtain ⟨k1, k2, k3, oe, vs, T, oT, ts', he, hz, hd, h1, hr⟩ := id fl3
      unfold PySem.passOn
      refine wpAny_bind (wpAny_field he hd h1 ?_)
      rw [if_neg (show ¬ ((Value.ref T == Value.none) = true) from by simp)]
      have fin : wpAny (model X.prog X.w) X.A (setFlight (.ref a) X.env.frame) (fun _ s4 => wpAny (model X.prog X.w) X.A (throw (.ref a) : Sem Flow) (SP X pins D) X.xe s4) X.xe { s' with heap := h3 } := by
        rw [hf]
        refine HandSPX.setFlight_upZ fl3 fun h4 hh4 up4 => wpAny_throw (tk _ _ ?_)
        exact ⟨a, B, sI, pins, σ', H', cls, d, rfl, J, nb, (up.trans up3).trans up4, .inr (.inr (by rw [hs]; exact hh4)), na, os, ag, hno rfl⟩
      first
        | exact wpAny_bind (wpAny_pure (wpAny_bind fin))
        | exact wpAny_bind fin
  · cases f with
    | next =>
      obtain ⟨σ', H', J', q⟩ := hsp
      exact wpAny_execs_nil ⟨σ', H', J'.ofTry ok, q⟩
    | brk =>
      obtain ⟨σ', H', J', q⟩ := hsp
      exact ⟨σ', H', J'.ofTry ok, q⟩
    | cont =>
      obtain ⟨σ', H', J', q⟩ := hsp
      exact ⟨σ', H', J'.ofTry ok, q⟩
    | ret u =>
      obtain ⟨v, σ', H', J', r, q⟩ := hsp
      exact ⟨v, σ', H', J'.ofTry ok, r, q⟩
end GM

/-! The engine, part 8: any(list) in such a suite; texts. -/
namespace GM
open PySem PySem.Spec PyProof.Rows L2
open L2H (HotC Hot1 suiteX suiteX_of unsuiteX)
/-- the handled one's chain: one more, then None -/
def HotAt2 (A : Around) (x1 x2 : Addr) (h : Heap) : Prop := A.handled = some (.ref x1) ∧ (∃ (o : Obj) (vs : Array Value), h.get? x1 = some o ∧ o.data = .fields vs ∧ vs[2]? = some (.ref x2)) ∧ ∃ (o : Obj) (vs : Array Value), h.get? x2 = some o ∧ o.data = .fields vs ∧ vs[2]? = some .none
section
variable {prog : Program} {w : World} {A : Around} {E : Value → Shared → Prop} {s : Shared}
theorem ref_beq {a b : Addr} (h : a ≠ b) : ¬ ((Value.ref a == Value.ref b) = true) := by
  intro z
  have := HotX.ref_bne h
  rw [bne, z] at this
  exact Bool.noConfusion this
theorem ref_none {a : Addr} : ¬ ((Value.ref a == Value.none) = true) := Bool.false_ne_true
theorem unchained2 {x1 x2 a : Addr} {o1 o2 : Obj} {vs1 vs2 : Array Value} {Q : Value → Shared → Prop} (h1 : s.heap.get? x1 = some o1) (d1 : o1.data = .fields vs1) (c1 : vs1[2]? = some (.ref x2)) (h2 : s.heap.get? x2 = some o2) (d2 : o2.data = .fields vs2) (c2 : vs2[2]? = some .none) (n2 : x2 ≠ a) (n12 : x2 ≠ x1) (q : Q .none s) :
    wpAny (model prog w) A (holding [Value.ref a] (runValue (.builtin "proto.unchain" ⟨[.ref a, .ref x1, .ref x1, .bool false], []⟩))) Q E s := by
  refine wpAny_holding (wpAny_runValue (codeAny_builtin HotX.entry_unchain ?_))
  show wpAny _ _ (field (.ref x1) 2 >>= _) _ _ s
  refine wpAny_bind (wpAny_field h1 d1 c1 ?_)
  rw [if_neg ref_none, if_neg (ref_beq n2), if_neg (ref_beq n12)]
  show wpAny _ _ (if false = true then _ else pure (Value.ref x1) >>= fun slow => again (Code.builtin "proto.unchain" { pos := [Value.ref a, Value.ref x2, slow, Value.bool !false] })) _ _ s
  rw [if_neg Bool.false_ne_true]
  refine wpAny_bind (wpAny_pure ?_)
  refine wpAny_pure ⟨plainId_quiet (by first | decide +kernel | rfl) _, codeAny_builtin HotX.entry_unchain ?_⟩
  show wpAny _ _ (field (.ref x2) 2 >>= _) _ _ s
  refine wpAny_bind (wpAny_field h2 d2 c2 ?_)
  rw [if_pos (show (Value.none == Value.none) = true from rfl)]
  first
  | exact wpAny_bind (wpAny_pure (wpAny_pure q))
  | exact wpAny_pure q
theorem raiseNew_hot2 {α : Type} {a x1 x2 : Addr} {oe : Obj} {vs : Array Value} {Q : α → Shared → Prop} (hot : HotAt2 A x1 x2 s.heap) (hne : x1 ≠ a) (hne2 : x2 ≠ a) (ha : s.heap.get? a = some oe) (da : oe.data = .fields vs) (hi : 2 < vs.size)
    (hE : E (.ref a) { s with heap := s.heap.update a (Obj.mapFields (·.setIfInBounds 2 (.ref x1))) }) : wpAny (model prog w) A (raiseNew (.ref a) : Sem α) Q E s := by
  obtain ⟨hh, ⟨o1, vs1, h1, d1, c1⟩, o2, vs2, h2, d2, c2⟩ := hot
  have n12 : x2 ≠ x1 := fun z => by
    rw [z, h1] at h2
    cases h2
    rw [d1] at d2
    cases d2
    rw [c1] at c2
    cases c2
  unfold raiseNew
  refine wpAny_bind (wpAny_handled ?_)
  rw [hh]
  have hb : (Value.ref x1 != Value.ref a) = true := HotX.ref_bne hne
  first
  | (show wpAny _ _ (if (Value.ref x1 != Value.ref a) = true then _ else _) _ _ _
     rw [if_pos hb]
     first
     | exact wpAny_bind (unchained2 h1 d1 c1 h2 d2 c2 hne2 n12 (wpAny_bind (HotX.chained ha da hi (wpAny_throw hE))))
     | exact wpAny_bind (wpAny_bind (unchained2 h1 d1 c1 h2 d2 c2 hne2 n12 (HotX.chained ha da hi (wpAny_throw hE)))))
  | (refine wpAny_bind ?_
     show wpAny _ _ (if (Value.ref x1 != Value.ref a) = true then _ else _) _ _ _
     rw [if_pos hb]
     exact wpAny_bind (unchained2 h1 d1 c1 h2 d2 c2 hne2 n12 (HotX.chained ha da hi (wpAny_throw hE))))
theorem next_list_end_hot2 {it l x1 x2 : Addr} {i : Nat} {items : Array Value} {Q : Option Value → Shared → Prop} (hot : HotAt2 A x1 x2 s.heap) (hne : x1 ≠ it) (hne2 : x2 ≠ it) (hit : s.heap.IsListIter it l i) (hl : s.heap.IsList l items) (hx : items[i]? = none)
    (hQ : ∀ h', Heap.ExtBut it s.heap h' → Q none { s with heap := h' }) : wpAny (model prog w) A (pyNext (.ref it)) Q E s := by
  obtain ⟨o, hO, _, hD⟩ := id hit; obtain ⟨ol, hOl, _, _, hDl⟩ := hl; obtain ⟨hh, ⟨o1, vs1, h1, d1, c1⟩, o2, vs2, h2, d2, c2⟩ := hot
  unfold pyNext; refine wpAny_bind (wpAny_attempt (wpAny_callSpecial?_slot (name := Str.ofString "__next__") hit.typeIs slot_listiter_next (wpAny_call_entry slot_listiter_next hit.typeIs entry_listiter_next ?_ (args_listiter_next _)))); show wpAny _ _ (field (.ref it) 0 >>= _) _ _ s
  refine wpAny_bind (wpAny_field hO hD (x := .ref l) rfl ?_); show wpAny _ _ (if (Value.ref l == Value.none) = true then _ else _) _ _ s; rw [if_neg (show ¬ ((Value.ref l == Value.none) = true) from Bool.false_ne_true)]
  show wpAny _ _ (field (.ref it) 1 >>= _) _ _ s; refine wpAny_bind (wpAny_field hO hD (x := .int i 0) rfl ?_); show wpAny _ _ (seqItems? (.ref l) >>= _) _ _ s
  refine wpAny_bind (wpAny_seqItems hOl hDl ?_); simp only [Int.toNat_natCast, hx]; refine wpAny_bind (wpAny_rule (wpAny_bind (wpAny_setField hO hD (by simp) ?_)))
  show wpAny _ _ (newExc (.type "StopIteration") [] >>= _) _ _ _; refine wpAny_bind ?_; simp only [newExc, newTuple]
  refine wpAny_bind (wpAny_newObj_type ?_ (by size_fits)); refine wpAny_bind (m := firstArgMember _ _) (wpAny_of_eq (a := Value.none) (by first | rfl | (simp only [firstArgMember]; rfl)) ?_); refine wpAny_newObj_type ?_ (by size_fits)
  have g1 : (s.heap.update it (Obj.mapFields fun fs => fs.setIfInBounds 0 Value.none)).get? x1 = some o1 := (Heap.get?_update_other _ _ (Ne.symm hne)).trans h1
  have g2 : (s.heap.update it (Obj.mapFields fun fs => fs.setIfInBounds 0 Value.none)).get? x2 = some o2 := (Heap.get?_update_other _ _ (Ne.symm hne2)).trans h2
  refine raiseNew_hot2 (x1 := x1) (x2 := x2) ⟨hh, ⟨o1, vs1, Heap.get?_push_of_some _ (Heap.get?_push_of_some _ g1), d1, c1⟩, o2, vs2, Heap.get?_push_of_some _ (Heap.get?_push_of_some _ g2), d2, c2⟩ (Nat.ne_of_lt (Heap.lt_size (Heap.get?_push_of_some _ g1))) (Nat.ne_of_lt (Heap.lt_size (Heap.get?_push_of_some _ g2))) (Heap.get?_push_size _ rfl) rfl (by first | (simp; done) | (simp; omega) | (simp only [Array.size_append]; simp; omega)) ?_
  refine wpAny_bind (wpAny_isInstance (T := "StopIteration") (b := true) ⟨_, Heap.get?_update_self _ (Heap.get?_push_size _ rfl) rfl, rfl⟩ isSubtype_stop (wpAny_pure (hQ _ ?_)))
  refine fun b u hb e => ?_
  refine (Heap.get?_update_other _ _ ?_).trans (Heap.get?_push_of_some _ (Heap.get?_push_of_some _ ((Heap.get?_update_other _ _ (Ne.symm hb)).trans e)))
  exact Nat.ne_of_gt (Heap.lt_size (Heap.get?_push_of_some _ ((Heap.get?_update_other _ _ (Ne.symm hb)).trans e)))
theorem walks_hot2 {I l x1 x2 : Addr} {o1 o2 : Obj} {vs1 vs2 : Array Value} (hh : A.handled = some (.ref x1)) (d1 : o1.data = .fields vs1) (c1 : vs1[2]? = some (.ref x2)) (d2 : o2.data = .fields vs2) (c2 : vs2[2]? = some .none) (hI : x1 ≠ I) (hI2 : x2 ≠ I) (hne : l ≠ I) (items : Array Value) :
    Walks prog w A I [I, l, x1, x2] [I] items.size (fun i v => items[i]? = some v) (fun i h => (h.IsListIter I l i ∧ h.IsList l items) ∧ h.get? x1 = some o1 ∧ h.get? x2 = some o2) where
  sub := fun b hb => by
    rcases List.mem_singleton.mp hb with rfl
    exact List.mem_cons_self
  frame := fun _ _ _ st hk => ⟨⟨st.1.1.at fun o e => hk I (by simp) o e, st.1.2.at fun o e => hk l (by simp) o e⟩, hk x1 (by simp) _ st.2.1, hk x2 (by simp) _ st.2.2⟩
  item := fun i s Q E hi st hQ => by
    refine wpAny_pyNext_list_item st.1.1 st.1.2 (x := items[i]) (by simp [hi]) fun h' hit' hs' => ?_
    refine hQ _ h' s.toks (by simp [hi]) ⟨⟨hit', st.1.2.extBut hs'.extBut hne⟩, hs'.extBut x1 _ hI st.2.1, hs'.extBut x2 _ hI2 st.2.2⟩ fun b o hb e => ?_
    exact hs'.extBut b o (fun h => hb (by rw [h]; exact List.mem_cons_self)) e
  done := fun s Q E st hQ => next_list_end_hot2 ⟨hh, ⟨o1, vs1, st.2.1, d1, c1⟩, o2, vs2, st.2.2, d2, c2⟩ hI hI2 st.1.1 st.1.2 (by simp) fun h' he' => hQ h' s.toks fun b o hb e => he' b o (fun h => hb (by rw [h]; exact List.mem_cons_self)) e
  self := fun _ _ _ _ st hQ => wpAny_pyIter_listiter st.1.1 hQ
end
/-- any(xs) in such a suite -/
theorem cr_anyM {X : Cx} (hc : HotM X) : CallR X (.builtin "any") (rAny X.K) := by
  rcases hc with hc | ⟨p, q2, ⟨hh, ⟨v1, e1, c1⟩, v2, e2, c2⟩, hp, hq⟩
  · exact G.cr_anyH hc
  intro pins s σ H vs us Q I r h
  obtain ⟨a, bs, rfl, hs, q⟩ := h
  obtain ⟨its, rv, hl, _⟩ := I.list hs
  have hpin := (I.pin p (List.mem_append_left _ hp)).1
  have hpin2 := (I.pin q2 (List.mem_append_left _ hq)).1
  rw [Vals.ref1 r]
  have hb := rv.bls
  refine call_any_walk (iter_any hl.isList fun s₂ e2' st hne => ?_)
  subst e2'
  have hp2 : p.1 ≠ s.heap.objs.size := Nat.ne_of_lt (Heap.lt_size hpin)
  have hq2 : q2.1 ≠ s.heap.objs.size := Nat.ne_of_lt (Heap.lt_size hpin2)
  refine ⟨_, _, _, _, _, _, _, rfl, walks_hot2 (A := X.A.in1) hh e1 c1 e2 c2 hp2 hq2 hne its.toArray, ⟨st, Heap.get?_push_of_some _ hpin, Heap.get?_push_of_some _ hpin2⟩, truth_bools hb, fun h' tk hk => ⟨.bl _, H, I.kept fun b o eo => hk b o (fun hmem => ?_) (Heap.get?_push_of_some _ eo), ?_, q⟩⟩
  · rcases List.mem_cons.mp hmem with e1 | hmem
    · exact absurd (e1 ▸ Heap.lt_size eo) (Nat.lt_irrefl _)
    · cases hmem
  · show Value.bool _ = Value.bool _
    rw [← L2.any_range, hb, List.size_toArray, List.length_map]
/-- isinstance(e, c) of the exception that is held -/
theorem call_isXM {X : Cx} {a : Addr} {cls : Value} {d : Option Addr} {oe : Obj} {pn : List (Addr × Obj)} (hz : Zc cls d oe) (hf : ∃ vs, oe.data = .fields vs) : CallR (X.suite a ((a, oe) :: pn)) (.builtin "isinstance") (G.rIsX X.K a cls d) := by
  intro pins s σ H xs us Q I r h
  obtain ⟨D, rfl, rfl, C, h⟩ := h
  exact G.call_isP (X := X.suite a ((a, oe) :: pn)) C List.mem_cons_self hz hf pins s σ H xs us Q I r h
section
variable {X : Cx} {W : WX} {k m : Nat} {x : Str} {ps : List Str} {sp : Sp} {p pos : PySem.Pos} {e : Expr} {es : List Expr} {t : TA}
theorem pe_useM (U : G.Use X.prog X.w X.K X.mg X.base (CX X.prog X.w) k x ps sp) (hr : Room m X.A) (tk : Takes X W) (ha : PA X (e :: es) t) (hk : k ≤ m := by decide) (hg : Gl X x := by rfl) (hdb : (x == ("__debug__" : Str)) = false := by decide)
    (he : starEach (e :: es) X.env = (false, eval e X.env) :: starEach es X.env := by rfl) (hpl : (backTo pos (starEach es X.env)).any (·.1) = false := by rfl) :
    PE X (.Call (.Name x p) (e :: es) [] pos) (tCallS sp (WE W) t) := by
  obtain ⟨f, fd, hm, kp, hb, F⟩ := U
  exact pe_callS F (hr.mono hk) hg hm kp hb (fun σ => passAt tk σ) ha hdb he hpl
end
end GM

/-! The engine, part 9: texts; max, min of a tuple of two. -/
namespace G
open PySem PySem.Spec PyProof.Rows L2
open Evl (Ex Ev EvL EvU EvT EvA EvO RV RetV)
/-! ### words -/
def rSplit : V → List V → Hp → VK → Prop := fun x xs H Q => ∃ a b, x = .str a ∧ xs = [.str b] ∧ (b.length == 0) = false ∧ a.length + 2 ≤ sizeLine ∧ rNewStrs (Txt.split a b) H Q
def rPartn : V → List V → Hp → VK → Prop := fun x xs H Q => ∃ a b, x = .str a ∧ xs = [.str b] ∧ (b.length == 0) = false ∧ a.length ≤ sizeLine ∧ ∀ p, H p = none → Q (.ref p) (upd H p (.tup [.str (Txt.partition a b).1, .str (Txt.partition a b).2.1, .str (Txt.partition a b).2.2]))
def rJoin (K : PySem.W.Frag) : V → List V → Hp → VK → Prop := fun x xs H Q => ∃ a p, ∃ ys : List Str, x = .str a ∧ xs = [.ref p] ∧ (SqL K H p (ys.map V.str) ∨ SqT K H p (ys.map V.str)) ∧ (ys.map (·.length)).sum + ys.length * a.length ≤ 16777216 ∧ Q (.str (Txt.join a ys)) H
def rStrip2 : V → List V → Hp → VK → Prop := fun x xs H Q => ∃ a b, x = .str a ∧ xs = [.str b] ∧ a.length ≤ sizeLine ∧ Q (.str (Txt.stripChars a b)) H
def rStarts : V → List V → Hp → VK → Prop := fun x xs H Q => ∃ a b, x = .str a ∧ xs = [.str b] ∧ Q (.bl (Txt.startswith a b)) H
def rLenStr : List V → Hp → VK → Prop := fun xs H Q => ∃ z : Str, xs = [.str z] ∧ z.length ≤ sizeLine ∧ Q (.int z.length) H
def rStrI : List V → Hp → VK → Prop := fun xs H Q => ∃ i : Int, xs = [.int i] ∧ i.natAbs.log2 < 1920 ∧ Q (.str (Str.ofString (toString i))) H
def rIntS : List V → Hp → VK → Prop := fun xs H Q => ∃ a n, xs = [.str a] ∧ PySem.intText? a = some n ∧ a.length ≤ 640 ∧ Q (.int n) H
def rCatS : R2 := fun x y H Q => ∃ i j, x = .str i ∧ y = .str j ∧ i.length + j.length ≤ sizeLine ∧ Q (.str (i ++ j)) H
def rRepS : R2 := fun x y H Q => ∃ (z : Str) (k : Int), x = .str z ∧ y = .int k ∧ z.length = 1 ∧ 2 ≤ k ∧ k ≤ 10000 ∧ ∀ w : Str, w.length = k.toNat → Q (.str w) H
theorem call_len_strG {X : Cx} : CallR X (.builtin "len") rLenStr := call_len_str
theorem call_strI {X : Cx} : CallR X (.type "str") rStrI := call_str_int
theorem call_intS {X : Cx} : CallR X (.type "int") rIntS := call_int_str
theorem op_catS {X : Cx} : OpR X (binaryOp .Add) rCatS := op_add_str
theorem fold_len (x : Array Nat) : ∀ (n : Nat) (acc : Array Nat), ((List.replicate n x).foldl (· ++ ·) acc).size = acc.size + n * x.size
  | 0, acc => by simp
  | n + 1, acc => by
    rw [List.replicate_succ, List.foldl_cons, fold_len x n]
    simp
    rw [Nat.succ_mul]
    omega
theorem op_repS {X : Cx} : OpR X (binaryOp .Mult) rRepS := by
  intro pins s σ H x y v u Q I rx ry h
  obtain ⟨z, k, rfl, rfl, hz, h1, h2, q⟩ := h
  obtain ⟨t, rfl⟩ := rx
  obtain ⟨t', rfl⟩ := ry
  have len : (⟨(List.replicate k.toNat z.cps).foldl (· ++ ·) #[]⟩ : Str).length = k.toNat := by
    show ((List.replicate k.toNat z.cps).foldl (· ++ ·) #[]).size = k.toNat
    rw [fold_len]
    have : z.cps.size = 1 := hz
    rw [this]
    simp
  have b1 : (k == 1 || z.length == 0) = false := by
    rw [hz]
    have : ¬ k = 1 := by omega
    simp [this]
  refine PySem.P.mul_str ?_ (fun _ _ => ?_) (fun _ _ => ?_) ?_
  · rw [decide_eq_false (by omega), decide_eq_false (by omega)]
    rfl
  · rw [hz]
    have : (2 ^ 63 - 1 : Int) / k ≥ 1 := by
      have := Int.ediv_le_ediv (a := k) (b := 2 ^ 63 - 1) (c := k) (by omega) (by omega)
      rw [Int.ediv_self (by omega)] at this
      exact this
    omega
  · rw [hz]
    unfold Builtin.Str.tooLong
    rw [Nat.one_mul]
    exact decide_eq_false (by rw [sizeLine_eq]; omega)
  · rw [if_neg (by omega), b1, if_neg Bool.false_ne_true]
    refine ⟨?_, .str _, H, I.tok _, ⟨_, rfl⟩, q _ len⟩
    rw [len, sizeLine_eq]
    omega
section
variable {X : Cx} {o e : Expr} {to te : TE}
theorem pe_splitG {apos pos : PySem.Pos} (ho : PE X o to) (he : PE X e te) (hs : starEach [e] X.env = [(false, eval e X.env)] := by rfl) (hbase : attributeBase o "split" X.env (eval o X.env) = eval o X.env := by rfl) (hline : (apos.endLine == pos.line) = true := by rfl) :
    PE X (.Call (.Attribute o "split" apos) [e] [] pos) (tM1 rSplit to te) := pe_split ho he hs hbase hline
theorem pe_partnG {apos pos : PySem.Pos} (ho : PE X o to) (he : PE X e te) (hs : starEach [e] X.env = [(false, eval e X.env)] := by rfl) (hbase : attributeBase o "partition" X.env (eval o X.env) = eval o X.env := by rfl) (hline : (apos.endLine == pos.line) = true := by rfl) :
    PE X (.Call (.Attribute o "partition" apos) [e] [] pos) (tM1 rPartn to te) := pe_partition ho he hs hbase hline
theorem pe_joinG {apos pos : PySem.Pos} (ho : PE X o to) (he : PE X e te) (hs : starEach [e] X.env = [(false, eval e X.env)] := by rfl) (hbase : attributeBase o "join" X.env (eval o X.env) = eval o X.env := by rfl) (hline : (apos.endLine == pos.line) = true := by rfl) :
    PE X (.Call (.Attribute o "join" apos) [e] [] pos) (tM1 (rJoin X.K) to te) := pe_join ho he hs hbase hline
theorem pe_strip2G {apos pos : PySem.Pos} (ho : PE X o to) (he : PE X e te) (hs : starEach [e] X.env = [(false, eval e X.env)] := by rfl) (hbase : attributeBase o "strip" X.env (eval o X.env) = eval o X.env := by rfl) (hline : (apos.endLine == pos.line) = true := by rfl) :
    PE X (.Call (.Attribute o "strip" apos) [e] [] pos) (tM1 rStrip2 to te) := pe_m1 PySem.F.slot_str_strip PySem.F.type_str_strip mt_stripChars ho he hs hbase hline
theorem pe_startsG {apos pos : PySem.Pos} (ho : PE X o to) (he : PE X e te) (hs : starEach [e] X.env = [(false, eval e X.env)] := by rfl) (hbase : attributeBase o "startswith" X.env (eval o X.env) = eval o X.env := by rfl) (hline : (apos.endLine == pos.line) = true := by rfl) :
    PE X (.Call (.Attribute o "startswith" apos) [e] [] pos) (tM1 rStarts to te) := pe_m1 PySem.F.slot_str_startswith PySem.F.type_str_startswith mt_startswith ho he hs hbase hline
end
/-! ### max, min of a tuple -/
section
variable {prog : Program} {w : World} {A : Around} {E : Value → Shared → Prop} {s : Shared} {l : Addr} {xs : Array (Int × Tok)}
theorem iter_intTup {Q : Value → Shared → Prop} (hl : s.heap.IsTuple l (intItems xs))
    (h : ∀ s₂ : Shared, s₂ = { s with heap := s.heap.push { cls := .type "tuple_iterator", data := .fields #[.ref l, .int 0 0] } } →
      (s₂.heap.IsTupleIter s.heap.objs.size l 0 ∧ s₂.heap.IsTuple l (intItems xs)) → (∀ b ∈ [s.heap.objs.size, l], b < s₂.heap.objs.size) → l ≠ s.heap.objs.size → Q (.ref s.heap.objs.size) s₂) :
    wpAny (model prog w) A (pyIter (.ref l)) Q E s := by
  have hlt : l < s.heap.objs.size := by obtain ⟨_, e, _⟩ := hl; exact Heap.lt_size e
  have hl2 : (s.heap.push { cls := .type "tuple_iterator", data := .fields #[.ref l, .int 0 0] }).IsTuple l (intItems xs) := by
    obtain ⟨o, e, r⟩ := hl
    exact ⟨o, Heap.get?_push_of_some _ e, r⟩
  refine wpAny_pyIter_tuple hl (h _ rfl ⟨⟨_, Heap.get?_push_size _ rfl, rfl, rfl⟩, hl2⟩ (fun b hb => ?_) (Nat.ne_of_lt hlt))
  show b < (s.heap.push _).objs.size
  rw [Heap.size_push]
  rcases List.mem_cons.mp hb with rfl | hb
  · exact Nat.lt_succ_self _
  · rcases List.mem_cons.mp hb with rfl | hb
    · exact Nat.lt_succ_of_lt hlt
    · cases hb
theorem kept_tup {h' : Heap} (hk : ∀ b o, b ∉ [s.heap.objs.size] → (s.heap.push { cls := .type "tuple_iterator", data := .fields #[.ref l, .int 0 0] }).get? b = some o → h'.get? b = some o) :
    ∀ b o, s.heap.get? b = some o → h'.get? b = some o := fun b o e => by
  refine hk b o (fun hm => ?_) (Heap.get?_push_of_some _ e)
  rcases List.mem_cons.mp hm with e1 | hm
  · exact absurd (e1 ▸ Heap.lt_size e) (Nat.lt_irrefl _)
  · cases hm
theorem max_intTup {Q : Value → Shared → Prop} (hh : A.handled = none) (hl : s.heap.IsTuple l (intItems xs)) (hne : 0 < xs.size)
    (h : ∀ v h' tk, (intItems xs)[argBest (fun i j => decide (numAt xs i > numAt xs j)) (xs.size - 1)]? = some v → (∀ b o, s.heap.get? b = some o → h'.get? b = some o) → Q v { s with heap := h', toks := tk }) :
    wpAny (model prog w) A (call (.builtin "max") [.ref l]) Q E s := by
  refine call_max_walk (iter_intTup hl fun s₂ e st hfp hlI => ?_)
  subst e
  refine ⟨_, _, _, _, _, _, _, rfl, Walks.tuple (A := A.in1) hh _ l hlI (intItems xs), st, hfp, by simpa [intItems] using hne, CmpOf.ints_gt (numAt xs) (fun _ _ => intItems_at), fun v h' tk hP hk => ?_⟩
  exact h v h' tk (by simpa [intItems] using hP) (kept_tup hk)
theorem min_intTup {Q : Value → Shared → Prop} (hh : A.handled = none) (hl : s.heap.IsTuple l (intItems xs)) (hne : 0 < xs.size)
    (h : ∀ v h' tk, (intItems xs)[argBest (fun i j => decide (numAt xs i < numAt xs j)) (xs.size - 1)]? = some v → (∀ b o, s.heap.get? b = some o → h'.get? b = some o) → Q v { s with heap := h', toks := tk }) :
    wpAny (model prog w) A (call (.builtin "min") [.ref l]) Q E s := by
  refine call_min_walk (iter_intTup hl fun s₂ e st hfp hlI => ?_)
  subst e
  refine ⟨_, _, _, _, _, _, _, rfl, Walks.tuple (A := A.in1) hh _ l hlI (intItems xs), st, hfp, by simpa [intItems] using hne, CmpOf.ints_lt (numAt xs) (fun _ _ => intItems_at), fun v h' tk hP hk => ?_⟩
  exact h v h' tk (by simpa [intItems] using hP) (kept_tup hk)
end
def rMaxT (K : PySem.W.Frag) : List V → Hp → VK → Prop := fun vs H Q => ∃ (a : Addr) (i j : Int), vs = [V.ref a] ∧ SqT K H a [.int i, .int j] ∧ Q (.int (if j > i then j else i)) H
def rMinT (K : PySem.W.Frag) : List V → Hp → VK → Prop := fun vs H Q => ∃ (a : Addr) (i j : Int), vs = [V.ref a] ∧ SqT K H a [.int i, .int j] ∧ Q (.int (if j < i then j else i)) H
theorem two_items {i j : Int} {its : List Value} (r : Vals [V.int i, V.int j] its) : ∃ t u : Tok, its = [Value.int i t, Value.int j u] := Vals.int2 r
theorem tup_two {h : Heap} {a : Addr} {i j : Int} {t u : Tok} (ht : IsTup h a [Value.int i t, Value.int j u].toArray) : h.IsTuple a (intItems #[(i, t), (j, u)]) := by
  have e : intItems #[(i, t), (j, u)] = [Value.int i t, Value.int j u].toArray := by simp [intItems]
  rw [e]
  exact ht
theorem cr_maxT {X : Cx} (hc : X.calm = true) : CallR X (.builtin "max") (rMaxT X.K) := by
  intro pins s σ H vs us Q I r h
  obtain ⟨a, i, j, rfl, hs, q⟩ := h
  obtain ⟨its, rv, ht, _⟩ := I.tuple hs
  obtain ⟨t, u, rfl⟩ := two_items rv
  rw [Vals.ref1 r]
  refine max_intTup (xs := #[(i, t), (j, u)]) (I.ok.hd hc) (tup_two ht) (Nat.zero_lt_succ 1) fun v h' tk hv hk => ?_
  by_cases c : j > i
  · rw [if_pos c] at q
    have e : v = Value.int j u := by
      simp [argBest, intItems, numAt, c] at hv
      exact hv.symm
    subst e
    exact ⟨.int j, H, I.kept hk, ⟨_, rfl⟩, q⟩
  · rw [if_neg c] at q
    have e : v = Value.int i t := by
      simp [argBest, intItems, numAt, c] at hv
      exact hv.symm
    subst e
    exact ⟨.int i, H, I.kept hk, ⟨_, rfl⟩, q⟩
theorem cr_minT {X : Cx} (hc : X.calm = true) : CallR X (.builtin "min") (rMinT X.K) := by
  intro pins s σ H vs us Q I r h
  obtain ⟨a, i, j, rfl, hs, q⟩ := h
  obtain ⟨its, rv, ht, _⟩ := I.tuple hs
  obtain ⟨t, u, rfl⟩ := two_items rv
  rw [Vals.ref1 r]
  refine min_intTup (xs := #[(i, t), (j, u)]) (I.ok.hd hc) (tup_two ht) (Nat.zero_lt_succ 1) fun v h' tk hv hk => ?_
  by_cases c : j < i
  · rw [if_pos c] at q
    have e : v = Value.int j u := by
      simp [argBest, intItems, numAt, c] at hv
      exact hv.symm
    subst e
    exact ⟨.int j, H, I.kept hk, ⟨_, rfl⟩, q⟩
  · rw [if_neg c] at q
    have e : v = Value.int i t := by
      simp [argBest, intItems, numAt, c] at hv
      exact hv.symm
    subst e
    exact ⟨.int i, H, I.kept hk, ⟨_, rfl⟩, q⟩
/-! ### rules -/
section
variable {K : PySem.W.Frag} {σ : L2.St} {H H' H1 : Hp} {ta tb tc te : TE} {t u : TT} {tl : TA} {v x y z : V}
theorem el_split {a b : Str} (ha : Ev ta σ H (.str a)) (hb : Ev tb σ H (.str b)) (h1 : (b.length == 0) = false) (h2 : a.length ≤ 90000) : EvL (tM1 rSplit ta tb) σ H ((Txt.split a b).map V.str) := fun H1 e Q q =>
  ha H1 e _ fun H2 e2 => ⟨⟨a, rfl⟩, hb H2 (e.trans e2) _ fun H3 e3 => ⟨a, b, rfl, rfl, h1, Evl.sz_of (by omega), fun p hp => q p _ (Evl.fresh_back (e2.trans e3) hp) ((e2.trans e3).trans (Ex.new hp)) upd_same⟩⟩
theorem eu_partn {a b : Str} (ha : Ev ta σ H (.str a)) (hb : Ev tb σ H (.str b)) (h1 : (b.length == 0) = false) (h2 : a.length ≤ 90000) : EvU (tM1 rPartn ta tb) σ H [.str (Txt.partition a b).1, .str (Txt.partition a b).2.1, .str (Txt.partition a b).2.2] := fun H1 e Q q =>
  ha H1 e _ fun H2 e2 => ⟨⟨a, rfl⟩, hb H2 (e.trans e2) _ fun H3 e3 => ⟨a, b, rfl, rfl, h1, Evl.sz_of (by omega), fun p hp => q p _ (Evl.fresh_back (e2.trans e3) hp) ((e2.trans e3).trans (Ex.new hp)) upd_same⟩⟩
theorem ev_join {a : Str} {ys : List Str} (ha : Ev ta σ H (.str a)) (hb : EvP tb σ H (fun v H2 => ∃ p, v = .ref p ∧ SqL K H2 p (ys.map V.str))) (hz : (ys.map (·.length)).sum + ys.length * a.length ≤ 16777216) : Ev (tM1 (rJoin K) ta tb) σ H (.str (Txt.join a ys)) := fun H1 e Q q =>
  ha H1 e _ fun H2 e2 => ⟨⟨a, rfl⟩, hb H2 (e.trans e2) _ fun v H3 e3 ⟨p, ev, hp⟩ => ⟨a, p, ys, rfl, by rw [ev], .inl hp, hz, q H3 (e2.trans e3)⟩⟩
theorem ev_strip2 {a b : Str} (ha : Ev ta σ H (.str a)) (hb : Ev tb σ H (.str b)) (h2 : a.length ≤ 90000) : Ev (tM1 rStrip2 ta tb) σ H (.str (Txt.stripChars a b)) := fun H1 e Q q =>
  ha H1 e _ fun H2 e2 => ⟨⟨a, rfl⟩, hb H2 (e.trans e2) _ fun H3 e3 => ⟨a, b, rfl, rfl, Evl.sz_of (by omega), q H3 (e2.trans e3)⟩⟩
theorem ev_starts {a b : Str} (ha : Ev ta σ H (.str a)) (hb : Ev tb σ H (.str b)) : Ev (tM1 rStarts ta tb) σ H (.bl (Txt.startswith a b)) := fun H1 e Q q =>
  ha H1 e _ fun H2 e2 => ⟨⟨a, rfl⟩, hb H2 (e.trans e2) _ fun H3 e3 => ⟨a, b, rfl, rfl, q H3 (e2.trans e3)⟩⟩
theorem ev_lenStr {a : Str} (ha : Ev ta σ H (.str a)) (h2 : a.length ≤ 90000) : Ev (tCB rLenStr (tCons ta tNil)) σ H (.int (a.length : Int)) := fun H1 e Q q =>
  ha H1 e _ fun H2 e2 => ⟨a, rfl, Evl.sz_of (by omega), q H2 e2⟩
theorem ev_strI {i : Int} (ha : Ev ta σ H (.int i)) (h : i.natAbs.log2 < 1920) : Ev (tCB rStrI (tCons ta tNil)) σ H (.str (Str.ofString (toString i))) := fun H1 e Q q =>
  ha H1 e _ fun H2 e2 => ⟨i, rfl, h, q H2 e2⟩
theorem ev_intS {a : Str} {n : Int} (ha : Ev ta σ H (.str a)) (h : intText? a = some n) (hl : a.length ≤ 640) : Ev (tCB rIntS (tCons ta tNil)) σ H (.int n) := fun H1 e Q q =>
  ha H1 e _ fun H2 e2 => ⟨a, n, rfl, h, hl, q H2 e2⟩
theorem rv_catS {a b : Str} (h : a.length + b.length ≤ 90000) : RV rCatS (.str a) (.str b) H (.str (a ++ b)) := fun H1 e Q q => ⟨a, b, rfl, rfl, Evl.sz_of (by omega), q H1 (Ex.refl H1)⟩
theorem ev_slS {a : Str} {tlo thi : TO} {lo hi : Option Int} (ha : Ev ta σ H (.str a)) (h1 : EvO tlo σ H lo) (h2 : EvO thi σ H hi) (hl : a.length ≤ 90000) : Ev (tSl rSlS ta tlo thi) σ H (.str (cutS a lo hi)) := fun H1 e Q q =>
  ha H1 e _ fun H2 e2 => h1 H2 (e.trans e2) _ fun H3 e3 => h2 H3 ((e.trans e2).trans e3) _ fun H4 e4 => ⟨a, rfl, Evl.sz_of (by omega), q H4 ((e2.trans e3).trans e4)⟩
theorem ep_repS {a : Str} {k : Int} (ha : Ev ta σ H (.str a)) (hb : Ev tb σ H (.int k)) (hz : a.length = 1) (h1 : 2 ≤ k) (h2 : k ≤ 10000) : EvP (tOp rRepS ta tb) σ H (fun v _ => ∃ w : Str, v = .str w ∧ w.length = k.toNat) := fun H1 e Q q =>
  ha H1 e _ fun H2 e2 => hb H2 (e.trans e2) _ fun H3 e3 => ⟨a, k, rfl, rfl, hz, h1, h2, fun w hw => q _ H3 (e2.trans e3) ⟨w, rfl, hw⟩⟩
theorem ev_maxT {i j : Int} (h : EvP ta σ H (fun v H2 => ∃ a, v = .ref a ∧ SqT K H2 a [.int i, .int j])) : Ev (tCB (rMaxT K) (tCons ta tNil)) σ H (.int (if j > i then j else i)) := fun H1 e Q q =>
  h H1 e _ fun v H2 e2 ⟨a, ev, hs⟩ => ⟨a, i, j, by rw [ev], hs, q H2 e2⟩
theorem ev_minT {i j : Int} (h : EvP ta σ H (fun v H2 => ∃ a, v = .ref a ∧ SqT K H2 a [.int i, .int j])) : Ev (tCB (rMinT K) (tCons ta tNil)) σ H (.int (if j < i then j else i)) := fun H1 e Q q =>
  h H1 e _ fun v H2 e2 ⟨a, ev, hs⟩ => ⟨a, i, j, by rw [ev], hs, q H2 e2⟩
theorem rv_isN : RV rIsN x .non H (.bl (decide (x = .non))) := fun H1 e Q q => ⟨rfl, q H1 (Ex.refl H1)⟩
theorem dec_str {a b : Str} : decide (V.str a = V.str b) = decide (a = b) := decide_eq_decide.mpr ⟨fun z => V.str.inj z, fun z => congrArg V.str z⟩
theorem rv_eqS {a b : Str} : RV rEq (.str a) (.str b) H (.bl (decide (a = b))) := fun H1 e Q q => ⟨rfl, by
  rw [dec_str]
  exact q H1 (Ex.refl H1)⟩
theorem rv_neS {a b : Str} : RV rNe (.str a) (.str b) H (.bl (!decide (a = b))) := fun H1 e Q q => ⟨rfl, by
  rw [dec_str]
  exact q H1 (Ex.refl H1)⟩
end
end G

/-! Things of any kind at the doors. -/
namespace G
open PySem PySem.Spec PyProof.Rows L2
open Evl (Ex Ev EvL EvU EvT EvA RV RetV)
local macro_rules | `(tactic| walk_at "hp") => `(tactic| first
  | with_reducible assumption
  | ((with_reducible show _ = some (_ : HO)); (with_reducible exact ex_app (by assumption) (by walk_at "hp")))
  | ((with_reducible show TupI _ _ _ _); (with_reducible exact TupI.mono (by assumption) (by walk_at "hp")))
  | ((with_reducible show LT _ _ _ _); (with_reducible exact LT.mono (by assumption) (by walk_at "hp")))
  | ((with_reducible show LI _ _ _ _); (first | (with_reducible exact li_of (by walk_at "hp")) | (with_reducible exact LI.mono (by assumption) (by walk_at "hp"))))
  | ((with_reducible show SqL _ _ _ _); (first | (with_reducible exact SqL.of (by walk_at "hp")) | (with_reducible exact Evl.ex_l (by assumption) (by walk_at "hp"))))
  | ((with_reducible show SqT _ _ _ _); (first | (with_reducible exact SqT.of (by walk_at "hp")) | (with_reducible exact Evl.ex_t (by assumption) (by walk_at "hp"))))
  | ((with_reducible show Rd _ _ _); (first | (with_reducible exact Rd.of (by walk_at "hp")) | (with_reducible exact Evl.ex_rd (by assumption) (by walk_at "hp"))))
  | walk_at "hpf")
local macro_rules | `(tactic| walk_at "at") => `(tactic| first
  | with_reducible assumption
  | with_reducible rfl
  | (refine atI_of ?va ?vb; (case va => omega); (case vb => assumption))
  | walk_at "atf"
  | rfl)
local macro_rules | `(tactic| walk_at "rv") => `(tactic| first
  | with_reducible exact rv_add | with_reducible exact rv_sub | with_reducible exact rv_eqI | with_reducible exact rv_neI | with_reducible exact rv_lt | with_reducible exact rv_le | with_reducible exact rv_gt | with_reducible exact rv_ge
  | with_reducible exact rv_eqB | with_reducible exact rv_neB | with_reducible exact rv_isB | with_reducible exact rv_notB
  | ((with_reducible refine rv_mod ?_); (first | assumption | omega))
  | ((with_reducible refine rv_mul ?_); (first | exact Or.inl ⟨by omega, by omega⟩ | exact Or.inr ⟨by omega, by omega⟩))
  | ((with_reducible refine rv_div ?_); exact ⟨by omega, by omega⟩))
local macro_rules | `(tactic| walk_at "ty") => `(tactic| first
  | with_reducible exact fun _ _ => .base (.int _) | with_reducible exact fun _ _ => .base (.bl _) | with_reducible exact fun _ _ => .base .non | with_reducible exact fun _ _ => .base (.str _)
  | ((with_reducible apply ty_tup); walk_at "hp")
  | ((with_reducible apply ty_lst); walk_at "hp")
  | walk_at "tyf")
local macro_rules | `(tactic| walk_at "ev") => `(tactic| repeat' (first
  | with_reducible exact Evl.ev_c
  | ((with_reducible apply Evl.ev_var); rfl)
  | with_reducible apply ev_neg
  | with_reducible apply ev_ixU
  | walk_at "evf"
  | ((with_reducible apply ev_lenI); (· walk_at "ev"); (· walk_at "hp"))
  | ((with_reducible apply ev_lenT); (· walk_at "ev"); (· walk_at "hp"))
  | ((with_reducible apply ev_lenU); (· walk_at "ev"))
  | with_reducible apply ev_lenSet
  | with_reducible apply ev_chain
  | with_reducible apply ev_isiTy
  | with_reducible apply Evl.ev_andV
  | with_reducible apply Evl.ev_orV
  | with_reducible apply Evl.ev_notV
  | ((with_reducible apply ev_ixI); (· walk_at "ev"); (· walk_at "ev"); (· walk_at "hp"); (· walk_at "at"))
  | with_reducible apply Evl.ev_op
  | ((with_reducible apply evi_of); (· (with_reducible apply Evl.ev_var); rfl); (· walk_at "hp"))
  | with_reducible apply ei_ix
  | with_reducible apply ei_tup
  | with_reducible exact eai_nil
  | with_reducible apply eai_cons
  | with_reducible exact Evl.ea_nil
  | with_reducible apply Evl.ea_cons
  | with_reducible apply Evl.et_test
  | with_reducible apply Evl.et_and
  | with_reducible apply Evl.et_or
  | with_reducible apply Evl.et_not
  | with_reducible apply Evl.et_B
  | walk_at "rv"
  | ((with_reducible show L2.kitB _ _ = _); rfl)
  | ((with_reducible show L2.atI _ _ = _); walk_at "at")
  | ((with_reducible show (_ : Nat) ≤ _); (first | omega | (simp; done) | (simp; omega)))
  | ((with_reducible show _ = true → _); intro _)
  | ((with_reducible show _ = false → _); intro _)
  | ((with_reducible show TupI _ _ _ _); walk_at "hp")
  | ((with_reducible show LT _ _ _ _); walk_at "hp")
  | ((with_reducible show LI _ _ _ _); walk_at "hp")
  | ((with_reducible show SqL _ _ _ _); walk_at "hp")
  | ((with_reducible show SqT _ _ _ _); walk_at "hp")
  | ((with_reducible show Rd _ _ _); walk_at "hp")
  | ((with_reducible show _ = some (_ : HO)); walk_at "hp")
  | walk_at "hpg"
  | walk_at "ty"))

local macro_rules | `(tactic| walk_at "hpf") => `(tactic| ((with_reducible show WebAt _ _ _ _ _ _); (with_reducible exact WebAt.mono (by assumption) (by walk_at "hp"))))
local macro_rules | `(tactic| walk_at "hpg") => `(tactic| ((with_reducible show WebAt _ _ _ _ _ _); walk_at "hp"))
local macro_rules | `(tactic| walk_at "evf") => `(tactic| with_reducible apply ev_points)
local macro_rules | `(tactic| walk_at "evf") => `(tactic| with_reducible apply ev_turn)
local macro_rules | `(tactic| walk_at "evf") => `(tactic| with_reducible apply ev_lenB)
local macro_rules | `(tactic| walk_at "evf") => `(tactic| with_reducible apply ei_bound)
local macro_rules | `(tactic| walk_at "evf") => `(tactic| with_reducible apply ev_is_whole)
local macro_rules | `(tactic| walk_at "evf") => `(tactic| with_reducible apply ev_is_below)
local macro_rules | `(tactic| walk_at "evf") => `(tactic| with_reducible apply ev_is_tie)
local macro_rules | `(tactic| walk_at "evf") => `(tactic| with_reducible apply ei_stepped)
variable {K : PySem.W.Frag} {σ : L2.St} {H H' H1 : Hp} {ta tb tc te : TE} {t u : TT} {tl : TA} {v x y z : V}
/-! ### exceptions' facts -/
def excs : List Str := ["WebError", "BadWeb", "BadPoint", "BadTie", "Unlike", "BadText"]
/-- the own exception class D is the j-th -/
structure ExK (K : PySem.W.Frag) (D : Str) (j : Nat) : Prop where
  ec : ExcC K (ga K D)
  em : ∀ i C, excs[i]? = some C → PySem.W.exmOne K (.ref (ga K D)) (.ref (ga K C)) = some (decide (i = 0 ∨ i = j))
  is : ∀ i C, excs[i]? = some C → PySem.W.kitOne K (.ref (ga K D)) (.ref (ga K C)) = some (decide (i = 0 ∨ i = j))
  iv : PySem.W.kitOne K (.ref (ga K D)) (.type "ValueError") = some true

/-! ### things -/
inductive DpX (K : PySem.W.Frag) (H : Hp) : V → PyData → Prop
  | dp {v : V} {d : PyData} : Dp K H v d → DpX K H v d
  | dict {a : Addr} : H a = some (.dK []) → DpX K H (.ref a) (.dict [])
theorem DpX.mono {d : PyData} (e : Ex H H') (h : DpX K H v d) : DpX K H' v d := by
  cases h with
  | dp h => exact .dp (dp_mono e _ _ h)
  | dict h => exact .dict (e _ _ h)
def tyD : PyData → String
  | .none => "NoneType"
  | .bool _ => "bool"
  | .int _ => "int"
  | .str _ => "str"
  | .list _ => "list"
  | .tuple _ => "tuple"
  | .dict _ => "dict"
theorem DpX.ty {d : PyData} (h : DpX K H v d) : ∀ H2, Ex H H2 → TyX K H2 v (.type (tyD d)) := by
  cases h with
  | dict h => exact fun H2 e => .base (.dK (e _ _ h))
  | dp h =>
    cases h with
    | non => exact fun _ _ => .base .non
    | bl b => exact fun _ _ => .base (.bl b)
    | int i => exact fun _ _ => .base (.int i)
    | str s => exact fun _ _ => .base (.str s)
    | lst h _ => exact ty_lst h
    | tup h _ =>
      intro H2 e
      rcases Evl.ex_t e h with (h | ⟨o, h⟩) | ⟨o, its, n, hk, hc, _⟩
      · exact .base (.tup h)
      · exact .fTuple h
      · exact .kTuple hk hc
theorem ev_isD {T : String} {b : Bool} {d : PyData} (ha : Ev ta σ H v) (hd : DpX K H v d) (hk : L2.kitB (tyD d) T = some b) : Ev (tCB (rIsi K) (tCons ta (tCons (tC (.ty T)) tNil))) σ H (.bl b) := ev_isiTy ha hd.ty hk
def intD : PyData → Option Int
  | .int i => some i
  | _ => none
theorem DpX.int_inv {d : PyData} {i : Int} (h : DpX K H v d) (e : intD d = some i) : v = .int i ∧ d = .int i := by
  cases d with
  | int j =>
    have : j = i := Option.some.inj e
    subst this
    cases h with
    | dp h => cases h; exact ⟨rfl, rfl⟩
  | _ => cases e
def intB : PyData → Bool
  | .int _ => true
  | .bool _ => true
  | _ => false
def boolB : PyData → Bool
  | .bool _ => true
  | _ => false
def tupB : PyData → Bool
  | .tuple _ => true
  | _ => false
def lstB : PyData → Bool
  | .list _ => true
  | _ => false
theorem kit_int (d : PyData) : L2.kitB (tyD d) "int" = some (intB d) := by cases d <;> rfl
theorem kit_bool (d : PyData) : L2.kitB (tyD d) "bool" = some (boolB d) := by cases d <;> rfl
theorem kit_tup (d : PyData) : L2.kitB (tyD d) "tuple" = some (tupB d) := by cases d <;> rfl
theorem kit_lst (d : PyData) : L2.kitB (tyD d) "list" = some (lstB d) := by cases d <;> rfl
def belowD (d : PyData) (m : Int) : Bool := match intD d with
  | some i => decide (0 ≤ i ∧ i < m)
  | none => false
/-- a tie of n points -/
def tieD (n : Int) : PyData → Bool
  | .tuple [a, b, c] => belowD a n && (belowD b n && (!decide (intD a = intD b) && (match intD c with
    | some i => decide (-1000000 ≤ i ∧ i ≤ 1000000)
    | none => false)))
  | _ => false
def numD (c : PyData) : Bool := match intD c with
  | some i => decide (-1000000 ≤ i ∧ i ≤ 1000000)
  | none => false
theorem tieD_three (n : Int) (a b c : PyData) : tieD n (.tuple [a, b, c]) = (belowD a n && (belowD b n && (!decide (intD a = intD b) && numD c))) := rfl
def tiesD (n : Int) : PyData → Bool
  | .list ds => ds.all (tieD n)
  | _ => false
/-- what a web may be made of -/
def webD (d1 d2 d3 : PyData) : Bool := match intD d1 with
  | some n => (decide (1 ≤ n ∧ n ≤ 1000000) && belowD d3 1000001) && tiesD n d2
  | none => false
/-- what stepped tells of such a step -/
def stepD (ts : List Tie) (p : Int) : PyData → Int × Int
  | .tuple [a, b] => match intD a, intD b with
    | some i, some j => stepF ts p (i, j)
    | _, _ => (-1, 0)
  | _ => (-1, 0)
theorem dpAll_len : ∀ {xs : List V} {ds : List PyData}, DpAll K H xs ds → xs.length = ds.length
  | _, _, .nil => rfl
  | _, _, .cons _ t => congrArg Nat.succ (dpAll_len t)
theorem dpAll_get : ∀ {xs : List V} {ds : List PyData} {i : Nat} {x : V}, DpAll K H xs ds → xs[i]? = some x → ∃ d, ds[i]? = some d ∧ Dp K H x d
  | _, _, i, _, .nil, e => by simp at e
  | _, _, 0, _, .cons h _, e => by
    simp at e
    subst e
    exact ⟨_, rfl, h⟩
  | _, _, i + 1, _, .cons _ t, e => by
    obtain ⟨d, h1, h2⟩ := dpAll_get t (i := i) (by simpa using e)
    exact ⟨d, by simpa using h1, h2⟩
theorem dpAll_app : ∀ {xs ys : List V} {ds es : List PyData}, DpAll K H xs ds → DpAll K H ys es → DpAll K H (xs ++ ys) (ds ++ es)
  | _, _, _, _, .nil, s => s
  | _, _, _, _, .cons h t, s => .cons h (dpAll_app t s)

/-! ### is_whole, is_below, is_tie -/
def sp_is_wholeX (K : PySem.W.Frag) : Sp := fun vs H Q _ => ∃ (v : V) (d : PyData), vs = [v] ∧ DpX K H v d ∧ RetV (.bl (intD d).isSome) H Q
theorem ev_wholeX {d : PyData} (h : Ev ta σ H v) (hd : DpX K H v d) : Ev (tCall (sp_is_wholeX K) [] E0 (tCons ta tNil)) σ H (.bl (intD d).isSome) := ev_call (Evl.ea_cons h Evl.ea_nil) fun _ _ e k => ⟨v, d, rfl, hd.mono e, k⟩
def sp_is_belowX (K : PySem.W.Frag) : Sp := fun vs H Q _ => ∃ (v : V) (d : PyData) (m : Int), vs = [v, .int m] ∧ DpX K H v d ∧ RetV (.bl (belowD d m)) H Q
theorem ev_belowX {d : PyData} {m : Int} (h : Ev ta σ H v) (h2 : Ev tb σ H (.int m)) (hd : DpX K H v d) : Ev (tCall (sp_is_belowX K) [] E0 (tCons ta (tCons tb tNil))) σ H (.bl (belowD d m)) := ev_call (Evl.ea_cons h (Evl.ea_cons h2 Evl.ea_nil)) fun _ _ e k => ⟨v, d, m, rfl, hd.mono e, k⟩
def sp_is_tieX (K : PySem.W.Frag) : Sp := fun vs H Q _ => ∃ (v : V) (d : PyData) (n : Int), vs = [v, .int n] ∧ DpX K H v d ∧ RetV (.bl (tieD n d)) H Q
theorem ev_tieX {d : PyData} {m : Int} (h : Ev ta σ H v) (h2 : Ev tb σ H (.int m)) (hd : DpX K H v d) : Ev (tCall (sp_is_tieX K) [] E0 (tCons ta (tCons tb tNil))) σ H (.bl (tieD m d)) := ev_call (Evl.ea_cons h (Evl.ea_cons h2 Evl.ea_nil)) fun _ _ e k => ⟨v, d, m, rfl, hd.mono e, k⟩
def t_is_wholeX (K : PySem.W.Frag) : TS :=
 (tRet (tAndV (tCB (rIsi K) (tCons (tVar 0) (tCons (tC (.ty "int")) tNil))) (tNotV (tCB (rIsi K) (tCons (tVar 0) (tCons (tC (.ty "bool")) tNil))))))
def t_is_belowX (K : PySem.W.Frag) : TS :=
 (tRet (tAndV (tCall (sp_is_wholeX K) [] E0 (tCons (tVar 0) tNil)) (tChain rLeI rLtI (tC (.int 0)) (tVar 0) (tVar 1))))
def t_is_tieX (K : PySem.W.Frag) : TS :=
 (tSeq (tIfS (tOr (tNot (tB (tCB (rIsi K) (tCons (tVar 0) (tCons (tC (.ty "tuple")) tNil))))) (tTest (tOp rNe (tCB (rLenS K) (tCons (tVar 0) tNil)) (tC (.int 3))))) (tRet (tC (.bl false))) tNext)
 (tSeq (tIfS (tOr (tNot (tB (tCall (sp_is_belowX K) [] E0 (tCons (tOp (rIxT K) (tVar 0) (tC (.int 0))) (tCons (tVar 1) tNil))))) (tOr (tNot (tB (tCall (sp_is_belowX K) [] E0 (tCons (tOp (rIxT K) (tVar 0) (tC (.int 1))) (tCons (tVar 1) tNil))))) (tTest (tOp rEq (tOp (rIxT K) (tVar 0) (tC (.int 0))) (tOp (rIxT K) (tVar 0) (tC (.int 1))))))) (tRet (tC (.bl false))) tNext)
 (tRet (tAndV (tCall (sp_is_wholeX K) [] E0 (tCons (tOp (rIxT K) (tVar 0) (tC (.int 2))) tNil)) (tChain rLeI rLeI (tUn rNegI (tC (.int 1000000))) (tOp (rIxT K) (tVar 0) (tC (.int 2))) (tC (.int 1000000)))))))
theorem rd_is_wholeX (vs : List V) (H : Hp) (Q : VK) (E : XK) (h : sp_is_wholeX K vs H Q E) : goal (t_is_wholeX K) ["thing"] vs H Q := by
  obtain ⟨v, d, rfl, hd, k⟩ := h
  refine Evl.s_ret (v := .bl (intD d).isSome) (Evl.ev_is (Evl.ev_andV (ev_isD (Evl.ev_var rfl) hd (kit_int d)) fun _ => Evl.ev_notV (ev_isD (Evl.ev_var rfl) hd (kit_bool d))) ?_) fun H1 e => k H1 e
  cases d <;> rfl
theorem rd_is_belowX (vs : List V) (H : Hp) (Q : VK) (E : XK) (h : sp_is_belowX K vs H Q E) : goal (t_is_belowX K) ["thing", "many"] vs H Q := by
  obtain ⟨v, d, m, rfl, hd, k⟩ := h
  cases hi : intD d with
  | none =>
    have e : belowD d m = false := by unfold belowD; rw [hi]
    rw [e] at k
    have w := ev_wholeX (ta := tVar 0) (σ := L2.start ["thing", "many"] [v, V.int m]) (Evl.ev_var rfl) hd
    rw [hi] at w
    exact Evl.s_ret (v := .bl false) (Evl.ev_is (Evl.ev_andV (a := false) (b := true) w fun z => by cases z) rfl) fun H1 e => k H1 e
  | some i =>
    obtain ⟨rfl, rfl⟩ := hd.int_inv hi
    refine Evl.s_ret (v := .bl (belowD (.int i) m)) (Evl.ev_is (Evl.ev_andV (ev_wholeX (Evl.ev_var rfl) hd) fun _ => ev_chain Evl.ev_c (Evl.ev_var rfl) rv_le (Evl.ev_var rfl) rv_lt) ?_) fun H1 e => k H1 e
    show V.bl (true && (decide (0 ≤ i) && decide (i < m))) = V.bl (decide (0 ≤ i ∧ i < m))
    rw [Bool.true_and]
    refine congrArg V.bl (Bool.eq_iff_iff.mpr ?_)
    simp
theorem rd_is_tieX (vs : List V) (H : Hp) (Q : VK) (E : XK) (h : sp_is_tieX K vs H Q E) : goal (t_is_tieX K) ["thing", "points"] vs H Q := by
  obtain ⟨v, d, n, rfl, hd, k⟩ := h
  have no : ∀ {H2 : Hp} {nx ct bk : L2.St → Hp → Prop}, Ex H H2 → tieD n d = false → (tRet (tC (.bl false))) { nx := nx, rt := Q, ct := ct, bk := bk } (L2.start ["thing", "points"] [v, V.int n]) H2 := fun e2 hno => by
    rw [hno] at k
    exact Evl.s_ret Evl.ev_c fun H3 e3 => k H3 (e2.trans e3)
  by_cases ht : ∃ ds, d = .tuple ds
  · obtain ⟨ds, rfl⟩ := ht
    cases hd with
    | dp hd =>
      cases hd with
      | @tup a xs _ hq hA =>
        have hl := dpAll_len hA
        have tE : Ev (tCB (rIsi K) (tCons (tVar 0) (tCons (tC (.ty "tuple")) tNil))) (L2.start ["thing", "points"] [V.ref a, V.int n]) H (.bl true) := ev_isD (Evl.ev_var rfl) (.dp (.tup hq hA)) rfl
        have lE : Ev (tCB (rLenS K) (tCons (tVar 0) tNil)) (L2.start ["thing", "points"] [V.ref a, V.int n]) H (.int (xs.length : Int)) := fun H1 e Q q => (Evl.ev_var (v := .ref a) rfl : Ev (tVar 0) (L2.start ["thing", "points"] [V.ref a, V.int n]) H (.ref a)) H1 e _ fun H2 e2 => ⟨a, xs, rfl, Or.inr (Evl.ex_t (e.trans e2) hq), q H2 e2⟩
        refine Evl.q_when (b := !decide (xs.length = 3)) (Evl.et_is (Evl.et_or (Evl.et_not (Evl.et_B tE)) fun _ => Evl.et_test (Evl.ev_op lE Evl.ev_c rv_neI)) (by simp; omega)) (fun hb H1 e1 => no e1 ?_) fun hb H1 e1 => ?_
        · have hn : ds.length ≠ 3 := by rw [← hl]; simpa using hb
          unfold tieD
          split
          · rename_i h
            cases h
            exact absurd rfl hn
          · rfl
        · have hx3 : xs.length = 3 := by simpa using hb
          obtain ⟨x1, x2, x3, rfl⟩ : ∃ x1 x2 x3, xs = [x1, x2, x3] := by
            match xs, hx3 with
            | [a, b, c], _ => exact ⟨a, b, c, rfl⟩
          cases hA with
          | cons h1 hA =>
            cases hA with
            | cons h2 hA =>
              cases hA with
              | cons h3 hA =>
                cases hA
                rename_i d1 d2 d3
                have ix : ∀ {j : Int} {w : V} {H2 : Hp}, Ex H H2 → atI [x1, x2, x3] j = some w → Ev (tOp (rIxT K) (tVar 0) (tC (.int j))) (L2.start ["thing", "points"] [V.ref a, V.int n]) H2 w := fun e hj => Evl.ev_op (Evl.ev_var rfl) Evl.ev_c (Evl.rv_ixT (Evl.ex_t e hq) hj)
                have dx : ∀ {w : V} {d : PyData} {H2 : Hp}, Ex H H2 → Dp K H w d → DpX K H2 w d := fun e h => .dp (dp_mono e _ _ h)
                cases i1 : belowD d1 n with
                | false =>
                  refine Evl.q_when (b := true) (Evl.et_is (Evl.et_or (a := true) (b := true) (Evl.et_is (Evl.et_not (Evl.et_B (ev_belowX (ix e1 rfl) (Evl.ev_var rfl) (dx e1 h1)))) (by rw [i1]; rfl)) fun z => by cases z) rfl) (fun _ H2 e2 => no (e1.trans e2) (by rw [tieD_three, i1]; rfl)) fun z => by cases z
                | true =>
                  cases i2 : belowD d2 n with
                  | false =>
                    refine Evl.q_when (b := true) (Evl.et_is (Evl.et_or (Evl.et_not (Evl.et_B (ev_belowX (ix e1 rfl) (Evl.ev_var rfl) (dx e1 h1)))) fun _ => Evl.et_or (a := true) (b := true) (Evl.et_is (Evl.et_not (Evl.et_B (ev_belowX (ix e1 rfl) (Evl.ev_var rfl) (dx e1 h2)))) (by rw [i2]; rfl)) fun z => by cases z) (by rw [i1]; rfl)) (fun _ H2 e2 => no (e1.trans e2) (by rw [tieD_three, i1, i2]; rfl)) fun z => by cases z
                  | true =>
                    obtain ⟨j1, hj1⟩ : ∃ j, intD d1 = some j := by
                      unfold belowD at i1
                      cases q : intD d1 with
                      | none => rw [q] at i1; cases i1
                      | some j => exact ⟨j, rfl⟩
                    obtain ⟨j2, hj2⟩ : ∃ j, intD d2 = some j := by
                      unfold belowD at i2
                      cases q : intD d2 with
                      | none => rw [q] at i2; cases i2
                      | some j => exact ⟨j, rfl⟩
                    obtain ⟨rfl, rfl⟩ := (DpX.dp h1).int_inv hj1
                    obtain ⟨rfl, rfl⟩ := (DpX.dp h2).int_inv hj2
                    refine Evl.q_when (b := decide (j1 = j2)) (Evl.et_is (Evl.et_or (Evl.et_not (Evl.et_B (ev_belowX (ix e1 rfl) (Evl.ev_var rfl) (dx e1 h1)))) fun _ => Evl.et_or (Evl.et_not (Evl.et_B (ev_belowX (ix e1 rfl) (Evl.ev_var rfl) (dx e1 h2)))) fun _ => Evl.et_test (Evl.ev_op (ix e1 rfl) (ix e1 rfl) rv_eqI)) (by rw [i1, i2]; rfl)) (fun hb H2 e2 => no (e1.trans e2) (by
                      have e : j1 = j2 := of_decide_eq_true hb
                      rw [tieD_three, i1, i2, e]
                      simp)) fun hb H2 e2 => ?_
                    have hne : j1 ≠ j2 := of_decide_eq_false hb
                    have e12 := e1.trans e2
                    have hv : tieD n (.tuple [.int j1, .int j2, d3]) = numD d3 := by
                      rw [tieD_three, i1, i2]
                      have : decide (intD (.int j1) = intD (.int j2)) = false := decide_eq_false fun z => hne (Option.some.inj z)
                      rw [this]
                      rfl
                    rw [hv] at k
                    unfold numD at k
                    cases hi : intD d3 with
                    | none =>
                      rw [hi] at k
                      have w := ev_wholeX (ix e12 (j := 2) (w := x3) rfl) (dx e12 h3)
                      rw [hi] at w
                      exact Evl.s_ret (v := .bl false) (Evl.ev_is (Evl.ev_andV (a := false) (b := true) w fun z => by cases z) rfl) fun H3 e3 => k H3 (e12.trans e3)
                    | some i =>
                      obtain ⟨rfl, rfl⟩ := (DpX.dp h3).int_inv hi
                      rw [hi] at k
                      refine Evl.s_ret (v := .bl (decide (-1000000 ≤ i ∧ i ≤ 1000000))) (Evl.ev_is (Evl.ev_andV (ev_wholeX (ix e12 rfl) (dx e12 h3)) fun _ => ev_chain (ev_neg Evl.ev_c) (ix e12 rfl) rv_le Evl.ev_c rv_le) ?_) fun H3 e3 => k H3 (e12.trans e3)
                      show V.bl (true && (decide (-1000000 ≤ i) && decide (i ≤ 1000000))) = _
                      rw [Bool.true_and]
                      refine congrArg V.bl (Bool.eq_iff_iff.mpr ?_)
                      simp
  · have hb : tupB d = false := by
      cases d with
      | tuple ds => exact absurd ⟨ds, rfl⟩ ht
      | _ => rfl
    have hn : tieD n d = false := by
      cases d with
      | tuple ds => exact absurd ⟨ds, rfl⟩ ht
      | _ => rfl
    exact Evl.q_when (b := true) (Evl.et_is (Evl.et_or (a := true) (b := true) (Evl.et_is (Evl.et_not (Evl.et_B (ev_isD (Evl.ev_var rfl) hd (kit_tup d)))) (by rw [hb]; rfl)) fun z => by cases z) rfl) (fun _ H1 e1 => no e1 hn) fun z => by cases z
end G

/-! Plain: the texts of webs. -/
namespace G
open PySem PySem.Spec PyProof.Rows L2
open TL (tl pre spl par joinL numL)
open NumText (AllDigits digitsVal)
/-! ### split and join, partition -/
theorem join_spl {s : Nat} : ∀ {l acc : List Nat}, joinL [s] (spl [s] 0 acc l) = acc ++ l
  | [], acc => by
    rw [TL.spl_nil]
    show acc = acc ++ []
    rw [List.append_nil]
  | c :: r, acc => by
    by_cases h : c = s
    · subst h
      rw [TL.spl_hit (by simp [pre])]
      have ih := join_spl (s := c) (l := r) (acc := [])
      have ne : spl [c] 0 [] r ≠ [] := by
        cases r with
        | nil => rw [TL.spl_nil]; simp
        | cons d q =>
          by_cases h2 : pre [c] (d :: q) = true
          · rw [TL.spl_hit h2]; simp
          · intro z
            rw [z] at ih
            simp [joinL] at ih
      show joinL [c] (acc :: spl [c] 0 [] r) = acc ++ c :: r
      cases hs : spl [c] 0 [] r with
      | nil => exact absurd hs ne
      | cons p q =>
        rw [hs] at ih
        show acc ++ ([c] ++ joinL [c] (p :: q)) = _
        rw [ih]
        simp
    · have hp : pre [s] (c :: r) = false := by simp [pre, h]
      rw [TL.spl_miss hp, join_spl]
      simp
theorem spl_cons {s : Nat} (l : List Nat) : ∃ w ws, spl [s] 0 [] l = w :: ws := by
  cases h : spl [s] 0 [] l with
  | nil =>
    have := join_spl (s := s) (l := l) (acc := [])
    rw [h] at this
    have e : l = [] := by simpa [joinL] using this.symm
    subst e
    rw [TL.spl_nil] at h
    cases h
  | cons w ws => exact ⟨w, ws, rfl⟩
theorem joinL_len {s : Nat} : ∀ {ws : List (List Nat)}, ws.length ≤ (joinL [s] ws).length + 1 ∧ ∀ w ∈ ws, w.length ≤ (joinL [s] ws).length
  | [] => ⟨by simp, by simp⟩
  | [p] => ⟨by simp, by simp [joinL]⟩
  | p :: q :: r => by
    obtain ⟨h1, h2⟩ := joinL_len (s := s) (ws := q :: r)
    have e : (joinL [s] (p :: q :: r)).length = p.length + (1 + (joinL [s] (q :: r)).length) := by
      show (p ++ ([s] ++ joinL [s] (q :: r))).length = _
      simp
      omega
    refine ⟨by rw [e]; simp at h1 ⊢; omega, fun w hw => ?_⟩
    rw [e]
    rcases List.mem_cons.mp hw with rfl | hw
    · omega
    · have := h2 w hw; omega
theorem spl_len {s : Nat} (l : List Nat) : (spl [s] 0 [] l).length ≤ l.length + 1 ∧ ∀ w ∈ spl [s] 0 [] l, w.length ≤ l.length := by
  have h := joinL_len (s := s) (ws := spl [s] 0 [] l)
  rw [join_spl, List.nil_append] at h
  exact h
/-- x.partition(one sign) -/
def parN (s : Nat) (l : List Nat) : List Nat × List Nat × List Nat := match par [s] [] l with
  | some (a, b) => (a, [s], b)
  | none => (l, [], [])
theorem par_eq {s : Nat} : ∀ {l acc a b : List Nat}, par [s] acc l = some (a, b) → acc ++ l = a ++ ([s] ++ b)
  | [], acc, a, b, h => by cases h
  | c :: r, acc, a, b, h => by
    by_cases e : c = s
    · subst e
      rw [TL.par_hit (by simp [pre])] at h
      cases h
      simp
    · rw [TL.par_miss (by simp [pre, e])] at h
      have := par_eq h
      rw [← this]
      simp
theorem parN_eq {s : Nat} {l : List Nat} (h : (parN s l).2.2 ≠ []) : l = (parN s l).1 ++ ([s] ++ (parN s l).2.2) := by
  unfold parN at h ⊢
  cases hp : par [s] [] l with
  | none => rw [hp] at h; exact absurd rfl h
  | some q =>
    obtain ⟨a, b⟩ := q
    rw [hp] at h
    have := par_eq hp
    simpa using this
theorem parN_len {s : Nat} {l : List Nat} : (parN s l).1.length ≤ l.length ∧ (parN s l).2.2.length ≤ l.length := by
  unfold parN
  cases hp : par [s] [] l with
  | none => exact ⟨Nat.le_refl _, Nat.zero_le _⟩
  | some q =>
    obtain ⟨a, b⟩ := q
    have := congrArg List.length (par_eq hp)
    simp at this
    exact ⟨by show a.length ≤ _; omega, by show b.length ≤ _; omega⟩
theorem partition_parN (x y : Str) (s : Nat) (hy : tl y = [s]) : Txt.partition x y = (⟨(parN s (tl x)).1.toArray⟩, ⟨(parN s (tl x)).2.1.toArray⟩, ⟨(parN s (tl x)).2.2.toArray⟩) := by
  rw [TL.partition_par x y (by rw [hy]; simp), hy]
  unfold parN
  cases par [s] [] (tl x) with
  | none => rfl
  | some q =>
    have e : y = ⟨[s].toArray⟩ := TL.ext_tl hy
    rw [e]
/-! ### numbers -/
def isDg (c : Nat) : Bool := decide (48 ≤ c) && decide (c ≤ 57)
def figsN : List Nat → List Nat
  | 45 :: r => r
  | w => w
def okN (w : List Nat) : Bool := (decide (1 ≤ (figsN w).length) && decide ((figsN w).length ≤ 7)) && ((figsN w).all isDg && !(decide ((figsN w).head? = some 48) && !decide (w = [48])))
def valN : List Nat → Int
  | 45 :: r => -((digitsVal r : Nat) : Int)
  | w => ((digitsVal w : Nat) : Int)
def numN (w : List Nat) : Option Int := if okN w then some (valN w) else none
theorem all_dg {l : List Nat} : l.all isDg = true ↔ AllDigits l := by
  rw [List.all_eq_true]
  simp only [isDg, Bool.and_eq_true, decide_eq_true_iff]
  rfl
theorem digitsVal_snoc (u : List Nat) (c : Nat) : digitsVal (u ++ [c]) = digitsVal u * 10 + (c - 48) := by
  unfold NumText.digitsVal
  rw [List.foldl_append]
  rfl
theorem numL_back : ∀ (n : Nat) (u : List Nat), u.length = n → u ≠ [] → AllDigits u → (u.head? = some 48 → u = [48]) → numL (digitsVal u) = u
  | 0, u, h, hne, _, _ => absurd (List.eq_nil_of_length_eq_zero h) hne
  | n + 1, u, h, hne, hd, hz => by
    obtain ⟨v, c, rfl⟩ : ∃ v c, u = v ++ [c] := ⟨u.dropLast, u.getLast hne, (List.dropLast_concat_getLast hne).symm⟩
    have hc := hd c (by simp)
    rw [digitsVal_snoc]
    cases hv : v with
    | nil =>
      show numL (0 * 10 + (c - 48)) = [c]
      rw [TL.numL_lt (by omega)]
      congr 1
      omega
    | cons a q =>
      rw [← hv]
      have hvn : v ≠ [] := by rw [hv]; simp
      have hdv : AllDigits v := fun d hm => hd d (List.mem_append_left _ hm)
      have ha := hdv a (by rw [hv]; simp)
      have hz2 : v.head? = some 48 → v = [48] := fun e => by
        have := hz (by rw [hv] at e ⊢; simpa using e)
        have l := congrArg List.length this
        rw [hv] at l
        simp at l
      have ih := numL_back n v (by simp at h; exact h) hvn hdv hz2
      have ne0 : v.head? ≠ some 48 := fun e => by
        have := hz (by rw [hv] at e ⊢; simpa using e)
        have l := congrArg List.length this
        rw [hv] at l
        simp at l
      have big : 1 ≤ digitsVal v := by
        cases hq : digitsVal v with
        | zero =>
          rw [hq, TL.numL_lt (by decide)] at ih
          rw [← ih] at ne0
          exact absurd rfl ne0
        | succ k => omega
      rw [TL.numL_step (by omega)]
      have e1 : (digitsVal v * 10 + (c - 48)) / 10 = digitsVal v := by omega
      have e2 : 48 + (digitsVal v * 10 + (c - 48)) % 10 = c := by omega
      rw [e1, e2, ih]
/-- str(i) -/
def toS (i : Int) : List Nat := tl (Str.ofString (toString i))
theorem toS_nat (n : Nat) : toS (n : Int) = numL n := TL.tl_num n
theorem toS_neg {n : Nat} (h : n ≠ 0) : toS (-(n : Int)) = 45 :: numL n := by
  obtain ⟨m, rfl⟩ : ∃ m, n = m + 1 := ⟨n - 1, by omega⟩
  unfold toS
  rw [TL.tl_ofString]
  have e : (toString (-((m + 1 : Nat) : Int))) = "-" ++ toString (m + 1) := rfl
  rw [e, String.toList_append, List.map_append]
  have e2 := TL.tl_num (m + 1)
  rw [TL.tl_ofString] at e2
  have e3 : (toString (((m + 1 : Nat) : Int))) = toString (m + 1) := rfl
  rw [e3] at e2
  rw [e2]
  rfl
theorem okN_parts {w : List Nat} (h : okN w = true) : (1 ≤ (figsN w).length ∧ (figsN w).length ≤ 7) ∧ AllDigits (figsN w) ∧ ((figsN w).head? = some 48 → w = [48]) := by
  unfold okN at h
  rw [Bool.and_eq_true, Bool.and_eq_true, Bool.and_eq_true, decide_eq_true_iff, decide_eq_true_iff, all_dg] at h
  refine ⟨h.1, h.2.1, fun e => ?_⟩
  have := h.2.2
  rw [decide_eq_true e] at this
  simpa using this
theorem figs_cases (w : List Nat) : (∃ r, w = 45 :: r ∧ figsN w = r ∧ valN w = -((digitsVal r : Nat) : Int)) ∨ (figsN w = w ∧ valN w = ((digitsVal w : Nat) : Int) ∧ w.head? ≠ some 45) := by
  cases w with
  | nil => exact .inr ⟨rfl, rfl, by simp⟩
  | cons c r =>
    by_cases h : c = 45
    · subst h
      exact .inl ⟨r, rfl, rfl, rfl⟩
    · refine .inr ⟨?_, ?_, by simpa using h⟩
      · unfold figsN
        split
        · rename_i e; cases e; exact absurd rfl h
        · rfl
      · unfold valN
        split
        · rename_i e; cases e; exact absurd rfl h
        · rfl
theorem val_text {w : List Nat} (h : okN w = true) : toS (valN w) = w := by
  obtain ⟨⟨l1, l2⟩, hd, hz⟩ := okN_parts h
  rcases figs_cases w with ⟨r, rfl, e1, e2⟩ | ⟨e1, e2, _⟩
  · rw [e1] at l1 hd hz
    have hz2 : r.head? ≠ some 48 := fun e => by have := hz e; cases this
    have hr : r ≠ [] := fun z => by rw [z] at l1; simp at l1
    have b := numL_back r.length r rfl hr hd fun e => absurd e hz2
    have n0 : digitsVal r ≠ 0 := fun z => by
      rw [z, TL.numL_lt (by decide)] at b
      rw [← b] at hz2
      exact hz2 rfl
    rw [e2, toS_neg n0, b]
  · rw [e1] at l1 hd hz
    have hr : w ≠ [] := fun z => by rw [z] at l1; simp at l1
    rw [e2, toS_nat, numL_back w.length w rfl hr hd hz]
theorem val_int {x : Str} (h : okN (tl x) = true) : intText? x = some (valN (tl x)) ∧ x.length ≤ 8 := by
  obtain ⟨⟨l1, l2⟩, hd, hz⟩ := okN_parts h
  have hl := TL.len_tl x
  rcases figs_cases (tl x) with ⟨r, e0, e1, e2⟩ | ⟨e1, e2, _⟩
  · rw [e1] at l1 l2 hd
    have hlen : x.length = r.length + 1 := by rw [hl, e0]; simp
    have hr : r ≠ [] := fun z => by rw [z] at l1; simp at l1
    exact ⟨by rw [e2]; exact intText_neg e0 hd hr (by omega), by omega⟩
  · rw [e1] at l1 l2 hd
    have hr : tl x ≠ [] := fun z => by rw [z] at l1; simp at l1
    exact ⟨by rw [e2]; exact intText_digits hd hr (by omega), by omega⟩
theorem numN_text {w : List Nat} {n : Int} (h : numN w = some n) : toS n = w := by
  unfold numN at h
  split at h
  · rename_i ho
    cases h
    exact val_text ho
  · cases h
theorem numN_ne {w : List Nat} {n : Int} (h : numN w = some n) : w ≠ [] := fun z => by
  subst z
  cases h
/-! ### words, texts -/
def tieN (w : List Nat) : Option Tie := match numN (parN 62 (parN 58 w).1).1, numN (parN 62 (parN 58 w).1).2.2, numN (parN 58 w).2.2 with
  | some a, some b, some c => some (a, b, c)
  | _, _, _ => none
def tieW (t : Tie) : List Nat := toS t.1 ++ [62] ++ toS t.2.1 ++ [58] ++ toS t.2.2
theorem tieN_text {w : List Nat} {t : Tie} (h : tieN w = some t) : tieW t = w := by
  unfold tieN at h
  cases h1 : numN (parN 62 (parN 58 w).1).1 with
  | none => rw [h1] at h; cases h
  | some a =>
    cases h2 : numN (parN 62 (parN 58 w).1).2.2 with
    | none => rw [h1, h2] at h; cases h
    | some b =>
      cases h3 : numN (parN 58 w).2.2 with
      | none => rw [h1, h2, h3] at h; cases h
      | some c =>
        rw [h1, h2, h3] at h
        cases h
        have e1 := parN_eq (numN_ne h3)
        have e2 := parN_eq (numN_ne h2)
        unfold tieW
        rw [numN_text h1, numN_text h2, numN_text h3]
        conv => rhs; rw [e1, e2]
        simp
def allSome {α : Type} : List (Option α) → Option (List α)
  | [] => some []
  | none :: _ => none
  | some a :: r => (allSome r).map (a :: ·)
theorem allSome_map {α β : Type} {f : α → Option β} {g : β → α} (hf : ∀ a b, f a = some b → g b = a) : ∀ {l : List α} {m : List β}, allSome (l.map f) = some m → m.map g = l
  | [], m, h => by cases h; rfl
  | a :: l, m, h => by
    cases ha : f a with
    | none =>
      rw [List.map_cons, ha] at h
      cases h
    | some b =>
      rw [List.map_cons, ha] at h
      cases hr : allSome (l.map f) with
      | none =>
        have : (allSome (l.map f)).map (b :: ·) = some m := h
        rw [hr] at this
        cases this
      | some q =>
        have : (allSome (l.map f)).map (b :: ·) = some m := h
        rw [hr] at this
        cases this
        show g b :: q.map g = a :: l
        rw [hf a b ha, allSome_map hf hr]
theorem allSome_none {α : Type} : ∀ {l : List (Option α)}, none ∈ l → allSome l = none
  | o :: l, h => by
    cases o with
    | none => rfl
    | some a =>
      have : none ∈ l := by simpa using h
      show (allSome l).map (a :: ·) = none
      rw [allSome_none this]
      rfl
theorem allSome_some {α : Type} : ∀ {l : List (Option α)}, none ∉ l → ∃ m, allSome l = some m ∧ m.map some = l
  | [], _ => ⟨[], rfl, rfl⟩
  | o :: l, h => by
    cases o with
    | none => exact absurd List.mem_cons_self h
    | some a =>
      obtain ⟨m, h1, h2⟩ := allSome_some (l := l) fun z => h (List.mem_cons_of_mem _ z)
      refine ⟨a :: m, ?_, by rw [List.map_cons, h2]⟩
      show (allSome l).map (a :: ·) = _
      rw [h1]
      rfl
def tieOk (n : Int) (w : List Nat) : Option Tie := match tieN w with
  | some t => if okTie n t then some t else none
  | none => none
def rngN (n turn : Int) : Bool := decide (1 ≤ n ∧ n ≤ 1000000) && decide (0 ≤ turn ∧ turn ≤ 1000000)
/-- the web that a text writes -/
def dueN (t : List Nat) : Option (Int × List Tie × Int) := match spl [32] 0 [] t with
  | [] => none
  | w :: ws => match numN (parN 47 w).1, numN (parN 47 w).2.2 with
    | some n, some turn => if rngN n turn then (allSome (ws.map (tieOk n))).map fun ts => (n, ts, turn) else none
    | _, _ => none
def headW (n turn : Int) : List Nat := toS n ++ [47] ++ toS turn
def wrN (n turn : Int) (ts : List Tie) : List Nat := joinL [32] (headW n turn :: ts.map tieW)
theorem dueN_text {t : List Nat} {n turn : Int} {ts : List Tie} (h : dueN t = some (n, ts, turn)) : wrN n turn ts = t := by
  unfold dueN at h
  obtain ⟨w, ws, hs⟩ := spl_cons (s := 32) t
  rw [hs] at h
  dsimp only at h
  cases h1 : numN (parN 47 w).1 with
  | none => rw [h1] at h; cases h
  | some a =>
    cases h2 : numN (parN 47 w).2.2 with
    | none => rw [h1, h2] at h; cases h
    | some b =>
      rw [h1, h2] at h
      dsimp only at h
      split at h
      · cases ha : allSome (ws.map (tieOk a)) with
        | none => rw [ha] at h; cases h
        | some ts' =>
          rw [ha] at h
          cases h
          have e := allSome_map (f := tieOk n) (g := tieW) (fun w t hw => by
            unfold tieOk at hw
            cases ht : tieN w with
            | none => rw [ht] at hw; cases hw
            | some t' =>
              rw [ht] at hw
              dsimp only at hw
              split at hw
              · cases hw; exact tieN_text ht
              · cases hw) ha
          unfold wrN headW
          rw [e, numN_text h1, numN_text h2]
          have e1 := parN_eq (numN_ne h2)
          have : (parN 47 w).1 ++ [47] ++ (parN 47 w).2.2 = w := by
            conv => rhs; rw [e1]
            simp
          rw [this, ← hs, join_spl, List.nil_append]
      · cases h
theorem dueN_ok {t : List Nat} {n turn : Int} {ts : List Tie} (h : dueN t = some (n, ts, turn)) : rngN n turn = true ∧ (∀ t ∈ ts, okTie n t = true) ∧ ts.length ≤ t.length := by
  unfold dueN at h
  obtain ⟨w, ws, hs⟩ := spl_cons (s := 32) t
  have hl := (spl_len (s := 32) t).1
  rw [hs] at h hl
  dsimp only at h
  cases h1 : numN (parN 47 w).1 with
  | none => rw [h1] at h; cases h
  | some a =>
    cases h2 : numN (parN 47 w).2.2 with
    | none => rw [h1, h2] at h; cases h
    | some b =>
      rw [h1, h2] at h
      dsimp only at h
      split at h
      · rename_i hr
        cases ha : allSome (ws.map (tieOk a)) with
        | none => rw [ha] at h; cases h
        | some ts' =>
          rw [ha] at h
          cases h
          have e := allSome_map (f := tieOk n) (g := tieW) (fun w t hw => by
            unfold tieOk at hw
            cases ht : tieN w with
            | none => rw [ht] at hw; cases hw
            | some t' =>
              rw [ht] at hw
              dsimp only at hw
              split at hw
              · cases hw; exact tieN_text ht
              · cases hw) ha
          have el := congrArg List.length e
          rw [List.length_map] at el
          refine ⟨hr, ?_, by simp at hl; omega⟩
          have gen : ∀ (ws : List (List Nat)) (ts : List Tie), allSome (ws.map (tieOk n)) = some ts → ∀ t ∈ ts, okTie n t = true := by
            intro ws
            induction ws with
            | nil => intro ts h t ht; cases h; cases ht
            | cons w ws ih =>
              intro ts h t ht
              cases hw : tieOk n w with
              | none => rw [List.map_cons, hw] at h; cases h
              | some t0 =>
                rw [List.map_cons, hw] at h
                cases hr : allSome (ws.map (tieOk n)) with
                | none =>
                  have : (allSome (ws.map (tieOk n))).map (t0 :: ·) = some ts := h
                  rw [hr] at this
                  cases this
                | some q =>
                  have : (allSome (ws.map (tieOk n))).map (t0 :: ·) = some ts := h
                  rw [hr] at this
                  cases this
                  rcases List.mem_cons.mp ht with rfl | ht
                  · unfold tieOk at hw
                    cases hn : tieN w with
                    | none => rw [hn] at hw; cases hw
                    | some t' =>
                      rw [hn] at hw
                      dsimp only at hw
                      split at hw
                      · rename_i hk; cases hw; exact hk
                      · cases hw
                  · exact ih q hr t ht
          exact gen ws ts ha
      · cases h
/-! ### a text built up -/
theorem joinL_snoc {s : Nat} : ∀ {ws : List (List Nat)} {w : List Nat}, ws ≠ [] → joinL [s] (ws ++ [w]) = joinL [s] ws ++ ([s] ++ w)
  | [], _, h => absurd rfl h
  | [p], w, _ => rfl
  | p :: q :: r, w, _ => by
    show p ++ ([s] ++ joinL [s] ((q :: r) ++ [w])) = (p ++ ([s] ++ joinL [s] (q :: r))) ++ ([s] ++ w)
    rw [joinL_snoc (by simp)]
    simp
theorem tw_lt {p : Nat → Bool} : ∀ {l : List Nat}, (∃ c ∈ l, p c = false) → (l.takeWhile p).length < l.length
  | [], ⟨c, h, _⟩ => by cases h
  | a :: l, ⟨c, h, hc⟩ => by
    cases ha : p a with
    | false => rw [List.takeWhile_cons, ha]; simp
    | true =>
      rw [List.takeWhile_cons, ha]
      have : ∃ c ∈ l, p c = false := by
        rcases List.mem_cons.mp h with rfl | h
        · rw [ha] at hc; cases hc
        · exact ⟨c, h, hc⟩
      have := tw_lt this
      simp
      omega
theorem tw_all {p : Nat → Bool} : ∀ {l : List Nat}, l.all p = true → l.takeWhile p = l
  | [], _ => rfl
  | a :: l, h => by
    rw [List.all_cons, Bool.and_eq_true] at h
    rw [List.takeWhile_cons, h.1, tw_all h.2]
    rfl
theorem tw_next {p : Nat → Bool} : ∀ {l : List Nat}, (∃ c ∈ l, p c = false) → ∃ c r, l.drop (l.takeWhile p).length = c :: r ∧ p c = false
  | [], ⟨c, h, _⟩ => by cases h
  | a :: l, ⟨c, h, hc⟩ => by
    cases ha : p a with
    | false => exact ⟨a, l, by rw [List.takeWhile_cons, ha]; rfl, ha⟩
    | true =>
      rw [List.takeWhile_cons, ha]
      have : ∃ c ∈ l, p c = false := by
        rcases List.mem_cons.mp h with rfl | h
        · rw [ha] at hc; cases hc
        · exact ⟨c, h, hc⟩
      obtain ⟨c', r, e, hc'⟩ := tw_next this
      exact ⟨c', r, by simpa using e, hc'⟩
/-- x.strip(figures) == "" -/
theorem strip_nil {x y : Str} (hy : tl y = [48, 49, 50, 51, 52, 53, 54, 55, 56, 57]) : decide (Txt.stripChars x y = Str.empty) = (tl x).all isDg := by
  have hg : ∀ c, y.cps.contains c = isDg c := fun c => by
    have : y.cps.contains c = (tl y).contains c := by simp [Array.contains_toList]
    rw [this, hy]
    unfold isDg
    by_cases h : 48 ≤ c ∧ c ≤ 57
    · have : c = 48 ∨ c = 49 ∨ c = 50 ∨ c = 51 ∨ c = 52 ∨ c = 53 ∨ c = 54 ∨ c = 55 ∨ c = 56 ∨ c = 57 := by omega
      rcases this with rfl | rfl | rfl | rfl | rfl | rfl | rfl | rfl | rfl | rfl <;> rfl
    · have e : (decide (48 ≤ c) && decide (c ≤ 57)) = false := by
        rw [← Bool.not_eq_true, Bool.and_eq_true, decide_eq_true_iff, decide_eq_true_iff]
        exact h
      rw [e]
      simp
      omega
  have hgf : y.cps.contains = isDg := funext hg
  have key : tl (Txt.stripChars x y) = ((tl x).drop ((tl x).takeWhile isDg).length).take (x.length - (((tl x).drop ((tl x).takeWhile isDg).length).reverse.takeWhile isDg).length - ((tl x).takeWhile isDg).length) := by
    unfold Txt.stripChars
    rw [PyProof.Rows.stripBy_eq, TL.tl_strSub, hgf]
    rfl
  have hl := TL.len_tl x
  rw [Bool.eq_iff_iff, decide_eq_true_iff]
  refine ⟨fun h => ?_, fun h => TL.ext_tl ?_⟩
  · cases ha : (tl x).all isDg with
    | true => rfl
    | false =>
      have hex : ∃ c ∈ tl x, isDg c = false := by
        rw [List.all_eq_false] at ha
        obtain ⟨c, h1, h2⟩ := ha
        exact ⟨c, h1, by simpa using h2⟩
      obtain ⟨c, r, e, hc⟩ := tw_next hex
      rw [h, e] at key
      have k2 : (((c :: r).reverse).takeWhile isDg).length < (c :: r).length := by
        have := tw_lt (p := isDg) (l := (c :: r).reverse) ⟨c, by simp, hc⟩
        rwa [List.length_reverse] at this
      have l1 := tw_lt hex
      have l2 := congrArg List.length e
      rw [List.length_drop] at l2
      obtain ⟨m, hm⟩ : ∃ m, x.length - (((c :: r).reverse).takeWhile isDg).length - ((tl x).takeWhile isDg).length = m + 1 := ⟨x.length - (((c :: r).reverse).takeWhile isDg).length - ((tl x).takeWhile isDg).length - 1, by omega⟩
      rw [hm] at key
      cases key
  · rw [key, tw_all h, List.drop_length, List.take_nil]
    rfl
end G

/-! Texts: numbers, what is written. -/
namespace G
open PySem PySem.Spec PyProof.Rows L2
open Evl (Ex Ev EvL EvU EvT EvA EvO RV RetV)
open TL (tl spl par joinL numL)
local macro_rules | `(tactic| walk_at "hp") => `(tactic| first
  | with_reducible assumption
  | ((with_reducible show _ = some (_ : HO)); (with_reducible exact ex_app (by assumption) (by walk_at "hp")))
  | ((with_reducible show TupI _ _ _ _); (with_reducible exact TupI.mono (by assumption) (by walk_at "hp")))
  | ((with_reducible show LT _ _ _ _); (with_reducible exact LT.mono (by assumption) (by walk_at "hp")))
  | ((with_reducible show LI _ _ _ _); (first | (with_reducible exact li_of (by walk_at "hp")) | (with_reducible exact LI.mono (by assumption) (by walk_at "hp"))))
  | ((with_reducible show SqL _ _ _ _); (first | (with_reducible exact SqL.of (by walk_at "hp")) | (with_reducible exact Evl.ex_l (by assumption) (by walk_at "hp"))))
  | ((with_reducible show SqT _ _ _ _); (first | (with_reducible exact SqT.of (by walk_at "hp")) | (with_reducible exact Evl.ex_t (by assumption) (by walk_at "hp"))))
  | ((with_reducible show Rd _ _ _); (first | (with_reducible exact Rd.of (by walk_at "hp")) | (with_reducible exact Evl.ex_rd (by assumption) (by walk_at "hp"))))
  | walk_at "hpf")
local macro_rules | `(tactic| walk_at "at") => `(tactic| first
  | with_reducible assumption
  | with_reducible rfl
  | (refine atI_of ?va ?vb; (case va => omega); (case vb => assumption))
  | walk_at "atf"
  | rfl)
local macro_rules | `(tactic| walk_at "rv") => `(tactic| first
  | with_reducible exact rv_add | with_reducible exact rv_sub | with_reducible exact rv_eqI | with_reducible exact rv_neI | with_reducible exact rv_lt | with_reducible exact rv_le | with_reducible exact rv_gt | with_reducible exact rv_ge
  | with_reducible exact rv_eqB | with_reducible exact rv_neB | with_reducible exact rv_isB | with_reducible exact rv_notB
  | ((with_reducible refine rv_mod ?_); (first | assumption | omega))
  | ((with_reducible refine rv_mul ?_); (first | exact Or.inl ⟨by omega, by omega⟩ | exact Or.inr ⟨by omega, by omega⟩))
  | ((with_reducible refine rv_div ?_); exact ⟨by omega, by omega⟩))
local macro_rules | `(tactic| walk_at "ty") => `(tactic| first
  | with_reducible exact fun _ _ => .base (.int _) | with_reducible exact fun _ _ => .base (.bl _) | with_reducible exact fun _ _ => .base .non | with_reducible exact fun _ _ => .base (.str _)
  | ((with_reducible apply ty_tup); walk_at "hp")
  | ((with_reducible apply ty_lst); walk_at "hp")
  | walk_at "tyf")
local macro_rules | `(tactic| walk_at "ev") => `(tactic| repeat' (first
  | with_reducible exact Evl.ev_c
  | ((with_reducible apply Evl.ev_var); rfl)
  | with_reducible apply ev_neg
  | with_reducible apply ev_ixU
  | walk_at "evf"
  | ((with_reducible apply ev_lenI); (· walk_at "ev"); (· walk_at "hp"))
  | ((with_reducible apply ev_lenT); (· walk_at "ev"); (· walk_at "hp"))
  | ((with_reducible apply ev_lenU); (· walk_at "ev"))
  | with_reducible apply ev_lenSet
  | with_reducible apply ev_chain
  | with_reducible apply ev_isiTy
  | with_reducible apply Evl.ev_andV
  | with_reducible apply Evl.ev_orV
  | with_reducible apply Evl.ev_notV
  | ((with_reducible apply ev_ixI); (· walk_at "ev"); (· walk_at "ev"); (· walk_at "hp"); (· walk_at "at"))
  | with_reducible apply Evl.ev_op
  | ((with_reducible apply evi_of); (· (with_reducible apply Evl.ev_var); rfl); (· walk_at "hp"))
  | with_reducible apply ei_ix
  | with_reducible apply ei_tup
  | with_reducible exact eai_nil
  | with_reducible apply eai_cons
  | with_reducible exact Evl.ea_nil
  | with_reducible apply Evl.ea_cons
  | with_reducible apply Evl.et_test
  | with_reducible apply Evl.et_and
  | with_reducible apply Evl.et_or
  | with_reducible apply Evl.et_not
  | with_reducible apply Evl.et_B
  | walk_at "rv"
  | ((with_reducible show L2.kitB _ _ = _); rfl)
  | ((with_reducible show L2.atI _ _ = _); walk_at "at")
  | ((with_reducible show (_ : Nat) ≤ _); (first | omega | (simp; done) | (simp; omega)))
  | ((with_reducible show _ = true → _); intro _)
  | ((with_reducible show _ = false → _); intro _)
  | ((with_reducible show TupI _ _ _ _); walk_at "hp")
  | ((with_reducible show LT _ _ _ _); walk_at "hp")
  | ((with_reducible show LI _ _ _ _); walk_at "hp")
  | ((with_reducible show SqL _ _ _ _); walk_at "hp")
  | ((with_reducible show SqT _ _ _ _); walk_at "hp")
  | ((with_reducible show Rd _ _ _); walk_at "hp")
  | ((with_reducible show _ = some (_ : HO)); walk_at "hp")
  | walk_at "hpg"
  | walk_at "ty"))

local macro_rules | `(tactic| walk_at "hpf") => `(tactic| ((with_reducible show WebAt _ _ _ _ _ _); (with_reducible exact WebAt.mono (by assumption) (by walk_at "hp"))))
local macro_rules | `(tactic| walk_at "hpg") => `(tactic| ((with_reducible show WebAt _ _ _ _ _ _); walk_at "hp"))
local macro_rules | `(tactic| walk_at "evf") => `(tactic| with_reducible apply ev_points)
local macro_rules | `(tactic| walk_at "evf") => `(tactic| with_reducible apply ev_turn)
local macro_rules | `(tactic| walk_at "evf") => `(tactic| with_reducible apply ev_lenB)
local macro_rules | `(tactic| walk_at "evf") => `(tactic| with_reducible apply ei_bound)
local macro_rules | `(tactic| walk_at "evf") => `(tactic| with_reducible apply ev_is_whole)
local macro_rules | `(tactic| walk_at "evf") => `(tactic| with_reducible apply ev_is_below)
local macro_rules | `(tactic| walk_at "evf") => `(tactic| with_reducible apply ev_is_tie)
local macro_rules | `(tactic| walk_at "evf") => `(tactic| with_reducible apply ei_stepped)
variable {K : PySem.W.Frag} {σ : L2.St} {H H' H1 : Hp} {ta tb tc te td : TE} {t u : TT} {tl' : TA} {v x y z : V}
def mkS (l : List Nat) : Str := ⟨l.toArray⟩
theorem tl_mkS (l : List Nat) : tl (mkS l) = l := rfl
theorem mkS_tl (x : Str) : mkS (tl x) = x := TL.mk_tl x
theorem mkS_len (l : List Nat) : (mkS l).length = l.length := by rw [TL.len_tl]; rfl
theorem mkS_app (a b : List Nat) : mkS a ++ mkS b = mkS (a ++ b) := TL.ext_tl (by rw [TL.tl_append]; rfl)
theorem mkS_inj {a b : List Nat} : mkS a = mkS b ↔ a = b := ⟨fun h => congrArg tl h, fun h => by rw [h]⟩
theorem str_mk {x : Str} {l : List Nat} (h : tl x = l) : x = mkS l := TL.ext_tl h
theorem s_empty : ("" : Str) = mkS [] := TL.ext_tl (by decide +kernel)
theorem s_space : (" " : Str) = mkS [32] := TL.ext_tl (by decide +kernel)
theorem s_minus : ("-" : Str) = mkS [45] := TL.ext_tl (by decide +kernel)
theorem s_zero : ("0" : Str) = mkS [48] := TL.ext_tl (by decide +kernel)
theorem s_slash : ("/" : Str) = mkS [47] := TL.ext_tl (by decide +kernel)
theorem s_colon : (":" : Str) = mkS [58] := TL.ext_tl (by decide +kernel)
theorem s_arrow : (">" : Str) = mkS [62] := TL.ext_tl (by decide +kernel)
theorem s_figs : tl ("0123456789" : Str) = [48, 49, 50, 51, 52, 53, 54, 55, 56, 57] := by decide +kernel
/-! ### parts of a text -/
theorem cut_tail (x : Str) : tl (cutS x (some 1) none) = (tl x).drop 1 := by
  unfold cutS
  have h1 : HT.sIx x.length 0 (some 1) = min 1 x.length := rfl
  have h2 : HT.sIx x.length x.length none = x.length := rfl
  rw [h1, h2]
  show ((tl x).drop (min 1 x.length)).take (x.length - min 1 x.length) = _
  have hl := TL.len_tl x
  rw [List.take_of_length_le (by rw [List.length_drop]; omega)]
  cases hx : tl x with
  | nil => simp
  | cons c r =>
    have : min 1 x.length = 1 := by rw [hl, hx]; simp
    rw [this]
theorem cut_head (x : Str) : tl (cutS x none (some 1)) = (tl x).take 1 := by
  unfold cutS
  have h1 : HT.sIx x.length 0 none = 0 := rfl
  have h2 : HT.sIx x.length x.length (some 1) = min 1 x.length := rfl
  rw [h1, h2]
  show ((tl x).drop 0).take (min 1 x.length - 0) = _
  have hl := TL.len_tl x
  cases hx : tl x with
  | nil => simp
  | cons c r =>
    have : min 1 x.length = 1 := by rw [hl, hx]; simp
    rw [this]
    rfl
theorem head_minus (x : Str) : decide (cutS x none (some 1) = ("-" : Str)) = decide ((tl x).head? = some 45) := by
  rw [s_minus, decide_eq_decide]
  have h := cut_head x
  constructor
  · intro z
    rw [z] at h
    cases hx : tl x with
    | nil => rw [hx] at h; cases h
    | cons c r =>
      rw [hx] at h
      have : [45] = [c] := h
      cases this
      rfl
  · intro z
    refine TL.ext_tl ?_
    rw [h]
    cases hx : tl x with
    | nil => rw [hx] at z; cases z
    | cons c r =>
      rw [hx] at z
      cases z
      rfl
theorem starts_minus (x : Str) : Txt.startswith x ("-" : Str) = decide ((tl x).head? = some 45) := by
  unfold Txt.startswith
  rw [StrLaws.subAt_eq, s_minus]
  show (decide (0 + 1 ≤ x.length) && ((tl x).drop 0).take 1 == [45]) = _
  have hl := TL.len_tl x
  cases hx : tl x with
  | nil => rw [hl, hx]; rfl
  | cons c r =>
    rw [hl, hx]
    by_cases h : c = 45
    · subst h
      simp
    · simp [h]
theorem split_mk {x y : Str} {s : Nat} (hy : tl y = [s]) (hs : s < 256) : Txt.split x y = (spl [s] 0 [] (tl x)).map mkS := by
  refine TL.map_tl_inj ?_
  have hk : y.cps.all (· < 256) = true := by
    have e : y = ⟨#[s]⟩ := TL.ext_tl hy
    rw [e]
    simp [hs]
  rw [TL.split_spl x y (by rw [hy]; simp) (TL.kind_ok hk), hy, List.map_map]
  show _ = List.map (fun l => l) _
  rw [List.map_id']
abbrev strV (l : List Nat) : V := .str (mkS l)
theorem q_part {D : Ends} {tz : TS} {i j k : Nat} {x y : Str} {s : Nat} (ha : Ev ta σ H (.str x)) (hy : tl y = [s]) (hl : x.length ≤ 90000) (hk : ∀ H1, Ex H H1 → tz D (((σ.set i (some (strV (parN s (tl x)).1))).set j (some (strV (parN s (tl x)).2.1))).set k (some (strV (parN s (tl x)).2.2))) H1) :
    tSeq (tAsg (tM1 rPartn ta (tC (.str y))) (gTup K 3 (gCons (gName i) (gCons (gName j) (gCons (gName k) gNil))))) tz D σ H := by
  have hlen : (y.length == 0) = false := by rw [TL.len_tl, hy]; rfl
  refine q_unV3 (P := fun a b c _ => a = strV (parN s (tl x)).1 ∧ b = strV (parN s (tl x)).2.1 ∧ c = strV (parN s (tl x)).2.2) (fun H1 e Q q => eu_partn ha Evl.ev_c hlen hl H1 e _ fun p H2 hp e2 h2 => q _ H2 e2 ⟨p, _, _, _, rfl, SqT.of h2, ?_, ?_, ?_⟩) fun a b c H1 e1 ⟨h1, h2, h3⟩ => ?_
  · rw [partition_parN x y s hy]; rfl
  · rw [partition_parN x y s hy]; rfl
  · rw [partition_parN x y s hy]; rfl
  · subst h1 h2 h3
    exact hk H1 e1
/-! ### numbers -/
/-- the figures are wrong -/
theorem bad_figs {x f : Str} (hf : tl f = figsN (tl x)) :
    (!(decide ((1 : Int) ≤ (f.length : Int)) && decide ((f.length : Int) ≤ 7)) || (!decide (Txt.stripChars f ("0123456789" : Str) = Str.empty) || (decide ((figsN (tl x)).head? = some 48) && !decide (x = ("0" : Str))))) = !okN (tl x) := by
  have hl := TL.len_tl f
  rw [strip_nil s_figs, hf]
  unfold okN
  have e1 : decide ((1 : Int) ≤ (f.length : Int)) = decide (1 ≤ (figsN (tl x)).length) := decide_eq_decide.mpr (by rw [hl, hf]; omega)
  have e2 : decide ((f.length : Int) ≤ 7) = decide ((figsN (tl x)).length ≤ 7) := decide_eq_decide.mpr (by rw [hl, hf]; omega)
  have e3 : decide (x = ("0" : Str)) = decide (tl x = [48]) := decide_eq_decide.mpr ⟨fun z => by rw [z]; decide +kernel, fun z => by rw [s_zero]; exact str_mk z⟩
  rw [e1, e2, e3]
  generalize decide (1 ≤ (figsN (tl x)).length) = a
  generalize decide ((figsN (tl x)).length ≤ 7) = b
  generalize (figsN (tl x)).all isDg = c
  generalize decide ((figsN (tl x)).head? = some 48) = d
  generalize decide (tl x = [48]) = e
  cases a <;> cases b <;> cases c <;> cases d <;> cases e <;> rfl
theorem figs_tl {x f : Str} (h : f = if (tl x).head? = some 45 then cutS x (some 1) none else x) : tl f = figsN (tl x) := by
  subst h
  split
  · rename_i h
    rw [cut_tail]
    cases hx : tl x with
    | nil => rw [hx] at h; cases h
    | cons c r =>
      rw [hx] at h
      cases h
      rfl
  · rename_i h
    rcases figs_cases (tl x) with ⟨r, e0, _, _⟩ | ⟨e1, _, _⟩
    · rw [e0] at h
      exact absurd rfl h
    · exact e1.symm
theorem ev_fig0 {f : Str} {c : Nat} {r : List Nat} (ha : Ev ta σ H (.str f)) (hf : tl f = c :: r) (hl : f.length ≤ 90000) : Ev (tOp rEq (tOp rIxS ta (tC (.int 0))) (tC (.str "0"))) σ H (.bl (decide ((c :: r).head? = some 48))) := by
  refine Evl.ev_is (Evl.ev_op (Evl.ev_op ha Evl.ev_c (Evl.rv_ixS (c := c) (by omega) (atI_of (by decide) (by show (tl f)[0]? = some c; rw [hf]; rfl)))) Evl.ev_c rv_eqS) ?_
  refine congrArg V.bl (decide_eq_decide.mpr ?_)
  constructor
  · intro z
    have := congrArg tl z
    have e : [c] = [48] := this.trans (by decide +kernel)
    cases e
    rfl
  · intro z
    cases z
    exact TL.ext_tl (by decide +kernel)
def sp_number_inX (K : PySem.W.Frag) : Sp := fun vs H Q E => ∃ x : Str, vs = [.str x] ∧ x.length ≤ 90000 ∧ (∀ n, numN (tl x) = some n → RetV (.int n) H Q) ∧ (numN (tl x) = none → ∀ H', Ex H H' → E (.ref (ga K "BadText")) none H')
def optV : Option Int → V
  | none => .non
  | some i => .int i
def sp__law_number (K : PySem.W.Frag) : Sp := fun vs H Q _ => ∃ x : Str, vs = [.str x] ∧ x.length ≤ 90000 ∧ RetV (optV (numN (tl x))) H Q
theorem ev_law_number {x : Str} (h : Ev ta σ H (.str x)) (hl : x.length ≤ 90000) : Ev (tCall (sp__law_number K) [] E0 (tCons ta tNil)) σ H (optV (numN (tl x))) := ev_call (Evl.ea_cons h Evl.ea_nil) fun _ _ e k => ⟨x, rfl, hl, k⟩
def t_number_inX (K : PySem.W.Frag) (E : XK) : TS :=
 (tSeq (tAsg (tVar 0) (gName 1))
 (tSeq (tIfS (tB (tM1 rStarts (tVar 0) (tC (.str "-")))) (tAsg (tSl rSlS (tVar 0) (tPart (tC (.int 1))) tNoPart) (gName 1)) tNext)
 (tSeq (tIfS (tOr (tNot (tTest (tChain rLeI rLeI (tC (.int 1)) (tCB rLenStr (tCons (tVar 1) tNil)) (tC (.int 7))))) (tOr (tTest (tOp rNe (tM1 rStrip2 (tVar 1) (tC (.str "0123456789"))) (tC (.str "")))) (tAnd (tTest (tOp rEq (tOp rIxS (tVar 1) (tC (.int 0))) (tC (.str "0")))) (tTest (tOp rNe (tVar 0) (tC (.str "0"))))))) (tRaise (ga K "BadText") E) tNext)
 (tRet (tCB rIntS (tCons (tVar 0) tNil))))))
def t__law_number (K : PySem.W.Frag) : TS :=
 (tSeq (tAsg (tIf (tTest (tOp rEq (tSl rSlS (tVar 0) tNoPart (tPart (tC (.int 1)))) (tC (.str "-")))) (tSl rSlS (tVar 0) (tPart (tC (.int 1))) tNoPart) (tVar 0)) (gName 1))
 (tSeq (tIfS (tOr (tTest (tOp rEq (tVar 1) (tC (.str "")))) (tOr (tTest (tOp rGtI (tCB rLenStr (tCons (tVar 1) tNil)) (tC (.int 7)))) (tOr (tTest (tOp rNe (tM1 rStrip2 (tVar 1) (tC (.str "0123456789"))) (tC (.str "")))) (tAnd (tTest (tOp rEq (tOp rIxS (tVar 1) (tC (.int 0))) (tC (.str "0")))) (tTest (tOp rNe (tVar 0) (tC (.str "0")))))))) (tRet (tC .non)) tNext)
 (tRet (tCB rIntS (tCons (tVar 0) tNil)))))
theorem cut_len {x : Str} {lo hi : Option Int} (h : x.length ≤ 90000) : (cutS x lo hi).length ≤ 90000 := Nat.le_trans (cutS_length x lo hi) h
theorem rd_number_inX (vs : List V) (H : Hp) (Q : VK) (E : XK) (h : sp_number_inX K vs H Q E) : goal (t_number_inX K E) ["word", "figures"] vs H Q := by
  obtain ⟨x, rfl, hl, k1, k2⟩ := h
  refine Evl.q_asg (Evl.ev_var rfl) fun H1 e1 => ?_
  refine Evl.q_ifAsg (v := .str (if (tl x).head? = some 45 then cutS x (some 1) none else x)) (b := decide ((tl x).head? = some 45)) (Evl.et_is (Evl.et_B (ev_starts (Evl.ev_var rfl) Evl.ev_c)) (starts_minus x)) (fun hb => ?_) (fun hb => ?_) fun H2 e2 => ?_
  · rw [if_pos (of_decide_eq_true hb)]
    exact ev_slS (Evl.ev_var rfl) (Evl.eo_some Evl.ev_c) Evl.eo_none hl
  · rw [if_neg (of_decide_eq_false hb)]
    rfl
  have hf := figs_tl (x := x) rfl
  have hfl : (if (tl x).head? = some 45 then cutS x (some 1) none else x).length ≤ 90000 := by
    split
    · exact cut_len hl
    · exact hl
  generalize (if (tl x).head? = some 45 then cutS x (some 1) none else x) = f at hf hfl ⊢
  have e12 := e1.trans e2
  refine Evl.q_when (b := !okN (tl x)) (Evl.et_is (Evl.et_or (Evl.et_not (Evl.et_test (ev_chain Evl.ev_c (ev_lenStr (Evl.ev_var rfl) hfl) rv_le Evl.ev_c rv_le))) fun hb => Evl.et_or (Evl.et_test (Evl.ev_op (ev_strip2 (Evl.ev_var rfl) Evl.ev_c hfl) Evl.ev_c rv_neS)) fun _ => Evl.et_and (a := decide ((figsN (tl x)).head? = some 48)) (Evl.et_test ?_) fun _ => Evl.et_test (Evl.ev_op (Evl.ev_var rfl) Evl.ev_c rv_neS)) (bad_figs hf)) (fun hb H3 e3 => ?_) fun hb H3 e3 => ?_
  · have hlen : 1 ≤ f.length := by
      rw [Bool.not_eq_false', Bool.and_eq_true, decide_eq_true_iff, decide_eq_true_iff] at hb
      omega
    rw [TL.len_tl, hf] at hlen
    cases hfx : figsN (tl x) with
    | nil => rw [hfx] at hlen; simp at hlen
    | cons c r => exact ev_fig0 (Evl.ev_var rfl) (hf.trans hfx) hfl
  · have hn : numN (tl x) = none := by
      unfold numN
      have : okN (tl x) = false := by simpa using hb
      rw [this]
      rfl
    exact k2 hn H3 (e12.trans e3)
  · have ho : okN (tl x) = true := by simpa using hb
    have hn : numN (tl x) = some (valN (tl x)) := by unfold numN; rw [ho]; rfl
    obtain ⟨i1, i2⟩ := val_int ho
    exact Evl.s_ret (ev_intS (Evl.ev_var rfl) i1 (by omega)) fun H4 e4 => k1 _ hn H4 (e12.trans (e3.trans e4))
theorem rd__law_number (vs : List V) (H : Hp) (Q : VK) (E : XK) (h : sp__law_number K vs H Q E) : goal (t__law_number K) ["_law_text", "_law_figures"] vs H Q := by
  obtain ⟨x, rfl, hl, k⟩ := h
  refine Evl.q_asg (v := .str (if (tl x).head? = some 45 then cutS x (some 1) none else x)) (Evl.ev_if (b := decide ((tl x).head? = some 45)) (Evl.et_is (Evl.et_test (Evl.ev_op (ev_slS (Evl.ev_var rfl) Evl.eo_none (Evl.eo_some Evl.ev_c) hl) Evl.ev_c rv_eqS)) (head_minus x)) (fun hb => ?_) fun hb => ?_) fun H2 e2 => ?_
  · rw [if_pos (of_decide_eq_true hb)]
    exact ev_slS (Evl.ev_var rfl) (Evl.eo_some Evl.ev_c) Evl.eo_none hl
  · rw [if_neg (of_decide_eq_false hb)]
    exact Evl.ev_var rfl
  have hf := figs_tl (x := x) rfl
  have hfl : (if (tl x).head? = some 45 then cutS x (some 1) none else x).length ≤ 90000 := by
    split
    · exact cut_len hl
    · exact hl
  generalize (if (tl x).head? = some 45 then cutS x (some 1) none else x) = f at hf hfl ⊢
  have bad : (decide (f = ("" : Str)) || (decide ((f.length : Int) > 7) || (!decide (Txt.stripChars f ("0123456789" : Str) = ("" : Str)) || (decide ((figsN (tl x)).head? = some 48) && !decide (x = ("0" : Str)))))) = !okN (tl x) := by
    rw [← bad_figs hf]
    have hl2 := TL.len_tl f
    have e1 : decide (f = ("" : Str)) = !decide ((1 : Int) ≤ (f.length : Int)) := by
      rw [Bool.eq_iff_iff, Bool.not_eq_true', decide_eq_true_iff, decide_eq_false_iff_not]
      refine ⟨fun z => by rw [z]; decide +kernel, fun z => ?_⟩
      have : tl f = [] := List.eq_nil_of_length_eq_zero (by omega)
      rw [s_empty]
      exact str_mk this
    have e2 : decide ((f.length : Int) > 7) = !decide ((f.length : Int) ≤ 7) := by
      rw [Bool.eq_iff_iff, Bool.not_eq_true', decide_eq_true_iff, decide_eq_false_iff_not]
      omega
    have e3 : ("" : Str) = Str.empty := TL.ext_tl (by decide +kernel)
    rw [e1, e2, e3]
    generalize decide ((1 : Int) ≤ (f.length : Int)) = a
    generalize decide ((f.length : Int) ≤ 7) = b
    cases a <;> cases b <;> rfl
  refine Evl.q_when (b := !okN (tl x)) (Evl.et_is (Evl.et_or (Evl.et_test (Evl.ev_op (Evl.ev_var rfl) Evl.ev_c rv_eqS)) fun hb => Evl.et_or (Evl.et_test (Evl.ev_op (ev_lenStr (Evl.ev_var rfl) hfl) Evl.ev_c rv_gt)) fun _ => Evl.et_or (Evl.et_test (Evl.ev_op (ev_strip2 (Evl.ev_var rfl) Evl.ev_c hfl) Evl.ev_c rv_neS)) fun _ => Evl.et_and (a := decide ((figsN (tl x)).head? = some 48)) (Evl.et_test ?_) fun _ => Evl.et_test (Evl.ev_op (Evl.ev_var rfl) Evl.ev_c rv_neS)) bad) (fun hb H3 e3 => ?_) fun hb H3 e3 => ?_
  · have hne : f ≠ ("" : Str) := of_decide_eq_false hb
    cases hfx : figsN (tl x) with
    | nil => exact absurd (by rw [s_empty]; exact str_mk (hf.trans hfx)) hne
    | cons c r => exact ev_fig0 (Evl.ev_var rfl) (hf.trans hfx) hfl
  · have hn : numN (tl x) = none := by
      unfold numN
      have : okN (tl x) = false := by simpa using hb
      rw [this]
      rfl
    rw [hn] at k
    exact Evl.s_ret Evl.ev_c fun H4 e4 => k H4 (e2.trans (e3.trans e4))
  · have ho : okN (tl x) = true := by simpa using hb
    have hn : numN (tl x) = some (valN (tl x)) := by unfold numN; rw [ho]; rfl
    obtain ⟨i1, i2⟩ := val_int ho
    rw [hn] at k
    exact Evl.s_ret (ev_intS (Evl.ev_var rfl) i1 (by omega)) fun H4 e4 => k H4 (e2.trans (e3.trans e4))
end G

/-! Texts: written, read. -/
namespace G
open PySem PySem.Spec PyProof.Rows L2
open Evl (Ex Ev EvL EvU EvT EvA EvO RV RetV)
open TL (tl spl par joinL numL)
local macro_rules | `(tactic| walk_at "hp") => `(tactic| first
  | with_reducible assumption
  | ((with_reducible show _ = some (_ : HO)); (with_reducible exact ex_app (by assumption) (by walk_at "hp")))
  | ((with_reducible show TupI _ _ _ _); (with_reducible exact TupI.mono (by assumption) (by walk_at "hp")))
  | ((with_reducible show LT _ _ _ _); (with_reducible exact LT.mono (by assumption) (by walk_at "hp")))
  | ((with_reducible show LI _ _ _ _); (first | (with_reducible exact li_of (by walk_at "hp")) | (with_reducible exact LI.mono (by assumption) (by walk_at "hp"))))
  | ((with_reducible show SqL _ _ _ _); (first | (with_reducible exact SqL.of (by walk_at "hp")) | (with_reducible exact Evl.ex_l (by assumption) (by walk_at "hp"))))
  | ((with_reducible show SqT _ _ _ _); (first | (with_reducible exact SqT.of (by walk_at "hp")) | (with_reducible exact Evl.ex_t (by assumption) (by walk_at "hp"))))
  | ((with_reducible show Rd _ _ _); (first | (with_reducible exact Rd.of (by walk_at "hp")) | (with_reducible exact Evl.ex_rd (by assumption) (by walk_at "hp"))))
  | walk_at "hpf")
local macro_rules | `(tactic| walk_at "at") => `(tactic| first
  | with_reducible assumption
  | with_reducible rfl
  | (refine atI_of ?va ?vb; (case va => omega); (case vb => assumption))
  | walk_at "atf"
  | rfl)
local macro_rules | `(tactic| walk_at "rv") => `(tactic| first
  | with_reducible exact rv_add | with_reducible exact rv_sub | with_reducible exact rv_eqI | with_reducible exact rv_neI | with_reducible exact rv_lt | with_reducible exact rv_le | with_reducible exact rv_gt | with_reducible exact rv_ge
  | with_reducible exact rv_eqB | with_reducible exact rv_neB | with_reducible exact rv_isB | with_reducible exact rv_notB
  | ((with_reducible refine rv_mod ?_); (first | assumption | omega))
  | ((with_reducible refine rv_mul ?_); (first | exact Or.inl ⟨by omega, by omega⟩ | exact Or.inr ⟨by omega, by omega⟩))
  | ((with_reducible refine rv_div ?_); exact ⟨by omega, by omega⟩))
local macro_rules | `(tactic| walk_at "ty") => `(tactic| first
  | with_reducible exact fun _ _ => .base (.int _) | with_reducible exact fun _ _ => .base (.bl _) | with_reducible exact fun _ _ => .base .non | with_reducible exact fun _ _ => .base (.str _)
  | ((with_reducible apply ty_tup); walk_at "hp")
  | ((with_reducible apply ty_lst); walk_at "hp")
  | walk_at "tyf")
local macro_rules | `(tactic| walk_at "ev") => `(tactic| repeat' (first
  | with_reducible exact Evl.ev_c
  | ((with_reducible apply Evl.ev_var); rfl)
  | with_reducible apply ev_neg
  | with_reducible apply ev_ixU
  | walk_at "evf"
  | ((with_reducible apply ev_lenI); (· walk_at "ev"); (· walk_at "hp"))
  | ((with_reducible apply ev_lenT); (· walk_at "ev"); (· walk_at "hp"))
  | ((with_reducible apply ev_lenU); (· walk_at "ev"))
  | with_reducible apply ev_lenSet
  | with_reducible apply ev_chain
  | with_reducible apply ev_isiTy
  | with_reducible apply Evl.ev_andV
  | with_reducible apply Evl.ev_orV
  | with_reducible apply Evl.ev_notV
  | ((with_reducible apply ev_ixI); (· walk_at "ev"); (· walk_at "ev"); (· walk_at "hp"); (· walk_at "at"))
  | with_reducible apply Evl.ev_op
  | ((with_reducible apply evi_of); (· (with_reducible apply Evl.ev_var); rfl); (· walk_at "hp"))
  | with_reducible apply ei_ix
  | with_reducible apply ei_tup
  | with_reducible exact eai_nil
  | with_reducible apply eai_cons
  | with_reducible exact Evl.ea_nil
  | with_reducible apply Evl.ea_cons
  | with_reducible apply Evl.et_test
  | with_reducible apply Evl.et_and
  | with_reducible apply Evl.et_or
  | with_reducible apply Evl.et_not
  | with_reducible apply Evl.et_B
  | walk_at "rv"
  | ((with_reducible show L2.kitB _ _ = _); rfl)
  | ((with_reducible show L2.atI _ _ = _); walk_at "at")
  | ((with_reducible show (_ : Nat) ≤ _); (first | omega | (simp; done) | (simp; omega)))
  | ((with_reducible show _ = true → _); intro _)
  | ((with_reducible show _ = false → _); intro _)
  | ((with_reducible show TupI _ _ _ _); walk_at "hp")
  | ((with_reducible show LT _ _ _ _); walk_at "hp")
  | ((with_reducible show LI _ _ _ _); walk_at "hp")
  | ((with_reducible show SqL _ _ _ _); walk_at "hp")
  | ((with_reducible show SqT _ _ _ _); walk_at "hp")
  | ((with_reducible show Rd _ _ _); walk_at "hp")
  | ((with_reducible show _ = some (_ : HO)); walk_at "hp")
  | walk_at "hpg"
  | walk_at "ty"))

local macro_rules | `(tactic| walk_at "hpf") => `(tactic| ((with_reducible show WebAt _ _ _ _ _ _); (with_reducible exact WebAt.mono (by assumption) (by walk_at "hp"))))
local macro_rules | `(tactic| walk_at "hpg") => `(tactic| ((with_reducible show WebAt _ _ _ _ _ _); walk_at "hp"))
local macro_rules | `(tactic| walk_at "evf") => `(tactic| with_reducible apply ev_points)
local macro_rules | `(tactic| walk_at "evf") => `(tactic| with_reducible apply ev_turn)
local macro_rules | `(tactic| walk_at "evf") => `(tactic| with_reducible apply ev_lenB)
local macro_rules | `(tactic| walk_at "evf") => `(tactic| with_reducible apply ei_bound)
local macro_rules | `(tactic| walk_at "evf") => `(tactic| with_reducible apply ev_is_whole)
local macro_rules | `(tactic| walk_at "evf") => `(tactic| with_reducible apply ev_is_below)
local macro_rules | `(tactic| walk_at "evf") => `(tactic| with_reducible apply ev_is_tie)
local macro_rules | `(tactic| walk_at "evf") => `(tactic| with_reducible apply ei_stepped)
variable {K : PySem.W.Frag} {σ : L2.St} {H H' H1 : Hp} {ta tb tc te td : TE} {t u : TT} {tl' : TA} {v x y z : V}
/-! ### str -/
theorem toS_len {i : Int} (h : -1000000 ≤ i ∧ i ≤ 1000000) : (toS i).length ≤ 8 := by
  rcases Int.lt_or_le i 0 with c | c
  · obtain ⟨m, rfl⟩ : ∃ m : Nat, i = -(m : Int) := ⟨i.natAbs, by omega⟩
    rw [toS_neg (by omega)]
    have := TL.numL_len (n := m) (k := 7) (by decide) (by omega)
    simp
    omega
  · obtain ⟨m, rfl⟩ := Int.eq_ofNat_of_zero_le c
    rw [toS_nat]
    have := TL.numL_len (n := m) (k := 7) (by decide) (by omega)
    omega
theorem log_small {i : Int} (h : -1000000 ≤ i ∧ i ≤ 1000000) : i.natAbs.log2 < 1920 := by
  by_cases c : i.natAbs = 0
  · rw [c]; decide
  · exact (Nat.log2_lt c).mpr (Nat.lt_of_lt_of_le (show i.natAbs < 2 ^ 20 by omega) (Nat.pow_le_pow_right (by decide) (by decide)))
theorem ev_toS {i : Int} (ha : Ev ta σ H (.int i)) (h : -1000000 ≤ i ∧ i ≤ 1000000) : Ev (tCB rStrI (tCons ta tNil)) σ H (strV (toS i)) := by
  have e := ev_strI ha (log_small h)
  rwa [show Str.ofString (toString i) = mkS (toS i) from (mkS_tl _).symm] at e
theorem ev_cS {s : Str} {l : List Nat} (h : s = mkS l) : Ev (tC (.str s)) σ H (strV l) := by
  subst h
  exact Evl.ev_c
theorem ev_cat {a b : List Nat} (h1 : Ev ta σ H (strV a)) (h2 : Ev tb σ H (strV b)) (hl : a.length + b.length ≤ 90000) : Ev (tOp rCatS ta tb) σ H (strV (a ++ b)) := by
  have e := Evl.ev_op h1 h2 (rv_catS (a := mkS a) (b := mkS b) (by rw [mkS_len, mkS_len]; exact hl))
  rwa [mkS_app] at e
theorem headW_len {n turn : Int} (h1 : -1000000 ≤ n ∧ n ≤ 1000000) (h2 : -1000000 ≤ turn ∧ turn ≤ 1000000) : (headW n turn).length ≤ 30 := by
  have := toS_len h1
  have := toS_len h2
  unfold headW
  simp
  omega
theorem tieW_len {t : Tie} (h1 : -1000000 ≤ t.1 ∧ t.1 ≤ 1000000) (h2 : -1000000 ≤ t.2.1 ∧ t.2.1 ≤ 1000000) (h3 : -1000000 ≤ t.2.2 ∧ t.2.2 ≤ 1000000) : (tieW t).length ≤ 30 := by
  have := toS_len h1
  have := toS_len h2
  have := toS_len h3
  unfold tieW
  simp
  omega
theorem ok_small {n turn : Int} {ts : List Tie} (ok : okWeb n ts turn) : ∀ t ∈ ts, (-1000000 ≤ t.1 ∧ t.1 ≤ 1000000) ∧ (-1000000 ≤ t.2.1 ∧ t.2.1 ≤ 1000000) ∧ (-1000000 ≤ t.2.2 ∧ t.2.2 ≤ 1000000) := fun t ht => by
  have h := of_decide_eq_true (ok.2.2.2.2.1 t ht)
  have := ok.2.1
  omega
/-- a / b of a head -/
theorem ev_headW {n turn : Int} (h1 : Ev ta σ H (.int n)) (h2 : Ev tb σ H (.int turn)) (b1 : -1000000 ≤ n ∧ n ≤ 1000000) (b2 : -1000000 ≤ turn ∧ turn ≤ 1000000) :
    Ev (tOp rCatS (tOp rCatS (tCB rStrI (tCons ta tNil)) (tC (.str "/"))) (tCB rStrI (tCons tb tNil))) σ H (strV (headW n turn)) := by
  have l1 := toS_len b1
  have l2 := toS_len b2
  exact ev_cat (ev_cat (ev_toS h1 b1) (ev_cS s_slash) (by show _ + 1 ≤ _; omega)) (ev_toS h2 b2) (by rw [List.length_append]; show _ + 1 + _ ≤ _; omega)
theorem sum_le {m : Nat} : ∀ {l : List Nat}, (∀ x ∈ l, x ≤ m) → l.sum ≤ l.length * m
  | [], _ => by simp
  | a :: l, h => by
    have h1 := sum_le (m := m) (l := l) fun x hx => h x (List.mem_cons_of_mem _ hx)
    have h2 := h a List.mem_cons_self
    rw [List.sum_cons, List.length_cons, Nat.succ_mul]
    omega
theorem g_tup3 {i j l : Nat} {a b c : Int} {k : L2.St → Hp → Prop} (hx : TupI K H x [a, b, c]) (h : k (((σ.set i (some (.int a))).set j (some (.int b))).set l (some (.int c))) H) : gTup K 3 (gCons (gName i) (gCons (gName j) (gCons (gName l) gNil))) x σ H k := by
  obtain ⟨p, rfl, hp⟩ := hx
  exact ⟨p, _, rfl, hp, rfl, _, _, rfl, _, _, rfl, _, _, rfl, rfl, h⟩
def sp_written (K : PySem.W.Frag) : Sp := fun vs H Q _ => ∃ (w : Addr) (n turn : Int) (ts : List Tie), vs = [.ref w] ∧ WebAt K H w n ts turn ∧ okWeb n ts turn ∧ RetV (strV (wrN n turn ts)) H Q
theorem ev_writtenP {n turn : Int} {ts : List Tie} (h : EvP te σ H (fun v H2 => ∃ w, v = .ref w ∧ WebAt K H2 w n ts turn)) (ok : okWeb n ts turn) : Ev (tCall (sp_written K) [] E0 (tCons te tNil)) σ H (strV (wrN n turn ts)) := fun H1 e Q q =>
  h H1 e _ fun v H2 e2 ⟨w, ev, hw⟩ => ⟨w, n, turn, ts, by rw [ev]; rfl, hw, ok, fun H3 e3 => q H3 (e2.trans e3)⟩
def t_written (K : PySem.W.Frag) : TS :=
 (tSeq (tAsg (tLst (tCons (tOp rCatS (tOp rCatS (tCB rStrI (tCons (tFld K (tVar 0) "points") tNil)) (tC (.str "/"))) (tCB rStrI (tCons (tFld K (tVar 0) "turn") tNil))) tNil)) (gName 1))
 (tSeq (tFor (iList K (tFld K (tVar 0) "bound")) (gTup K 3 (gCons (gName 2) (gCons (gName 3) (gCons (gName 4) gNil)))) (tDrop (tBM K "list" rAppend (tVar 1) (tCons (tOp rCatS (tOp rCatS (tOp rCatS (tOp rCatS (tCB rStrI (tCons (tVar 2) tNil)) (tC (.str ">"))) (tCB rStrI (tCons (tVar 3) tNil))) (tC (.str ":"))) (tCB rStrI (tCons (tVar 4) tNil))) tNil))))
 (tRet (tM1 (rJoin K) (tC (.str " ")) (tVar 1)))))
theorem rd_written (vs : List V) (H : Hp) (Q : VK) (E : XK) (h : sp_written K vs H Q E) : goal (t_written K) ["web", "found", "one", "other", "number"] vs H Q := by
  obtain ⟨w, n, turn, ts, rfl, hw, ok, k⟩ := h
  have sm := ok_small ok
  obtain ⟨o1, o2, o3, o4, o5, o6⟩ := ok
  refine Evl.q_asgL (xs := [strV (headW n turn)]) (Evl.el_lst (Evl.ea_cons (ev_headW (ev_points (Evl.ev_var rfl) hw) (ev_turn (Evl.ev_var rfl) hw) (by omega) (by omega)) Evl.ea_nil) (by show 1 ≤ 100000; decide)) fun l H1 fl e1 h1 => ?_
  obtain ⟨bl, ⟨us, hq, hT⟩, hbe⟩ := hw.bound
  have hul : us.length = ts.length := by rw [hT.length, List.length_map]
  refine q_seq (f_list (a := bl) (xs := us) ((hbe (Evl.ev_var rfl)).mono e1) (Evl.ex_l e1 hq)
    (fun i σ' H' => ∃ (o2 o3 o4 : Option V), σ' = [some (.ref w), some (.ref l), o2, o3, o4] ∧ Ex H H' ∧ H' l = some (.lst ((headW n turn :: (ts.take i).map tieW).map strV)))
    (fun H2 e2 => ⟨_, _, _, rfl, e1.trans e2, e2 _ _ h1⟩) (fun i σ' H' _ ⟨_, _, _, _, e, _⟩ => Evl.ex_l e hq) ?_ ?_)
  · rintro i x σ' H' hxi ⟨o2, o3, o4, rfl, e, hl⟩
    obtain ⟨u, hu, tu⟩ := (hT.mono e).getV hxi
    rw [List.getElem?_map] at hu
    cases hti : ts[i]? with
    | none => rw [hti] at hu; cases hu
    | some t =>
      rw [hti] at hu
      cases hu
      obtain ⟨b1, b2, b3⟩ := sm t (List.mem_of_getElem? hti)
      have l1 := toS_len b1
      have l2 := toS_len b2
      have l3 := toS_len b3
      refine g_tup3 (a := t.1) (b := t.2.1) (c := t.2.2) tu ?_
      have ev : Ev (tOp rCatS (tOp rCatS (tOp rCatS (tOp rCatS (tCB rStrI (tCons (tVar 2) tNil)) (tC (.str ">"))) (tCB rStrI (tCons (tVar 3) tNil))) (tC (.str ":"))) (tCB rStrI (tCons (tVar 4) tNil))) [some (.ref w), some (.ref l), some (.int t.1), some (.int t.2.1), some (.int t.2.2)] H' (strV (tieW t)) :=
        ev_cat (ev_cat (ev_cat (ev_cat (ev_toS (Evl.ev_var rfl) b1) (ev_cS s_arrow) (by show _ + 1 ≤ _; omega)) (ev_toS (Evl.ev_var rfl) b2) (by simp; omega)) (ev_cS s_colon) (by simp; omega)) (ev_toS (Evl.ev_var rfl) b3) (by simp; omega)
      have hil : i < ts.length := (List.getElem?_eq_some_iff.mp hti).1
      refine Evl.s_app (l := l) (v := strV (tieW t)) hl (Evl.ev_var rfl) ev (by simp; omega) fun H2 e2 => ⟨_, _, _, rfl, (e.trans e2).mut fl, ?_⟩
      rw [upd_same, List.take_add_one, hti]
      simp
  · rintro σ' H' ⟨o2, o3, o4, rfl, e, hl⟩
    rw [hul, List.take_length] at hl
    refine Evl.s_ret (v := strV (wrN n turn ts)) (Evl.ev_is (ev_join (K := K) (a := " ") (ys := (headW n turn :: ts.map tieW).map mkS) Evl.ev_c (Ev.toP (Evl.ev_var rfl) fun H2 e2 => ⟨l, rfl, SqL.of (by rw [List.map_map]; exact e2 _ _ hl)⟩) ?_) ?_) fun H2 e2 => k H2 (e.trans e2)
    · have h1 := sum_le (m := 30) (l := (((headW n turn :: ts.map tieW).map mkS).map (·.length))) fun x hx => by
        rw [List.map_map] at hx
        obtain ⟨p, hp, rfl⟩ := List.mem_map.mp hx
        show (mkS p).length ≤ 30
        rw [mkS_len]
        rcases List.mem_cons.mp hp with rfl | hp
        · exact headW_len (by omega) (by omega)
        · obtain ⟨t, ht, rfl⟩ := List.mem_map.mp hp
          obtain ⟨b1, b2, b3⟩ := sm t ht
          exact tieW_len b1 b2 b3
      simp only [List.length_map, List.length_cons] at h1 ⊢
      have : (" " : Str).length = 1 := by decide +kernel
      rw [this]
      omega
    · congr 1
      refine TL.ext_tl ?_
      rw [TL.join_eq, TL.tl_join, List.map_map]
      have e1 : tl (" " : Str) = [32] := by decide +kernel
      rw [e1]
      show joinL [32] (List.map (fun l => l) _) = _
      rw [List.map_id']
      rfl
end G

/-! Texts: read. -/
namespace G
open PySem PySem.Spec PyProof.Rows L2
open Evl (Ex Ev EvL EvU EvT EvA EvO RV RetV)
open TL (tl spl par joinL numL)
local macro_rules | `(tactic| walk_at "hp") => `(tactic| first
  | with_reducible assumption
  | ((with_reducible show _ = some (_ : HO)); (with_reducible exact ex_app (by assumption) (by walk_at "hp")))
  | ((with_reducible show TupI _ _ _ _); (with_reducible exact TupI.mono (by assumption) (by walk_at "hp")))
  | ((with_reducible show LT _ _ _ _); (with_reducible exact LT.mono (by assumption) (by walk_at "hp")))
  | ((with_reducible show LI _ _ _ _); (first | (with_reducible exact li_of (by walk_at "hp")) | (with_reducible exact LI.mono (by assumption) (by walk_at "hp"))))
  | ((with_reducible show SqL _ _ _ _); (first | (with_reducible exact SqL.of (by walk_at "hp")) | (with_reducible exact Evl.ex_l (by assumption) (by walk_at "hp"))))
  | ((with_reducible show SqT _ _ _ _); (first | (with_reducible exact SqT.of (by walk_at "hp")) | (with_reducible exact Evl.ex_t (by assumption) (by walk_at "hp"))))
  | ((with_reducible show Rd _ _ _); (first | (with_reducible exact Rd.of (by walk_at "hp")) | (with_reducible exact Evl.ex_rd (by assumption) (by walk_at "hp"))))
  | walk_at "hpf")
local macro_rules | `(tactic| walk_at "at") => `(tactic| first
  | with_reducible assumption
  | with_reducible rfl
  | (refine atI_of ?va ?vb; (case va => omega); (case vb => assumption))
  | walk_at "atf"
  | rfl)
local macro_rules | `(tactic| walk_at "rv") => `(tactic| first
  | with_reducible exact rv_add | with_reducible exact rv_sub | with_reducible exact rv_eqI | with_reducible exact rv_neI | with_reducible exact rv_lt | with_reducible exact rv_le | with_reducible exact rv_gt | with_reducible exact rv_ge
  | with_reducible exact rv_eqB | with_reducible exact rv_neB | with_reducible exact rv_isB | with_reducible exact rv_notB
  | ((with_reducible refine rv_mod ?_); (first | assumption | omega))
  | ((with_reducible refine rv_mul ?_); (first | exact Or.inl ⟨by omega, by omega⟩ | exact Or.inr ⟨by omega, by omega⟩))
  | ((with_reducible refine rv_div ?_); exact ⟨by omega, by omega⟩))
local macro_rules | `(tactic| walk_at "ty") => `(tactic| first
  | with_reducible exact fun _ _ => .base (.int _) | with_reducible exact fun _ _ => .base (.bl _) | with_reducible exact fun _ _ => .base .non | with_reducible exact fun _ _ => .base (.str _)
  | ((with_reducible apply ty_tup); walk_at "hp")
  | ((with_reducible apply ty_lst); walk_at "hp")
  | walk_at "tyf")
local macro_rules | `(tactic| walk_at "ev") => `(tactic| repeat' (first
  | with_reducible exact Evl.ev_c
  | ((with_reducible apply Evl.ev_var); rfl)
  | with_reducible apply ev_neg
  | with_reducible apply ev_ixU
  | walk_at "evf"
  | ((with_reducible apply ev_lenI); (· walk_at "ev"); (· walk_at "hp"))
  | ((with_reducible apply ev_lenT); (· walk_at "ev"); (· walk_at "hp"))
  | ((with_reducible apply ev_lenU); (· walk_at "ev"))
  | with_reducible apply ev_lenSet
  | with_reducible apply ev_chain
  | with_reducible apply ev_isiTy
  | with_reducible apply Evl.ev_andV
  | with_reducible apply Evl.ev_orV
  | with_reducible apply Evl.ev_notV
  | ((with_reducible apply ev_ixI); (· walk_at "ev"); (· walk_at "ev"); (· walk_at "hp"); (· walk_at "at"))
  | with_reducible apply Evl.ev_op
  | ((with_reducible apply evi_of); (· (with_reducible apply Evl.ev_var); rfl); (· walk_at "hp"))
  | with_reducible apply ei_ix
  | with_reducible apply ei_tup
  | with_reducible exact eai_nil
  | with_reducible apply eai_cons
  | with_reducible exact Evl.ea_nil
  | with_reducible apply Evl.ea_cons
  | with_reducible apply Evl.et_test
  | with_reducible apply Evl.et_and
  | with_reducible apply Evl.et_or
  | with_reducible apply Evl.et_not
  | with_reducible apply Evl.et_B
  | walk_at "rv"
  | ((with_reducible show L2.kitB _ _ = _); rfl)
  | ((with_reducible show L2.atI _ _ = _); walk_at "at")
  | ((with_reducible show (_ : Nat) ≤ _); (first | omega | (simp; done) | (simp; omega)))
  | ((with_reducible show _ = true → _); intro _)
  | ((with_reducible show _ = false → _); intro _)
  | ((with_reducible show TupI _ _ _ _); walk_at "hp")
  | ((with_reducible show LT _ _ _ _); walk_at "hp")
  | ((with_reducible show LI _ _ _ _); walk_at "hp")
  | ((with_reducible show SqL _ _ _ _); walk_at "hp")
  | ((with_reducible show SqT _ _ _ _); walk_at "hp")
  | ((with_reducible show Rd _ _ _); walk_at "hp")
  | ((with_reducible show _ = some (_ : HO)); walk_at "hp")
  | walk_at "hpg"
  | walk_at "ty"))

local macro_rules | `(tactic| walk_at "hpf") => `(tactic| ((with_reducible show WebAt _ _ _ _ _ _); (with_reducible exact WebAt.mono (by assumption) (by walk_at "hp"))))
local macro_rules | `(tactic| walk_at "hpg") => `(tactic| ((with_reducible show WebAt _ _ _ _ _ _); walk_at "hp"))
local macro_rules | `(tactic| walk_at "evf") => `(tactic| with_reducible apply ev_points)
local macro_rules | `(tactic| walk_at "evf") => `(tactic| with_reducible apply ev_turn)
local macro_rules | `(tactic| walk_at "evf") => `(tactic| with_reducible apply ev_lenB)
local macro_rules | `(tactic| walk_at "evf") => `(tactic| with_reducible apply ei_bound)
local macro_rules | `(tactic| walk_at "evf") => `(tactic| with_reducible apply ev_is_whole)
local macro_rules | `(tactic| walk_at "evf") => `(tactic| with_reducible apply ev_is_below)
local macro_rules | `(tactic| walk_at "evf") => `(tactic| with_reducible apply ev_is_tie)
local macro_rules | `(tactic| walk_at "evf") => `(tactic| with_reducible apply ei_stepped)
variable {K : PySem.W.Frag} {σ : L2.St} {H H' H1 : Hp} {ta tb tc te td : TE} {t u : TT} {tl' : TA} {v x y z : V}
/-! ### plain: what is due -/
theorem due_head {t w : List Nat} {ws : List (List Nat)} (hs : spl [32] 0 [] t = w :: ws) (h : numN (parN 47 w).1 = none ∨ numN (parN 47 w).2.2 = none) : dueN t = none := by
  unfold dueN
  rw [hs]
  dsimp only
  cases h1 : numN (parN 47 w).1 with
  | none => rfl
  | some a =>
    cases h2 : numN (parN 47 w).2.2 with
    | none => rfl
    | some b =>
      rw [h1, h2] at h
      rcases h with h | h <;> cases h
theorem due_tie {t w : List Nat} {ws : List (List Nat)} (hs : spl [32] 0 [] t = w :: ws) {w' : List Nat} (hw : w' ∈ ws) (h : tieN w' = none) : dueN t = none := by
  unfold dueN
  rw [hs]
  dsimp only
  cases h1 : numN (parN 47 w).1 with
  | none => rfl
  | some a =>
    cases h2 : numN (parN 47 w).2.2 with
    | none => rfl
    | some b =>
      dsimp only
      have : allSome (ws.map (tieOk a)) = none := allSome_none (List.mem_map.mpr ⟨w', hw, by unfold tieOk; rw [h]⟩)
      rw [this]
      split <;> rfl
def okB (n turn : Int) (ts : List Tie) : Bool := rngN n turn && ts.all (okTie n)
theorem okB_rng {n turn : Int} {ts : List Tie} (h : rngN n turn = false) : okB n turn ts = false := by
  unfold okB
  rw [h]
  rfl
theorem okB_all {n turn : Int} {ts : List Tie} (h : ts.all (okTie n) = false) : okB n turn ts = false := by
  unfold okB
  rw [h, Bool.and_false]
theorem allSome_ok {n : Int} : ∀ {ws : List (List Nat)} {ts : List Tie}, ws.map tieN = ts.map some → allSome (ws.map (tieOk n)) = if ts.all (okTie n) then some ts else none
  | [], [], _ => rfl
  | [], _ :: _, h => by cases h
  | _ :: _, [], h => by cases h
  | w :: ws, t :: ts, h => by
    rw [List.map_cons, List.map_cons] at h
    have h1 : tieN w = some t := by injection h
    have h2 : ws.map tieN = ts.map some := by injection h
    have ih := allSome_ok (n := n) h2
    have e : tieOk n w = if okTie n t then some t else none := by unfold tieOk; rw [h1]
    rw [List.map_cons, e, List.all_cons]
    cases okTie n t with
    | false => rfl
    | true =>
      show (allSome (ws.map (tieOk n))).map (t :: ·) = _
      rw [ih]
      cases ts.all (okTie n) <;> rfl
theorem due_eq {t w : List Nat} {ws : List (List Nat)} {n turn : Int} {ts : List Tie} (hs : spl [32] 0 [] t = w :: ws) (h1 : numN (parN 47 w).1 = some n) (h2 : numN (parN 47 w).2.2 = some turn) (h3 : ws.map tieN = ts.map some) :
    dueN t = if okB n turn ts then some (n, ts, turn) else none := by
  unfold dueN
  rw [hs]
  dsimp only
  rw [h1, h2]
  dsimp only
  rw [allSome_ok h3]
  unfold okB
  cases rngN n turn <;> cases ts.all (okTie n) <;> rfl
/-! ### a web that may be none -/
def sp_Web_initX (K : PySem.W.Frag) : Sp := fun vs H Q E => ∃ (p l dx : Addr) (n turn : Int) (ts : List Tie), vs = [.ref p, .int n, .ref l, .int turn] ∧ WebTop K ∧ H p = some (.ins (ga K "Web") dx []) ∧ LTie K H l ts ∧ ts.length ≤ 5000 ∧
  (okB n turn ts = true → ∀ H' l2, ExBut p H H' → H l2 = none → WebAtL K H' p n ts turn l2 → Q .non H') ∧ (okB n turn ts = false → ∀ H', Ex H H' → E (.ref (ga K "BadWeb")) none H')
def t_Web_initX (K : PySem.W.Frag) (E : XK) : TS :=
 (tSeq (tIfS (tOr (tNot (tB (tCall (sp_is_below K) [] E0 (tCons (tVar 1) (tCons (tOp rAddI (tC (.int 1000000)) (tC (.int 1))) tNil))))) (tOr (tTest (tOp rLtI (tVar 1) (tC (.int 1)))) (tNot (tB (tCall (sp_is_below K) [] E0 (tCons (tVar 3) (tCons (tOp rAddI (tC (.int 1000000)) (tC (.int 1))) tNil))))))) (tRaise (ga K "BadWeb") E) tNext)
 (tSeq (tIfS (tOr (tNot (tB (tCB (rIsi K) (tCons (tVar 2) (tCons (tC (.ty "list")) tNil))))) (tNot (tB (tCB (rAll K) (tCons (tLc (iList K (tVar 2)) (gName 4) tYes (tCall (sp_is_tie K) [] E0 (tCons (tVar 4) (tCons (tVar 1) tNil))) [4]) tNil))))) (tRaise (ga K "BadWeb") E) tNext)
 (tSeq (sFld K (tVar 0) (tVar 1) "points")
 (tSeq (sFld K (tVar 0) (tVar 3) "turn")
 (sFld K (tVar 0) (tCB (rListS K) (tCons (tVar 2) tNil)) "bound")))))
def t_readX (K : PySem.W.Frag) (E : XK) : TS :=
 (tSeq (tIfS (tNot (tB (tCB (rIsi K) (tCons (tVar 0) (tCons (tC (.ty "str")) tNil))))) (tRaise (ga K "BadText") E) tNext)
 (tSeq (tAsg (tM1 rSplit (tVar 0) (tC (.str " "))) (gName 1))
 (tSeq (tAsg (tM1 rPartn (tOp (rIxL K) (tVar 1) (tC (.int 0))) (tC (.str "/"))) (gTup K 3 (gCons (gName 2) (gCons (gName 3) (gCons (gName 4) gNil)))))
 (tSeq (tAsg (tLst tNil) (gName 5))
 (tSeq (tFor (iList K (tSl (rSlL K) (tVar 1) (tPart (tC (.int 1))) tNoPart)) (gName 6) (tSeq (tAsg (tM1 rPartn (tVar 6) (tC (.str ":"))) (gTup K 3 (gCons (gName 7) (gCons (gName 8) (gCons (gName 9) gNil)))))
 (tSeq (tAsg (tM1 rPartn (tVar 7) (tC (.str ">"))) (gTup K 3 (gCons (gName 10) (gCons (gName 11) (gCons (gName 12) gNil)))))
 (tDrop (tBM K "list" rAppend (tVar 5) (tCons (tTup (tCons (tCallS (sp_number_inX K) (WE (fun cls d _ H => E cls d H)) (tCons (tVar 10) tNil)) (tCons (tCallS (sp_number_inX K) (WE (fun cls d _ H => E cls d H)) (tCons (tVar 12) tNil)) (tCons (tCallS (sp_number_inX K) (WE (fun cls d _ H => E cls d H)) (tCons (tVar 9) tNil)) tNil)))) tNil))))))
 (tSeq (fun D σ H => (fun W => (tAsg (tMakeS (ga K "Web") (sp_Web_initX K) (WE W) (tCons (tCallS (sp_number_inX K) (WE W) (tCons (tVar 2) tNil)) (tCons (tVar 5) (tCons (tCallS (sp_number_inX K) (WE W) (tCons (tVar 4) tNil)) tNil)))) (gName 13))) (wOnly K (.ref (ga K "BadWeb")) (fun a cls d => (tRaise (ga K "BadText") E)) (fun cls d _ H => E cls d H) D) D σ H)
 (tRet (tVar 13))))))))
theorem rd_Web_initX (vs : List V) (H : Hp) (Q : VK) (E : XK) (h : sp_Web_initX K vs H Q E) : goal (t_Web_initX K E) ["self", "points", "ties", "turn", "tie"] vs H Q := by
  obtain ⟨p, l, dx, n, turn, ts, rfl, T, hp, hl, o6, k, kx⟩ := h
  have gE : ∀ {σ2 : L2.St} {H2 : Hp}, Ev (tOp rAddI (tC (.int 1000000)) (tC (.int 1))) σ2 H2 (.int 1000001) := Evl.ev_op Evl.ev_c Evl.ev_c rv_add
  refine Evl.q_when (b := !rngN n turn) (Evl.et_is (Evl.et_or (Evl.et_not (Evl.et_B (ev_is_below (Evl.ea_cons (Evl.ev_var rfl) (Evl.ea_cons gE Evl.ea_nil))))) fun _ => Evl.et_or (Evl.et_test (Evl.ev_op (Evl.ev_var rfl) Evl.ev_c rv_lt)) fun _ => Evl.et_not (Evl.et_B (ev_is_below (Evl.ea_cons (Evl.ev_var rfl) (Evl.ea_cons gE Evl.ea_nil))))) ?_) (fun hb H1 e1 => kx (okB_rng (by simpa using hb)) H1 e1) fun hb H1 e1 => ?_
  · unfold rngN
    by_cases c1 : 1 ≤ n ∧ n ≤ 1000000
    · by_cases c2 : 0 ≤ turn ∧ turn ≤ 1000000
      · rw [decide_eq_true c1, decide_eq_true c2, decide_eq_true (show 0 ≤ n ∧ n < 1000001 by omega), decide_eq_false (show ¬ n < 1 by omega), decide_eq_true (show 0 ≤ turn ∧ turn < 1000001 by omega)]
        rfl
      · rw [decide_eq_true c1, decide_eq_false c2, decide_eq_true (show 0 ≤ n ∧ n < 1000001 by omega), decide_eq_false (show ¬ n < 1 by omega), decide_eq_false (show ¬ (0 ≤ turn ∧ turn < 1000001) by omega)]
        rfl
    · rw [decide_eq_false c1]
      by_cases c3 : n < 1
      · rw [decide_eq_true c3]
        simp
      · rw [decide_eq_false (show ¬ (0 ≤ n ∧ n < 1000001) by omega)]
        rfl
  have hr : rngN n turn = true := by simpa using hb
  obtain ⟨us, hq, hT⟩ := id hl
  have hul : us.length = ts.length := by rw [hT.length, List.length_map]
  refine Evl.q_when (b := !(ts.all (okTie n))) (Evl.et_is (a := !(true) || !((ts.map fun t => okTie n t).all id)) (Evl.et_or (Evl.et_not (Evl.et_B (ev_isiTy (Evl.ev_var rfl) (ty_lst (Evl.ex_l e1 hq)) rfl))) fun _ => Evl.et_not (Evl.et_B (ev_all (p := l) ?_))) ?_) (fun hb2 H2 e2 => kx (okB_all (by simpa using hb2)) H2 (e1.trans e2)) fun hb2 H2 e2 => ?_
  · refine (lc_vals (a := l) (xs := us) (ys := (ts.map fun t => okTie n t).map V.bl) (Evl.ev_var rfl) (Evl.ex_l e1 hq) (by omega) (by simp [hul]) (fun _ => rfl) fun i x H3 e3 hx => ?_).imp fun v H3 e3 ⟨q, a, _, b⟩ => ⟨q, a, SqL.of b⟩
    obtain ⟨z, hz, tz⟩ := hT.getV hx
    rw [List.getElem?_map] at hz
    cases ht : ts[i]? with
    | none => rw [ht] at hz; cases hz
    | some t =>
      rw [ht] at hz
      cases hz
      exact ⟨.bl (okTie n t), by simp [ht], ev_is_tie (Evl.ea_cons (Evl.ev_var rfl) (Evl.ea_cons (Evl.ev_var rfl) Evl.ea_nil)) (tz.mono (e1.trans e3))⟩
  · rw [List.all_map]
    rfl
  have hall : ts.all (okTie n) = true := by simpa using hb2
  have e : Ex H H2 := e1.trans e2
  refine q_fld (Evl.ev_var rfl) (Evl.ev_var rfl) (e _ _ hp) T.cl T.nP (by show 0 < 1000; decide) fun H3 e3 => ?_
  refine q_fld (a := p) (Evl.ev_var rfl) (Evl.ev_var rfl) upd_same T.cl T.nT (by show 1 < 1000; decide) fun H4 e4 => ?_
  have b1 : ExBut p H (upd H4 p (.ins (ga K "Web") dx (putF "turn" (.int turn) (putF "points" (.int n) [])))) := (((e.trans e3).but.trans upd_but).trans e4.but).trans upd_but
  refine s_fldP (a := p) (ep_list (Evl.ev_var rfl) (b1.sqL hp hq)) (Evl.ev_var rfl) upd_same T.cl T.nB (putF_lt (m := 999) (putF_lt (m := 998) (by show 0 < 998; decide))) fun v H5 H6 e5 hv e6 => ?_
  obtain ⟨l2, rfl, fr2, h5⟩ := hv
  have nlp : l2 ≠ p := fun z => by rw [z, upd_same] at fr2; cases fr2
  have b2 := ((b1.trans e5.but).trans e6.but).trans (upd_but (p := p) (o := .ins (ga K "Web") dx (webF n turn l2)))
  have f2H : H l2 = none := by
    cases hh : H l2 with
    | none => rfl
    | some o => rw [b1 _ _ nlp hh] at fr2; cases fr2
  refine k (by unfold okB; rw [hr, hall]; rfl) _ l2 b2 f2H ⟨T, ⟨dx, upd_same⟩, us, ?_, b2.tupL hp hT⟩
  rw [upd_ne nlp]
  exact e6 _ _ h5
/-! ### what may raise -/
def EvR (te : TE) (σ : L2.St) (H : Hp) (o : Option Int) (R : Hp → Prop) : Prop := ∀ H1, Ex H H1 → ∀ Q : VK, (∀ i, o = some i → ∀ H2, Ex H1 H2 → Q (.int i) H2) → (o = none → ∀ H2, Ex H1 H2 → R H2) → te σ H1 Q
theorem er_num {x : Str} {W : WX} (h : Ev ta σ H (.str x)) (hl : x.length ≤ 90000) : EvR (tCallS (sp_number_inX K) (WE W) (tCons ta tNil)) σ H (numN (tl x)) (fun H2 => W (.ref (ga K "BadText")) none σ H2) := fun H1 e Q q r =>
  h H1 e _ fun H2 e2 => ⟨x, rfl, hl, fun n hn H3 e3 => q n hn H3 (e2.trans e3), fun hn H3 e3 => r hn H3 (e2.trans e3)⟩
theorem s_app3R {D : Ends} {l : Addr} {us : List V} {t1 t2 t3 : TE} {oa ob oc : Option Int} {R : Hp → Prop} (hl : H l = some (.lst us)) (ha : Ev ta σ H (.ref l)) (h1 : EvR t1 σ H oa R) (h2 : EvR t2 σ H ob R) (h3 : EvR t3 σ H oc R) (hz : us.length < 90000)
    (k : ∀ a b c, oa = some a → ob = some b → oc = some c → ∀ v H2, Ex H H2 → TupI K H2 v [a, b, c] → D.nx σ (upd H2 l (.lst (us ++ [v])))) (kr : (oa = none ∨ ob = none ∨ oc = none) → ∀ H2, Ex H H2 → R H2) :
    tDrop (tBM K "list" rAppend ta (tCons (tTup (tCons t1 (tCons t2 (tCons t3 tNil)))) tNil)) D σ H := ha H (Ex.refl H) _ fun H1 e1 =>
  ⟨Or.inl ⟨rfl, us, Evl.sq_of (e1 l _ hl)⟩, h1 H1 e1 _ (fun a ea H2 e2 => h2 H2 (e1.trans e2) _ (fun b eb H3 e3 => h3 H3 ((e1.trans e2).trans e3) _ (fun c ec H4 e4 => ⟨by show 3 ≤ sizeLine; decide, fun p hp => by
    have x4 := ((e1.trans e2).trans e3).trans e4
    refine ⟨l, us, .ref p, rfl, rfl, (x4.trans (Ex.new hp)) l _ hl, Evl.sz_lt (by omega), ?_⟩
    exact k a b c ea eb ec (.ref p) _ (x4.trans (Ex.new hp)) ⟨p, rfl, SqT.of upd_same⟩⟩) fun ec H4 e4 => kr (.inr (.inr ec)) H4 (((e1.trans e2).trans e3).trans e4)) fun eb H3 e3 => kr (.inr (.inl eb)) H3 ((e1.trans e2).trans e3)) fun ea H2 e2 => kr (.inl ea) H2 (e1.trans e2)⟩
theorem f_listN {D : Ends} {tu : TS} {g : TG} {xs : List V} (h : EvL te σ H xs) (k : ∀ a H1, Ex H H1 → H a = none → H1 a = some (.lst xs) → tFor (iList K (tC (.ref a))) g tu D σ H1) : tFor (iList K te) g tu D σ H := h H (Ex.refl H) _ fun p H2 hp e h2 => k p H2 e hp h2
def strB : PyData → Bool
  | .str _ => true
  | _ => false
theorem kit_str (d : PyData) : L2.kitB (tyD d) "str" = some (strB d) := by cases d <;> rfl
structure TopT (K : PySem.W.Frag) : Prop where
  web : WebTop K
  xw : ExK K "BadWeb" 1
  xt : ExK K "BadText" 5
def sp_readX (K : PySem.W.Frag) : Sp := fun vs H Q E => ∃ (v : V) (d : PyData), vs = [v] ∧ TopT K ∧ Dp K H v d ∧ (∀ x, d = .str x → x.length ≤ 4900) ∧
  (∀ x n ts turn, d = .str x → dueN (tl x) = some (n, ts, turn) → ∀ w H', Ex H H' → WebAt K H' w n ts turn → Q (.ref w) H') ∧ ((∀ x, d = .str x → dueN (tl x) = none) → ∀ H', Ex H H' → E (.ref (ga K "BadText")) none H')
theorem rd_readX (vs : List V) (H : Hp) (Q : VK) (E : XK) (h : sp_readX K vs H Q E) : goal (t_readX K E) ["text", "words", "points", "sign", "turn", "ties", "word", "ends", "colon", "number", "one", "arrow", "other", "web"] vs H Q := by
  obtain ⟨v, d, rfl, T, hd, hl, k1, k2⟩ := h
  by_cases hs : ∃ x, d = .str x
  · obtain ⟨x, rfl⟩ := hs
    have hlx := hl x rfl
    have kE : dueN (tl x) = none → ∀ H', Ex H H' → E (.ref (ga K "BadText")) none H' := fun h => k2 fun y hy => by cases hy; exact h
    cases hd
    refine Evl.q_when (b := false) (Evl.et_is (Evl.et_not (Evl.et_B (ev_isD (d := .str x) (Evl.ev_var rfl) (.dp (.str x)) (kit_str _)))) rfl) (fun z => by cases z) fun _ H1 e1 => ?_
    have e32 : tl (" " : Str) = [32] := by decide +kernel
    obtain ⟨w, ws, hws⟩ := spl_cons (s := 32) (tl x)
    have hlen := spl_len (s := 32) (tl x)
    rw [hws] at hlen
    have hlx2 : (tl x).length ≤ 4900 := by rw [← TL.len_tl]; exact hlx
    have hwl : ws.length ≤ 4900 := by have := hlen.1; rw [List.length_cons] at this; omega
    refine Evl.q_asgL (xs := (w :: ws).map strV) (by
      have e := el_split (ta := tVar 0) (tb := tC (.str " ")) (σ := L2.start ["text", "words", "points", "sign", "turn", "ties", "word", "ends", "colon", "number", "one", "arrow", "other", "web"] [V.str x]) (H := H1) (a := x) (b := " ") (Evl.ev_var rfl) Evl.ev_c (by decide +kernel) (by omega)
      rw [split_mk e32 (by decide), hws, List.map_map] at e
      exact e) fun wl H2 fwl e2 h2 => ?_
    refine q_part (x := mkS w) (s := 47) (Evl.ev_op (Evl.ev_var rfl) Evl.ev_c (Evl.rv_ixL (v := strV w) (SqL.of h2) (atI_of (by decide) rfl))) (by decide +kernel) (by rw [mkS_len]; have := hlen.2 w List.mem_cons_self; omega) fun H3 e3 => ?_
    rw [tl_mkS]
    refine Evl.q_asgL (xs := []) (Evl.el_lst Evl.ea_nil (by decide)) fun l H4 fl e4 h4 => ?_
    have x4 : Ex H H4 := ((e1.trans e2).trans e3).trans e4
    have h2' : H3 wl = some (.lst ((w :: ws).map strV)) := e3 _ _ h2
    have hpl := parN_len (s := 47) (l := w)
    have hwx := hlen.2 w List.mem_cons_self
    refine q_seq (f_listN (xs := ws.map strV) (by
      have e := Evl.el_sl (K := K) (te := tVar 1) (tl := tPart (tC (.int 1))) (th := tNoPart) (a := wl) (xs := (w :: ws).map strV) (lo := some 1) (hi := none) (σ := (((((L2.start ["text", "words", "points", "sign", "turn", "ties", "word", "ends", "colon", "number", "one", "arrow", "other", "web"] [V.str x]).set 1 (some (.ref wl))).set 2 (some (strV (parN 47 w).1))).set 3 (some (strV (parN 47 w).2.1))).set 4 (some (strV (parN 47 w).2.2))).set 5 (some (.ref l))) (H := H4) (Evl.ev_var rfl) (Evl.eo_some Evl.ev_c) Evl.eo_none (SqL.of (e4 _ _ h2'))
      rw [cutV_tail] at e
      exact e) fun aw H5 e5 faw h5 => ?_)
    have nal : aw ≠ l := fun z => by rw [z, h4] at faw; cases faw
    refine f_list (a := aw) (xs := ws.map strV) Evl.ev_c (SqL.of h5) (fun i σ' H' => ∃ (o6 o7 o8 o9 o10 o11 o12 : Option V) (us : List V) (ts : List Tie), σ' = [some (.str x), some (.ref wl), some (strV (parN 47 w).1), some (strV (parN 47 w).2.1), some (strV (parN 47 w).2.2), some (.ref l), o6, o7, o8, o9, o10, o11, o12, none] ∧ Ex H3 H' ∧ H' aw = some (.lst (ws.map strV)) ∧ H' l = some (.lst us) ∧ (ws.take i).map tieN = ts.map some ∧ TupL K H' us (ts.map tieL))
      (fun H6 e6 => ⟨_, _, _, _, _, _, _, [], [], rfl, (e4.trans e5).trans e6, e6 _ _ h5, (e5.trans e6) _ _ h4, rfl, .nil⟩) (fun i σ' H' _ ⟨_, _, _, _, _, _, _, _, _, _, _, z, _⟩ => SqL.of z) ?_ ?_
    · rintro i y σ' H' hyi ⟨o6, o7, o8, o9, o10, o11, o12, us, ts, rfl, e, haw, hl', hts, hT⟩
      rw [List.getElem?_map] at hyi
      cases hwi : ws[i]? with
      | none => rw [hwi] at hyi; cases hyi
      | some w' =>
        rw [hwi] at hyi
        cases hyi
        have hmem : w' ∈ ws := List.mem_of_getElem? hwi
        have hw'l := hlen.2 w' (List.mem_cons_of_mem _ hmem)
        have x3 : Ex H H3 := (e1.trans e2).trans e3
        show tSeq _ _ _ _ _
        refine q_part (x := mkS w') (s := 58) (Evl.ev_var rfl) (by decide +kernel) (by rw [mkS_len]; omega) fun H7 e7 => ?_
        rw [tl_mkS]
        have hp1 := parN_len (s := 58) (l := w')
        refine q_part (x := mkS (parN 58 w').1) (s := 62) (Evl.ev_var rfl) (by decide +kernel) (by rw [mkS_len]; omega) fun H8 e8 => ?_
        rw [tl_mkS]
        have hp2 := parN_len (s := 62) (l := (parN 58 w').1)
        have e38 := (e.trans e7).trans e8
        have usl : us.length < 90000 := by
          have h1 := hT.length
          have h2 := congrArg List.length hts
          rw [List.length_map] at h1
          rw [List.length_map, List.length_map, List.length_take] at h2
          omega
        refine s_app3R (l := l) (us := us) (oa := numN (parN 62 (parN 58 w').1).1) (ob := numN (parN 62 (parN 58 w').1).2.2) (oc := numN (parN 58 w').2.2) (R := fun H2 => E (.ref (ga K "BadText")) none H2) ((e7.trans e8) _ _ hl') (Evl.ev_var rfl)
          (er_num (x := mkS (parN 62 (parN 58 w').1).1) (W := fun cls d _ H => E cls d H) (Evl.ev_var rfl) (by rw [mkS_len]; omega)) (er_num (x := mkS (parN 62 (parN 58 w').1).2.2) (W := fun cls d _ H => E cls d H) (Evl.ev_var rfl) (by rw [mkS_len]; omega)) (er_num (x := mkS (parN 58 w').2.2) (W := fun cls d _ H => E cls d H) (Evl.ev_var rfl) (by rw [mkS_len]; omega)) usl
          (fun a b c ea eb ec v H9 e9 hv => ?_) fun hno H9 e9 => ?_
        · have ht : tieN w' = some (a, b, c) := by unfold tieN; rw [ea, eb, ec]
          refine ⟨_, _, _, _, _, _, _, us ++ [v], ts ++ [(a, b, c)], rfl, (e38.trans e9).mut fl, ?_, upd_same, ?_, ?_⟩
          · rw [upd_ne nal]
            exact ((e7.trans e8).trans e9) _ _ haw
          · rw [List.take_add_one, hwi, List.map_append, hts, List.map_append]
            show _ ++ [tieN w'] = _
            rw [ht]
            rfl
          · rw [List.map_append]
            exact ((hT.mono ((e7.trans e8).trans e9)).snoc hv).updL (((e7.trans e8).trans e9) _ _ hl')
        · refine kE (due_tie hws hmem ?_) H9 (x3.trans (e38.trans e9))
          unfold tieN
          cases c1 : numN (parN 62 (parN 58 w').1).1 with
          | none => rfl
          | some a =>
            cases c2 : numN (parN 62 (parN 58 w').1).2.2 with
            | none => rfl
            | some b =>
              cases c3 : numN (parN 58 w').2.2 with
              | none => rfl
              | some c =>
                rw [c1, c2, c3] at hno
                rcases hno with z | z | z <;> cases z
    · rintro σ' H' ⟨o6, o7, o8, o9, o10, o11, o12, us, ts, rfl, e, haw, hl', hts, hT⟩
      rw [List.length_map, List.take_length] at hts
      have x3 : Ex H H3 := (e1.trans e2).trans e3
      have xH := x3.trans e
      dsimp only
      refine q_seq ?_
      have htl : ts.length ≤ 5000 := by
        have h2 := congrArg List.length hts
        rw [List.length_map, List.length_map] at h2
        omega
      have lt : LTie K H' l ts := ⟨us, SqL.of hl', hT⟩
      -- a refusal that is no BadWeb, and one that is
      have wText : ∀ {D : Ends} {σ2 : L2.St} {H2 : Hp} {ts' : Addr → Value → Option Addr → TS}, Ex H H2 → dueN (tl x) = none → wOnly K (.ref (ga K "BadWeb")) ts' (fun cls d _ H => E cls d H) D (.ref (ga K "BadText")) none σ2 H2 := fun e h =>
        ⟨_, T.xt.em 1 "BadWeb" rfl, fun z => by simp at z, fun _ => kE h _ e⟩
      have wWeb : ∀ {D : Ends} {σ2 : L2.St} {H2 : Hp}, Ex H H2 → dueN (tl x) = none → wOnly K (.ref (ga K "BadWeb")) (fun a cls d => tRaise (ga K "BadText") E) (fun cls d _ H => E cls d H) D (.ref (ga K "BadWeb")) none σ2 H2 := fun e h =>
        ⟨_, T.xw.em 1 "BadWeb" rfl, fun _ a _ => kE h _ e, fun z => by simp at z⟩
      have run : ∀ {W : WX} {D : Ends}, (∀ {σ2 : L2.St} {H2 : Hp}, Ex H H2 → dueN (tl x) = none → W (.ref (ga K "BadText")) none σ2 H2) → (∀ {σ2 : L2.St} {H2 : Hp}, Ex H H2 → dueN (tl x) = none → W (.ref (ga K "BadWeb")) none σ2 H2) →
          (∀ p H2 n turn, Ex H' H2 → dueN (tl x) = some (n, ts, turn) → WebAt K H2 p n ts turn → D.nx [some (.str x), some (.ref wl), some (strV (parN 47 w).1), some (strV (parN 47 w).2.1), some (strV (parN 47 w).2.2), some (.ref l), o6, o7, o8, o9, o10, o11, o12, some (.ref p)] H2) →
          (tAsg (tMakeS (ga K "Web") (sp_Web_initX K) (WE W) (tCons (tCallS (sp_number_inX K) (WE W) (tCons (tVar 2) tNil)) (tCons (tVar 5) (tCons (tCallS (sp_number_inX K) (WE W) (tCons (tVar 4) tNil)) tNil)))) (gName 13)) D [some (.str x), some (.ref wl), some (strV (parN 47 w).1), some (strV (parN 47 w).2.1), some (strV (parN 47 w).2.2), some (.ref l), o6, o7, o8, o9, o10, o11, o12, none] H' := fun {W D} wT wW done => by
        refine er_num (K := K) (W := W) (x := mkS (parN 47 w).1) (ta := tVar 2) (H := H') (Evl.ev_var rfl) (by rw [mkS_len]; omega) H' (Ex.refl _) _ (fun n hn H7 e7 => ?_) fun hn H7 e7 => wT (xH.trans e7) (due_head hws (.inl hn))
        refine (Evl.ev_var rfl : Ev (tVar 5) [some (.str x), some (.ref wl), some (strV (parN 47 w).1), some (strV (parN 47 w).2.1), some (strV (parN 47 w).2.2), some (.ref l), o6, o7, o8, o9, o10, o11, o12, none] H7 (.ref l)) H7 (Ex.refl _) _ fun H8 e8 => ?_
        refine er_num (K := K) (W := W) (x := mkS (parN 47 w).2.2) (ta := tVar 4) (H := H8) (Evl.ev_var rfl) (by rw [mkS_len]; omega) H8 (Ex.refl _) _ (fun turn hturn H9 e9 => ?_) fun hn H9 e9 => wT (((xH.trans e7).trans e8).trans e9) (due_head hws (.inr hn))
        intro p dx hp hdx ne
        have big : Ex H' H9 := (e7.trans e8).trans e9
        have ex1 : Ex H9 (upd (upd H9 dx (.own p)) p (.ins (ga K "Web") dx [])) := (Ex.new hdx).trans (Ex.new (by rw [upd_ne ne.symm]; exact hp))
        have hdue := due_eq hws hn hturn hts
        refine ⟨p, l, dx, n, turn, ts, rfl, T.web, upd_same, (lt.mono big).mono ex1, htl, fun hok H10 l2 eb f2 hw => ⟨rfl, ?_⟩, fun hok H10 e10 => wW (((xH.trans big).trans ex1).trans e10) (by rw [hdue, hok]; rfl)⟩
        rw [hok] at hdue
        exact done p H10 n turn (fun a o ha => eb a o (fun z => by have q2 := big a o ha; rw [z, hp] at q2; cases q2) (ex1 a o (big a o ha))) hdue hw.web
      refine run (fun e h => wText e h) (fun e h => wWeb e h) fun p H2 n turn e2' hdue hw => ?_
      exact Evl.s_ret (v := .ref p) (Evl.ev_var rfl) fun H3' e3' => k1 x n ts turn rfl hdue p H3' ((xH.trans e2').trans e3') (hw.mono e3')
  · have hb : strB d = false := by
      cases d with
      | str y => exact absurd ⟨y, rfl⟩ hs
      | _ => rfl
    exact Evl.q_when (b := true) (Evl.et_is (Evl.et_not (Evl.et_B (ev_isD (Evl.ev_var rfl) (.dp hd) (kit_str d)))) (by rw [hb]; rfl)) (fun _ H1 e1 => k2 (fun y hy => absurd ⟨y, hy⟩ hs) H1 e1) fun z => by cases z
end G

/-! The law's reading of texts. -/
namespace G
open PySem PySem.Spec PyProof.Rows L2
open Evl (Ex Ev EvL EvU EvT EvA EvO RV RetV)
open TL (tl spl par joinL numL)
local macro_rules | `(tactic| walk_at "hp") => `(tactic| first
  | with_reducible assumption
  | ((with_reducible show _ = some (_ : HO)); (with_reducible exact ex_app (by assumption) (by walk_at "hp")))
  | ((with_reducible show TupI _ _ _ _); (with_reducible exact TupI.mono (by assumption) (by walk_at "hp")))
  | ((with_reducible show LT _ _ _ _); (with_reducible exact LT.mono (by assumption) (by walk_at "hp")))
  | ((with_reducible show LI _ _ _ _); (first | (with_reducible exact li_of (by walk_at "hp")) | (with_reducible exact LI.mono (by assumption) (by walk_at "hp"))))
  | ((with_reducible show SqL _ _ _ _); (first | (with_reducible exact SqL.of (by walk_at "hp")) | (with_reducible exact Evl.ex_l (by assumption) (by walk_at "hp"))))
  | ((with_reducible show SqT _ _ _ _); (first | (with_reducible exact SqT.of (by walk_at "hp")) | (with_reducible exact Evl.ex_t (by assumption) (by walk_at "hp"))))
  | ((with_reducible show Rd _ _ _); (first | (with_reducible exact Rd.of (by walk_at "hp")) | (with_reducible exact Evl.ex_rd (by assumption) (by walk_at "hp"))))
  | walk_at "hpf")
local macro_rules | `(tactic| walk_at "at") => `(tactic| first
  | with_reducible assumption
  | with_reducible rfl
  | (refine atI_of ?va ?vb; (case va => omega); (case vb => assumption))
  | walk_at "atf"
  | rfl)
local macro_rules | `(tactic| walk_at "rv") => `(tactic| first
  | with_reducible exact rv_add | with_reducible exact rv_sub | with_reducible exact rv_eqI | with_reducible exact rv_neI | with_reducible exact rv_lt | with_reducible exact rv_le | with_reducible exact rv_gt | with_reducible exact rv_ge
  | with_reducible exact rv_eqB | with_reducible exact rv_neB | with_reducible exact rv_isB | with_reducible exact rv_notB
  | ((with_reducible refine rv_mod ?_); (first | assumption | omega))
  | ((with_reducible refine rv_mul ?_); (first | exact Or.inl ⟨by omega, by omega⟩ | exact Or.inr ⟨by omega, by omega⟩))
  | ((with_reducible refine rv_div ?_); exact ⟨by omega, by omega⟩))
local macro_rules | `(tactic| walk_at "ty") => `(tactic| first
  | with_reducible exact fun _ _ => .base (.int _) | with_reducible exact fun _ _ => .base (.bl _) | with_reducible exact fun _ _ => .base .non | with_reducible exact fun _ _ => .base (.str _)
  | ((with_reducible apply ty_tup); walk_at "hp")
  | ((with_reducible apply ty_lst); walk_at "hp")
  | walk_at "tyf")
local macro_rules | `(tactic| walk_at "ev") => `(tactic| repeat' (first
  | with_reducible exact Evl.ev_c
  | ((with_reducible apply Evl.ev_var); rfl)
  | with_reducible apply ev_neg
  | with_reducible apply ev_ixU
  | walk_at "evf"
  | ((with_reducible apply ev_lenI); (· walk_at "ev"); (· walk_at "hp"))
  | ((with_reducible apply ev_lenT); (· walk_at "ev"); (· walk_at "hp"))
  | ((with_reducible apply ev_lenU); (· walk_at "ev"))
  | with_reducible apply ev_lenSet
  | with_reducible apply ev_chain
  | with_reducible apply ev_isiTy
  | with_reducible apply Evl.ev_andV
  | with_reducible apply Evl.ev_orV
  | with_reducible apply Evl.ev_notV
  | ((with_reducible apply ev_ixI); (· walk_at "ev"); (· walk_at "ev"); (· walk_at "hp"); (· walk_at "at"))
  | with_reducible apply Evl.ev_op
  | ((with_reducible apply evi_of); (· (with_reducible apply Evl.ev_var); rfl); (· walk_at "hp"))
  | with_reducible apply ei_ix
  | with_reducible apply ei_tup
  | with_reducible exact eai_nil
  | with_reducible apply eai_cons
  | with_reducible exact Evl.ea_nil
  | with_reducible apply Evl.ea_cons
  | with_reducible apply Evl.et_test
  | with_reducible apply Evl.et_and
  | with_reducible apply Evl.et_or
  | with_reducible apply Evl.et_not
  | with_reducible apply Evl.et_B
  | walk_at "rv"
  | ((with_reducible show L2.kitB _ _ = _); rfl)
  | ((with_reducible show L2.atI _ _ = _); walk_at "at")
  | ((with_reducible show (_ : Nat) ≤ _); (first | omega | (simp; done) | (simp; omega)))
  | ((with_reducible show _ = true → _); intro _)
  | ((with_reducible show _ = false → _); intro _)
  | ((with_reducible show TupI _ _ _ _); walk_at "hp")
  | ((with_reducible show LT _ _ _ _); walk_at "hp")
  | ((with_reducible show LI _ _ _ _); walk_at "hp")
  | ((with_reducible show SqL _ _ _ _); walk_at "hp")
  | ((with_reducible show SqT _ _ _ _); walk_at "hp")
  | ((with_reducible show Rd _ _ _); walk_at "hp")
  | ((with_reducible show _ = some (_ : HO)); walk_at "hp")
  | walk_at "hpg"
  | walk_at "ty"))

local macro_rules | `(tactic| walk_at "hpf") => `(tactic| ((with_reducible show WebAt _ _ _ _ _ _); (with_reducible exact WebAt.mono (by assumption) (by walk_at "hp"))))
local macro_rules | `(tactic| walk_at "hpg") => `(tactic| ((with_reducible show WebAt _ _ _ _ _ _); walk_at "hp"))
local macro_rules | `(tactic| walk_at "evf") => `(tactic| with_reducible apply ev_points)
local macro_rules | `(tactic| walk_at "evf") => `(tactic| with_reducible apply ev_turn)
local macro_rules | `(tactic| walk_at "evf") => `(tactic| with_reducible apply ev_lenB)
local macro_rules | `(tactic| walk_at "evf") => `(tactic| with_reducible apply ei_bound)
local macro_rules | `(tactic| walk_at "evf") => `(tactic| with_reducible apply ev_is_whole)
local macro_rules | `(tactic| walk_at "evf") => `(tactic| with_reducible apply ev_is_below)
local macro_rules | `(tactic| walk_at "evf") => `(tactic| with_reducible apply ev_is_tie)
local macro_rules | `(tactic| walk_at "evf") => `(tactic| with_reducible apply ei_stepped)
variable {K : PySem.W.Frag} {σ : L2.St} {H H' H1 : Hp} {ta tb tc te td : TE} {t u : TT} {tl' : TA} {v x y z : V}
/-! ### a tie's word -/
def OptT (K : PySem.W.Frag) (o : Option Tie) (v : V) (H : Hp) : Prop := match o with
  | none => v = .non
  | some t => TupI K H v (tieL t)
theorem OptT.mono {o : Option Tie} (e : Ex H H') (h : OptT K o v H) : OptT K o v H' := by
  cases o with
  | none => exact h
  | some t => exact TupI.mono e h
theorem OptT.updL {o : Option Tie} {l : Addr} {ys zs : List V} (h : OptT K o v H) (hl : H l = some (.lst ys)) : OptT K o v (upd H l (.lst zs)) := by
  cases o with
  | none => exact h
  | some t => exact TupI.updL h hl
inductive OptL (K : PySem.W.Frag) (H : Hp) : List V → List (Option Tie) → Prop
  | nil : OptL K H [] []
  | cons {v : V} {vs : List V} {o : Option Tie} {os : List (Option Tie)} : OptT K o v H → OptL K H vs os → OptL K H (v :: vs) (o :: os)
theorem OptL.mono (e : Ex H H') : ∀ {vs : List V} {os : List (Option Tie)}, OptL K H vs os → OptL K H' vs os
  | _, _, .nil => .nil
  | _, _, .cons h t => .cons (h.mono e) (OptL.mono e t)
theorem OptL.updL {l : Addr} {ys zs : List V} (hl : H l = some (.lst ys)) : ∀ {vs : List V} {os : List (Option Tie)}, OptL K H vs os → OptL K (upd H l (.lst zs)) vs os
  | _, _, .nil => .nil
  | _, _, .cons h t => .cons (h.updL hl) (OptL.updL hl t)
theorem OptL.snoc {w : V} {o : Option Tie} (q : OptT K o w H) : ∀ {vs : List V} {os : List (Option Tie)}, OptL K H vs os → OptL K H (vs ++ [w]) (os ++ [o])
  | _, _, .nil => .cons q .nil
  | _, _, .cons h t => .cons h (OptL.snoc q t)
theorem OptL.tups : ∀ {vs : List V} {ts : List Tie}, OptL K H vs (ts.map some) → TupL K H vs (ts.map tieL)
  | [], [], _ => .nil
  | _, t :: ts, .cons h r => .cons h (OptL.tups r)
def optD : Option Tie → PyData
  | none => .none
  | some t => tupD (tieL t)
theorem OptT.dp {o : Option Tie} (h : OptT K o v H) : Dp K H v (optD o) := by
  cases o with
  | none => cases h; exact .non
  | some t => exact dp_tup h
theorem OptL.dps : ∀ {vs : List V} {os : List (Option Tie)}, OptL K H vs os → DpAll K H vs (os.map optD)
  | _, _, .nil => .nil
  | _, _, .cons h t => .cons h.dp t.dps
theorem lay_opts : ∀ os : List (Option Tie), PyData.canLayAll0 (os.map optD) = true
  | [] => by simp [PyData.canLayAll0]
  | none :: os => by simp [PyData.canLayAll0, optD, PyData.canLay0, lay_opts os]
  | some t :: os => by simp [PyData.canLayAll0, optD, tupD, PyData.canLay0, lay_ints (tieL t), lay_opts os]
theorem dep_opts : ∀ os : List (Option Tie), PyData.depthAll (os.map optD) ≤ 2
  | [] => by simp [PyData.depthAll]
  | none :: os => by
    have h := dep_opts os
    simp only [List.map_cons, PyData.depthAll, optD, PyData.depth]
    omega
  | some t :: os => by
    have h := dep_opts os
    have h2 := dep_ints (tieL t)
    show PyData.depthAll (tupD (tieL t) :: os.map optD) ≤ 2
    generalize tieL t = xs at h2 ⊢
    simp only [PyData.depthAll, tupD, PyData.depth]
    omega
theorem shp_opts (os : List (Option Tie)) : SeqAt.shaped (.list (os.map optD)) = true := shp (by simp only [PyData.canLay0]; exact lay_opts os) (by have := dep_opts os; simp only [PyData.depth]; omega)
theorem any_opts : ∀ os : List (Option Tie), ((os.map optD).any fun z => PyData.eqv z .none) = os.any (·.isNone)
  | [] => rfl
  | none :: os => by
    rw [List.map_cons, List.any_cons, List.any_cons, any_opts os]
    simp [optD, PyData.eqv]
  | some t :: os => by
    rw [List.map_cons, List.any_cons, List.any_cons, any_opts os]
    simp [optD, tupD, PyData.eqv]
theorem ev_noneIn {os : List (Option Tie)} {l : Addr} {us : List V} (h : Ev ta σ H (.ref l)) (hl : SqL K H l us) (ho : OptL K H us os) : Ev (tOp (rInD K) (tC .non) ta) σ H (.bl (os.any (·.isNone))) := fun H1 e Q q =>
  h H1 e _ fun H2 e2 => ⟨.none, os.map optD, .non, .lst (Evl.ex_l (e.trans e2) hl) (ho.mono (e.trans e2)).dps, by decide +kernel, shp_opts os, by
    rw [any_opts]
    exact q H2 e2⟩
def sp__law_tie_in (K : PySem.W.Frag) : Sp := fun vs H Q _ => ∃ (x : Str) (n : Int), vs = [.str x, .int n] ∧ x.length ≤ 90000 ∧ RetP (OptT K (tieOk n (tl x))) H Q
theorem ep_tie_in {x : Str} {n : Int} (h1 : Ev ta σ H (.str x)) (h2 : Ev tb σ H (.int n)) (hl : x.length ≤ 90000) : EvP (tCall (sp__law_tie_in K) [] E0 (tCons ta (tCons tb tNil))) σ H (OptT K (tieOk n (tl x))) :=
  ep_call (Evl.ea_cons h1 (Evl.ea_cons h2 Evl.ea_nil)) fun H1 Q e k => ⟨x, n, rfl, hl, k⟩
def t__law_tie_in (K : PySem.W.Frag) : TS :=
 (tSeq (tAsg (tM1 rPartn (tVar 0) (tC (.str ":"))) (gTup K 3 (gCons (gName 2) (gCons (gName 3) (gCons (gName 4) gNil)))))
 (tSeq (tAsg (tM1 rPartn (tVar 2) (tC (.str ">"))) (gTup K 3 (gCons (gName 5) (gCons (gName 6) (gCons (gName 7) gNil)))))
 (tSeq (tAsg (tTup (tCons (tCall (sp__law_number K) [] E0 (tCons (tVar 5) tNil)) (tCons (tCall (sp__law_number K) [] E0 (tCons (tVar 7) tNil)) (tCons (tCall (sp__law_number K) [] E0 (tCons (tVar 4) tNil)) tNil)))) (gName 8))
 (tSeq (tIfS (tOr (tTest (tOp (rIn K false) (tC .non) (tVar 8))) (tOr (tNot (tTest (tOp rLeI (tC (.int 0)) (tCB (rMinT K) (tCons (tSl (rSlT K) (tVar 8) tNoPart (tPart (tC (.int 2)))) tNil))))) (tOr (tTest (tOp rGeI (tCB (rMaxT K) (tCons (tSl (rSlT K) (tVar 8) tNoPart (tPart (tC (.int 2)))) tNil)) (tVar 1))) (tTest (tOp rEq (tOp (rIxT K) (tVar 8) (tC (.int 0))) (tOp (rIxT K) (tVar 8) (tC (.int 1)))))))) (tRet (tC .non)) tNext)
 (tRet (tIf (tTest (tChain rLtI rLtI (tUn rNegI (tC (.int 1000001))) (tOp (rIxT K) (tVar 8) (tC (.int 2))) (tC (.int 1000001)))) (tVar 8) (tC .non)))))))
theorem rd__law_tie_in (vs : List V) (H : Hp) (Q : VK) (E : XK) (h : sp__law_tie_in K vs H Q E) : goal (t__law_tie_in K) ["_law_word", "_law_points", "_law_ends", "_law_colon", "_law_number_here", "_law_one", "_law_arrow", "_law_other", "_law_tie"] vs H Q := by
  obtain ⟨x, n, rfl, hl, k⟩ := h
  refine q_part (x := x) (s := 58) (Evl.ev_var rfl) (by decide +kernel) hl fun H1 e1 => ?_
  have hp1 := parN_len (s := 58) (l := tl x)
  have hlt := TL.len_tl x
  refine q_part (x := mkS (parN 58 (tl x)).1) (s := 62) (Evl.ev_var rfl) (by decide +kernel) (by rw [mkS_len]; omega) fun H2 e2 => ?_
  rw [tl_mkS]
  have hp2 := parN_len (s := 62) (l := (parN 58 (tl x)).1)
  refine Evl.q_asgU (xs := [optV (numN (parN 62 (parN 58 (tl x)).1).1), optV (numN (parN 62 (parN 58 (tl x)).1).2.2), optV (numN (parN 58 (tl x)).2.2)]) (Evl.eu_tup (Evl.ea_cons (ev_law_number (x := mkS (parN 62 (parN 58 (tl x)).1).1) (Evl.ev_var rfl) (by rw [mkS_len]; omega)) (Evl.ea_cons (ev_law_number (x := mkS (parN 62 (parN 58 (tl x)).1).2.2) (Evl.ev_var rfl) (by rw [mkS_len]; omega)) (Evl.ea_cons (ev_law_number (x := mkS (parN 58 (tl x)).2.2) (Evl.ev_var rfl) (by rw [mkS_len]; omega)) Evl.ea_nil))) (by show 3 ≤ 100000; decide)) fun p H3 fp e3 h3 => ?_
  have e13 := (e1.trans e2).trans e3
  have ht : tieN (tl x) = match numN (parN 62 (parN 58 (tl x)).1).1, numN (parN 62 (parN 58 (tl x)).1).2.2, numN (parN 58 (tl x)).2.2 with
    | some a, some b, some c => some (a, b, c)
    | _, _, _ => none := rfl
  generalize numN (parN 62 (parN 58 (tl x)).1).1 = a at ht h3
  generalize numN (parN 62 (parN 58 (tl x)).1).2.2 = b at ht h3
  generalize numN (parN 58 (tl x)).2.2 = c at ht h3
  have no : tieN (tl x) = none → inV .non [optV a, optV b, optV c] = true → ∀ {σ2 : L2.St} {t2 : TT} {tz : TS} {nx ct bk : L2.St → Hp → Prop}, σ2[8]? = some (some (.ref p)) →
      (tSeq (tIfS (tOr (tTest (tOp (rIn K false) (tC .non) (tVar 8))) t2) (tRet (tC .non)) tNext) tz) { nx := nx, rt := Q, ct := ct, bk := bk } σ2 H3 := fun h0 hin {σ2 t2 tz nx ct bk} h8 => by
    have hno : tieOk n (tl x) = none := by unfold tieOk; rw [h0]
    rw [hno] at k
    refine Evl.q_when (b := true) (Evl.et_is (Evl.et_or (a := true) (b := true) (Evl.et_test (Evl.ev_is (Evl.ev_op Evl.ev_c (Evl.ev_var h8) (Evl.rv_isT (Evl.st_of h3) rfl (by cases a <;> cases b <;> cases c <;> rfl))) (congrArg V.bl hin))) (fun z => by cases z)) rfl) (fun _ H4 e4 => ?_) fun z => by cases z
    exact Evl.s_ret Evl.ev_c fun H5 e5 => k .non H5 (e13.trans (e4.trans e5)) rfl
  cases a with
  | none => exact no (by rw [ht]) (by cases b <;> cases c <;> rfl) rfl
  | some a =>
    cases b with
    | none => exact no (by rw [ht]) (by cases c <;> rfl) rfl
    | some b =>
      cases c with
      | none => exact no (by rw [ht]) rfl rfl
      | some c =>
        have tI : TupI K H3 (.ref p) [a, b, c] := ⟨p, rfl, Evl.st_of h3⟩
        have hk : tieOk n (tl x) = if okTie n (a, b, c) then some (a, b, c) else none := by unfold tieOk; rw [ht]
        rw [hk] at k
        refine Evl.q_when (b := !(decide (0 ≤ a ∧ a < n) && (decide (0 ≤ b ∧ b < n) && !decide (a = b)))) (Evl.et_is (Evl.et_or (a := false) (Evl.et_test (Evl.ev_is (Evl.ev_op Evl.ev_c (Evl.ev_var rfl) (Evl.rv_isT (Evl.st_of h3) rfl rfl)) rfl)) fun _ => Evl.et_or (Evl.et_not (Evl.et_test (Evl.ev_op Evl.ev_c (ev_minT (ei_cut2 (evi_of (Evl.ev_var rfl) tI))) rv_le))) fun _ => Evl.et_or (Evl.et_test (Evl.ev_op (ev_maxT (ei_cut2 (evi_of (Evl.ev_var rfl) tI))) (Evl.ev_var rfl) rv_ge)) fun _ => Evl.et_test (Evl.ev_op (ev_ixU (evi_of (Evl.ev_var rfl) tI) Evl.ev_c rfl) (ev_ixU (evi_of (Evl.ev_var rfl) tI) Evl.ev_c rfl) rv_eqI)) ?_) (fun hb H4 e4 => ?_) fun hb H4 e4 => ?_
        · rw [Bool.eq_iff_iff]
          by_cases c1 : b < a
          · by_cases c2 : b > a
            · omega
            · rw [if_pos c1, if_neg c2]
              simp
              omega
          · by_cases c2 : b > a
            · rw [if_neg c1, if_pos c2]
              simp
              omega
            · rw [if_neg c1, if_neg c2]
              simp
              omega
        · have hno : okTie n (a, b, c) = false := by
            simp at hb
            simp [okTie]
            omega
          rw [hno] at k
          exact Evl.s_ret Evl.ev_c fun H5 e5 => k .non H5 (e13.trans (e4.trans e5)) rfl
        · have ev2 : Ev (tOp (rIxT K) (tVar 8) (tC (.int 2))) ((((((((start ["_law_word", "_law_points", "_law_ends", "_law_colon", "_law_number_here", "_law_one", "_law_arrow", "_law_other", "_law_tie"] [V.str x, V.int n]).set 2 (some (strV (parN 58 (tl x)).1))).set 3 (some (strV (parN 58 (tl x)).2.1))).set 4 (some (strV (parN 58 (tl x)).2.2))).set 5 (some (strV (parN 62 (parN 58 (tl x)).1).1))).set 6 (some (strV (parN 62 (parN 58 (tl x)).1).2.1))).set 7 (some (strV (parN 62 (parN 58 (tl x)).1).2.2))).set 8 (some (V.ref p))) H4 (.int c) := ev_ixU (evi_of (Evl.ev_var rfl) (tI.mono e4)) Evl.ev_c rfl
          refine s_retP (ep_if (P := OptT K (if okTie n (a, b, c) then some (a, b, c) else none)) (b := decide (-1000001 < c) && decide (c < 1000001)) (Evl.et_test (ev_chain (ev_neg Evl.ev_c) ev2 rv_lt Evl.ev_c rv_lt)) (fun hc => ?_) fun hc => ?_) fun v H5 e5 hv => k v H5 (e13.trans (e4.trans e5)) hv
          · have hyes : okTie n (a, b, c) = true := by
              simp at hb hc
              simp [okTie]
              omega
            rw [hyes]
            exact evi_of (Evl.ev_var rfl) (tI.mono e4)
          · have hno : okTie n (a, b, c) = false := by
              simp at hc
              simp [okTie]
              omega
            rw [hno]
            exact Ev.toP Evl.ev_c fun H6 e6 => rfl
/-! ### the web of a text -/
def OptW (K : PySem.W.Frag) (o : Option (Int × List Tie × Int)) (v : V) (H : Hp) : Prop := match o with
  | none => v = .non
  | some (n, ts, turn) => ∃ p l, v = .ref p ∧ SqT K H p [.int n, .ref l, .int turn] ∧ LTie K H l ts
def sp__law_in (K : PySem.W.Frag) : Sp := fun vs H Q _ => ∃ (x : Str), vs = [.str x] ∧ x.length ≤ 4900 ∧ RetP (OptW K (dueN (tl x))) H Q
theorem ep_in {x : Str} (h1 : Ev ta σ H (.str x)) (hl : x.length ≤ 4900) : EvP (tCall (sp__law_in K) [] E0 (tCons ta tNil)) σ H (OptW K (dueN (tl x))) :=
  ep_call (Evl.ea_cons h1 Evl.ea_nil) fun H1 Q e k => ⟨x, rfl, hl, k⟩
theorem lc_newL {xs : List V} {P : V → Hp → Prop} {g : TG} {tt : TT} {vs : List Nat} (h : EvL te σ H xs) (k : ∀ a H1, Ex H H1 → H1 a = some (.lst xs) → EvP (tLc (iList K (tC (.ref a))) g tt td vs) σ H1 P) : EvP (tLc (iList K te) g tt td vs) σ H P := fun H1 e Q q =>
  h H1 e _ fun p H2 hp e2 h2 => k p H2 (e.trans e2) h2 H2 (Ex.refl _) Q fun v H3 e3 pv => q v H3 (e2.trans e3) pv
/-- [the tie of w, or None, for w in words] -/
theorem lc_opts {a : Addr} {ws : List (List Nat)} {j : Nat} {f : List Nat → Option Tie} (hx : H a = some (.lst (ws.map strV))) (hz : ws.length ≤ 90000) (hw : ∀ x, wipe ((wipe σ [j]).set j (some x)) [j] = wipe σ [j])
    (he : ∀ (w : List Nat) H1, Ex H H1 → w ∈ ws → EvP te ((wipe σ [j]).set j (some (strV w))) H1 (OptT K (f w))) :
    EvP (tLc (iList K (tC (.ref a))) (gName j) tYes te [j]) σ H (fun v H2 => ∃ p us, v = .ref p ∧ H p = none ∧ H2 p = some (.lst us) ∧ OptL K H2 us (ws.map f)) := by
  refine (lc_gen (G := fun H => SqL K H a (ws.map strV)) (n := (ws.map strV).length) (fun H1 e R q => (Evl.ev_c : Ev (tC (.ref a)) σ H (.ref a)) H1 e _ fun H2 e2 => ⟨a, rfl, ⟨_, SqL.of ((e.trans e2) _ _ hx)⟩, q H2 e2⟩) walk_list (by rw [List.length_map]; exact hz) (fun _ i acc H => OptL K H acc ((ws.take i).map f)) (fun _ _ _ _ _ _ b c => b.updL c) (fun _ _ _ _ => by simp; exact .nil) (fun H1 e => SqL.of (e _ _ hx)) fun Dl i x H1 H2 acc Q hi e fr hD b y q => ?_).imp fun v H2 e hp => ?_
  · obtain ⟨rfl, hxi⟩ := y
    rw [List.getElem?_map] at hxi
    cases hwi : ws[i]? with
    | none => rw [hwi] at hxi; cases hxi
    | some w =>
      rw [hwi] at hxi
      cases hxi
      refine turn1 (hw _) (he w _ e (List.mem_of_getElem? hwi)) fun v H3 e3 hv => q v H3 e3 ?_
      rw [List.take_add_one, hwi, List.map_append]
      exact OptL.snoc hv (b.mono e3)
  · obtain ⟨p, acc, rfl, fr, h2, hl, b⟩ := hp
    rw [List.length_map, List.take_length] at b
    exact ⟨p, acc, rfl, fr, h2, b⟩
def t__law_in (K : PySem.W.Frag) : TS :=
 (tSeq (tAsg (tM1 rSplit (tVar 0) (tC (.str " "))) (gName 1))
 (tSeq (tAsg (tM1 rPartn (tOp (rIxL K) (tVar 1) (tC (.int 0))) (tC (.str "/"))) (gTup K 3 (gCons (gName 2) (gCons (gName 3) (gCons (gName 4) gNil)))))
 (tSeq (tAsg (tTup (tCons (tCall (sp__law_number K) [] E0 (tCons (tVar 2) tNil)) (tCons (tCall (sp__law_number K) [] E0 (tCons (tVar 4) tNil)) tNil))) (gTup K 2 (gCons (gName 2) (gCons (gName 4) gNil))))
 (tSeq (tIfS (tOr (tTest (tOp rIsN (tVar 2) (tC .non))) (tOr (tTest (tOp rIsN (tVar 4) (tC .non))) (tOr (tNot (tTest (tChain rLeI rLtI (tC (.int 1)) (tVar 2) (tC (.int 1000001))))) (tNot (tTest (tChain rLeI rLtI (tC (.int 0)) (tVar 4) (tC (.int 1000001)))))))) (tRet (tC .non)) tNext)
 (tSeq (tAsg (tLc (iList K (tSl (rSlL K) (tVar 1) (tPart (tC (.int 1))) tNoPart)) (gName 6) tYes (tCall (sp__law_tie_in K) [] E0 (tCons (tVar 6) (tCons (tVar 2) tNil))) [6]) (gName 5))
 (tRet (tIf (tTest (tOp (rInD K) (tC .non) (tVar 5))) (tC .non) (tTup (tCons (tVar 2) (tCons (tVar 5) (tCons (tVar 4) tNil)))))))))))
theorem rd__law_in (vs : List V) (H : Hp) (Q : VK) (E : XK) (h : sp__law_in K vs H Q E) : goal (t__law_in K) ["_law_text", "_law_words", "_law_points", "_law_sign", "_law_turn", "_law_ties", "_law_word"] vs H Q := by
  obtain ⟨x, rfl, hlx, k⟩ := h
  have e32 : tl (" " : Str) = [32] := by decide +kernel
  obtain ⟨w, ws, hws⟩ := spl_cons (s := 32) (tl x)
  have hlen := spl_len (s := 32) (tl x)
  rw [hws] at hlen
  have hlx2 : (tl x).length ≤ 4900 := by rw [← TL.len_tl]; exact hlx
  have hwl : ws.length ≤ 4900 := by have := hlen.1; rw [List.length_cons] at this; omega
  refine Evl.q_asgL (xs := (w :: ws).map strV) (by
    have e := el_split (ta := tVar 0) (tb := tC (.str " ")) (σ := L2.start ["_law_text", "_law_words", "_law_points", "_law_sign", "_law_turn", "_law_ties", "_law_word"] [V.str x]) (H := H) (a := x) (b := " ") (Evl.ev_var rfl) Evl.ev_c (by decide +kernel) (by omega)
    rw [split_mk e32 (by decide), hws, List.map_map] at e
    exact e) fun wl H2 fwl e2 h2 => ?_
  have hwx := hlen.2 w List.mem_cons_self
  refine q_part (x := mkS w) (s := 47) (Evl.ev_op (Evl.ev_var rfl) Evl.ev_c (Evl.rv_ixL (v := strV w) (SqL.of h2) (atI_of (by decide) rfl))) (by decide +kernel) (by rw [mkS_len]; omega) fun H3 e3 => ?_
  rw [tl_mkS]
  have hpl := parN_len (s := 47) (l := w)
  refine q_unV2 (P := fun a b _ => a = optV (numN (parN 47 w).1) ∧ b = optV (numN (parN 47 w).2.2)) (fun H4 e4 Q2 q => Evl.eu_tup (vs := [optV (numN (parN 47 w).1), optV (numN (parN 47 w).2.2)]) (Evl.ea_cons (ev_law_number (x := mkS (parN 47 w).1) (Evl.ev_var rfl) (by rw [mkS_len]; omega)) (Evl.ea_cons (ev_law_number (x := mkS (parN 47 w).2.2) (Evl.ev_var rfl) (by rw [mkS_len]; omega)) Evl.ea_nil)) (by show 2 ≤ 100000; decide) H4 e4 _ fun p H5 hp e5 h5 => q _ H5 e5 ⟨p, _, _, rfl, SqT.of h5, rfl, rfl⟩) fun a b H4 e4 hab => ?_
  obtain ⟨rfl, rfl⟩ := hab
  have e14 := (e2.trans e3).trans e4
  have kn : dueN (tl x) = none → ∀ {H9 : Hp} {nx ct bk : L2.St → Hp → Prop} {σ2 : L2.St}, Ex H H9 → (tRet (tC .non)) { nx := nx, rt := Q, ct := ct, bk := bk } σ2 H9 := fun hd {H9 nx ct bk σ2} e9 => by
    rw [hd] at k
    exact Evl.s_ret Evl.ev_c fun H5 e5 => k .non H5 (e9.trans e5) rfl
  cases hn : numN (parN 47 w).1 with
  | none =>
    exact Evl.q_when (b := true) (Evl.et_is (Evl.et_or (a := true) (b := true) (Evl.et_test (Evl.ev_is (Evl.ev_op (Evl.ev_var rfl) Evl.ev_c rv_isN) rfl)) fun z => by cases z) rfl) (fun _ H5 e5 => kn (due_head hws (.inl hn)) (e14.trans e5)) fun z => by cases z
  | some n =>
    cases ht : numN (parN 47 w).2.2 with
    | none =>
      exact Evl.q_when (b := true) (Evl.et_is (Evl.et_or (a := false) (b := true) (Evl.et_test (Evl.ev_is (Evl.ev_op (Evl.ev_var rfl) Evl.ev_c rv_isN) rfl)) fun _ => Evl.et_or (a := true) (b := true) (Evl.et_test (Evl.ev_is (Evl.ev_op (Evl.ev_var rfl) Evl.ev_c rv_isN) rfl)) fun z => by cases z) rfl) (fun _ H5 e5 => kn (due_head hws (.inr ht)) (e14.trans e5)) fun z => by cases z
    | some turn =>
      refine Evl.q_when (b := !rngN n turn) (Evl.et_is (Evl.et_or (a := false) (Evl.et_test (Evl.ev_is (Evl.ev_op (x := .int n) (Evl.ev_var rfl) Evl.ev_c rv_isN) rfl)) fun _ => Evl.et_or (a := false) (Evl.et_test (Evl.ev_is (Evl.ev_op (x := .int turn) (Evl.ev_var rfl) Evl.ev_c rv_isN) rfl)) fun _ => Evl.et_or (Evl.et_not (Evl.et_test (ev_chain Evl.ev_c (Evl.ev_var rfl) rv_le Evl.ev_c rv_lt))) fun _ => Evl.et_not (Evl.et_test (ev_chain Evl.ev_c (Evl.ev_var rfl) rv_le Evl.ev_c rv_lt))) ?_) (fun hb H5 e5 => kn ?_ (e14.trans e5)) fun hb H5 e5 => ?_
      · rw [Bool.eq_iff_iff]
        unfold rngN
        simp
        omega
      · have hr : rngN n turn = false := by simpa using hb
        unfold dueN
        rw [hws]
        dsimp only
        rw [hn, ht]
        dsimp only
        rw [hr]
        rfl
      have hr : rngN n turn = true := by simpa using hb
      have hd : dueN (tl x) = (allSome (ws.map (tieOk n))).map fun ts => (n, ts, turn) := by
        unfold dueN
        rw [hws]
        dsimp only
        rw [hn, ht]
        dsimp only
        rw [hr]
        rfl
      have e15 := e14.trans e5
      have h2' : H5 wl = some (.lst ((w :: ws).map strV)) := ((e3.trans e4).trans e5) _ _ h2
      have hsl := Evl.el_sl (K := K) (te := tVar 1) (tl := tPart (tC (.int 1))) (th := tNoPart) (a := wl) (xs := (w :: ws).map strV) (lo := some 1) (hi := none) (σ := [some (.str x), some (.ref wl), some (.int n), some (strV (parN 47 w).2.1), some (.int turn), none, none]) (H := H5) (Evl.ev_var rfl) (Evl.eo_some Evl.ev_c) Evl.eo_none (SqL.of h2')
      rw [cutV_tail] at hsl
      refine q_asgP (P := fun v H6 => ∃ p us, v = .ref p ∧ H6 p = some (.lst us) ∧ OptL K H6 us (ws.map (tieOk n))) (lc_newL (xs := ws.map strV) hsl fun a H6 e6 h6 => (lc_opts (f := tieOk n) h6 (by omega) (fun _ => rfl) fun w' H7 e7 hw' => ?_).imp fun v H7 e7 ⟨p, us, a1, _, a2, a3⟩ => ⟨p, us, a1, a2, a3⟩) fun v H6 e6 hv => ?_
      · have := hlen.2 w' (List.mem_cons_of_mem _ hw')
        exact ep_tie_in (x := mkS w') (Evl.ev_var rfl) (Evl.ev_var rfl) (by rw [mkS_len]; omega)
      obtain ⟨p, us, rfl, hp, ho⟩ := hv
      refine s_retP (ep_if (P := OptW K (dueN (tl x))) (b := (ws.map (tieOk n)).any (·.isNone)) (Evl.et_test (ev_noneIn (Evl.ev_var rfl) (SqL.of hp) ho)) (fun hc => ?_) fun hc => ?_) fun v H7 e7 hv => k v H7 (e15.trans (e6.trans e7)) hv
      · have hno : none ∈ ws.map (tieOk n) := by
          rw [List.any_eq_true] at hc
          obtain ⟨o, h1, h2⟩ := hc
          cases o with
          | none => exact h1
          | some _ => cases h2
        rw [hd, allSome_none hno]
        exact Ev.toP Evl.ev_c fun _ _ => rfl
      · have hno : none ∉ ws.map (tieOk n) := fun z => by
          rw [List.any_eq_false] at hc
          exact hc _ z rfl
        obtain ⟨ts, h1, h2⟩ := allSome_some hno
        rw [hd, h1]
        rw [← h2] at ho
        exact fun H7 e7 Q2 q => Evl.eu_tup (vs := [.int n, .ref p, .int turn]) (Evl.ea_cons (Evl.ev_var rfl) (Evl.ea_cons (Evl.ev_var rfl) (Evl.ea_cons (Evl.ev_var rfl) Evl.ea_nil))) (by show 3 ≤ 100000; decide) H7 e7 _ fun r H8 hr8 e8 h8 => q _ H8 e8 ⟨r, p, rfl, SqT.of h8, us, SqL.of ((e7.trans e8) _ _ hp), ho.tups.mono (e7.trans e8)⟩
end G

/-! The law's own defs over texts. -/
namespace G
open PySem PySem.Spec PyProof.Rows L2
open Evl (Ex Ev EvL EvU EvT EvA EvO RV RetV)
open TL (tl spl par joinL numL)
local macro_rules | `(tactic| walk_at "hp") => `(tactic| first
  | with_reducible assumption
  | ((with_reducible show _ = some (_ : HO)); (with_reducible exact ex_app (by assumption) (by walk_at "hp")))
  | ((with_reducible show TupI _ _ _ _); (with_reducible exact TupI.mono (by assumption) (by walk_at "hp")))
  | ((with_reducible show LT _ _ _ _); (with_reducible exact LT.mono (by assumption) (by walk_at "hp")))
  | ((with_reducible show LI _ _ _ _); (first | (with_reducible exact li_of (by walk_at "hp")) | (with_reducible exact LI.mono (by assumption) (by walk_at "hp"))))
  | ((with_reducible show SqL _ _ _ _); (first | (with_reducible exact SqL.of (by walk_at "hp")) | (with_reducible exact Evl.ex_l (by assumption) (by walk_at "hp"))))
  | ((with_reducible show SqT _ _ _ _); (first | (with_reducible exact SqT.of (by walk_at "hp")) | (with_reducible exact Evl.ex_t (by assumption) (by walk_at "hp"))))
  | ((with_reducible show Rd _ _ _); (first | (with_reducible exact Rd.of (by walk_at "hp")) | (with_reducible exact Evl.ex_rd (by assumption) (by walk_at "hp"))))
  | walk_at "hpf")
local macro_rules | `(tactic| walk_at "at") => `(tactic| first
  | with_reducible assumption
  | with_reducible rfl
  | (refine atI_of ?va ?vb; (case va => omega); (case vb => assumption))
  | walk_at "atf"
  | rfl)
local macro_rules | `(tactic| walk_at "rv") => `(tactic| first
  | with_reducible exact rv_add | with_reducible exact rv_sub | with_reducible exact rv_eqI | with_reducible exact rv_neI | with_reducible exact rv_lt | with_reducible exact rv_le | with_reducible exact rv_gt | with_reducible exact rv_ge
  | with_reducible exact rv_eqB | with_reducible exact rv_neB | with_reducible exact rv_isB | with_reducible exact rv_notB
  | ((with_reducible refine rv_mod ?_); (first | assumption | omega))
  | ((with_reducible refine rv_mul ?_); (first | exact Or.inl ⟨by omega, by omega⟩ | exact Or.inr ⟨by omega, by omega⟩))
  | ((with_reducible refine rv_div ?_); exact ⟨by omega, by omega⟩))
local macro_rules | `(tactic| walk_at "ty") => `(tactic| first
  | with_reducible exact fun _ _ => .base (.int _) | with_reducible exact fun _ _ => .base (.bl _) | with_reducible exact fun _ _ => .base .non | with_reducible exact fun _ _ => .base (.str _)
  | ((with_reducible apply ty_tup); walk_at "hp")
  | ((with_reducible apply ty_lst); walk_at "hp")
  | walk_at "tyf")
local macro_rules | `(tactic| walk_at "ev") => `(tactic| repeat' (first
  | with_reducible exact Evl.ev_c
  | ((with_reducible apply Evl.ev_var); rfl)
  | with_reducible apply ev_neg
  | with_reducible apply ev_ixU
  | walk_at "evf"
  | ((with_reducible apply ev_lenI); (· walk_at "ev"); (· walk_at "hp"))
  | ((with_reducible apply ev_lenT); (· walk_at "ev"); (· walk_at "hp"))
  | ((with_reducible apply ev_lenU); (· walk_at "ev"))
  | with_reducible apply ev_lenSet
  | with_reducible apply ev_chain
  | with_reducible apply ev_isiTy
  | with_reducible apply Evl.ev_andV
  | with_reducible apply Evl.ev_orV
  | with_reducible apply Evl.ev_notV
  | ((with_reducible apply ev_ixI); (· walk_at "ev"); (· walk_at "ev"); (· walk_at "hp"); (· walk_at "at"))
  | with_reducible apply Evl.ev_op
  | ((with_reducible apply evi_of); (· (with_reducible apply Evl.ev_var); rfl); (· walk_at "hp"))
  | with_reducible apply ei_ix
  | with_reducible apply ei_tup
  | with_reducible exact eai_nil
  | with_reducible apply eai_cons
  | with_reducible exact Evl.ea_nil
  | with_reducible apply Evl.ea_cons
  | with_reducible apply Evl.et_test
  | with_reducible apply Evl.et_and
  | with_reducible apply Evl.et_or
  | with_reducible apply Evl.et_not
  | with_reducible apply Evl.et_B
  | walk_at "rv"
  | ((with_reducible show L2.kitB _ _ = _); rfl)
  | ((with_reducible show L2.atI _ _ = _); walk_at "at")
  | ((with_reducible show (_ : Nat) ≤ _); (first | omega | (simp; done) | (simp; omega)))
  | ((with_reducible show _ = true → _); intro _)
  | ((with_reducible show _ = false → _); intro _)
  | ((with_reducible show TupI _ _ _ _); walk_at "hp")
  | ((with_reducible show LT _ _ _ _); walk_at "hp")
  | ((with_reducible show LI _ _ _ _); walk_at "hp")
  | ((with_reducible show SqL _ _ _ _); walk_at "hp")
  | ((with_reducible show SqT _ _ _ _); walk_at "hp")
  | ((with_reducible show Rd _ _ _); walk_at "hp")
  | ((with_reducible show _ = some (_ : HO)); walk_at "hp")
  | walk_at "hpg"
  | walk_at "ty"))

local macro_rules | `(tactic| walk_at "hpf") => `(tactic| ((with_reducible show WebAt _ _ _ _ _ _); (with_reducible exact WebAt.mono (by assumption) (by walk_at "hp"))))
local macro_rules | `(tactic| walk_at "hpg") => `(tactic| ((with_reducible show WebAt _ _ _ _ _ _); walk_at "hp"))
local macro_rules | `(tactic| walk_at "evf") => `(tactic| with_reducible apply ev_points)
local macro_rules | `(tactic| walk_at "evf") => `(tactic| with_reducible apply ev_turn)
local macro_rules | `(tactic| walk_at "evf") => `(tactic| with_reducible apply ev_lenB)
local macro_rules | `(tactic| walk_at "evf") => `(tactic| with_reducible apply ei_bound)
local macro_rules | `(tactic| walk_at "evf") => `(tactic| with_reducible apply ev_is_whole)
local macro_rules | `(tactic| walk_at "evf") => `(tactic| with_reducible apply ev_is_below)
local macro_rules | `(tactic| walk_at "evf") => `(tactic| with_reducible apply ev_is_tie)
local macro_rules | `(tactic| walk_at "evf") => `(tactic| with_reducible apply ei_stepped)
variable {K : PySem.W.Frag} {σ : L2.St} {H H' H1 : Hp} {ta tb tc te td : TE} {t u : TT} {tl' : TA} {v x y z : V}
theorem el_catX {p : Addr} {xs ys : List V} (ha : Ev ta σ H (.ref p)) (hp : H p = some (.lst xs)) (hb : EvL tb σ H ys) (hm : xs.length + ys.length ≤ 100000) : EvL (tOp rCat ta tb) σ H (xs ++ ys) := fun H1 e Q q =>
  ha H1 e _ fun H2 e2 => hb H2 (e.trans e2) _ fun l H3 _ e3 g1 =>
    ⟨p, l, xs, ys, rfl, rfl, ((e.trans e2).trans e3) _ _ hp, g1, Nat.le_trans hm (by decide), fun r hr => q r _ (Evl.fresh_back (e2.trans e3) hr) ((e2.trans e3).trans (Ex.new hr)) upd_same⟩
theorem s_dropT {D : Ends} {sp : Sp} {W : WX} {vs : List V} (h : EvA tl' σ H vs) (k : ∀ H1, Ex H H1 → sp vs H1 (fun _ H' => D.nx σ H') (WE W σ)) : tDrop (tCallS sp (WE W) tl') D σ H := h H (Ex.refl H) _ fun H1 e1 => k H1 e1
/-! ### refused -/
def sp__law_refused (K : PySem.W.Frag) : Sp := fun vs H Q _ => ∃ (v : V) (d : PyData), vs = [v] ∧ TopT K ∧ Dp K H v d ∧ (∀ x, d = .str x → x.length ≤ 4900 ∧ dueN (tl x) = none) ∧ RetV (.bl true) H Q
theorem ev_refused {d : PyData} (T : TopT K) (h : Ev ta σ H v) (hd : Dp K H v d) (hs : ∀ x, d = .str x → x.length ≤ 4900 ∧ dueN (tl x) = none) : Ev (tCall (sp__law_refused K) [] E0 (tCons ta tNil)) σ H (.bl true) :=
  ev_call (Evl.ea_cons h Evl.ea_nil) fun _ _ e k => ⟨v, d, rfl, T, dp_mono e _ _ hd, hs, k⟩
def t__law_refused (K : PySem.W.Frag) : TS :=
 (tSeq (fun D σ H => (fun W => (tDrop (tCallS (sp_readX K) (WE W) (tCons (tVar 0) tNil)))) (wAs K (.ref (ga K "WebError")) 1 (fun a cls d => (tSeq (tAsg (tLst (tCons (tCB (rIsX K a cls d) (tCons (tVar 1) (tCons (tC (.ref (ga K "BadPoint"))) tNil))) (tCons (tCB (rIsX K a cls d) (tCons (tVar 1) (tCons (tC (.ref (ga K "BadTie"))) tNil))) (tCons (tCB (rIsX K a cls d) (tCons (tVar 1) (tCons (tC (.ref (ga K "BadWeb"))) tNil))) tNil)))) (gName 2))
 (tSeq (tAsg (tOp rCat (tVar 2) (tLst (tCons (tCB (rIsX K a cls d) (tCons (tVar 1) (tCons (tC (.ref (ga K "Unlike"))) tNil))) (tCons (tNotV (tCB (rIsX K a cls d) (tCons (tVar 1) (tCons (tC (.ty "ValueError")) tNil)))) tNil)))) (gName 2))
 (tRet (tAndV (tCB (rIsX K a cls d) (tCons (tVar 1) (tCons (tC (.ref (ga K "BadText"))) tNil))) (tNotV (tCB (rAny K) (tCons (tVar 2) tNil)))))))) (fun _ _ _ _ => False) D) D σ H)
 (tRet (tC (.bl false))))
theorem rd__law_refused (vs : List V) (H : Hp) (Q : VK) (E : XK) (h : sp__law_refused K vs H Q E) : goal (t__law_refused K) ["_law_text", "error", "_law_others"] vs H Q := by
  obtain ⟨v, d, rfl, T, hd, hs, k⟩ := h
  unfold goal t__law_refused
  refine q_seq ?_
  dsimp only
  refine s_dropT (vs := [v]) (Evl.ea_cons (Evl.ev_var rfl) Evl.ea_nil) fun H1 e1 => ⟨v, d, rfl, T, dp_mono e1 _ _ hd, fun x hx => (hs x hx).1, fun x n ts turn hx hd' => ?_, fun _ H2 e2 => ?_⟩
  · rw [(hs x hx).2] at hd'
    cases hd'
  refine ⟨_, T.xt.em 0 "WebError" rfl, fun _ a _ => ?_, fun z => by simp at z⟩
  refine Evl.q_asgL (xs := [.bl (decide (2 = 0 ∨ 2 = 5)), .bl (decide (3 = 0 ∨ 3 = 5)), .bl (decide (1 = 0 ∨ 1 = 5))]) (Evl.el_lst (Evl.ea_cons (ev_isX T.xt.ec (T.xt.is 2 _ rfl) (Evl.ev_var rfl)) (Evl.ea_cons (ev_isX T.xt.ec (T.xt.is 3 _ rfl) (Evl.ev_var rfl)) (Evl.ea_cons (ev_isX T.xt.ec (T.xt.is 1 _ rfl) (Evl.ev_var rfl)) Evl.ea_nil))) (by show 3 ≤ 100000; decide)) fun ol H3 fo e3 ho => ?_
  refine Evl.q_asgL (xs := [.bl (decide (2 = 0 ∨ 2 = 5)), .bl (decide (3 = 0 ∨ 3 = 5)), .bl (decide (1 = 0 ∨ 1 = 5))] ++ [.bl (decide (4 = 0 ∨ 4 = 5)), .bl (!true)]) (el_catX (Evl.ev_var rfl) ho (Evl.el_lst (Evl.ea_cons (ev_isX T.xt.ec (T.xt.is 4 _ rfl) (Evl.ev_var rfl)) (Evl.ea_cons (Evl.ev_notV (ev_isXT T.xt.ec T.xt.iv (Evl.ev_var rfl))) Evl.ea_nil)) (by show 2 ≤ 100000; decide)) (by show 3 + 2 ≤ 100000; decide)) fun pl H4 fp e4 hp => ?_
  refine Evl.s_ret (v := .bl true) (Evl.ev_is (Evl.ev_andV (ev_isX T.xt.ec (T.xt.is 5 _ rfl) (Evl.ev_var rfl)) fun _ => Evl.ev_notV (ev_any (p := pl) (bs := [false, false, false, false, false]) (Ev.toP (Evl.ev_var rfl) fun H5 e5 => ⟨pl, rfl, SqL.of (e5 _ _ hp)⟩))) (by decide)) fun H5 e5 => k H5 ((e1.trans e2).trans ((e3.trans e4).trans e5))
/-! ### right -/
def webDt (n : Int) (ts : List Tie) (turn : Int) : PyData := .tuple [.int n, tupsD (ts.map tieL), .int turn]
theorem shp_webDt (n : Int) (ts : List Tie) (turn : Int) : SeqAt.shaped (webDt n ts turn) = true := shp (by simp only [webDt, tupsD, PyData.canLay0, PyData.canLayAll0, lay_tups]; rfl) (by have := dep_tups (ts.map tieL); simp only [webDt, tupsD, PyData.depth, PyData.depthAll]; omega)
theorem eqv_webDt (n : Int) (ts : List Tie) (turn : Int) : PyData.eqv (webDt n ts turn) (webDt n ts turn) = true := by
  simp only [webDt, PyData.eqv, PyData.eqvAll, eqv_tupsD]
  simp
theorem ed_webDt {w : Addr} {n turn : Int} {ts : List Tie} (h : Ev te σ H (.ref w)) (hw : WebAt K H w n ts turn) : EvD K (tTup (tCons (tFld K te "points") (tCons (tMeth (ga K "Web") "ties" (sp_Web_ties K) [] E0 te tNil) (tCons (tFld K te "turn") tNil)))) σ H (webDt n ts turn) := fun H1 e Q q =>
  ev_points h hw H1 e _ fun H2 e2 => ep_ties hw h H2 (e.trans e2) _ fun v H3 e3 ⟨l, vs, ev, _, hl, hT⟩ => ev_turn h hw H3 ((e.trans e2).trans e3) _ fun H4 e4 => ⟨by show 3 ≤ sizeLine; decide, fun p hp => q _ _ (((e2.trans e3).trans e4).trans (Ex.new hp)) (by
    subst ev
    exact .tup (SqT.of upd_same) (.cons (.int n) (.cons (dp_tups ⟨vs, SqL.of ((e4.trans (Ex.new hp)) _ _ hl), hT.mono (e4.trans (Ex.new hp))⟩) (.cons (.int turn) .nil))))⟩
theorem ep_read {n turn : Int} {ts : List Tie} {x : Str} (T : TopT K) (h : Ev ta σ H (.str x)) (hl : x.length ≤ 4900) (hd : dueN (tl x) = some (n, ts, turn)) : EvP (tCallS (sp_readX K) (WE (fun _ _ _ _ => False)) (tCons ta tNil)) σ H (fun v H2 => ∃ w, v = .ref w ∧ WebAt K H2 w n ts turn) := fun H1 e Q q =>
  h H1 e _ fun H2 e2 => ⟨.str x, .str x, rfl, T, .str x, fun y hy => by cases hy; exact hl, fun y n' ts' turn' hy hd' w H3 e3 hw => by
    cases hy
    rw [hd] at hd'
    cases hd'
    exact q _ H3 (e2.trans e3) ⟨w, rfl, hw⟩, fun hno => by
    have := hno x rfl
    rw [hd] at this
    cases this⟩
def sp__law_right (K : PySem.W.Frag) : Sp := fun vs H Q _ => ∃ x : Str, vs = [.str x] ∧ TopT K ∧ x.length ≤ 4900 ∧ RetV (.bl true) H Q
theorem ev_rightT {x : Str} (T : TopT K) (h : Ev ta σ H (.str x)) (hl : x.length ≤ 4900) : Ev (tCall (sp__law_right K) [] E0 (tCons ta tNil)) σ H (.bl true) :=
  ev_call (Evl.ea_cons h Evl.ea_nil) fun _ _ e k => ⟨x, rfl, T, hl, k⟩
def t__law_right (K : PySem.W.Frag) : TS :=
 (tSeq (tAsg (tCall (sp__law_in K) [] E0 (tCons (tVar 0) tNil)) (gName 1))
 (tSeq (tIfS (tTest (tOp rIsN (tVar 1) (tC .non))) (tRet (tCall (sp__law_refused K) [] E0 (tCons (tVar 0) tNil))) tNext)
 (tSeq (tAsg (tCallS (sp_readX K) (WE (fun _ _ _ _ => False)) (tCons (tVar 0) tNil)) (gName 2))
 (tRet (tAndV (tOp (rEqD K) (tTup (tCons (tFld K (tVar 2) "points") (tCons (tMeth (ga K "Web") "ties" (sp_Web_ties K) [] E0 (tVar 2) tNil) (tCons (tFld K (tVar 2) "turn") tNil)))) (tVar 1)) (tOp rEq (tCall (sp_written K) [] E0 (tCons (tVar 2) tNil)) (tVar 0)))))))
theorem rd__law_right (vs : List V) (H : Hp) (Q : VK) (E : XK) (h : sp__law_right K vs H Q E) : goal (t__law_right K) ["_law_text", "_law_due", "_law_found"] vs H Q := by
  obtain ⟨x, rfl, T, hl, k⟩ := h
  refine q_asgP (ep_in (Evl.ev_var rfl) hl) fun v H1 e1 hv => ?_
  cases hd : dueN (tl x) with
  | none =>
    rw [hd] at hv
    cases hv
    exact Evl.q_when (b := true) (Evl.et_test (Evl.ev_is (Evl.ev_op (Evl.ev_var rfl) Evl.ev_c rv_isN) rfl)) (fun _ H2 e2 => Evl.s_ret (ev_refused (d := .str x) T (Evl.ev_var rfl) (.str x) fun y hy => by cases hy; exact ⟨hl, hd⟩) fun H3 e3 => k H3 (e1.trans (e2.trans e3))) fun z => by cases z
  | some r =>
    obtain ⟨n, ts, turn⟩ := r
    rw [hd] at hv
    obtain ⟨p, l, rfl, hp, hts⟩ := hv
    refine Evl.q_when (b := false) (Evl.et_test (Evl.ev_is (Evl.ev_op (x := .ref p) (Evl.ev_var rfl) Evl.ev_c rv_isN) rfl)) (fun z => by cases z) fun _ H2 e2 => ?_
    refine q_asgP (ep_read T (Evl.ev_var rfl) hl hd) fun v H3 e3 hv => ?_
    obtain ⟨w, rfl, hw⟩ := hv
    obtain ⟨o1, o2, o3⟩ := dueN_ok hd
    have hlt := TL.len_tl x
    have ok : okWeb n ts turn := by
      unfold rngN at o1
      rw [Bool.and_eq_true, decide_eq_true_iff, decide_eq_true_iff] at o1
      exact ⟨o1.1.1, o1.1.2, o1.2.1, o1.2.2, o2, by omega⟩
    have e23 := e2.trans e3
    refine Evl.s_ret (v := .bl true) (Evl.ev_is (Evl.ev_andV (ev_eqD (d := webDt n ts turn) (e := webDt n ts turn) (ed_webDt (Evl.ev_var rfl) hw) (Ev.toP (Evl.ev_var rfl) fun H4 e4 => .tup (Evl.ex_t (e23.trans e4) hp) (.cons (.int n) (.cons (dp_tups (hts.mono (e23.trans e4))) (.cons (.int turn) .nil)))) (shp_webDt n ts turn) (shp_webDt n ts turn)) fun _ => Evl.ev_op (ev_writtenP (Ev.toP (Evl.ev_var rfl) fun H4 e4 => ⟨w, rfl, hw.mono e4⟩) ok) (Evl.ev_var rfl) rv_eqS) ?_) fun H4 e4 => k H4 (e1.trans (e23.trans e4))
    rw [eqv_webDt, dueN_text hd, mkS_tl]
    simp
/-! ### some forty texts -/
abbrev ShortS (vs : List V) (m : Nat) : Prop := vs.length ≤ m ∧ ∀ u ∈ vs, ∃ x : Str, u = .str x ∧ x.length ≤ 4900
theorem ShortS.app {vs ws : List V} {m k : Nat} (h : ShortS vs m) (g : ShortS ws k) : ShortS (vs ++ ws) (m + k) := ⟨by rw [List.length_append]; have := h.1; have := g.1; omega, fun u hu => by
  rcases List.mem_append.mp hu with hu | hu
  · exact h.2 u hu
  · exact g.2 u hu⟩
theorem es_nil : EvAP tNil σ H (fun vs _ => ShortS vs 0) := fun H1 e Q q => q [] H1 (Ex.refl H1) ⟨Nat.le_refl _, fun u hu => by cases hu⟩
theorem es_cons {m : Nat} (h : EvP te σ H (fun v _ => ∃ x : Str, v = .str x ∧ x.length ≤ 4900)) (hr : EvAP tl' σ H (fun vs _ => ShortS vs m)) : EvAP (tCons te tl') σ H (fun vs _ => ShortS vs (m + 1)) := fun H1 e Q q =>
  h H1 e _ fun v H2 e2 hv => hr H2 (e.trans e2) _ fun vs H3 e3 hvs => q (v :: vs) H3 (e2.trans e3) ⟨by rw [List.length_cons]; have := hvs.1; omega, fun u hu => by
    rcases List.mem_cons.mp hu with rfl | hu
    · exact hv
    · exact hvs.2 u hu⟩
theorem es_c {s : Str} {m : Nat} (hs : s.length ≤ 4900) (hr : EvAP tl' σ H (fun vs _ => ShortS vs m)) : EvAP (tCons (tC (.str s)) tl') σ H (fun vs _ => ShortS vs (m + 1)) := es_cons (Ev.toP Evl.ev_c fun _ _ => ⟨s, rfl, hs⟩) hr
abbrev NewS (H : Hp) (m : Nat) (v : V) (H2 : Hp) : Prop := ∃ l us, v = .ref l ∧ H l = none ∧ H2 l = some (.lst us) ∧ ShortS us m
theorem es_lst {m : Nat} (h : EvAP tl' σ H (fun vs _ => ShortS vs m)) (hm : m ≤ 1000) : EvP (tLst tl') σ H (NewS H m) := fun H1 e Q q =>
  h H1 e _ fun vs H2 e2 hvs => ⟨Nat.le_trans hvs.1 (Nat.le_trans hm (by decide)), fun p hp => q _ _ (e2.trans (Ex.new hp)) ⟨p, vs, rfl, Evl.fresh_back (e.trans e2) hp, upd_same, hvs⟩⟩
theorem es_cat {p : Addr} {us : List V} {m k : Nat} (ha : Ev ta σ H (.ref p)) (hp : H p = some (.lst us)) (hs : ShortS us m) (hb : EvP tb σ H (NewS H k)) (hm : m + k ≤ 1000) : EvP (tOp rCat ta tb) σ H (NewS H (m + k)) := fun H1 e Q q =>
  ha H1 e _ fun H2 e2 => hb H2 (e.trans e2) _ fun v H3 e3 ⟨l, ws, ev, _, g1, g2⟩ =>
    ⟨p, l, us, ws, rfl, ev, ((e.trans e2).trans e3) _ _ hp, g1, Nat.le_trans (show us.length + ws.length ≤ 100000 by have := hs.1; have := g2.1; omega) (by decide), fun r hr => q _ _ ((e2.trans e3).trans (Ex.new hr)) ⟨r, us ++ ws, rfl, Evl.fresh_back ((e.trans e2).trans e3) hr, upd_same, hs.app g2⟩⟩
def sp__law_few (K : PySem.W.Frag) : Sp := fun vs H Q _ => vs = [] ∧ RetP (NewS H 1000) H Q
def t__law_few (K : PySem.W.Frag) : TS :=
 (tSeq (tAsg (tLst (tCons (tC (.str "")) (tCons (tC (.str " ")) (tCons (tC (.str "1/0")) (tCons (tC (.str "0/0")) (tCons (tC (.str "-1/0")) (tCons (tC (.str "1/-1")) (tCons (tC (.str "01/0")) (tCons (tC (.str "1/00")) (tCons (tC (.str "1")) (tCons (tC (.str "1/")) (tCons (tC (.str "/0")) (tCons (tC (.str "/")) (tCons (tC (.str "1/0 ")) (tCons (tC (.str " 1/0")) (tCons (tC (.str "1/0/0")) tNil)))))))))))))))) (gName 0))
 (tSeq (tDrop (tBM K "list" rAppend (tVar 0) (tCons (tC (.str "1 /0")) tNil)))
 (tSeq (tAsg (tOp rCat (tVar 0) (tLst (tCons (tC (.str "2/0 0>1:5")) (tCons (tC (.str "2/0 0>1:-5")) (tCons (tC (.str "2/0 0>1:-0")) (tCons (tC (.str "2/0 0>1:05")) (tCons (tC (.str "2/0 0>0:5")) (tCons (tC (.str "2/0 0>2:5")) (tCons (tC (.str "2/0 -1>0:5")) tNil))))))))) (gName 0))
 (tSeq (tAsg (tOp rCat (tVar 0) (tLst (tCons (tC (.str "2/0 0>1")) (tCons (tC (.str "2/0 0:5")) (tCons (tC (.str "2/0 >1:5")) (tCons (tC (.str "2/0 0>:5")) (tCons (tC (.str "2/0 0>1:")) (tCons (tC (.str "2/0 0>1:5:5")) (tCons (tC (.str "2/0 0>1>1:5")) (tCons (tC (.str "2/0 0-1:5")) tNil)))))))))) (gName 0))
 (tSeq (tAsg (tOp rCat (tVar 0) (tLst (tCons (tC (.str "2/0 0>1:5  1>0:5")) (tCons (tC (.str "2/0 0>1:5 1>0:5")) (tCons (tC (.str "2/0 0>1:1000000")) (tCons (tC (.str "2/0 0>1:1000001")) (tCons (tC (.str "2/0 0>1:-1000001")) tNil))))))) (gName 0))
 (tSeq (tAsg (tOp rCat (tVar 0) (tLst (tCons (tC (.str "1000000/1000000")) (tCons (tC (.str "1000001/0")) (tCons (tC (.str "1/1000001")) (tCons (tC (.str "9999999/0")) (tCons (tC (.str "2/0 0>1:5\n")) (tCons (tC (.str "2/0\n0>1:5")) (tCons (tC (.str "2/0,0>1:5")) tNil))))))))) (gName 0))
 (tRet (tOp rCat (tVar 0) (tLst (tCons (tOp rCatS (tOp rRepS (tC (.str "9")) (tC (.int 4000))) (tC (.str "/0"))) (tCons (tOp rCatS (tC (.str "2/0 0>1:")) (tOp rRepS (tC (.str "9")) (tC (.int 4000)))) (tCons (tC (.str "2/0 0>1:+5")) (tCons (tC (.str "x/0")) (tCons (tC (.str "2/0 0>1:5 -")) tNil))))))))))))))
theorem ShortS.mono {vs : List V} {m k : Nat} (h : ShortS vs m) (hk : m ≤ k) : ShortS vs k := ⟨Nat.le_trans h.1 hk, h.2⟩
theorem es_rep {s y : Str} (hs : s.length = 1) (hy : y.length ≤ 100) : EvP (tOp rCatS (tOp rRepS (tC (.str s)) (tC (.int 4000))) (tC (.str y))) σ H (fun v _ => ∃ x : Str, v = .str x ∧ x.length ≤ 4900) := fun H1 e Q q =>
  ep_repS (σ := σ) (H := H) (a := s) (k := 4000) Evl.ev_c Evl.ev_c hs (by decide) (by decide) H1 e _ fun v H2 e2 ⟨w, ev, hw⟩ => by
    have hw2 : w.length = 4000 := hw
    exact ⟨w, y, ev, rfl, Evl.sz_of (by omega), q _ H2 e2 ⟨w ++ y, rfl, by rw [TL.len_tl, TL.tl_append, List.length_append, ← TL.len_tl, ← TL.len_tl]; omega⟩⟩
theorem es_rep2 {s y : Str} (hs : s.length = 1) (hy : y.length ≤ 100) : EvP (tOp rCatS (tC (.str y)) (tOp rRepS (tC (.str s)) (tC (.int 4000)))) σ H (fun v _ => ∃ x : Str, v = .str x ∧ x.length ≤ 4900) := fun H1 e Q q => by
  show tOp rRepS (tC (.str s)) (tC (.int 4000)) σ H1 (fun v H2 => rCatS (.str y) v H2 Q)
  exact ep_repS (σ := σ) (H := H) (a := s) (k := 4000) Evl.ev_c Evl.ev_c hs (by decide) (by decide) H1 e _ fun v H2 e2 ⟨w, ev, hw⟩ => by
    have hw2 : w.length = 4000 := hw
    exact ⟨y, w, rfl, ev, Evl.sz_of (by omega), q _ H2 e2 ⟨y ++ w, rfl, by rw [TL.len_tl, TL.tl_append, List.length_append, ← TL.len_tl, ← TL.len_tl]; omega⟩⟩
theorem rd__law_few (vs : List V) (H : Hp) (Q : VK) (E : XK) (h : sp__law_few K vs H Q E) : goal (t__law_few K) ["_law_some"] vs H Q := by
  obtain ⟨rfl, k⟩ := h
  refine q_asgP (es_lst (m := 15) (by repeat (first | exact es_nil | refine es_c (by decide +kernel) ?_)) (by decide)) fun v H1 e1 hv => ?_
  obtain ⟨l1, us1, rfl, f1, h1, s1⟩ := hv
  refine Evl.q_app (l := l1) (xs := us1) h1 (Evl.ev_var rfl) Evl.ev_c (by have := s1.1; omega) fun H2 e2 => ?_
  have s2 : ShortS (us1 ++ [V.str "1 /0"]) (15 + 1) := s1.app ⟨Nat.le_refl _, fun u hu => ⟨"1 /0", List.mem_singleton.mp hu, by decide +kernel⟩⟩
  have x2 := (e1.trans e2).mut (o := .lst (us1 ++ [V.str "1 /0"])) f1
  refine q_asgP (es_cat (p := l1) (Evl.ev_var rfl) upd_same s2 (es_lst (m := 7) (by repeat (first | exact es_nil | refine es_c (by decide +kernel) ?_)) (by decide)) (by decide)) fun v H3 e3 hv => ?_
  obtain ⟨l3, us3, rfl, f3, h3, s3⟩ := hv
  refine q_asgP (es_cat (p := l3) (Evl.ev_var rfl) h3 s3 (es_lst (m := 8) (by repeat (first | exact es_nil | refine es_c (by decide +kernel) ?_)) (by decide)) (by decide)) fun v H4 e4 hv => ?_
  obtain ⟨l4, us4, rfl, f4, h4, s4⟩ := hv
  refine q_asgP (es_cat (p := l4) (Evl.ev_var rfl) h4 s4 (es_lst (m := 5) (by repeat (first | exact es_nil | refine es_c (by decide +kernel) ?_)) (by decide)) (by decide)) fun v H5 e5 hv => ?_
  obtain ⟨l5, us5, rfl, f5, h5, s5⟩ := hv
  refine q_asgP (es_cat (p := l5) (Evl.ev_var rfl) h5 s5 (es_lst (m := 7) (by repeat (first | exact es_nil | refine es_c (by decide +kernel) ?_)) (by decide)) (by decide)) fun v H6 e6 hv => ?_
  obtain ⟨l6, us6, rfl, f6, h6, s6⟩ := hv
  have x6 := x2.trans ((e3.trans e4).trans (e5.trans e6))
  refine s_retP (es_cat (p := l6) (Evl.ev_var rfl) h6 s6 (es_lst (m := 5) (es_cons (es_rep (by decide +kernel) (by decide +kernel)) (es_cons (es_rep2 (by decide +kernel) (by decide +kernel)) (by repeat (first | exact es_nil | refine es_c (by decide +kernel) ?_)))) (by decide)) (by decide)) fun v H7 e7 hv => ?_
  obtain ⟨l7, us7, rfl, f7, h7, s7⟩ := hv
  exact k _ H7 (x6.trans e7) ⟨l7, us7, rfl, Evl.fresh_back x6 f7, h7, s7.mono (by decide)⟩
end G

/-! The law of texts. -/
namespace G
open PySem PySem.Spec PyProof.Rows L2
open Evl (Ex Ev EvL EvU EvT EvA EvO RV RetV)
open TL (tl spl par joinL numL)
local macro_rules | `(tactic| walk_at "hp") => `(tactic| first
  | with_reducible assumption
  | ((with_reducible show _ = some (_ : HO)); (with_reducible exact ex_app (by assumption) (by walk_at "hp")))
  | ((with_reducible show TupI _ _ _ _); (with_reducible exact TupI.mono (by assumption) (by walk_at "hp")))
  | ((with_reducible show LT _ _ _ _); (with_reducible exact LT.mono (by assumption) (by walk_at "hp")))
  | ((with_reducible show LI _ _ _ _); (first | (with_reducible exact li_of (by walk_at "hp")) | (with_reducible exact LI.mono (by assumption) (by walk_at "hp"))))
  | ((with_reducible show SqL _ _ _ _); (first | (with_reducible exact SqL.of (by walk_at "hp")) | (with_reducible exact Evl.ex_l (by assumption) (by walk_at "hp"))))
  | ((with_reducible show SqT _ _ _ _); (first | (with_reducible exact SqT.of (by walk_at "hp")) | (with_reducible exact Evl.ex_t (by assumption) (by walk_at "hp"))))
  | ((with_reducible show Rd _ _ _); (first | (with_reducible exact Rd.of (by walk_at "hp")) | (with_reducible exact Evl.ex_rd (by assumption) (by walk_at "hp"))))
  | walk_at "hpf")
local macro_rules | `(tactic| walk_at "at") => `(tactic| first
  | with_reducible assumption
  | with_reducible rfl
  | (refine atI_of ?va ?vb; (case va => omega); (case vb => assumption))
  | walk_at "atf"
  | rfl)
local macro_rules | `(tactic| walk_at "rv") => `(tactic| first
  | with_reducible exact rv_add | with_reducible exact rv_sub | with_reducible exact rv_eqI | with_reducible exact rv_neI | with_reducible exact rv_lt | with_reducible exact rv_le | with_reducible exact rv_gt | with_reducible exact rv_ge
  | with_reducible exact rv_eqB | with_reducible exact rv_neB | with_reducible exact rv_isB | with_reducible exact rv_notB
  | ((with_reducible refine rv_mod ?_); (first | assumption | omega))
  | ((with_reducible refine rv_mul ?_); (first | exact Or.inl ⟨by omega, by omega⟩ | exact Or.inr ⟨by omega, by omega⟩))
  | ((with_reducible refine rv_div ?_); exact ⟨by omega, by omega⟩))
local macro_rules | `(tactic| walk_at "ty") => `(tactic| first
  | with_reducible exact fun _ _ => .base (.int _) | with_reducible exact fun _ _ => .base (.bl _) | with_reducible exact fun _ _ => .base .non | with_reducible exact fun _ _ => .base (.str _)
  | ((with_reducible apply ty_tup); walk_at "hp")
  | ((with_reducible apply ty_lst); walk_at "hp")
  | walk_at "tyf")
local macro_rules | `(tactic| walk_at "ev") => `(tactic| repeat' (first
  | with_reducible exact Evl.ev_c
  | ((with_reducible apply Evl.ev_var); rfl)
  | with_reducible apply ev_neg
  | with_reducible apply ev_ixU
  | walk_at "evf"
  | ((with_reducible apply ev_lenI); (· walk_at "ev"); (· walk_at "hp"))
  | ((with_reducible apply ev_lenT); (· walk_at "ev"); (· walk_at "hp"))
  | ((with_reducible apply ev_lenU); (· walk_at "ev"))
  | with_reducible apply ev_lenSet
  | with_reducible apply ev_chain
  | with_reducible apply ev_isiTy
  | with_reducible apply Evl.ev_andV
  | with_reducible apply Evl.ev_orV
  | with_reducible apply Evl.ev_notV
  | ((with_reducible apply ev_ixI); (· walk_at "ev"); (· walk_at "ev"); (· walk_at "hp"); (· walk_at "at"))
  | with_reducible apply Evl.ev_op
  | ((with_reducible apply evi_of); (· (with_reducible apply Evl.ev_var); rfl); (· walk_at "hp"))
  | with_reducible apply ei_ix
  | with_reducible apply ei_tup
  | with_reducible exact eai_nil
  | with_reducible apply eai_cons
  | with_reducible exact Evl.ea_nil
  | with_reducible apply Evl.ea_cons
  | with_reducible apply Evl.et_test
  | with_reducible apply Evl.et_and
  | with_reducible apply Evl.et_or
  | with_reducible apply Evl.et_not
  | with_reducible apply Evl.et_B
  | walk_at "rv"
  | ((with_reducible show L2.kitB _ _ = _); rfl)
  | ((with_reducible show L2.atI _ _ = _); walk_at "at")
  | ((with_reducible show (_ : Nat) ≤ _); (first | omega | (simp; done) | (simp; omega)))
  | ((with_reducible show _ = true → _); intro _)
  | ((with_reducible show _ = false → _); intro _)
  | ((with_reducible show TupI _ _ _ _); walk_at "hp")
  | ((with_reducible show LT _ _ _ _); walk_at "hp")
  | ((with_reducible show LI _ _ _ _); walk_at "hp")
  | ((with_reducible show SqL _ _ _ _); walk_at "hp")
  | ((with_reducible show SqT _ _ _ _); walk_at "hp")
  | ((with_reducible show Rd _ _ _); walk_at "hp")
  | ((with_reducible show _ = some (_ : HO)); walk_at "hp")
  | walk_at "hpg"
  | walk_at "ty"))

local macro_rules | `(tactic| walk_at "hpf") => `(tactic| ((with_reducible show WebAt _ _ _ _ _ _); (with_reducible exact WebAt.mono (by assumption) (by walk_at "hp"))))
local macro_rules | `(tactic| walk_at "hpg") => `(tactic| ((with_reducible show WebAt _ _ _ _ _ _); walk_at "hp"))
local macro_rules | `(tactic| walk_at "evf") => `(tactic| with_reducible apply ev_points)
local macro_rules | `(tactic| walk_at "evf") => `(tactic| with_reducible apply ev_turn)
local macro_rules | `(tactic| walk_at "evf") => `(tactic| with_reducible apply ev_lenB)
local macro_rules | `(tactic| walk_at "evf") => `(tactic| with_reducible apply ei_bound)
local macro_rules | `(tactic| walk_at "evf") => `(tactic| with_reducible apply ev_is_whole)
local macro_rules | `(tactic| walk_at "evf") => `(tactic| with_reducible apply ev_is_below)
local macro_rules | `(tactic| walk_at "evf") => `(tactic| with_reducible apply ev_is_tie)
local macro_rules | `(tactic| walk_at "evf") => `(tactic| with_reducible apply ei_stepped)
variable {K : PySem.W.Frag} {σ : L2.St} {H H' H1 : Hp} {ta tb tc te td : TE} {t u : TT} {tl' : TA} {v x y z : V}
abbrev TopL (K : PySem.W.Frag) : Prop := TopT K
/-! ### the text grows by a tie -/
theorem wr_snoc (n turn : Int) (ts : List Tie) (t : Tie) : wrN n turn (ts ++ [t]) = wrN n turn ts ++ ([32] ++ tieW t) := by
  unfold wrN
  rw [List.map_append]
  exact joinL_snoc (ws := headW n turn :: ts.map tieW) (by simp)
theorem wr_len {n turn : Int} {ts : List Tie} (ok : okWeb n ts turn) : ∀ i : Nat, i ≤ ts.length → (wrN n turn (ts.take i)).length ≤ 30 + 31 * i
  | 0, _ => by
    obtain ⟨o1, o2, o3, o4, _, _⟩ := ok
    exact headW_len (by omega) (by omega)
  | i + 1, h => by
    have ih := wr_len ok i (by omega)
    obtain ⟨b1, b2, b3⟩ := ok_small ok ts[i] (List.getElem_mem _)
    have hw := tieW_len b1 b2 b3
    rw [List.take_add_one, List.getElem?_eq_getElem (by omega)]
    show (wrN n turn (ts.take i ++ [ts[i]])).length ≤ _
    rw [wr_snoc]
    simp
    omega
theorem str_len (a b : Str) : (a ++ b).length = a.length + b.length := by
  rw [TL.len_tl, TL.tl_append, List.length_append, ← TL.len_tl, ← TL.len_tl]
/-! ### all([.. for .. in a list]) -/
theorem lc_newP {PP : List V → Hp → Prop} {P : V → Hp → Prop} {g : TG} {tt : TT} {vs : List Nat} (h : EvP te σ H (fun v H2 => ∃ (a : Addr) (us : List V), v = .ref a ∧ SqL K H2 a us ∧ PP us H2)) (k : ∀ a us H1, Ex H H1 → SqL K H1 a us → PP us H1 → EvP (tLc (iList K (tC (.ref a))) g tt td vs) σ H1 P) : EvP (tLc (iList K te) g tt td vs) σ H P := fun H1 e Q q =>
  h H1 e _ fun v H2 e2 ⟨a, us, ev, h2, p⟩ => by
    subst ev
    exact k a us H2 (e.trans e2) h2 p H2 (Ex.refl _) Q fun v H3 e3 pv => q v H3 (e2.trans e3) pv
theorem ev_allP (h : EvP ta σ H (fun v H2 => ∃ (p : Addr) (bs : List Bool), v = .ref p ∧ SqL K H2 p (bs.map V.bl) ∧ bs.all id = true)) : Ev (tCB (rAll K) (tCons ta tNil)) σ H (.bl true) := fun H1 e Q q =>
  h H1 e _ fun v H2 e2 ⟨p, bs, ev, hp, hb⟩ => ⟨p, bs, by rw [ev], hp, by
    rw [hb]
    exact q H2 e2⟩
theorem ev_allTrue {j : Nat} {PP : List V → Hp → Prop} (h : EvP ta σ H (fun v H2 => ∃ (a : Addr) (us : List V), v = .ref a ∧ SqL K H2 a us ∧ us.length ≤ 90000 ∧ PP us H2)) (hw : ∀ x, wipe ((wipe σ [j]).set j (some x)) [j] = wipe σ [j])
    (he : ∀ us H1, Ex H H1 → PP us H1 → ∀ x ∈ us, Ev te ((wipe σ [j]).set j (some x)) H1 (.bl true)) : Ev (tCB (rAll K) (tCons (tLc (iList K ta) (gName j) tYes te [j]) tNil)) σ H (.bl true) :=
  ev_allP (lc_newP (PP := fun us H2 => us.length ≤ 90000 ∧ PP us H2) h fun a us H1 e1 hq hp => (lc_vals (a := a) (xs := us) (ys := (us.map fun _ => true).map V.bl) Evl.ev_c hq hp.1 (by simp) hw fun i x H2 e2 hx => ⟨.bl true, by simp [(List.getElem?_eq_some_iff.mp hx).1], (he us H1 e1 hp.2 x (List.mem_of_getElem? hx)).mono e2⟩).imp fun v H2 e2 ⟨p, a1, _, a2⟩ => ⟨p, us.map fun _ => true, a1, SqL.of a2, by simp⟩)
theorem ep_few : EvP (tCall (sp__law_few K) [] E0 tNil) σ H (fun v H2 => ∃ (a : Addr) (us : List V), v = .ref a ∧ SqL K H2 a us ∧ us.length ≤ 90000 ∧ ∀ u ∈ us, ∃ x : Str, u = .str x ∧ x.length ≤ 4900) :=
  ep_call Evl.ea_nil fun H1 Q e k => ⟨rfl, fun v H2 e2 ⟨l, us, a1, a2, a3, a4⟩ => k v H2 e2 ⟨l, us, a1, SqL.of a3, by have := a4.1; omega, a4.2⟩⟩
theorem ep_things : EvP (tLst (tCons (tC .non) (tCons (tC (.int 5)) (tCons (tLst (tCons (tC (.str "1/0")) tNil)) (tCons (tC (.bl true)) tNil))))) σ H (fun v H2 => ∃ (a : Addr) (us : List V), v = .ref a ∧ SqL K H2 a us ∧ us.length ≤ 90000 ∧ ∀ u ∈ us, ∃ d, Dp K H2 u d ∧ ∀ x, d ≠ .str x) := fun H1 e Q q => by
  show tLst (tCons (tC (.str "1/0")) tNil) σ H1 (fun v H2 => ([V.non, .int 5, v, .bl true] : List V).length ≤ sizeLine ∧ ∀ p, H2 p = none → Q (.ref p) (upd H2 p (.lst [V.non, .int 5, v, .bl true])))
  exact (Evl.el_lst (Evl.ea_cons Evl.ev_c Evl.ea_nil) (by show 1 ≤ 100000; decide) : EvL (tLst (tCons (tC (.str "1/0")) tNil)) σ H [.str "1/0"]) H1 e _ fun p H2 hp e2 h2 => ⟨by show 4 ≤ sizeLine; decide, fun l hl => q _ _ (e2.trans (Ex.new hl)) ⟨l, [.non, .int 5, .ref p, .bl true], rfl, SqL.of upd_same, by show 4 ≤ 90000; decide, fun u hu => by
    rcases List.mem_cons.mp hu with rfl | hu
    · exact ⟨.none, .non, fun x z => by cases z⟩
    · rcases List.mem_cons.mp hu with rfl | hu
      · exact ⟨.int 5, .int 5, fun x z => by cases z⟩
      · rcases List.mem_cons.mp hu with rfl | hu
        · exact ⟨.list [.str "1/0"], .lst (SqL.of ((Ex.new hl) _ _ h2)) (.cons (.str "1/0") .nil), fun x z => by cases z⟩
        · rcases List.mem_cons.mp hu with rfl | hu
          · exact ⟨.bool true, .bl true, fun x z => by cases z⟩
          · cases hu⟩⟩
/-! ### the sign -/
theorem ep_sign {c1 c2 : Int} {tp tq : TE} (h1 : Ev tp σ H (.int c1)) (h2 : Ev tq σ H (.int c2)) (a0 : 0 ≤ c1) (a1 : c1 < 16) (b0 : 0 ≤ c2) (b1 : c2 < 2) :
    EvP (tOp (rIxT K) (tTup (tCons (tC (.str "")) (tCons (tOp rIxS (tC (.str "0123456789:>/- x")) tp) tNil))) tq) σ H (fun v _ => ∃ s : Str, v = .str s ∧ s.length ≤ 1) := fun H1 e Q q => by
  have hlen : ("0123456789:>/- x" : Str).cps.toList.length = 16 := by decide +kernel
  obtain ⟨c, hc⟩ : ∃ c, atI ("0123456789:>/- x" : Str).cps.toList c1 = some c := ⟨_, by rw [atI_pos a0]; exact List.getElem?_eq_getElem (by omega)⟩
  refine (Evl.eu_tup (vs := [.str "", .str ⟨#[c]⟩]) (Evl.ea_cons Evl.ev_c (Evl.ea_cons (Evl.ev_op Evl.ev_c h1 (Evl.rv_ixS (by decide +kernel) hc)) Evl.ea_nil)) (by show 2 ≤ 100000; decide) : EvU _ σ H _) H1 e _ fun p H2 hp e2 h3 => h2 H2 (e.trans e2) _ fun H3 e3 => ?_
  have hc2 : c2 = 0 ∨ c2 = 1 := by omega
  rcases hc2 with rfl | rfl
  · exact ⟨p, _, 0, .str "", rfl, rfl, SqT.of (e3 _ _ h3), rfl, q _ H3 (e2.trans e3) ⟨"", rfl, by decide +kernel⟩⟩
  · exact ⟨p, _, 1, .str ⟨#[c]⟩, rfl, rfl, SqT.of (e3 _ _ h3), rfl, q _ H3 (e2.trans e3) ⟨⟨#[c]⟩, rfl, Nat.le_refl 1⟩⟩
def sp_law (K : PySem.W.Frag) : Sp := fun vs H Q _ => ∃ (a : Addr) (ns : List Int), vs = [.ref a] ∧ LI K H a ns ∧ ns.length ≤ 63 ∧ TopL K ∧ ∀ H', Q (.bl true) H'
def t_law (K : PySem.W.Frag) : TS :=
 (tSeq (tAsg (tCall (sp__law_web K) [] E0 (tCons (tVar 0) tNil)) (gTup K 3 (gCons (gName 1) (gCons (gName 2) (gCons (gName 3) gNil)))))
 (tSeq (tAsg (tOp rCatS (tOp rCatS (tCB rStrI (tCons (tVar 1) tNil)) (tC (.str "/"))) (tCB rStrI (tCons (tVar 3) tNil))) (gName 4))
 (tSeq (tFor (iList K (tVar 2)) (gTup K 3 (gCons (gName 5) (gCons (gName 6) (gCons (gName 7) gNil)))) (tAsg (tOp rCatS (tOp rCatS (tOp rCatS (tOp rCatS (tOp rCatS (tOp rCatS (tVar 4) (tC (.str " "))) (tCB rStrI (tCons (tVar 5) tNil))) (tC (.str ">"))) (tCB rStrI (tCons (tVar 6) tNil))) (tC (.str ":"))) (tCB rStrI (tCons (tVar 7) tNil))) (gName 4)))
 (tSeq (tIfS (tOr (tTest (tOp rNe (tCall (sp_written K) [] E0 (tCons (tMake (ga K "Web") (sp_Web_init K) [] E0 (tCons (tVar 1) (tCons (tVar 2) (tCons (tVar 3) tNil)))) tNil)) (tVar 4))) (tNot (tB (tCall (sp__law_right K) [] E0 (tCons (tVar 4) tNil))))) (tRet (tC (.bl false))) tNext)
 (tSeq (tAsg (tOp rAddI (tCall (sp__law_cell_at K) [] E0 (tCons (tVar 0) (tCons (tC (.int 3)) tNil))) (tOp rMulI (tC (.int 7)) (tCall (sp__law_cell_at K) [] E0 (tCons (tVar 0) (tCons (tC (.int 0)) tNil))))) (gName 8))
 (tSeq (tFor (iRng1 (tCons (tC (.int 2)) tNil)) (gName 9) (tSeq (tAsg (tCall (sp__law_draw K) [] E0 (tCons (tOp rAddI (tVar 8) (tVar 9)) (tCons (tC (.int 1)) (tCons (tOp rAddI (tCB rLenStr (tCons (tVar 4) tNil)) (tC (.int 1))) tNil)))) (gName 10))
 (tSeq (tAsg (tOp (rIxT K) (tTup (tCons (tC (.str "")) (tCons (tOp rIxS (tC (.str "0123456789:>/- x")) (tCall (sp__law_draw K) [] E0 (tCons (tOp rAddI (tVar 8) (tVar 9)) (tCons (tC (.int 2)) (tCons (tC (.int 16)) tNil))))) tNil))) (tCall (sp__law_draw K) [] E0 (tCons (tOp rAddI (tVar 8) (tVar 9)) (tCons (tC (.int 3)) (tCons (tC (.int 2)) tNil))))) (gName 11))
 (tIfS (tNot (tB (tCall (sp__law_right K) [] E0 (tCons (tOp rCatS (tOp rCatS (tSl rSlS (tVar 4) tNoPart (tPart (tVar 10))) (tVar 11)) (tSl rSlS (tVar 4) (tPart (tOp rAddI (tVar 10) (tCall (sp__law_draw K) [] E0 (tCons (tOp rAddI (tVar 8) (tVar 9)) (tCons (tC (.int 4)) (tCons (tC (.int 2)) tNil)))))) tNoPart)) tNil)))) (tRet (tC (.bl false))) tNext))))
 (tSeq (tIfS (tNot (tB (tCB (rAll K) (tCons (tLc (iList K (tCall (sp__law_few K) [] E0 tNil)) (gName 6) tYes (tCall (sp__law_right K) [] E0 (tCons (tVar 6) tNil)) [6]) tNil)))) (tRet (tC (.bl false))) tNext)
 (tRet (tCB (rAll K) (tCons (tLc (iList K (tLst (tCons (tC .non) (tCons (tC (.int 5)) (tCons (tLst (tCons (tC (.str "1/0")) tNil)) (tCons (tC (.bl true)) tNil)))))) (gName 12) tYes (tCall (sp__law_refused K) [] E0 (tCons (tVar 12) tNil)) [12]) tNil))))))))))
theorem rd_law (vs : List V) (H : Hp) (Q : VK) (E : XK) (h : sp_law K vs H Q E) : goal (t_law K) ["_law_script", "_law_points", "_law_ties", "_law_turn", "_law_text", "_law_one", "_law_other", "_law_number_here", "_law_cell", "_law_k", "_law_at", "_law_sign", "_law_thing"] vs H Q := by
  obtain ⟨a, ns, rfl, hn, hl, T, k⟩ := h
  refine q_unV3 (P := fun x y z H2 => ∃ (l : Addr) (n turn : Int) (ts : List Tie), x = .int n ∧ y = .ref l ∧ z = .int turn ∧ H l = none ∧ LTie K H2 l ts ∧ LawWeb n turn ts ∧ ts.length = ns.length)
    ((ep_law_web (Evl.ea_cons (Evl.ev_var rfl) Evl.ea_nil) hn hl).imp fun v H2 e ⟨p, l, n, turn, ts, a1, a2, a3, ⟨us, a4, a5⟩, a6, a7⟩ => ⟨p, _, _, _, a1, a2, l, n, turn, ts, rfl, rfl, rfl, a3, ⟨us, SqL.of a4, a5⟩, a6, a7⟩) fun x y z H1 e1 hx => ?_
  obtain ⟨l, n, turn, ts, rfl, rfl, rfl, fl, hts, LW, hlen⟩ := hx
  have ok := LW.okW
  have sm := ok_small ok
  have wl := wr_len ok
  have tl63 := LW.len
  have hn1 : LI K H1 a ns := hn.mono e1
  refine Evl.q_asg (v := strV (headW n turn)) (ev_headW (Evl.ev_var rfl) (Evl.ev_var rfl) (by have := LW.n2; have := LW.n66; omega) (by have := LW.t0; have := LW.t1; omega)) fun H2 e2 => ?_
  obtain ⟨us, hq, hT⟩ := id hts
  have hul : us.length = ts.length := by rw [hT.length, List.length_map]
  refine q_seq (f_list (a := l) (xs := us) (Evl.ev_var rfl) (Evl.ex_l e2 hq)
    (fun i σ' H' => ∃ (o5 o6 o7 : Option V), σ' = [some (.ref a), some (.int n), some (.ref l), some (.int turn), some (strV (wrN n turn (ts.take i))), o5, o6, o7, none, none, none, none, none] ∧ Ex H1 H')
    (fun H3 e3 => ⟨_, _, _, rfl, e2.trans e3⟩) (fun i σ' H' _ ⟨_, _, _, _, e⟩ => Evl.ex_l e hq) ?_ ?_)
  · rintro i x σ' H' hxi ⟨o5, o6, o7, rfl, e⟩
    obtain ⟨u, hu, tu⟩ := (hT.mono e).getV hxi
    rw [List.getElem?_map] at hu
    cases hti : ts[i]? with
    | none => rw [hti] at hu; cases hu
    | some t =>
      rw [hti] at hu
      cases hu
      obtain ⟨b1, b2, b3⟩ := sm t (List.mem_of_getElem? hti)
      have l1 := toS_len b1
      have l2 := toS_len b2
      have l3 := toS_len b3
      have hi : i < ts.length := (List.getElem?_eq_some_iff.mp hti).1
      have wi := wl i (by omega)
      refine g_tup3 (a := t.1) (b := t.2.1) (c := t.2.2) tu ?_
      refine Evl.s_asg (v := strV (wrN n turn (ts.take (i + 1)))) (Evl.ev_is (ev_cat (ev_cat (ev_cat (ev_cat (ev_cat (ev_cat (a := wrN n turn (ts.take i)) (Evl.ev_var rfl) (ev_cS s_space) (by show _ + 1 ≤ _; omega)) (ev_toS (Evl.ev_var rfl) b1) (by simp; omega)) (ev_cS s_arrow) (by simp; omega)) (ev_toS (Evl.ev_var rfl) b2) (by simp; omega)) (ev_cS s_colon) (by simp; omega)) (ev_toS (Evl.ev_var rfl) b3) (by simp; omega)) ?_) fun H3 e3 => ⟨_, _, _, rfl, e.trans e3⟩
      rw [List.take_add_one, hti]
      show _ = strV (wrN n turn (ts.take i ++ [t]))
      rw [wr_snoc]
      unfold tieW
      simp
  · rintro σ' H3 ⟨o5, o6, o7, rfl, e⟩
    rw [hul, List.take_length]
    have wlen := wl ts.length (Nat.le_refl _)
    rw [List.take_length] at wlen
    have hts3 : LTie K H3 l ts := hts.mono e
    have hn3 : LI K H3 a ns := hn1.mono e
    have hwr : ∀ {H4 : Hp}, Ex H3 H4 → Ev (tCall (sp_written K) [] E0 (tCons (tMake (ga K "Web") (sp_Web_init K) [] E0 (tCons (tVar 1) (tCons (tVar 2) (tCons (tVar 3) tNil)))) tNil)) [some (.ref a), some (.int n), some (.ref l), some (.int turn), some (strV (wrN n turn ts)), o5, o6, o7, none, none, none, none, none] H4 (strV (wrN n turn ts)) := fun e4 =>
      ev_writtenP ((ep_Web (l := l) T.web (Evl.ea_cons (Evl.ev_var rfl) (Evl.ea_cons (Evl.ev_var rfl) (Evl.ea_cons (Evl.ev_var rfl) Evl.ea_nil))) (hts3.mono e4) ok).imp fun v H5 e5 ⟨p, a1, _, a2⟩ => ⟨p, a1, a2⟩) ok
    have hWl : (wrN n turn ts).length ≤ 1983 := by omega
    generalize wrN n turn ts = W at hwr hWl
    have hSl : (mkS W).length ≤ 1983 := by rw [mkS_len]; exact hWl
    refine Evl.q_when (b := false) (Evl.et_is (Evl.et_or (Evl.et_test (Evl.ev_op (hwr (Ex.refl _)) (Evl.ev_var rfl) rv_neS)) fun _ => Evl.et_not (Evl.et_B (ev_rightT (x := mkS W) T (Evl.ev_var rfl) (by omega)))) (by simp)) (fun z => by cases z) fun _ H4 e4 => ?_
    have hn4 := hn3.mono e4
    refine Evl.q_asg (v := .int (cellF ns 3 + 7 * cellF ns 0)) (Evl.ev_op (ev_cell (Evl.ea_cons (Evl.ev_var rfl) (Evl.ea_cons Evl.ev_c Evl.ea_nil)) hn4 (by decide)) (Evl.ev_op Evl.ev_c (ev_cell (Evl.ea_cons (Evl.ev_var rfl) (Evl.ea_cons Evl.ev_c Evl.ea_nil)) hn4 (by decide)) (rv_mul (.inl (by decide)))) rv_add) fun H5 e5 => ?_
    generalize cellF ns 3 + 7 * cellF ns 0 = cell
    refine q_seq (f_range (n := 2) (Evl.ea_cons Evl.ev_c Evl.ea_nil) ⟨by decide, by decide⟩
      (fun i σ' H' => ∃ (o9 o10 o11 : Option V), σ' = [some (.ref a), some (.int n), some (.ref l), some (.int turn), some (strV W), o5, o6, o7, some (.int cell), o9, o10, o11, none])
      (fun H6 e6 => ⟨_, _, _, rfl⟩) ?_ ?_)
    · rintro i σ' H6 hi ⟨o9, o10, o11, rfl⟩
      have d1 := draw_ge (cell + (i : Int)) 1 (m := ((mkS W).length : Int) + 1) (by omega)
      have d2 := draw_lt (cell + (i : Int)) 1 (m := ((mkS W).length : Int) + 1) (by omega)
      refine Evl.q_asg (v := .int (drawF (cell + (i : Int)) 1 (((mkS W).length : Int) + 1))) (ev_draw (Evl.ea_cons (Evl.ev_op (Evl.ev_var rfl) (Evl.ev_var rfl) rv_add) (Evl.ea_cons Evl.ev_c (Evl.ea_cons (Evl.ev_op (ev_lenStr (a := mkS W) (Evl.ev_var rfl) (by omega)) Evl.ev_c rv_add) Evl.ea_nil))) (by omega)) fun H7 e7 => ?_
      generalize drawF (cell + (i : Int)) 1 (((mkS W).length : Int) + 1) = at'
      refine q_asgP (ep_sign (c1 := drawF (cell + (i : Int)) 2 16) (c2 := drawF (cell + (i : Int)) 3 2) (ev_draw (Evl.ea_cons (Evl.ev_op (Evl.ev_var rfl) (Evl.ev_var rfl) rv_add) (Evl.ea_cons Evl.ev_c (Evl.ea_cons Evl.ev_c Evl.ea_nil))) (by decide)) (ev_draw (Evl.ea_cons (Evl.ev_op (Evl.ev_var rfl) (Evl.ev_var rfl) rv_add) (Evl.ea_cons Evl.ev_c (Evl.ea_cons Evl.ev_c Evl.ea_nil))) (by decide)) (draw_ge _ _ (by decide)) (draw_lt _ _ (by decide)) (draw_ge _ _ (by decide)) (draw_lt _ _ (by decide))) fun v H8 e8 hv => ?_
      obtain ⟨s, rfl, hs⟩ := hv
      have c1 := cutS_length (mkS W) none (some at')
      have c2 := cutS_length (mkS W) (some (at' + drawF (cell + (i : Int)) 4 2)) none
      refine Evl.s_when (b := false) (Evl.et_is (Evl.et_not (Evl.et_B (ev_rightT (x := cutS (mkS W) none (some at') ++ s ++ cutS (mkS W) (some (at' + drawF (cell + (i : Int)) 4 2)) none) T (Evl.ev_op (Evl.ev_op (ev_slS (a := mkS W) (Evl.ev_var rfl) Evl.eo_none (Evl.eo_some (Evl.ev_var rfl)) (by omega)) (Evl.ev_var rfl) (rv_catS (by omega))) (ev_slS (a := mkS W) (Evl.ev_var rfl) (Evl.eo_some (Evl.ev_op (Evl.ev_var rfl) (ev_draw (Evl.ea_cons (Evl.ev_op (Evl.ev_var rfl) (Evl.ev_var rfl) rv_add) (Evl.ea_cons Evl.ev_c (Evl.ea_cons Evl.ev_c Evl.ea_nil))) (by decide)) rv_add)) Evl.eo_none (by omega)) (rv_catS (by rw [str_len]; omega))) (by rw [str_len, str_len]; omega)))) rfl) (fun z => by cases z) fun _ H9 e9 => ⟨_, _, _, rfl⟩
    · rintro σ' H6 ⟨o9, o10, o11, rfl⟩
      dsimp only
      refine Evl.q_when (b := false) (Evl.et_is (Evl.et_not (Evl.et_B (ev_allTrue ep_few (fun _ => rfl) fun us H7 e7 hs x hx => ?_))) rfl) (fun z => by cases z) fun _ H7 e7 => ?_
      · obtain ⟨s, rfl, hs2⟩ := hs x hx
        exact ev_rightT T (Evl.ev_var rfl) hs2
      · refine Evl.s_ret (v := .bl true) (ev_allTrue ep_things (fun _ => rfl) fun us H8 e8 hs x hx => ?_) fun H9 e9 => k H9
        obtain ⟨d, hd, hno⟩ := hs x hx
        exact ev_refused (d := d) T (Evl.ev_var rfl) hd fun y hy => absurd hy (hno y)
end G

namespace G
open PySem PySem.Spec PyProof.Rows L2
def top (i : Nat) : Stmt := PySem.Challenge.pw_closering_k08_written.main.body.getD i (.Pass ⟨0, 0, 0, 0⟩)
structure Nm (K : PySem.W.Frag) (mg : Str → Option Value) : Prop where
  n_ValueError : mg "ValueError" = none
  n_abs : mg "abs" = none
  n_all : mg "all" = none
  n_any : mg "any" = none
  n_bool : mg "bool" = none
  n_int : mg "int" = none
  n_isinstance : mg "isinstance" = none
  n_len : mg "len" = none
  n_list : mg "list" = none
  n_max : mg "max" = none
  n_min : mg "min" = none
  n_range : mg "range" = none
  n_str : mg "str" = none
  n_tuple : mg "tuple" = none
  c_BadPoint : mg "BadPoint" = some (.ref (ga K "BadPoint"))
  c_BadText : mg "BadText" = some (.ref (ga K "BadText"))
  c_BadTie : mg "BadTie" = some (.ref (ga K "BadTie"))
  c_BadWeb : mg "BadWeb" = some (.ref (ga K "BadWeb"))
  c_Unlike : mg "Unlike" = some (.ref (ga K "Unlike"))
  c_WebError : mg "WebError" = some (.ref (ga K "WebError"))
  g_FIGURES : ∃ t, mg "FIGURES" = some (.str "0123456789" t)
  g_GREATEST : ∃ t, mg "GREATEST" = some (.int 1000000 t)
  e_BadText : PySem.W.excIn K (ga K "BadText") He.veBase "ValueError.__new__" = true ∧ PySem.W.keepIn K (.ref (ga K "BadText")) = true ∧ PySem.W.subIn K (.ref (ga K "BadText")) (.type "BaseException") = some true ∧ PySem.W.typeIn K (.ref (ga K "BadText")) = some (.type "type")
  e_BadWeb : PySem.W.excIn K (ga K "BadWeb") He.veBase "ValueError.__new__" = true ∧ PySem.W.keepIn K (.ref (ga K "BadWeb")) = true ∧ PySem.W.subIn K (.ref (ga K "BadWeb")) (.type "BaseException") = some true ∧ PySem.W.typeIn K (.ref (ga K "BadWeb")) = some (.type "type")
theorem room65 {k : Nat} {A : Around} (r : Room k A) : A.units + 65 < cLine := by have := r.un; omega
theorem units_of {k : Nat} {A : Around} (r : Room k A) : A.units + 1 < cLine := by have := r.units; omega
variable {P : Program} {w : World} {K : PySem.W.Frag} {mg : Str → Option Value} {base : Heap} {f : Addr} {fd : FuncData}
abbrev s_is_whole : Stmt := top 10
theorem sc_is_whole : FnScope ["thing"] ["thing"] (defScope s_is_whole) := ⟨rfl, rfl, rfl, by decide +kernel, rfl, by decide +kernel, by decide +kernel⟩
theorem ok_is_whole (F : FunD K "is_whole" "is_whole" (defArgs s_is_whole) (defBody s_is_whole) (defScope s_is_whole) [] [] f fd) (T : Nm K mg)  : FnOk P w K mg base CX0 1 f fd ["thing"] (sp_is_whole K) := by
  refine F.ok sc_is_whole (fun vs H Q E h => by first | (obtain ⟨_, rfl, _⟩ := h; rfl) | (obtain ⟨_, _, rfl, _⟩ := h; rfl) | (obtain ⟨_, _, _, rfl, _⟩ := h; rfl) | (obtain ⟨_, _, _, _, rfl, _⟩ := h; rfl) | (obtain ⟨_, _, _, _, _, rfl, _⟩ := h; rfl) | (obtain ⟨_, _, _, _, _, _, rfl, _⟩ := h; rfl) | (obtain ⟨_, _, _, _, _, _, _, rfl, _⟩ := h; rfl) | (obtain ⟨_, _, _, _, _, _, _, _, rfl, _⟩ := h; rfl) | (obtain ⟨_, _, _, _, _, _, _, _, _, rfl, _⟩ := h; rfl) | (obtain ⟨_, _, _, _, _, _, _, _, _, _, rfl, _⟩ := h; rfl) | (obtain ⟨_, _, _, _, _, _, _, _, _, _, _, rfl, _⟩ := h; rfl) | (obtain ⟨_, _, _, _, _, _, _, _, _, _, _, _, rfl, _⟩ := h; rfl) | (obtain ⟨_, _, _, _, _, _, _, _, _, _, _, _, _, rfl, _⟩ := h; rfl) | (obtain ⟨_, _, _, _, _, _, _, _, _, _, _, _, _, _, rfl, _⟩ := h; rfl) | (obtain ⟨_, _, _, _, _, _, _, _, _, _, _, _, _, _, _, rfl, _⟩ := h; rfl) | (obtain ⟨_, _, _, _, _, _, _, _, _, _, _, _, _, _, _, _, rfl, _⟩ := h; rfl) | (obtain ⟨rfl, _⟩ := h; rfl)) (fun cdv A outer s H vs Q E hr h => ⟨t_is_whole K, PSs.nox ?_, rd_is_whole vs H Q E h⟩)
  have hu := units_of hr
  exact (pss_one (ps_ret (pe_and (pe_callB call_isi (by rfl) T.n_isinstance (by decide +kernel) (pa_cons (pv 0) (pa_cons (pe_bltn (v := .ty "int") rfl T.n_int (by decide +kernel) rfl) pa_nil))) (pe_one (pe_not (pe_callB call_isi (by rfl) T.n_isinstance (by decide +kernel) (pa_cons (pv 0) (pa_cons (pe_bltn (v := .ty "bool") rfl T.n_bool (by decide +kernel) rfl) pa_nil))))))))
abbrev s_is_below : Stmt := top 11
theorem sc_is_below : FnScope ["thing", "many"] ["thing", "many"] (defScope s_is_below) := ⟨rfl, rfl, rfl, by decide +kernel, rfl, by decide +kernel, by decide +kernel⟩
theorem ok_is_below (F : FunD K "is_below" "is_below" (defArgs s_is_below) (defBody s_is_below) (defScope s_is_below) [] [] f fd) (T : Nm K mg) (U_is_whole : Use P w K mg base CX0 1 "is_whole" ["thing"] (sp_is_whole K)) : FnOk P w K mg base CX0 2 f fd ["thing", "many"] (sp_is_below K) := by
  refine F.ok sc_is_below (fun vs H Q E h => by first | (obtain ⟨_, rfl, _⟩ := h; rfl) | (obtain ⟨_, _, rfl, _⟩ := h; rfl) | (obtain ⟨_, _, _, rfl, _⟩ := h; rfl) | (obtain ⟨_, _, _, _, rfl, _⟩ := h; rfl) | (obtain ⟨_, _, _, _, _, rfl, _⟩ := h; rfl) | (obtain ⟨_, _, _, _, _, _, rfl, _⟩ := h; rfl) | (obtain ⟨_, _, _, _, _, _, _, rfl, _⟩ := h; rfl) | (obtain ⟨_, _, _, _, _, _, _, _, rfl, _⟩ := h; rfl) | (obtain ⟨_, _, _, _, _, _, _, _, _, rfl, _⟩ := h; rfl) | (obtain ⟨_, _, _, _, _, _, _, _, _, _, rfl, _⟩ := h; rfl) | (obtain ⟨_, _, _, _, _, _, _, _, _, _, _, rfl, _⟩ := h; rfl) | (obtain ⟨_, _, _, _, _, _, _, _, _, _, _, _, rfl, _⟩ := h; rfl) | (obtain ⟨_, _, _, _, _, _, _, _, _, _, _, _, _, rfl, _⟩ := h; rfl) | (obtain ⟨_, _, _, _, _, _, _, _, _, _, _, _, _, _, rfl, _⟩ := h; rfl) | (obtain ⟨_, _, _, _, _, _, _, _, _, _, _, _, _, _, _, rfl, _⟩ := h; rfl) | (obtain ⟨_, _, _, _, _, _, _, _, _, _, _, _, _, _, _, _, rfl, _⟩ := h; rfl) | (obtain ⟨rfl, _⟩ := h; rfl)) (fun cdv A outer s H vs Q E hr h => ⟨t_is_below K, PSs.nox ?_, rd_is_below vs H Q E h⟩)
  have hu := units_of hr
  exact (pss_one (ps_ret (pe_and (pe_use U_is_whole hr (pa_cons (pv 0) pa_nil)) (pe_one (pe_chain op_le op_lt pe_int (pv 0) (pv 1))))))
abbrev s_is_tie : Stmt := top 12
theorem sc_is_tie : FnScope ["thing", "points"] ["thing", "points"] (defScope s_is_tie) := ⟨rfl, rfl, rfl, by decide +kernel, rfl, by decide +kernel, by decide +kernel⟩
theorem ok_is_tie (F : FunD K "is_tie" "is_tie" (defArgs s_is_tie) (defBody s_is_tie) (defScope s_is_tie) [] [] f fd) (T : Nm K mg) (U_is_below : Use P w K mg base CX0 2 "is_below" ["thing", "many"] (sp_is_below K)) (U_is_whole : Use P w K mg base CX0 1 "is_whole" ["thing"] (sp_is_whole K)) : FnOk P w K mg base CX0 3 f fd ["thing", "points"] (sp_is_tie K) := by
  refine F.ok sc_is_tie (fun vs H Q E h => by first | (obtain ⟨_, rfl, _⟩ := h; rfl) | (obtain ⟨_, _, rfl, _⟩ := h; rfl) | (obtain ⟨_, _, _, rfl, _⟩ := h; rfl) | (obtain ⟨_, _, _, _, rfl, _⟩ := h; rfl) | (obtain ⟨_, _, _, _, _, rfl, _⟩ := h; rfl) | (obtain ⟨_, _, _, _, _, _, rfl, _⟩ := h; rfl) | (obtain ⟨_, _, _, _, _, _, _, rfl, _⟩ := h; rfl) | (obtain ⟨_, _, _, _, _, _, _, _, rfl, _⟩ := h; rfl) | (obtain ⟨_, _, _, _, _, _, _, _, _, rfl, _⟩ := h; rfl) | (obtain ⟨_, _, _, _, _, _, _, _, _, _, rfl, _⟩ := h; rfl) | (obtain ⟨_, _, _, _, _, _, _, _, _, _, _, rfl, _⟩ := h; rfl) | (obtain ⟨_, _, _, _, _, _, _, _, _, _, _, _, rfl, _⟩ := h; rfl) | (obtain ⟨_, _, _, _, _, _, _, _, _, _, _, _, _, rfl, _⟩ := h; rfl) | (obtain ⟨_, _, _, _, _, _, _, _, _, _, _, _, _, _, rfl, _⟩ := h; rfl) | (obtain ⟨_, _, _, _, _, _, _, _, _, _, _, _, _, _, _, rfl, _⟩ := h; rfl) | (obtain ⟨_, _, _, _, _, _, _, _, _, _, _, _, _, _, _, _, rfl, _⟩ := h; rfl) | (obtain ⟨rfl, _⟩ := h; rfl)) (fun cdv A outer s H vs Q E hr h => ⟨t_is_tie K, PSs.nox ?_, rd_is_tie vs H Q E h⟩)
  have hu := units_of hr
  exact (pss_cons (ps_if (PW.pt (pw_or (pt_not (pt_val (pe_callB call_isi (by rfl) T.n_isinstance (by decide +kernel) (pa_cons (pv 0) (pa_cons (pe_bltn (v := .ty "tuple") rfl T.n_tuple (by decide +kernel) rfl) pa_nil))))) (pw_or1 (pt_cmpR op_ne (pe_callB call_len_seq (by rfl) T.n_len PySem.boot_len (pa_cons (pv 0) pa_nil)) pe_int (nomark _))))) (pss_one (ps_ret pe_bl)) pss_nil)
 (pss_cons (ps_if (PW.pt (pw_or (pt_not (pt_val (pe_use U_is_below hr (pa_cons (pe_ix ix_tup (pv 0) pe_int (fun _ _ => rfl)) (pa_cons (pv 1) pa_nil))))) (pw_or (pt_not (pt_val (pe_use U_is_below hr (pa_cons (pe_ix ix_tup (pv 0) pe_int (fun _ _ => rfl)) (pa_cons (pv 1) pa_nil))))) (pw_or1 (pt_cmpR op_eq (pe_ix ix_tup (pv 0) pe_int (fun _ _ => rfl)) (pe_ix ix_tup (pv 0) pe_int (fun _ _ => rfl)) (nomark _)))))) (pss_one (ps_ret pe_bl)) pss_nil)
 (pss_one (ps_ret (pe_and (pe_use U_is_whole hr (pa_cons (pe_ix ix_tup (pv 0) pe_int (fun _ _ => rfl)) pa_nil)) (pe_one (pe_chain op_le op_le (pe_un un_neg (pe_glob rfl T.g_GREATEST.choose_spec ⟨_, rfl⟩)) (pe_ix ix_tup (pv 0) pe_int (fun _ _ => rfl)) (pe_glob rfl T.g_GREATEST.choose_spec ⟨_, rfl⟩))))))))
abbrev s_Web_init : Stmt := inClass (top 13) 0
theorem sc_Web_init : FnScope ["self", "points", "ties", "turn", "tie"] ["self", "points", "ties", "turn"] (defScope s_Web_init) := ⟨rfl, rfl, rfl, by decide +kernel, rfl, by decide +kernel, by decide +kernel⟩
theorem ok_Web_init (F : FunD K "__init__" "Web.__init__" (defArgs s_Web_init) (defBody s_Web_init) (defScope s_Web_init) [] [] f fd) (T : Nm K mg) (U_is_below : Use P w K mg base CX0 2 "is_below" ["thing", "many"] (sp_is_below K)) (U_is_tie : Use P w K mg base CX0 3 "is_tie" ["thing", "points"] (sp_is_tie K)) : FnOk P w K mg base CX0 4 f fd ["self", "points", "ties", "turn"] (sp_Web_init K) := by
  refine F.ok sc_Web_init (fun vs H Q E h => by first | (obtain ⟨_, rfl, _⟩ := h; rfl) | (obtain ⟨_, _, rfl, _⟩ := h; rfl) | (obtain ⟨_, _, _, rfl, _⟩ := h; rfl) | (obtain ⟨_, _, _, _, rfl, _⟩ := h; rfl) | (obtain ⟨_, _, _, _, _, rfl, _⟩ := h; rfl) | (obtain ⟨_, _, _, _, _, _, rfl, _⟩ := h; rfl) | (obtain ⟨_, _, _, _, _, _, _, rfl, _⟩ := h; rfl) | (obtain ⟨_, _, _, _, _, _, _, _, rfl, _⟩ := h; rfl) | (obtain ⟨_, _, _, _, _, _, _, _, _, rfl, _⟩ := h; rfl) | (obtain ⟨_, _, _, _, _, _, _, _, _, _, rfl, _⟩ := h; rfl) | (obtain ⟨_, _, _, _, _, _, _, _, _, _, _, rfl, _⟩ := h; rfl) | (obtain ⟨_, _, _, _, _, _, _, _, _, _, _, _, rfl, _⟩ := h; rfl) | (obtain ⟨_, _, _, _, _, _, _, _, _, _, _, _, _, rfl, _⟩ := h; rfl) | (obtain ⟨_, _, _, _, _, _, _, _, _, _, _, _, _, _, rfl, _⟩ := h; rfl) | (obtain ⟨_, _, _, _, _, _, _, _, _, _, _, _, _, _, _, rfl, _⟩ := h; rfl) | (obtain ⟨_, _, _, _, _, _, _, _, _, _, _, _, _, _, _, _, rfl, _⟩ := h; rfl) | (obtain ⟨rfl, _⟩ := h; rfl)) (fun cdv A outer s H vs Q E hr h => ⟨t_Web_init K, PSs.nox ?_, rd_Web_init vs H Q E h⟩)
  have hu := units_of hr
  exact (pss_cons (ps_if (PW.pt (pw_or (pt_not (pt_val (pe_use U_is_below hr (pa_cons (pv 1) (pa_cons (pe_op op_add (pe_glob rfl T.g_GREATEST.choose_spec ⟨_, rfl⟩) pe_int) pa_nil))))) (pw_or (pt_cmpR op_lt (pv 1) pe_int (nomark _)) (pw_or1 (pt_not (pt_val (pe_use U_is_below hr (pa_cons (pv 3) (pa_cons (pe_op op_add (pe_glob rfl T.g_GREATEST.choose_spec ⟨_, rfl⟩) pe_int) pa_nil))))))))) (pss_one ps_never) pss_nil)
 (pss_cons (ps_if (PW.pt (pw_or (pt_not (pt_val (pe_callB call_isi (by rfl) T.n_isinstance (by decide +kernel) (pa_cons (pv 2) (pa_cons (pe_bltn (v := .ty "list") rfl T.n_list (by decide +kernel) rfl) pa_nil))))) (pw_or1 (pt_not (pt_val (pe_callB (cr_all rfl) (by rfl) T.n_all (by decide +kernel) (pa_cons (pe_lc (own := [("tie", 4)]) (g := (gName 4)) (tt := tYes) rfl sc_Web_init.nd (pi_list (pv 2)) (blkOk_by (own := [("tie", 4)]) (N := ["self", "points", "ties", "turn", "tie"]) (sc := defScope s_Web_init) (by decide +kernel)) (fun _ _ _ _ _ => (pg_name (i := 4) sc_Web_init.nd rfl (Or.inl rfl))) (fun _ _ _ _ _ => pts_nil) (fun _ _ _ _ _ => (pe_use U_is_tie hr (pa_cons (pv 4) (pa_cons (pv 1) pa_nil))))) pa_nil))))))) (pss_one ps_never) pss_nil)
 (pss_cons (ps_fld (pv 0) (pv 1) rfl)
 (pss_cons (ps_fld (pv 0) (pv 3) rfl)
 (pss_one (ps_fld (pv 0) (pe_callTy call_list_of (by rfl) T.n_list (by decide +kernel) (pa_cons (pv 2) pa_nil)) rfl))))))
abbrev s__law_cell_at : Stmt := top 20
theorem sc__law_cell_at : FnScope ["_law_script", "_law_k"] ["_law_script", "_law_k"] (defScope s__law_cell_at) := ⟨rfl, rfl, rfl, by decide +kernel, rfl, by decide +kernel, by decide +kernel⟩
theorem ok__law_cell_at (F : FunD K "_law_cell_at" "_law_cell_at" (defArgs s__law_cell_at) (defBody s__law_cell_at) (defScope s__law_cell_at) [] [] f fd) (T : Nm K mg)  : FnOk P w K mg base CX0 1 f fd ["_law_script", "_law_k"] (sp__law_cell_at K) := by
  refine F.ok sc__law_cell_at (fun vs H Q E h => by first | (obtain ⟨_, rfl, _⟩ := h; rfl) | (obtain ⟨_, _, rfl, _⟩ := h; rfl) | (obtain ⟨_, _, _, rfl, _⟩ := h; rfl) | (obtain ⟨_, _, _, _, rfl, _⟩ := h; rfl) | (obtain ⟨_, _, _, _, _, rfl, _⟩ := h; rfl) | (obtain ⟨_, _, _, _, _, _, rfl, _⟩ := h; rfl) | (obtain ⟨_, _, _, _, _, _, _, rfl, _⟩ := h; rfl) | (obtain ⟨_, _, _, _, _, _, _, _, rfl, _⟩ := h; rfl) | (obtain ⟨_, _, _, _, _, _, _, _, _, rfl, _⟩ := h; rfl) | (obtain ⟨_, _, _, _, _, _, _, _, _, _, rfl, _⟩ := h; rfl) | (obtain ⟨_, _, _, _, _, _, _, _, _, _, _, rfl, _⟩ := h; rfl) | (obtain ⟨_, _, _, _, _, _, _, _, _, _, _, _, rfl, _⟩ := h; rfl) | (obtain ⟨_, _, _, _, _, _, _, _, _, _, _, _, _, rfl, _⟩ := h; rfl) | (obtain ⟨_, _, _, _, _, _, _, _, _, _, _, _, _, _, rfl, _⟩ := h; rfl) | (obtain ⟨_, _, _, _, _, _, _, _, _, _, _, _, _, _, _, rfl, _⟩ := h; rfl) | (obtain ⟨_, _, _, _, _, _, _, _, _, _, _, _, _, _, _, _, rfl, _⟩ := h; rfl) | (obtain ⟨rfl, _⟩ := h; rfl)) (fun cdv A outer s H vs Q E hr h => ⟨t__law_cell_at K, PSs.nox ?_, rd__law_cell_at vs H Q E h⟩)
  have hu := units_of hr
  exact (pss_cons (ps_if (pt_cmpR op_lt (pv 1) (pe_callB call_len_seq (by rfl) T.n_len PySem.boot_len (pa_cons (pv 0) pa_nil)) (nomark _)) (pss_one (ps_ret (pe_ix ix_list (pv 0) (pv 1) (fun _ _ => rfl)))) pss_nil)
 (pss_one (ps_ret pe_int)))
abbrev s__law_draw : Stmt := top 21
theorem sc__law_draw : FnScope ["_law_cell", "_law_k", "_law_many", "_law_primes"] ["_law_cell", "_law_k", "_law_many"] (defScope s__law_draw) := ⟨rfl, rfl, rfl, by decide +kernel, rfl, by decide +kernel, by decide +kernel⟩
theorem ok__law_draw (F : FunD K "_law_draw" "_law_draw" (defArgs s__law_draw) (defBody s__law_draw) (defScope s__law_draw) [] [] f fd) (T : Nm K mg)  : FnOk P w K mg base CX0 1 f fd ["_law_cell", "_law_k", "_law_many"] (sp__law_draw K) := by
  refine F.ok sc__law_draw (fun vs H Q E h => by first | (obtain ⟨_, rfl, _⟩ := h; rfl) | (obtain ⟨_, _, rfl, _⟩ := h; rfl) | (obtain ⟨_, _, _, rfl, _⟩ := h; rfl) | (obtain ⟨_, _, _, _, rfl, _⟩ := h; rfl) | (obtain ⟨_, _, _, _, _, rfl, _⟩ := h; rfl) | (obtain ⟨_, _, _, _, _, _, rfl, _⟩ := h; rfl) | (obtain ⟨_, _, _, _, _, _, _, rfl, _⟩ := h; rfl) | (obtain ⟨_, _, _, _, _, _, _, _, rfl, _⟩ := h; rfl) | (obtain ⟨_, _, _, _, _, _, _, _, _, rfl, _⟩ := h; rfl) | (obtain ⟨_, _, _, _, _, _, _, _, _, _, rfl, _⟩ := h; rfl) | (obtain ⟨_, _, _, _, _, _, _, _, _, _, _, rfl, _⟩ := h; rfl) | (obtain ⟨_, _, _, _, _, _, _, _, _, _, _, _, rfl, _⟩ := h; rfl) | (obtain ⟨_, _, _, _, _, _, _, _, _, _, _, _, _, rfl, _⟩ := h; rfl) | (obtain ⟨_, _, _, _, _, _, _, _, _, _, _, _, _, _, rfl, _⟩ := h; rfl) | (obtain ⟨_, _, _, _, _, _, _, _, _, _, _, _, _, _, _, rfl, _⟩ := h; rfl) | (obtain ⟨_, _, _, _, _, _, _, _, _, _, _, _, _, _, _, _, rfl, _⟩ := h; rfl) | (obtain ⟨rfl, _⟩ := h; rfl)) (fun cdv A outer s H vs Q E hr h => ⟨t__law_draw K, PSs.nox ?_, rd__law_draw vs H Q E h⟩)
  have hu := units_of hr
  exact (pss_cons (ps_set (i := 3) sc__law_draw.nd rfl (Or.inl rfl) (pe_tup (pa_cons pe_int (pa_cons pe_int (pa_cons pe_int (pa_cons pe_int (pa_cons pe_int (pa_cons pe_int (pa_cons pe_int (pa_cons pe_int (pa_cons pe_int (pa_cons pe_int (pa_cons pe_int (pa_cons pe_int (pa_cons pe_int (pa_cons pe_int (pa_cons pe_int (pa_cons pe_int pa_nil))))))))))))))))))
 (pss_one (ps_ret (pe_op op_mod (pe_op op_mod (pe_op op_add (pe_op op_mul (pv 0) pe_int) (pe_op op_mul (pv 1) pe_int)) (pe_ix ix_tup (pv 3) (pe_op op_mod (pv 1) pe_int) (fun _ _ => rfl))) (pv 2)))))
abbrev s__law_few : Stmt := top 31
theorem sc__law_few : FnScope ["_law_some"] [] (defScope s__law_few) := ⟨rfl, rfl, rfl, by decide +kernel, rfl, by decide +kernel, by decide +kernel⟩
theorem ok__law_few (F : FunD K "_law_few" "_law_few" (defArgs s__law_few) (defBody s__law_few) (defScope s__law_few) [] [] f fd) (T : Nm K mg)  : FnOk P w K mg base CX0 1 f fd [] (sp__law_few K) := by
  refine F.ok sc__law_few (fun vs H Q E h => by first | (obtain ⟨_, rfl, _⟩ := h; rfl) | (obtain ⟨_, _, rfl, _⟩ := h; rfl) | (obtain ⟨_, _, _, rfl, _⟩ := h; rfl) | (obtain ⟨_, _, _, _, rfl, _⟩ := h; rfl) | (obtain ⟨_, _, _, _, _, rfl, _⟩ := h; rfl) | (obtain ⟨_, _, _, _, _, _, rfl, _⟩ := h; rfl) | (obtain ⟨_, _, _, _, _, _, _, rfl, _⟩ := h; rfl) | (obtain ⟨_, _, _, _, _, _, _, _, rfl, _⟩ := h; rfl) | (obtain ⟨_, _, _, _, _, _, _, _, _, rfl, _⟩ := h; rfl) | (obtain ⟨_, _, _, _, _, _, _, _, _, _, rfl, _⟩ := h; rfl) | (obtain ⟨_, _, _, _, _, _, _, _, _, _, _, rfl, _⟩ := h; rfl) | (obtain ⟨_, _, _, _, _, _, _, _, _, _, _, _, rfl, _⟩ := h; rfl) | (obtain ⟨_, _, _, _, _, _, _, _, _, _, _, _, _, rfl, _⟩ := h; rfl) | (obtain ⟨_, _, _, _, _, _, _, _, _, _, _, _, _, _, rfl, _⟩ := h; rfl) | (obtain ⟨_, _, _, _, _, _, _, _, _, _, _, _, _, _, _, rfl, _⟩ := h; rfl) | (obtain ⟨_, _, _, _, _, _, _, _, _, _, _, _, _, _, _, _, rfl, _⟩ := h; rfl) | (obtain ⟨rfl, _⟩ := h; rfl)) (fun cdv A outer s H vs Q E hr h => ⟨t__law_few K, PSs.nox ?_, rd__law_few vs H Q E h⟩)
  have hu := units_of hr
  exact (pss_cons (ps_set (i := 0) sc__law_few.nd rfl (Or.inl rfl) (pe_lst (pa_cons pe_str (pa_cons pe_str (pa_cons pe_str (pa_cons pe_str (pa_cons pe_str (pa_cons pe_str (pa_cons pe_str (pa_cons pe_str (pa_cons pe_str (pa_cons pe_str (pa_cons pe_str (pa_cons pe_str (pa_cons pe_str (pa_cons pe_str (pa_cons pe_str pa_nil)))))))))))))))))
 (pss_cons (ps_expr (pe_bm PySem.F.plainAttrs_list PySem.F.slot_list_append PySem.F.type_list_append mt_append (pv 0) (pa_cons pe_str pa_nil)))
 (pss_cons (ps_set (i := 0) sc__law_few.nd rfl (Or.inl rfl) (pe_op op_cat (pv 0) (pe_lst (pa_cons pe_str (pa_cons pe_str (pa_cons pe_str (pa_cons pe_str (pa_cons pe_str (pa_cons pe_str (pa_cons pe_str pa_nil))))))))))
 (pss_cons (ps_set (i := 0) sc__law_few.nd rfl (Or.inl rfl) (pe_op op_cat (pv 0) (pe_lst (pa_cons pe_str (pa_cons pe_str (pa_cons pe_str (pa_cons pe_str (pa_cons pe_str (pa_cons pe_str (pa_cons pe_str (pa_cons pe_str pa_nil)))))))))))
 (pss_cons (ps_set (i := 0) sc__law_few.nd rfl (Or.inl rfl) (pe_op op_cat (pv 0) (pe_lst (pa_cons pe_str (pa_cons pe_str (pa_cons pe_str (pa_cons pe_str (pa_cons pe_str pa_nil))))))))
 (pss_cons (ps_set (i := 0) sc__law_few.nd rfl (Or.inl rfl) (pe_op op_cat (pv 0) (pe_lst (pa_cons pe_str (pa_cons pe_str (pa_cons pe_str (pa_cons pe_str (pa_cons pe_str (pa_cons pe_str (pa_cons pe_str pa_nil))))))))))
 (pss_one (ps_ret (pe_op op_cat (pv 0) (pe_lst (pa_cons (pe_op op_catS (pe_op op_repS pe_str pe_int) pe_str) (pa_cons (pe_op op_catS pe_str (pe_op op_repS pe_str pe_int)) (pa_cons pe_str (pa_cons pe_str (pa_cons pe_str pa_nil)))))))))))))))
abbrev s_Web_initX : Stmt := inClass (top 13) 0
theorem sc_Web_initX : FnScope ["self", "points", "ties", "turn", "tie"] ["self", "points", "ties", "turn"] (defScope s_Web_initX) := ⟨rfl, rfl, rfl, by decide +kernel, rfl, by decide +kernel, by decide +kernel⟩
theorem ok_Web_initX (F : FunD K "__init__" "Web.__init__" (defArgs s_Web_initX) (defBody s_Web_initX) (defScope s_Web_initX) [] [] f fd) (T : Nm K mg) (U_is_below : Use P w K mg base CX0 2 "is_below" ["thing", "many"] (sp_is_below K)) (U_is_tie : Use P w K mg base CX0 3 "is_tie" ["thing", "points"] (sp_is_tie K)) : FnOk P w K mg base (L2N.CX P w) 4 f fd ["self", "points", "ties", "turn"] (sp_Web_initX K) := by
  refine F.ok sc_Web_initX (fun vs H Q E h => by first | (obtain ⟨_, rfl, _⟩ := h; rfl) | (obtain ⟨_, _, rfl, _⟩ := h; rfl) | (obtain ⟨_, _, _, rfl, _⟩ := h; rfl) | (obtain ⟨_, _, _, _, rfl, _⟩ := h; rfl) | (obtain ⟨_, _, _, _, _, rfl, _⟩ := h; rfl) | (obtain ⟨_, _, _, _, _, _, rfl, _⟩ := h; rfl) | (obtain ⟨_, _, _, _, _, _, _, rfl, _⟩ := h; rfl) | (obtain ⟨_, _, _, _, _, _, _, _, rfl, _⟩ := h; rfl) | (obtain ⟨_, _, _, _, _, _, _, _, _, rfl, _⟩ := h; rfl) | (obtain ⟨_, _, _, _, _, _, _, _, _, _, rfl, _⟩ := h; rfl) | (obtain ⟨_, _, _, _, _, _, _, _, _, _, _, rfl, _⟩ := h; rfl) | (obtain ⟨_, _, _, _, _, _, _, _, _, _, _, _, rfl, _⟩ := h; rfl) | (obtain ⟨_, _, _, _, _, _, _, _, _, _, _, _, _, rfl, _⟩ := h; rfl) | (obtain ⟨_, _, _, _, _, _, _, _, _, _, _, _, _, _, rfl, _⟩ := h; rfl) | (obtain ⟨_, _, _, _, _, _, _, _, _, _, _, _, _, _, _, rfl, _⟩ := h; rfl) | (obtain ⟨_, _, _, _, _, _, _, _, _, _, _, _, _, _, _, _, rfl, _⟩ := h; rfl) | (obtain ⟨rfl, _⟩ := h; rfl)) (fun cdv A outer s H vs Q E hr h => ⟨t_Web_initX K E, id ?_, rd_Web_initX vs H Q E h⟩)
  have hu := units_of hr
  exact (pss_cons (ps_if (PW.pt (pw_or (pt_not (pt_val (pe_use U_is_below hr (pa_cons (pv 1) (pa_cons (pe_op op_add (pe_glob rfl T.g_GREATEST.choose_spec ⟨_, rfl⟩) pe_int) pa_nil))))) (pw_or (pt_cmpR op_lt (pv 1) pe_int (nomark _)) (pw_or1 (pt_not (pt_val (pe_use U_is_below hr (pa_cons (pv 3) (pa_cons (pe_op op_add (pe_glob rfl T.g_GREATEST.choose_spec ⟨_, rfl⟩) pe_int) pa_nil))))))))) (pss_one (L2N.ps_raise rfl (L2N.takes_of rfl rfl rfl rfl) (L2N.pmk_own PySem.F.excBase_ValueError T.e_BadWeb.1 T.c_BadWeb T.e_BadWeb.2.1 (raises_own T.e_BadWeb.2.2.1 T.e_BadWeb.2.2.2) (by exact rfl)))) pss_nil)
 (pss_cons (ps_if (PW.pt (pw_or (pt_not (pt_val (pe_callB call_isi (by rfl) T.n_isinstance (by decide +kernel) (pa_cons (pv 2) (pa_cons (pe_bltn (v := .ty "list") rfl T.n_list (by decide +kernel) rfl) pa_nil))))) (pw_or1 (pt_not (pt_val (pe_callB (cr_all rfl) (by rfl) T.n_all (by decide +kernel) (pa_cons (pe_lc (own := [("tie", 4)]) (g := (gName 4)) (tt := tYes) rfl sc_Web_initX.nd (pi_list (pv 2)) (blkOk_by (own := [("tie", 4)]) (N := ["self", "points", "ties", "turn", "tie"]) (sc := defScope s_Web_initX) (by decide +kernel)) (fun _ _ _ _ _ => (pg_name (i := 4) sc_Web_initX.nd rfl (Or.inl rfl))) (fun _ _ _ _ _ => pts_nil) (fun _ _ _ _ _ => (pe_use U_is_tie hr (pa_cons (pv 4) (pa_cons (pv 1) pa_nil))))) pa_nil))))))) (pss_one (L2N.ps_raise rfl (L2N.takes_of rfl rfl rfl rfl) (L2N.pmk_own PySem.F.excBase_ValueError T.e_BadWeb.1 T.c_BadWeb T.e_BadWeb.2.1 (raises_own T.e_BadWeb.2.2.1 T.e_BadWeb.2.2.2) (by exact rfl)))) pss_nil)
 (pss_cons (ps_fld (pv 0) (pv 1) rfl)
 (pss_cons (ps_fld (pv 0) (pv 3) rfl)
 (pss_one (ps_fld (pv 0) (pe_callTy call_list_of (by rfl) T.n_list (by decide +kernel) (pa_cons (pv 2) pa_nil)) rfl))))))
abbrev s_number_inX : Stmt := top 17
theorem sc_number_inX : FnScope ["word", "figures"] ["word"] (defScope s_number_inX) := ⟨rfl, rfl, rfl, by decide +kernel, rfl, by decide +kernel, by decide +kernel⟩
theorem ok_number_inX (F : FunD K "number_in" "number_in" (defArgs s_number_inX) (defBody s_number_inX) (defScope s_number_inX) [] [] f fd) (T : Nm K mg)  : FnOk P w K mg base (L2N.CX P w) 1 f fd ["word"] (sp_number_inX K) := by
  refine F.ok sc_number_inX (fun vs H Q E h => by first | (obtain ⟨_, rfl, _⟩ := h; rfl) | (obtain ⟨_, _, rfl, _⟩ := h; rfl) | (obtain ⟨_, _, _, rfl, _⟩ := h; rfl) | (obtain ⟨_, _, _, _, rfl, _⟩ := h; rfl) | (obtain ⟨_, _, _, _, _, rfl, _⟩ := h; rfl) | (obtain ⟨_, _, _, _, _, _, rfl, _⟩ := h; rfl) | (obtain ⟨_, _, _, _, _, _, _, rfl, _⟩ := h; rfl) | (obtain ⟨_, _, _, _, _, _, _, _, rfl, _⟩ := h; rfl) | (obtain ⟨_, _, _, _, _, _, _, _, _, rfl, _⟩ := h; rfl) | (obtain ⟨_, _, _, _, _, _, _, _, _, _, rfl, _⟩ := h; rfl) | (obtain ⟨_, _, _, _, _, _, _, _, _, _, _, rfl, _⟩ := h; rfl) | (obtain ⟨_, _, _, _, _, _, _, _, _, _, _, _, rfl, _⟩ := h; rfl) | (obtain ⟨_, _, _, _, _, _, _, _, _, _, _, _, _, rfl, _⟩ := h; rfl) | (obtain ⟨_, _, _, _, _, _, _, _, _, _, _, _, _, _, rfl, _⟩ := h; rfl) | (obtain ⟨_, _, _, _, _, _, _, _, _, _, _, _, _, _, _, rfl, _⟩ := h; rfl) | (obtain ⟨_, _, _, _, _, _, _, _, _, _, _, _, _, _, _, _, rfl, _⟩ := h; rfl) | (obtain ⟨rfl, _⟩ := h; rfl)) (fun cdv A outer s H vs Q E hr h => ⟨t_number_inX K E, id ?_, rd_number_inX vs H Q E h⟩)
  have hu := units_of hr
  exact (pss_cons (ps_set (i := 1) sc_number_inX.nd rfl (Or.inl rfl) (pv 0))
 (pss_cons (ps_if (pt_val (pe_startsG (pv 0) pe_str)) (pss_one (ps_set (i := 1) sc_number_inX.nd rfl (Or.inl rfl) (pe_slice sl_str (pv 0) (po_some pe_int) po_none))) pss_nil)
 (pss_cons (ps_if (PW.pt (pw_or (pt_not (pt_chain op_le op_le pe_int (pe_callB call_len_strG (by rfl) T.n_len PySem.boot_len (pa_cons (pv 1) pa_nil)) pe_int)) (pw_or (pt_cmpR op_ne (pe_strip2G (pv 1) (pe_glob rfl T.g_FIGURES.choose_spec ⟨_, rfl⟩)) pe_str (nomark _)) (pw_or1 (PW.pt (pw_and (pt_cmpR op_eq (pe_ix ix_str (pv 1) pe_int (fun _ _ => rfl)) pe_str (nomark _)) (pw_and1 (pt_cmpR op_ne (pv 0) pe_str (nomark _))))))))) (pss_one (L2N.ps_raise rfl (L2N.takes_of rfl rfl rfl rfl) (L2N.pmk_own PySem.F.excBase_ValueError T.e_BadText.1 T.c_BadText T.e_BadText.2.1 (raises_own T.e_BadText.2.2.1 T.e_BadText.2.2.2) (by exact rfl)))) pss_nil)
 (pss_one (ps_ret (pe_callTy call_intS (by rfl) T.n_int (by decide +kernel) (pa_cons (pv 0) pa_nil)))))))
abbrev s_readX : Stmt := top 18
theorem sc_readX : FnScope ["text", "words", "points", "sign", "turn", "ties", "word", "ends", "colon", "number", "one", "arrow", "other", "web"] ["text"] (defScope s_readX) := ⟨rfl, rfl, rfl, by decide +kernel, rfl, by decide +kernel, by decide +kernel⟩
theorem ok_readX (F : FunD K "read" "read" (defArgs s_readX) (defBody s_readX) (defScope s_readX) [] [] f fd) (T : Nm K mg) (U_Web_initX : UseC P w K mg base (L2N.CX P w) 4 "Web" (ga K "Web") ["self", "points", "ties", "turn"] (sp_Web_initX K)) (U_number_inX : Use P w K mg base (L2N.CX P w) 1 "number_in" ["word"] (sp_number_inX K)) : FnOk P w K mg base (GM.CX P w) 6 f fd ["text"] (sp_readX K) := by
  refine F.ok sc_readX (fun vs H Q E h => by first | (obtain ⟨_, rfl, _⟩ := h; rfl) | (obtain ⟨_, _, rfl, _⟩ := h; rfl) | (obtain ⟨_, _, _, rfl, _⟩ := h; rfl) | (obtain ⟨_, _, _, _, rfl, _⟩ := h; rfl) | (obtain ⟨_, _, _, _, _, rfl, _⟩ := h; rfl) | (obtain ⟨_, _, _, _, _, _, rfl, _⟩ := h; rfl) | (obtain ⟨_, _, _, _, _, _, _, rfl, _⟩ := h; rfl) | (obtain ⟨_, _, _, _, _, _, _, _, rfl, _⟩ := h; rfl) | (obtain ⟨_, _, _, _, _, _, _, _, _, rfl, _⟩ := h; rfl) | (obtain ⟨_, _, _, _, _, _, _, _, _, _, rfl, _⟩ := h; rfl) | (obtain ⟨_, _, _, _, _, _, _, _, _, _, _, rfl, _⟩ := h; rfl) | (obtain ⟨_, _, _, _, _, _, _, _, _, _, _, _, rfl, _⟩ := h; rfl) | (obtain ⟨_, _, _, _, _, _, _, _, _, _, _, _, _, rfl, _⟩ := h; rfl) | (obtain ⟨_, _, _, _, _, _, _, _, _, _, _, _, _, _, rfl, _⟩ := h; rfl) | (obtain ⟨_, _, _, _, _, _, _, _, _, _, _, _, _, _, _, rfl, _⟩ := h; rfl) | (obtain ⟨_, _, _, _, _, _, _, _, _, _, _, _, _, _, _, _, rfl, _⟩ := h; rfl) | (obtain ⟨rfl, _⟩ := h; rfl)) (fun cdv A outer s H vs Q E hr h => ⟨t_readX K E, id ?_, rd_readX vs H Q E h⟩)
  have hu := units_of hr
  exact (pss_cons (ps_if (pt_not (pt_val (pe_callB call_isi (by rfl) T.n_isinstance (by decide +kernel) (pa_cons (pv 0) (pa_cons (pe_bltn (v := .ty "str") rfl T.n_str (by decide +kernel) rfl) pa_nil))))) (pss_one (L2N.ps_raise rfl (GM.Takes.n (GM.takes_of rfl rfl rfl rfl)) (L2N.pmk_own PySem.F.excBase_ValueError T.e_BadText.1 T.c_BadText T.e_BadText.2.1 (raises_own T.e_BadText.2.2.1 T.e_BadText.2.2.2) (by exact rfl)))) pss_nil)
 (pss_cons (ps_set (i := 1) sc_readX.nd rfl (Or.inl rfl) (pe_splitG (pv 0) pe_str))
 (pss_cons (ps_asg (pe_partnG (pe_ix ix_list (pv 1) pe_int (fun _ _ => rfl)) pe_str) (pg_tup (by rfl) (pgs_cons (pg_name (i := 2) sc_readX.nd rfl (Or.inl rfl)) (pgs_cons (pg_name (i := 3) sc_readX.nd rfl (Or.inl rfl)) (pgs_cons (pg_name (i := 4) sc_readX.nd rfl (Or.inl rfl)) pgs_nil)))))
 (pss_cons (ps_set (i := 5) sc_readX.nd rfl (Or.inl rfl) (pe_lst pa_nil))
 (pss_cons (ps_for (passes_of rfl) rfl (pi_list (pe_slice sl_list (pv 1) (po_some pe_int) po_none)) (pg_name (i := 6) sc_readX.nd rfl (Or.inl rfl)) (pss_cons (ps_asg (pe_partnG (pv 6) pe_str) (pg_tup (by rfl) (pgs_cons (pg_name (i := 7) sc_readX.nd rfl (Or.inl rfl)) (pgs_cons (pg_name (i := 8) sc_readX.nd rfl (Or.inl rfl)) (pgs_cons (pg_name (i := 9) sc_readX.nd rfl (Or.inl rfl)) pgs_nil)))))
 (pss_cons (ps_asg (pe_partnG (pv 7) pe_str) (pg_tup (by rfl) (pgs_cons (pg_name (i := 10) sc_readX.nd rfl (Or.inl rfl)) (pgs_cons (pg_name (i := 11) sc_readX.nd rfl (Or.inl rfl)) (pgs_cons (pg_name (i := 12) sc_readX.nd rfl (Or.inl rfl)) pgs_nil)))))
 (pss_one (ps_expr (pe_bm PySem.F.plainAttrs_list PySem.F.slot_list_append PySem.F.type_list_append mt_append (pv 5) (pa_cons (pe_tup (pa_cons (pe_useS U_number_inX hr (GM.Takes.n (GM.takes_of rfl rfl rfl rfl)) (pa_cons (pv 10) pa_nil)) (pa_cons (pe_useS U_number_inX hr (GM.Takes.n (GM.takes_of rfl rfl rfl rfl)) (pa_cons (pv 12) pa_nil)) (pa_cons (pe_useS U_number_inX hr (GM.Takes.n (GM.takes_of rfl rfl rfl rfl)) (pa_cons (pv 9) pa_nil)) pa_nil)))) pa_nil)))))))
 (pss_cons (GM.ps_try_onlyM (tb := fun W => (tAsg (tMakeS (ga K "Web") (sp_Web_initX K) (WE W) (tCons (tCallS (sp_number_inX K) (WE W) (tCons (tVar 2) tNil)) (tCons (tVar 5) (tCons (tCallS (sp_number_inX K) (WE W) (tCons (tVar 4) tNil)) tNil)))) (gName 13))) (ts := (fun a cls d => (tRaise (ga K "BadText") E))) (Wout := fun cls d _ H => E cls d H) rfl rfl ⟨rfl, by decide, .inl T.c_BadWeb⟩ (L2H.passesAt_of rfl) (GM.takes_of rfl rfl rfl rfl)
 (fun W pn xe tk _ => (pss_one (ps_set (i := 13) sc_readX.nd rfl (Or.inl rfl) (pe_usemkS U_Web_initX hr tk (pa_cons (pe_useS U_number_inX hr tk (pa_cons (pv 2) pa_nil)) (pa_cons (pv 5) (pa_cons (pe_useS U_number_inX hr tk (pa_cons (pv 4) pa_nil)) pa_nil)))))))
 (fun a oe cls d pn hz hf tks hot => (pss_one (GM.ps_raiseM hot tks (L2N.pmk_own PySem.F.excBase_ValueError T.e_BadText.1 T.c_BadText T.e_BadText.2.1 (raises_own T.e_BadText.2.2.1 T.e_BadText.2.2.2) (by exact rfl))))))
 (pss_one (ps_ret (pv 13)))))))))
abbrev s__law_refused : Stmt := top 29
theorem sc__law_refused : FnScope ["_law_text", "error", "_law_others"] ["_law_text"] (defScope s__law_refused) := ⟨rfl, rfl, rfl, by decide +kernel, rfl, by decide +kernel, by decide +kernel⟩
theorem ok__law_refused (F : FunD K "_law_refused" "_law_refused" (defArgs s__law_refused) (defBody s__law_refused) (defScope s__law_refused) [] [] f fd) (T : Nm K mg) (U_readX : Use P w K mg base (GM.CX P w) 6 "read" ["text"] (sp_readX K)) : FnOk P w K mg base CX0 7 f fd ["_law_text"] (sp__law_refused K) := by
  refine F.ok sc__law_refused (fun vs H Q E h => by first | (obtain ⟨_, rfl, _⟩ := h; rfl) | (obtain ⟨_, _, rfl, _⟩ := h; rfl) | (obtain ⟨_, _, _, rfl, _⟩ := h; rfl) | (obtain ⟨_, _, _, _, rfl, _⟩ := h; rfl) | (obtain ⟨_, _, _, _, _, rfl, _⟩ := h; rfl) | (obtain ⟨_, _, _, _, _, _, rfl, _⟩ := h; rfl) | (obtain ⟨_, _, _, _, _, _, _, rfl, _⟩ := h; rfl) | (obtain ⟨_, _, _, _, _, _, _, _, rfl, _⟩ := h; rfl) | (obtain ⟨_, _, _, _, _, _, _, _, _, rfl, _⟩ := h; rfl) | (obtain ⟨_, _, _, _, _, _, _, _, _, _, rfl, _⟩ := h; rfl) | (obtain ⟨_, _, _, _, _, _, _, _, _, _, _, rfl, _⟩ := h; rfl) | (obtain ⟨_, _, _, _, _, _, _, _, _, _, _, _, rfl, _⟩ := h; rfl) | (obtain ⟨_, _, _, _, _, _, _, _, _, _, _, _, _, rfl, _⟩ := h; rfl) | (obtain ⟨_, _, _, _, _, _, _, _, _, _, _, _, _, _, rfl, _⟩ := h; rfl) | (obtain ⟨_, _, _, _, _, _, _, _, _, _, _, _, _, _, _, rfl, _⟩ := h; rfl) | (obtain ⟨_, _, _, _, _, _, _, _, _, _, _, _, _, _, _, _, rfl, _⟩ := h; rfl) | (obtain ⟨rfl, _⟩ := h; rfl)) (fun cdv A outer s H vs Q E hr h => ⟨t__law_refused K, PSs.nox ?_, rd__law_refused vs H Q E h⟩)
  have hu := units_of hr
  exact (pss_cons (GM.ps_try_asM (i := 1) (tb := fun W => (tDrop (tCallS (sp_readX K) (WE W) (tCons (tVar 0) tNil)))) (ts := (fun a cls d => (tSeq (tAsg (tLst (tCons (tCB (rIsX K a cls d) (tCons (tVar 1) (tCons (tC (.ref (ga K "BadPoint"))) tNil))) (tCons (tCB (rIsX K a cls d) (tCons (tVar 1) (tCons (tC (.ref (ga K "BadTie"))) tNil))) (tCons (tCB (rIsX K a cls d) (tCons (tVar 1) (tCons (tC (.ref (ga K "BadWeb"))) tNil))) tNil)))) (gName 2))
 (tSeq (tAsg (tOp rCat (tVar 2) (tLst (tCons (tCB (rIsX K a cls d) (tCons (tVar 1) (tCons (tC (.ref (ga K "Unlike"))) tNil))) (tCons (tNotV (tCB (rIsX K a cls d) (tCons (tVar 1) (tCons (tC (.ty "ValueError")) tNil)))) tNil)))) (gName 2))
 (tRet (tAndV (tCB (rIsX K a cls d) (tCons (tVar 1) (tCons (tC (.ref (ga K "BadText"))) tNil))) (tNotV (tCB (rAny K) (tCons (tVar 2) tNil))))))))) (Wout := fun _ _ _ _ => False) rfl rfl sc__law_refused.nd rfl rfl ⟨rfl, by decide, .inl T.c_WebError⟩ GM.takes0
 (fun W pn xe tk _ => (pss_one (ps_expr (GM.pe_useM U_readX hr tk (pa_cons (pv 0) pa_nil)))))
 (fun a oe cls d pn hz hf hot => (pss_cons (ps_set (i := 2) sc__law_refused.nd rfl (Or.inl rfl) (pe_lst (pa_cons (pe_callB (GM.call_isXM hz hf) (by rfl) T.n_isinstance (by decide +kernel) (pa_cons (pv 1) (pa_cons (pe_glob rfl T.c_BadPoint rfl) pa_nil))) (pa_cons (pe_callB (GM.call_isXM hz hf) (by rfl) T.n_isinstance (by decide +kernel) (pa_cons (pv 1) (pa_cons (pe_glob rfl T.c_BadTie rfl) pa_nil))) (pa_cons (pe_callB (GM.call_isXM hz hf) (by rfl) T.n_isinstance (by decide +kernel) (pa_cons (pv 1) (pa_cons (pe_glob rfl T.c_BadWeb rfl) pa_nil))) pa_nil)))))
 (pss_cons (ps_set (i := 2) sc__law_refused.nd rfl (Or.inl rfl) (pe_op op_cat (pv 2) (pe_lst (pa_cons (pe_callB (GM.call_isXM hz hf) (by rfl) T.n_isinstance (by decide +kernel) (pa_cons (pv 1) (pa_cons (pe_glob rfl T.c_Unlike rfl) pa_nil))) (pa_cons (pe_not (pe_callB (GM.call_isXM hz hf) (by rfl) T.n_isinstance (by decide +kernel) (pa_cons (pv 1) (pa_cons (pe_bltn (v := .ty "ValueError") rfl T.n_ValueError (by decide +kernel) rfl) pa_nil)))) pa_nil)))))
 (pss_one (ps_ret (pe_and (pe_callB (GM.call_isXM hz hf) (by rfl) T.n_isinstance (by decide +kernel) (pa_cons (pv 1) (pa_cons (pe_glob rfl T.c_BadText rfl) pa_nil))) (pe_one (pe_not (pe_callB (GM.cr_anyM hot) (by rfl) T.n_any (by decide +kernel) (pa_cons (pv 2) pa_nil)))))))))))
 (pss_one (ps_ret pe_bl)))
abbrev s_Web_ties : Stmt := inClass (top 13) 1
theorem sc_Web_ties : FnScope ["self"] ["self"] (defScope s_Web_ties) := ⟨rfl, rfl, rfl, by decide +kernel, rfl, by decide +kernel, by decide +kernel⟩
theorem ok_Web_ties (F : FunD K "ties" "Web.ties" (defArgs s_Web_ties) (defBody s_Web_ties) (defScope s_Web_ties) [] [] f fd) (T : Nm K mg)  : FnOk P w K mg base CX0 1 f fd ["self"] (sp_Web_ties K) := by
  refine F.ok sc_Web_ties (fun vs H Q E h => by first | (obtain ⟨_, rfl, _⟩ := h; rfl) | (obtain ⟨_, _, rfl, _⟩ := h; rfl) | (obtain ⟨_, _, _, rfl, _⟩ := h; rfl) | (obtain ⟨_, _, _, _, rfl, _⟩ := h; rfl) | (obtain ⟨_, _, _, _, _, rfl, _⟩ := h; rfl) | (obtain ⟨_, _, _, _, _, _, rfl, _⟩ := h; rfl) | (obtain ⟨_, _, _, _, _, _, _, rfl, _⟩ := h; rfl) | (obtain ⟨_, _, _, _, _, _, _, _, rfl, _⟩ := h; rfl) | (obtain ⟨_, _, _, _, _, _, _, _, _, rfl, _⟩ := h; rfl) | (obtain ⟨_, _, _, _, _, _, _, _, _, _, rfl, _⟩ := h; rfl) | (obtain ⟨_, _, _, _, _, _, _, _, _, _, _, rfl, _⟩ := h; rfl) | (obtain ⟨_, _, _, _, _, _, _, _, _, _, _, _, rfl, _⟩ := h; rfl) | (obtain ⟨_, _, _, _, _, _, _, _, _, _, _, _, _, rfl, _⟩ := h; rfl) | (obtain ⟨_, _, _, _, _, _, _, _, _, _, _, _, _, _, rfl, _⟩ := h; rfl) | (obtain ⟨_, _, _, _, _, _, _, _, _, _, _, _, _, _, _, rfl, _⟩ := h; rfl) | (obtain ⟨_, _, _, _, _, _, _, _, _, _, _, _, _, _, _, _, rfl, _⟩ := h; rfl) | (obtain ⟨rfl, _⟩ := h; rfl)) (fun cdv A outer s H vs Q E hr h => ⟨t_Web_ties K, PSs.nox ?_, rd_Web_ties vs H Q E h⟩)
  have hu := units_of hr
  exact (pss_one (ps_ret (pe_callTy call_list_of (by rfl) T.n_list (by decide +kernel) (pa_cons (pe_fld (pv 0) rfl) pa_nil))))
abbrev s__law_number : Stmt := top 26
theorem sc__law_number : FnScope ["_law_text", "_law_figures"] ["_law_text"] (defScope s__law_number) := ⟨rfl, rfl, rfl, by decide +kernel, rfl, by decide +kernel, by decide +kernel⟩
theorem ok__law_number (F : FunD K "_law_number" "_law_number" (defArgs s__law_number) (defBody s__law_number) (defScope s__law_number) [] [] f fd) (T : Nm K mg)  : FnOk P w K mg base CX0 1 f fd ["_law_text"] (sp__law_number K) := by
  refine F.ok sc__law_number (fun vs H Q E h => by first | (obtain ⟨_, rfl, _⟩ := h; rfl) | (obtain ⟨_, _, rfl, _⟩ := h; rfl) | (obtain ⟨_, _, _, rfl, _⟩ := h; rfl) | (obtain ⟨_, _, _, _, rfl, _⟩ := h; rfl) | (obtain ⟨_, _, _, _, _, rfl, _⟩ := h; rfl) | (obtain ⟨_, _, _, _, _, _, rfl, _⟩ := h; rfl) | (obtain ⟨_, _, _, _, _, _, _, rfl, _⟩ := h; rfl) | (obtain ⟨_, _, _, _, _, _, _, _, rfl, _⟩ := h; rfl) | (obtain ⟨_, _, _, _, _, _, _, _, _, rfl, _⟩ := h; rfl) | (obtain ⟨_, _, _, _, _, _, _, _, _, _, rfl, _⟩ := h; rfl) | (obtain ⟨_, _, _, _, _, _, _, _, _, _, _, rfl, _⟩ := h; rfl) | (obtain ⟨_, _, _, _, _, _, _, _, _, _, _, _, rfl, _⟩ := h; rfl) | (obtain ⟨_, _, _, _, _, _, _, _, _, _, _, _, _, rfl, _⟩ := h; rfl) | (obtain ⟨_, _, _, _, _, _, _, _, _, _, _, _, _, _, rfl, _⟩ := h; rfl) | (obtain ⟨_, _, _, _, _, _, _, _, _, _, _, _, _, _, _, rfl, _⟩ := h; rfl) | (obtain ⟨_, _, _, _, _, _, _, _, _, _, _, _, _, _, _, _, rfl, _⟩ := h; rfl) | (obtain ⟨rfl, _⟩ := h; rfl)) (fun cdv A outer s H vs Q E hr h => ⟨t__law_number K, PSs.nox ?_, rd__law_number vs H Q E h⟩)
  have hu := units_of hr
  exact (pss_cons (ps_set (i := 1) sc__law_number.nd rfl (Or.inl rfl) (pe_ifExp (pt_cmpR op_eq (pe_slice sl_str (pv 0) po_none (po_some pe_int)) pe_str (nomark _)) (pe_slice sl_str (pv 0) (po_some pe_int) po_none) (pv 0)))
 (pss_cons (ps_if (PW.pt (pw_or (pt_cmpR op_eq (pv 1) pe_str (nomark _)) (pw_or (pt_cmpR op_gt (pe_callB call_len_strG (by rfl) T.n_len PySem.boot_len (pa_cons (pv 1) pa_nil)) pe_int (nomark _)) (pw_or (pt_cmpR op_ne (pe_strip2G (pv 1) pe_str) pe_str (nomark _)) (pw_or1 (PW.pt (pw_and (pt_cmpR op_eq (pe_ix ix_str (pv 1) pe_int (fun _ _ => rfl)) pe_str (nomark _)) (pw_and1 (pt_cmpR op_ne (pv 0) pe_str (nomark _)))))))))) (pss_one (ps_ret pe_non)) pss_nil)
 (pss_one (ps_ret (pe_callTy call_intS (by rfl) T.n_int (by decide +kernel) (pa_cons (pv 0) pa_nil))))))
abbrev s__law_tie_in : Stmt := top 27
theorem sc__law_tie_in : FnScope ["_law_word", "_law_points", "_law_ends", "_law_colon", "_law_number_here", "_law_one", "_law_arrow", "_law_other", "_law_tie"] ["_law_word", "_law_points"] (defScope s__law_tie_in) := ⟨rfl, rfl, rfl, by decide +kernel, rfl, by decide +kernel, by decide +kernel⟩
theorem ok__law_tie_in (F : FunD K "_law_tie_in" "_law_tie_in" (defArgs s__law_tie_in) (defBody s__law_tie_in) (defScope s__law_tie_in) [] [] f fd) (T : Nm K mg) (U__law_number : Use P w K mg base CX0 1 "_law_number" ["_law_text"] (sp__law_number K)) : FnOk P w K mg base CX0 2 f fd ["_law_word", "_law_points"] (sp__law_tie_in K) := by
  refine F.ok sc__law_tie_in (fun vs H Q E h => by first | (obtain ⟨_, rfl, _⟩ := h; rfl) | (obtain ⟨_, _, rfl, _⟩ := h; rfl) | (obtain ⟨_, _, _, rfl, _⟩ := h; rfl) | (obtain ⟨_, _, _, _, rfl, _⟩ := h; rfl) | (obtain ⟨_, _, _, _, _, rfl, _⟩ := h; rfl) | (obtain ⟨_, _, _, _, _, _, rfl, _⟩ := h; rfl) | (obtain ⟨_, _, _, _, _, _, _, rfl, _⟩ := h; rfl) | (obtain ⟨_, _, _, _, _, _, _, _, rfl, _⟩ := h; rfl) | (obtain ⟨_, _, _, _, _, _, _, _, _, rfl, _⟩ := h; rfl) | (obtain ⟨_, _, _, _, _, _, _, _, _, _, rfl, _⟩ := h; rfl) | (obtain ⟨_, _, _, _, _, _, _, _, _, _, _, rfl, _⟩ := h; rfl) | (obtain ⟨_, _, _, _, _, _, _, _, _, _, _, _, rfl, _⟩ := h; rfl) | (obtain ⟨_, _, _, _, _, _, _, _, _, _, _, _, _, rfl, _⟩ := h; rfl) | (obtain ⟨_, _, _, _, _, _, _, _, _, _, _, _, _, _, rfl, _⟩ := h; rfl) | (obtain ⟨_, _, _, _, _, _, _, _, _, _, _, _, _, _, _, rfl, _⟩ := h; rfl) | (obtain ⟨_, _, _, _, _, _, _, _, _, _, _, _, _, _, _, _, rfl, _⟩ := h; rfl) | (obtain ⟨rfl, _⟩ := h; rfl)) (fun cdv A outer s H vs Q E hr h => ⟨t__law_tie_in K, PSs.nox ?_, rd__law_tie_in vs H Q E h⟩)
  have hu := units_of hr
  exact (pss_cons (ps_asg (pe_partnG (pv 0) pe_str) (pg_tup (by rfl) (pgs_cons (pg_name (i := 2) sc__law_tie_in.nd rfl (Or.inl rfl)) (pgs_cons (pg_name (i := 3) sc__law_tie_in.nd rfl (Or.inl rfl)) (pgs_cons (pg_name (i := 4) sc__law_tie_in.nd rfl (Or.inl rfl)) pgs_nil)))))
 (pss_cons (ps_asg (pe_partnG (pv 2) pe_str) (pg_tup (by rfl) (pgs_cons (pg_name (i := 5) sc__law_tie_in.nd rfl (Or.inl rfl)) (pgs_cons (pg_name (i := 6) sc__law_tie_in.nd rfl (Or.inl rfl)) (pgs_cons (pg_name (i := 7) sc__law_tie_in.nd rfl (Or.inl rfl)) pgs_nil)))))
 (pss_cons (ps_set (i := 8) sc__law_tie_in.nd rfl (Or.inl rfl) (pe_tup (pa_cons (pe_use U__law_number hr (pa_cons (pv 5) pa_nil)) (pa_cons (pe_use U__law_number hr (pa_cons (pv 7) pa_nil)) (pa_cons (pe_use U__law_number hr (pa_cons (pv 4) pa_nil)) pa_nil)))))
 (pss_cons (ps_if (PW.pt (pw_or (pt_cmpR op_in_seq pe_non (pv 8) (by rfl)) (pw_or (pt_not (pt_cmpR op_le pe_int (pe_callB (cr_minT rfl) (by rfl) T.n_min (by decide +kernel) (pa_cons (pe_slice sl_tup (pv 8) po_none (po_some pe_int)) pa_nil)) (nomark _))) (pw_or (pt_cmpR op_ge (pe_callB (cr_maxT rfl) (by rfl) T.n_max (by decide +kernel) (pa_cons (pe_slice sl_tup (pv 8) po_none (po_some pe_int)) pa_nil)) (pv 1) (nomark _)) (pw_or1 (pt_cmpR op_eq (pe_ix ix_tup (pv 8) pe_int (fun _ _ => rfl)) (pe_ix ix_tup (pv 8) pe_int (fun _ _ => rfl)) (nomark _))))))) (pss_one (ps_ret pe_non)) pss_nil)
 (pss_one (ps_ret (pe_ifExp (pt_chain op_lt op_lt (pe_un un_neg pe_int) (pe_ix ix_tup (pv 8) pe_int (fun _ _ => rfl)) pe_int) (pv 8) pe_non)))))))
abbrev s__law_in : Stmt := top 28
theorem sc__law_in : FnScope ["_law_text", "_law_words", "_law_points", "_law_sign", "_law_turn", "_law_ties", "_law_word"] ["_law_text"] (defScope s__law_in) := ⟨rfl, rfl, rfl, by decide +kernel, rfl, by decide +kernel, by decide +kernel⟩
theorem ok__law_in (F : FunD K "_law_in" "_law_in" (defArgs s__law_in) (defBody s__law_in) (defScope s__law_in) [] [] f fd) (T : Nm K mg) (U__law_number : Use P w K mg base CX0 1 "_law_number" ["_law_text"] (sp__law_number K)) (U__law_tie_in : Use P w K mg base CX0 2 "_law_tie_in" ["_law_word", "_law_points"] (sp__law_tie_in K)) : FnOk P w K mg base CX0 3 f fd ["_law_text"] (sp__law_in K) := by
  refine F.ok sc__law_in (fun vs H Q E h => by first | (obtain ⟨_, rfl, _⟩ := h; rfl) | (obtain ⟨_, _, rfl, _⟩ := h; rfl) | (obtain ⟨_, _, _, rfl, _⟩ := h; rfl) | (obtain ⟨_, _, _, _, rfl, _⟩ := h; rfl) | (obtain ⟨_, _, _, _, _, rfl, _⟩ := h; rfl) | (obtain ⟨_, _, _, _, _, _, rfl, _⟩ := h; rfl) | (obtain ⟨_, _, _, _, _, _, _, rfl, _⟩ := h; rfl) | (obtain ⟨_, _, _, _, _, _, _, _, rfl, _⟩ := h; rfl) | (obtain ⟨_, _, _, _, _, _, _, _, _, rfl, _⟩ := h; rfl) | (obtain ⟨_, _, _, _, _, _, _, _, _, _, rfl, _⟩ := h; rfl) | (obtain ⟨_, _, _, _, _, _, _, _, _, _, _, rfl, _⟩ := h; rfl) | (obtain ⟨_, _, _, _, _, _, _, _, _, _, _, _, rfl, _⟩ := h; rfl) | (obtain ⟨_, _, _, _, _, _, _, _, _, _, _, _, _, rfl, _⟩ := h; rfl) | (obtain ⟨_, _, _, _, _, _, _, _, _, _, _, _, _, _, rfl, _⟩ := h; rfl) | (obtain ⟨_, _, _, _, _, _, _, _, _, _, _, _, _, _, _, rfl, _⟩ := h; rfl) | (obtain ⟨_, _, _, _, _, _, _, _, _, _, _, _, _, _, _, _, rfl, _⟩ := h; rfl) | (obtain ⟨rfl, _⟩ := h; rfl)) (fun cdv A outer s H vs Q E hr h => ⟨t__law_in K, PSs.nox ?_, rd__law_in vs H Q E h⟩)
  have hu := units_of hr
  exact (pss_cons (ps_set (i := 1) sc__law_in.nd rfl (Or.inl rfl) (pe_splitG (pv 0) pe_str))
 (pss_cons (ps_asg (pe_partnG (pe_ix ix_list (pv 1) pe_int (fun _ _ => rfl)) pe_str) (pg_tup (by rfl) (pgs_cons (pg_name (i := 2) sc__law_in.nd rfl (Or.inr rfl)) (pgs_cons (pg_name (i := 3) sc__law_in.nd rfl (Or.inl rfl)) (pgs_cons (pg_name (i := 4) sc__law_in.nd rfl (Or.inl rfl)) pgs_nil)))))
 (pss_cons (ps_asg (pe_tup (pa_cons (pe_use U__law_number hr (pa_cons (pv 2) pa_nil)) (pa_cons (pe_use U__law_number hr (pa_cons (pv 4) pa_nil)) pa_nil))) (pg_tup (by rfl) (pgs_cons (pg_name (i := 2) sc__law_in.nd rfl (Or.inr rfl)) (pgs_cons (pg_name (i := 4) sc__law_in.nd rfl (Or.inl rfl)) pgs_nil))))
 (pss_cons (ps_if (PW.pt (pw_or (pt_cmpR op_isN1 (pv 2) pe_non (nomark _)) (pw_or (pt_cmpR op_isN1 (pv 4) pe_non (nomark _)) (pw_or (pt_not (pt_chain op_le op_lt pe_int (pv 2) pe_int)) (pw_or1 (pt_not (pt_chain op_le op_lt pe_int (pv 4) pe_int))))))) (pss_one (ps_ret pe_non)) pss_nil)
 (pss_cons (ps_setLc (i := 5) (own := [("_law_word", 6)]) (g := (gName 6)) (tt := tYes) rfl sc__law_in.nd rfl rfl (sw_true rfl rfl rfl (by decide +kernel)) (pi_list (pe_slice sl_list (pv 1) (po_some pe_int) po_none)) (blkOk_by (own := [("_law_word", 6)]) (N := ["_law_text", "_law_words", "_law_points", "_law_sign", "_law_turn", "_law_ties", "_law_word"]) (sc := defScope s__law_in) (by decide +kernel)) (fun _ _ _ _ _ => (pg_name (i := 6) sc__law_in.nd rfl (Or.inl rfl))) (fun _ _ _ _ _ => pts_nil) (fun _ _ _ _ _ => (pe_use U__law_tie_in hr (pa_cons (pv 6) (pa_cons (pv 2) pa_nil)))))
 (pss_one (ps_ret (pe_ifExp (pt_cmpR (op_inD (room65 hr)) pe_non (pv 5) (by rfl)) pe_non (pe_tup (pa_cons (pv 2) (pa_cons (pv 5) (pa_cons (pv 4) pa_nil))))))))))))
abbrev s_written : Stmt := top 16
theorem sc_written : FnScope ["web", "found", "one", "other", "number"] ["web"] (defScope s_written) := ⟨rfl, rfl, rfl, by decide +kernel, rfl, by decide +kernel, by decide +kernel⟩
theorem ok_written (F : FunD K "written" "written" (defArgs s_written) (defBody s_written) (defScope s_written) [] [] f fd) (T : Nm K mg)  : FnOk P w K mg base CX0 1 f fd ["web"] (sp_written K) := by
  refine F.ok sc_written (fun vs H Q E h => by first | (obtain ⟨_, rfl, _⟩ := h; rfl) | (obtain ⟨_, _, rfl, _⟩ := h; rfl) | (obtain ⟨_, _, _, rfl, _⟩ := h; rfl) | (obtain ⟨_, _, _, _, rfl, _⟩ := h; rfl) | (obtain ⟨_, _, _, _, _, rfl, _⟩ := h; rfl) | (obtain ⟨_, _, _, _, _, _, rfl, _⟩ := h; rfl) | (obtain ⟨_, _, _, _, _, _, _, rfl, _⟩ := h; rfl) | (obtain ⟨_, _, _, _, _, _, _, _, rfl, _⟩ := h; rfl) | (obtain ⟨_, _, _, _, _, _, _, _, _, rfl, _⟩ := h; rfl) | (obtain ⟨_, _, _, _, _, _, _, _, _, _, rfl, _⟩ := h; rfl) | (obtain ⟨_, _, _, _, _, _, _, _, _, _, _, rfl, _⟩ := h; rfl) | (obtain ⟨_, _, _, _, _, _, _, _, _, _, _, _, rfl, _⟩ := h; rfl) | (obtain ⟨_, _, _, _, _, _, _, _, _, _, _, _, _, rfl, _⟩ := h; rfl) | (obtain ⟨_, _, _, _, _, _, _, _, _, _, _, _, _, _, rfl, _⟩ := h; rfl) | (obtain ⟨_, _, _, _, _, _, _, _, _, _, _, _, _, _, _, rfl, _⟩ := h; rfl) | (obtain ⟨_, _, _, _, _, _, _, _, _, _, _, _, _, _, _, _, rfl, _⟩ := h; rfl) | (obtain ⟨rfl, _⟩ := h; rfl)) (fun cdv A outer s H vs Q E hr h => ⟨t_written K, PSs.nox ?_, rd_written vs H Q E h⟩)
  have hu := units_of hr
  exact (pss_cons (ps_set (i := 1) sc_written.nd rfl (Or.inl rfl) (pe_lst (pa_cons (pe_op op_catS (pe_op op_catS (pe_callTy call_strI (by rfl) T.n_str (by decide +kernel) (pa_cons (pe_fld (pv 0) rfl) pa_nil)) pe_str) (pe_callTy call_strI (by rfl) T.n_str (by decide +kernel) (pa_cons (pe_fld (pv 0) rfl) pa_nil))) pa_nil)))
 (pss_cons (ps_for PassesOwn.never rfl (pi_list (pe_fld (pv 0) rfl)) (pg_tup (by rfl) (pgs_cons (pg_name (i := 2) sc_written.nd rfl (Or.inl rfl)) (pgs_cons (pg_name (i := 3) sc_written.nd rfl (Or.inl rfl)) (pgs_cons (pg_name (i := 4) sc_written.nd rfl (Or.inl rfl)) pgs_nil)))) (pss_one (ps_expr (pe_bm PySem.F.plainAttrs_list PySem.F.slot_list_append PySem.F.type_list_append mt_append (pv 1) (pa_cons (pe_op op_catS (pe_op op_catS (pe_op op_catS (pe_op op_catS (pe_callTy call_strI (by rfl) T.n_str (by decide +kernel) (pa_cons (pv 2) pa_nil)) pe_str) (pe_callTy call_strI (by rfl) T.n_str (by decide +kernel) (pa_cons (pv 3) pa_nil))) pe_str) (pe_callTy call_strI (by rfl) T.n_str (by decide +kernel) (pa_cons (pv 4) pa_nil))) pa_nil)))))
 (pss_one (ps_ret (pe_joinG pe_str (pv 1))))))
abbrev s__law_right : Stmt := top 30
theorem sc__law_right : FnScope ["_law_text", "_law_due", "_law_found"] ["_law_text"] (defScope s__law_right) := ⟨rfl, rfl, rfl, by decide +kernel, rfl, by decide +kernel, by decide +kernel⟩
theorem ok__law_right (F : FunD K "_law_right" "_law_right" (defArgs s__law_right) (defBody s__law_right) (defScope s__law_right) [] [] f fd) (T : Nm K mg) (U_Web_ties : UseM P w K mg base CX0 1 (ga K "Web") "ties" ["self"] (sp_Web_ties K)) (U__law_in : Use P w K mg base CX0 3 "_law_in" ["_law_text"] (sp__law_in K)) (U__law_refused : Use P w K mg base CX0 7 "_law_refused" ["_law_text"] (sp__law_refused K)) (U_readX : Use P w K mg base (GM.CX P w) 6 "read" ["text"] (sp_readX K)) (U_written : Use P w K mg base CX0 1 "written" ["web"] (sp_written K)) : FnOk P w K mg base CX0 8 f fd ["_law_text"] (sp__law_right K) := by
  refine F.ok sc__law_right (fun vs H Q E h => by first | (obtain ⟨_, rfl, _⟩ := h; rfl) | (obtain ⟨_, _, rfl, _⟩ := h; rfl) | (obtain ⟨_, _, _, rfl, _⟩ := h; rfl) | (obtain ⟨_, _, _, _, rfl, _⟩ := h; rfl) | (obtain ⟨_, _, _, _, _, rfl, _⟩ := h; rfl) | (obtain ⟨_, _, _, _, _, _, rfl, _⟩ := h; rfl) | (obtain ⟨_, _, _, _, _, _, _, rfl, _⟩ := h; rfl) | (obtain ⟨_, _, _, _, _, _, _, _, rfl, _⟩ := h; rfl) | (obtain ⟨_, _, _, _, _, _, _, _, _, rfl, _⟩ := h; rfl) | (obtain ⟨_, _, _, _, _, _, _, _, _, _, rfl, _⟩ := h; rfl) | (obtain ⟨_, _, _, _, _, _, _, _, _, _, _, rfl, _⟩ := h; rfl) | (obtain ⟨_, _, _, _, _, _, _, _, _, _, _, _, rfl, _⟩ := h; rfl) | (obtain ⟨_, _, _, _, _, _, _, _, _, _, _, _, _, rfl, _⟩ := h; rfl) | (obtain ⟨_, _, _, _, _, _, _, _, _, _, _, _, _, _, rfl, _⟩ := h; rfl) | (obtain ⟨_, _, _, _, _, _, _, _, _, _, _, _, _, _, _, rfl, _⟩ := h; rfl) | (obtain ⟨_, _, _, _, _, _, _, _, _, _, _, _, _, _, _, _, rfl, _⟩ := h; rfl) | (obtain ⟨rfl, _⟩ := h; rfl)) (fun cdv A outer s H vs Q E hr h => ⟨t__law_right K, PSs.nox ?_, rd__law_right vs H Q E h⟩)
  have hu := units_of hr
  exact (pss_cons (ps_set (i := 1) sc__law_right.nd rfl (Or.inl rfl) (pe_use U__law_in hr (pa_cons (pv 0) pa_nil)))
 (pss_cons (ps_if (pt_cmpR op_isN1 (pv 1) pe_non (nomark _)) (pss_one (ps_ret (pe_use U__law_refused hr (pa_cons (pv 0) pa_nil)))) pss_nil)
 (pss_cons (ps_set (i := 2) sc__law_right.nd rfl (Or.inl rfl) (GM.pe_useM U_readX hr GM.takes0 (pa_cons (pv 0) pa_nil)))
 (pss_one (ps_ret (pe_and (pe_cmpR (op_eqD hr.units) (pe_tup (pa_cons (pe_fld (pv 2) rfl) (pa_cons (pe_usem0 U_Web_ties hr (pv 2)) (pa_cons (pe_fld (pv 2) rfl) pa_nil)))) (pv 1) (nomark _)) (pe_one (pe_cmpR op_eq (pe_use U_written hr (pa_cons (pv 2) pa_nil)) (pv 0) (nomark _)))))))))
abbrev s__law_web : Stmt := top 22
theorem sc__law_web : FnScope ["_law_script", "_law_few_here", "_law_points", "_law_turn", "_law_most", "_law_wrong", "_law_halves", "_law_ties", "_law_k", "_law_one", "_law_other", "_law_low", "_law_many", "_law_by", "_law_number_here"] ["_law_script"] (defScope s__law_web) := ⟨rfl, rfl, rfl, by decide +kernel, rfl, by decide +kernel, by decide +kernel⟩
theorem ok__law_web (F : FunD K "_law_web" "_law_web" (defArgs s__law_web) (defBody s__law_web) (defScope s__law_web) [] [] f fd) (T : Nm K mg) (U__law_cell_at : Use P w K mg base CX0 1 "_law_cell_at" ["_law_script", "_law_k"] (sp__law_cell_at K)) (U__law_draw : Use P w K mg base CX0 1 "_law_draw" ["_law_cell", "_law_k", "_law_many"] (sp__law_draw K)) : FnOk P w K mg base CX0 2 f fd ["_law_script"] (sp__law_web K) := by
  refine F.ok sc__law_web (fun vs H Q E h => by first | (obtain ⟨_, rfl, _⟩ := h; rfl) | (obtain ⟨_, _, rfl, _⟩ := h; rfl) | (obtain ⟨_, _, _, rfl, _⟩ := h; rfl) | (obtain ⟨_, _, _, _, rfl, _⟩ := h; rfl) | (obtain ⟨_, _, _, _, _, rfl, _⟩ := h; rfl) | (obtain ⟨_, _, _, _, _, _, rfl, _⟩ := h; rfl) | (obtain ⟨_, _, _, _, _, _, _, rfl, _⟩ := h; rfl) | (obtain ⟨_, _, _, _, _, _, _, _, rfl, _⟩ := h; rfl) | (obtain ⟨_, _, _, _, _, _, _, _, _, rfl, _⟩ := h; rfl) | (obtain ⟨_, _, _, _, _, _, _, _, _, _, rfl, _⟩ := h; rfl) | (obtain ⟨_, _, _, _, _, _, _, _, _, _, _, rfl, _⟩ := h; rfl) | (obtain ⟨_, _, _, _, _, _, _, _, _, _, _, _, rfl, _⟩ := h; rfl) | (obtain ⟨_, _, _, _, _, _, _, _, _, _, _, _, _, rfl, _⟩ := h; rfl) | (obtain ⟨_, _, _, _, _, _, _, _, _, _, _, _, _, _, rfl, _⟩ := h; rfl) | (obtain ⟨_, _, _, _, _, _, _, _, _, _, _, _, _, _, _, rfl, _⟩ := h; rfl) | (obtain ⟨_, _, _, _, _, _, _, _, _, _, _, _, _, _, _, _, rfl, _⟩ := h; rfl) | (obtain ⟨rfl, _⟩ := h; rfl)) (fun cdv A outer s H vs Q E hr h => ⟨t__law_web K, PSs.nox ?_, rd__law_web vs H Q E h⟩)
  have hu := units_of hr
  exact (pss_cons (ps_set (i := 1) sc__law_web.nd rfl (Or.inl rfl) (pe_op op_fdiv (pe_op op_mul (pe_callB call_len_seq (by rfl) T.n_len PySem.boot_len (pa_cons (pv 0) pa_nil)) (pe_ix ix_tup (pe_tup (pa_cons pe_int (pa_cons pe_int (pa_cons pe_int pa_nil)))) (pe_use U__law_draw hr (pa_cons (pe_use U__law_cell_at hr (pa_cons (pv 0) (pa_cons pe_int pa_nil))) (pa_cons pe_int (pa_cons pe_int pa_nil)))) (fun _ _ => rfl))) pe_int))
 (pss_cons (ps_set (i := 2) sc__law_web.nd rfl (Or.inl rfl) (pe_op op_add pe_int (pe_use U__law_draw hr (pa_cons (pe_use U__law_cell_at hr (pa_cons (pv 0) (pa_cons pe_int pa_nil))) (pa_cons pe_int (pa_cons (pe_op op_add pe_int (pv 1)) pa_nil))))))
 (pss_cons (ps_set (i := 3) sc__law_web.nd rfl (Or.inl rfl) (pe_ix ix_tup (pe_tup (pa_cons pe_int (pa_cons pe_int (pa_cons pe_int (pa_cons pe_int (pa_cons pe_int (pa_cons pe_int (pa_cons pe_int pa_nil)))))))) (pe_use U__law_draw hr (pa_cons (pe_use U__law_cell_at hr (pa_cons (pv 0) (pa_cons pe_int pa_nil))) (pa_cons pe_int (pa_cons pe_int pa_nil)))) (fun _ _ => rfl)))
 (pss_cons (ps_set (i := 4) sc__law_web.nd rfl (Or.inl rfl) (pe_ix ix_tup (pe_tup (pa_cons pe_int (pa_cons pe_int (pa_cons pe_int (pa_cons pe_int pa_nil))))) (pe_use U__law_draw hr (pa_cons (pe_use U__law_cell_at hr (pa_cons (pv 0) (pa_cons pe_int pa_nil))) (pa_cons pe_int (pa_cons pe_int pa_nil)))) (fun _ _ => rfl)))
 (pss_cons (ps_set (i := 5) sc__law_web.nd rfl (Or.inl rfl) (pe_ix ix_tup (pe_tup (pa_cons pe_int (pa_cons pe_int (pa_cons pe_int (pa_cons pe_int pa_nil))))) (pe_use U__law_draw hr (pa_cons (pe_use U__law_cell_at hr (pa_cons (pv 0) (pa_cons pe_int pa_nil))) (pa_cons pe_int (pa_cons pe_int pa_nil)))) (fun _ _ => rfl)))
 (pss_cons (ps_set (i := 6) sc__law_web.nd rfl (Or.inl rfl) (pe_and (pe_cmpR op_gt (pv 2) pe_int (nomark _)) (pe_one (pe_cmpR op_eq (pe_use U__law_draw hr (pa_cons (pe_use U__law_cell_at hr (pa_cons (pv 0) (pa_cons pe_int pa_nil))) (pa_cons pe_int (pa_cons pe_int pa_nil)))) pe_int (nomark _)))))
 (pss_cons (ps_set (i := 7) sc__law_web.nd rfl (Or.inl rfl) (pe_lst pa_nil))
 (pss_cons (ps_for PassesOwn.never rfl (pi_range1 rfl T.n_range (pa_cons (pe_callB call_len_seq (by rfl) T.n_len PySem.boot_len (pa_cons (pv 0) pa_nil)) pa_nil)) (pg_name (i := 8) sc__law_web.nd rfl (Or.inl rfl)) (pss_cons (ps_set (i := 9) sc__law_web.nd rfl (Or.inl rfl) (pe_use U__law_draw hr (pa_cons (pe_ix ix_list (pv 0) (pv 8) (fun _ _ => rfl)) (pa_cons (pe_op op_add (pe_op op_mod (pv 8) pe_int) pe_int) (pa_cons (pv 2) pa_nil)))))
 (pss_cons (ps_set (i := 10) sc__law_web.nd rfl (Or.inl rfl) (pe_op op_mod (pe_op op_add (pe_op op_add (pv 9) pe_int) (pe_use U__law_draw hr (pa_cons (pe_ix ix_list (pv 0) (pv 8) (fun _ _ => rfl)) (pa_cons (pe_op op_add (pe_op op_mod (pv 8) pe_int) pe_int) (pa_cons (pe_op op_sub (pv 2) pe_int) pa_nil))))) (pv 2)))
 (pss_cons (ps_if (pt_val (pv 6)) (pss_cons (ps_set (i := 11) sc__law_web.nd rfl (Or.inl rfl) (pe_ifExp (pt_cmpR op_lt (pv 9) (pe_op op_fdiv (pv 2) pe_int) (nomark _)) pe_int (pe_op op_fdiv (pv 2) pe_int)))
 (pss_cons (ps_set (i := 12) sc__law_web.nd rfl (Or.inl rfl) (pe_ifExp (pt_cmpR op_eq (pv 11) pe_int (nomark _)) (pe_op op_fdiv (pv 2) pe_int) (pe_op op_sub (pv 2) (pv 11))))
 (pss_cons (ps_set (i := 13) sc__law_web.nd rfl (Or.inl rfl) (pe_op op_add pe_int (pe_use U__law_draw hr (pa_cons (pe_ix ix_list (pv 0) (pv 8) (fun _ _ => rfl)) (pa_cons (pe_op op_add (pe_op op_mod (pv 8) pe_int) pe_int) (pa_cons (pe_op op_sub (pv 12) pe_int) pa_nil))))))
 (pss_one (ps_set (i := 10) sc__law_web.nd rfl (Or.inl rfl) (pe_op op_add (pv 11) (pe_op op_mod (pe_op op_add (pe_op op_sub (pv 9) (pv 11)) (pv 13)) (pv 12)))))))) pss_nil)
 (pss_cons (ps_set (i := 14) sc__law_web.nd rfl (Or.inl rfl) (pe_op op_sub (pe_use U__law_draw hr (pa_cons (pe_op op_mul (pv 10) pe_int) (pa_cons pe_int (pa_cons (pv 4) pa_nil)))) (pe_use U__law_draw hr (pa_cons (pe_op op_mul (pv 9) pe_int) (pa_cons pe_int (pa_cons (pv 4) pa_nil))))))
 (pss_cons (ps_if (PW.pt (pw_and (pt_cmpR op_gt (pv 5) pe_int (nomark _)) (pw_and1 (pt_cmpR op_eq (pe_use U__law_draw hr (pa_cons (pe_ix ix_list (pv 0) (pv 8) (fun _ _ => rfl)) (pa_cons (pe_op op_add (pe_op op_mod (pv 8) pe_int) pe_int) (pa_cons (pv 5) pa_nil)))) pe_int (nomark _))))) (pss_one (ps_set (i := 14) sc__law_web.nd rfl (Or.inl rfl) (pe_op op_add (pv 14) pe_int))) pss_nil)
 (pss_cons (ps_if (PW.pt (pw_and (pt_cmpR op_gt (pv 3) pe_int (nomark _)) (pw_and (pt_cmpR op_eq (pe_use U__law_draw hr (pa_cons (pe_ix ix_list (pv 0) (pv 8) (fun _ _ => rfl)) (pa_cons pe_int (pa_cons pe_int pa_nil)))) pe_int (nomark _)) (pw_and1 (pt_cmpR op_lt (pe_op op_add (pe_callB call_abs (by rfl) T.n_abs (by decide +kernel) (pa_cons (pv 14) pa_nil)) (pv 3)) pe_int (nomark _)))))) (pss_one (ps_set (i := 14) sc__law_web.nd rfl (Or.inl rfl) (pe_op op_sub (pv 14) (pv 3)))) pss_nil)
 (pss_one (ps_expr (pe_bm PySem.F.plainAttrs_list PySem.F.slot_list_append PySem.F.type_list_append mt_append (pv 7) (pa_cons (pe_tup (pa_cons (pv 9) (pa_cons (pv 10) (pa_cons (pv 14) pa_nil)))) pa_nil)))))))))))
 (pss_one (ps_ret (pe_tup (pa_cons (pv 2) (pa_cons (pv 7) (pa_cons (pv 3) pa_nil))))))))))))))
abbrev s_law : Stmt := top 32
theorem sc_law : FnScope ["_law_script", "_law_points", "_law_ties", "_law_turn", "_law_text", "_law_one", "_law_other", "_law_number_here", "_law_cell", "_law_k", "_law_at", "_law_sign", "_law_thing"] ["_law_script"] (defScope s_law) := ⟨rfl, rfl, rfl, by decide +kernel, rfl, by decide +kernel, by decide +kernel⟩
theorem ok_law (F : FunD K "law" "law" (defArgs s_law) (defBody s_law) (defScope s_law) [] [] f fd) (T : Nm K mg) (U_Web_init : UseC P w K mg base CX0 4 "Web" (ga K "Web") ["self", "points", "ties", "turn"] (sp_Web_init K)) (U__law_cell_at : Use P w K mg base CX0 1 "_law_cell_at" ["_law_script", "_law_k"] (sp__law_cell_at K)) (U__law_draw : Use P w K mg base CX0 1 "_law_draw" ["_law_cell", "_law_k", "_law_many"] (sp__law_draw K)) (U__law_few : Use P w K mg base CX0 1 "_law_few" [] (sp__law_few K)) (U__law_refused : Use P w K mg base CX0 7 "_law_refused" ["_law_text"] (sp__law_refused K)) (U__law_right : Use P w K mg base CX0 8 "_law_right" ["_law_text"] (sp__law_right K)) (U__law_web : Use P w K mg base CX0 2 "_law_web" ["_law_script"] (sp__law_web K)) (U_written : Use P w K mg base CX0 1 "written" ["web"] (sp_written K)) : FnOk P w K mg base CX0 9 f fd ["_law_script"] (sp_law K) := by
  refine F.ok sc_law (fun vs H Q E h => by first | (obtain ⟨_, rfl, _⟩ := h; rfl) | (obtain ⟨_, _, rfl, _⟩ := h; rfl) | (obtain ⟨_, _, _, rfl, _⟩ := h; rfl) | (obtain ⟨_, _, _, _, rfl, _⟩ := h; rfl) | (obtain ⟨_, _, _, _, _, rfl, _⟩ := h; rfl) | (obtain ⟨_, _, _, _, _, _, rfl, _⟩ := h; rfl) | (obtain ⟨_, _, _, _, _, _, _, rfl, _⟩ := h; rfl) | (obtain ⟨_, _, _, _, _, _, _, _, rfl, _⟩ := h; rfl) | (obtain ⟨_, _, _, _, _, _, _, _, _, rfl, _⟩ := h; rfl) | (obtain ⟨_, _, _, _, _, _, _, _, _, _, rfl, _⟩ := h; rfl) | (obtain ⟨_, _, _, _, _, _, _, _, _, _, _, rfl, _⟩ := h; rfl) | (obtain ⟨_, _, _, _, _, _, _, _, _, _, _, _, rfl, _⟩ := h; rfl) | (obtain ⟨_, _, _, _, _, _, _, _, _, _, _, _, _, rfl, _⟩ := h; rfl) | (obtain ⟨_, _, _, _, _, _, _, _, _, _, _, _, _, _, rfl, _⟩ := h; rfl) | (obtain ⟨_, _, _, _, _, _, _, _, _, _, _, _, _, _, _, rfl, _⟩ := h; rfl) | (obtain ⟨_, _, _, _, _, _, _, _, _, _, _, _, _, _, _, _, rfl, _⟩ := h; rfl) | (obtain ⟨rfl, _⟩ := h; rfl)) (fun cdv A outer s H vs Q E hr h => ⟨t_law K, PSs.nox ?_, rd_law vs H Q E h⟩)
  have hu := units_of hr
  exact (pss_cons (ps_asg (pe_use U__law_web hr (pa_cons (pv 0) pa_nil)) (pg_tup (by rfl) (pgs_cons (pg_name (i := 1) sc_law.nd rfl (Or.inl rfl)) (pgs_cons (pg_name (i := 2) sc_law.nd rfl (Or.inl rfl)) (pgs_cons (pg_name (i := 3) sc_law.nd rfl (Or.inl rfl)) pgs_nil)))))
 (pss_cons (ps_set (i := 4) sc_law.nd rfl (Or.inl rfl) (pe_op op_catS (pe_op op_catS (pe_callTy call_strI (by rfl) T.n_str (by decide +kernel) (pa_cons (pv 1) pa_nil)) pe_str) (pe_callTy call_strI (by rfl) T.n_str (by decide +kernel) (pa_cons (pv 3) pa_nil))))
 (pss_cons (ps_for PassesOwn.never rfl (pi_list (pv 2)) (pg_tup (by rfl) (pgs_cons (pg_name (i := 5) sc_law.nd rfl (Or.inl rfl)) (pgs_cons (pg_name (i := 6) sc_law.nd rfl (Or.inl rfl)) (pgs_cons (pg_name (i := 7) sc_law.nd rfl (Or.inl rfl)) pgs_nil)))) (pss_one (ps_set (i := 4) sc_law.nd rfl (Or.inl rfl) (pe_op op_catS (pe_op op_catS (pe_op op_catS (pe_op op_catS (pe_op op_catS (pe_op op_catS (pv 4) pe_str) (pe_callTy call_strI (by rfl) T.n_str (by decide +kernel) (pa_cons (pv 5) pa_nil))) pe_str) (pe_callTy call_strI (by rfl) T.n_str (by decide +kernel) (pa_cons (pv 6) pa_nil))) pe_str) (pe_callTy call_strI (by rfl) T.n_str (by decide +kernel) (pa_cons (pv 7) pa_nil))))))
 (pss_cons (ps_if (PW.pt (pw_or (pt_cmpR op_ne (pe_use U_written hr (pa_cons (pe_usemk U_Web_init hr (pa_cons (pv 1) (pa_cons (pv 2) (pa_cons (pv 3) pa_nil)))) pa_nil)) (pv 4) (nomark _)) (pw_or1 (pt_not (pt_val (pe_use U__law_right hr (pa_cons (pv 4) pa_nil))))))) (pss_one (ps_ret pe_bl)) pss_nil)
 (pss_cons (ps_set (i := 8) sc_law.nd rfl (Or.inl rfl) (pe_op op_add (pe_use U__law_cell_at hr (pa_cons (pv 0) (pa_cons pe_int pa_nil))) (pe_op op_mul pe_int (pe_use U__law_cell_at hr (pa_cons (pv 0) (pa_cons pe_int pa_nil))))))
 (pss_cons (ps_for PassesOwn.never rfl (pi_range1 rfl T.n_range (pa_cons pe_int pa_nil)) (pg_name (i := 9) sc_law.nd rfl (Or.inl rfl)) (pss_cons (ps_set (i := 10) sc_law.nd rfl (Or.inl rfl) (pe_use U__law_draw hr (pa_cons (pe_op op_add (pv 8) (pv 9)) (pa_cons pe_int (pa_cons (pe_op op_add (pe_callB call_len_strG (by rfl) T.n_len PySem.boot_len (pa_cons (pv 4) pa_nil)) pe_int) pa_nil)))))
 (pss_cons (ps_set (i := 11) sc_law.nd rfl (Or.inl rfl) (pe_ix ix_tup (pe_tup (pa_cons pe_str (pa_cons (pe_ix ix_str pe_str (pe_use U__law_draw hr (pa_cons (pe_op op_add (pv 8) (pv 9)) (pa_cons pe_int (pa_cons pe_int pa_nil)))) (fun _ _ => rfl)) pa_nil))) (pe_use U__law_draw hr (pa_cons (pe_op op_add (pv 8) (pv 9)) (pa_cons pe_int (pa_cons pe_int pa_nil)))) (fun _ _ => rfl)))
 (pss_one (ps_if (pt_not (pt_val (pe_use U__law_right hr (pa_cons (pe_op op_catS (pe_op op_catS (pe_slice sl_str (pv 4) po_none (po_some (pv 10))) (pv 11)) (pe_slice sl_str (pv 4) (po_some (pe_op op_add (pv 10) (pe_use U__law_draw hr (pa_cons (pe_op op_add (pv 8) (pv 9)) (pa_cons pe_int (pa_cons pe_int pa_nil)))))) po_none)) pa_nil)))) (pss_one (ps_ret pe_bl)) pss_nil)))))
 (pss_cons (ps_if (pt_not (pt_val (pe_callB (cr_all rfl) (by rfl) T.n_all (by decide +kernel) (pa_cons (pe_lc (own := [("_law_other", 6)]) (g := (gName 6)) (tt := tYes) rfl sc_law.nd (pi_list (pe_use0 U__law_few hr)) (blkOk_by (own := [("_law_other", 6)]) (N := ["_law_script", "_law_points", "_law_ties", "_law_turn", "_law_text", "_law_one", "_law_other", "_law_number_here", "_law_cell", "_law_k", "_law_at", "_law_sign", "_law_thing"]) (sc := defScope s_law) (by decide +kernel)) (fun _ _ _ _ _ => (pg_name (i := 6) sc_law.nd rfl (Or.inl rfl))) (fun _ _ _ _ _ => pts_nil) (fun _ _ _ _ _ => (pe_use U__law_right hr (pa_cons (pv 6) pa_nil)))) pa_nil)))) (pss_one (ps_ret pe_bl)) pss_nil)
 (pss_one (ps_ret (pe_callB (cr_all rfl) (by rfl) T.n_all (by decide +kernel) (pa_cons (pe_lc (own := [("_law_thing", 12)]) (g := (gName 12)) (tt := tYes) rfl sc_law.nd (pi_list (pe_lst (pa_cons pe_non (pa_cons pe_int (pa_cons (pe_lst (pa_cons pe_str pa_nil)) (pa_cons pe_bl pa_nil)))))) (blkOk_by (own := [("_law_thing", 12)]) (N := ["_law_script", "_law_points", "_law_ties", "_law_turn", "_law_text", "_law_one", "_law_other", "_law_number_here", "_law_cell", "_law_k", "_law_at", "_law_sign", "_law_thing"]) (sc := defScope s_law) (by decide +kernel)) (fun _ _ _ _ _ => (pg_name (i := 12) sc_law.nd rfl (Or.inl rfl))) (fun _ _ _ _ _ => pts_nil) (fun _ _ _ _ _ => (pe_use U__law_refused hr (pa_cons (pv 12) pa_nil)))) pa_nil)))))))))))
end G
namespace G
open PySem PySem.Spec PyProof.Rows L2
/-! ### the head: a hook with one more Bool -/
abbrev AlE : Type := He.AlD × Bool
def obsE (n : Nat) (fa : List He.Fa) (fn : List He.DefD) (ex : PySem.W.Frag → Bool) (g : Addr → Option Obj) : AlE := (He.obsD fa fn (He.frG g (He.asD g n)), ex (He.frG g (He.asD g n)))
def hookE (n : Nat) (fa : List He.Fa) (fn : List He.DefD) (ex : PySem.W.Frag → Bool) : PySem.W.Hook where
  α := AlE
  obs := fun s => obsE n fa fn ex s.heap.get?
  val := fun _ => (He.valD fn, true)
  says := fun _ h => ∃ K : PySem.W.Frag, K.In h ∧ He.SaysD fa fn K ∧ ex K = true
  of := fun _ _ e => ⟨_, He.frG_in, congrArg (fun z : AlE => z.1) e, congrArg (fun z : AlE => z.2) e⟩
  keeps := fun _ _ _ ⟨K, hK, c⟩ k => ⟨K, PySem.W.Frag.In.keeps hK k, c⟩
theorem obsE_eq {n : Nat} {fa : List He.Fa} {fn : List He.DefD} {ex : PySem.W.Frag → Bool} {g : Addr → Option Obj} {s : Shared} (h : ∀ a, g a = s.heap.get? a) : obsE n fa fn ex g = (hookE n fa fn ex).obs s := by
  have e : g = s.heap.get? := funext h
  rw [e] <;> rfl
/-- the class C is the j-th answer's, told by a Bool -/
def kndB (K : PySem.W.Frag) (C : Str) (j : Nat) : Bool :=
  He.eqO (PySem.W.findIn K (.ref (ga K C)) "__class__") (some (some (.builtin "object.__class__"))) && (He.eqO (PySem.W.specialIn K (.builtin "object.__class__") "__get__") (some (some (.builtin "getset_descriptor.__get__"))) &&
  (decide (PySem.W.takesIn K (.builtin "object.__class__") = some true) && (decide (PySem.W.mroIn K (ga K C) (.type "object") = some true) &&
  (List.range 10).all fun i => match kinds[i]? with
    | some D => decide (PySem.W.kitOne K (.ref (ga K C)) (.ref (ga K D)) = some (decide (i = 0 ∨ i = j)))
    | none => true)))
theorem kndB_ok {K : PySem.W.Frag} {C : Str} {j : Nat} (c : Cls K (ga K C)) (h : kndB K C j = true) : Knd K C j := by
  obtain ⟨h1, h⟩ := He.ba h
  obtain ⟨h2, h⟩ := He.ba h
  obtain ⟨h3, h⟩ := He.ba h
  obtain ⟨h4, h⟩ := He.ba h
  refine ⟨c, He.eqO_ok h1, He.eqO_ok h2, of_decide_eq_true h3, of_decide_eq_true h4, fun i D hi => ?_⟩
  have hlt : i < 10 := (List.getElem?_eq_some_iff.mp hi).1
  have q := List.all_eq_true.mp h i (List.mem_range.mpr hlt)
  rw [hi] at q
  exact of_decide_eq_true q
/-- the own exception class D is the j-th, told by a Bool -/
def exB (K : PySem.W.Frag) (D : Str) (j : Nat) : Bool :=
  He.eqO (PySem.W.findIn K (.ref (ga K D)) "__getattribute__") (some (some (.builtin "BaseException.__getattribute__"))) && (He.eqO (PySem.W.findIn K (.ref (ga K D)) "__getattr__") (some none) && (decide (PySem.W.subIn K (.ref (ga K D)) (.type "BaseException") = some true) && (PySem.W.hasDictIn K (ga K D) &&
  (He.eqO (PySem.W.findIn K (.ref (ga K D)) "__class__") (some (some (.builtin "object.__class__"))) && (He.eqO (PySem.W.specialIn K (.builtin "object.__class__") "__get__") (some (some (.builtin "getset_descriptor.__get__"))) && (decide (PySem.W.takesIn K (.builtin "object.__class__") = some true) && (decide (PySem.W.mroIn K (ga K D) (.type "object") = some true) &&
  (decide (PySem.W.kitOne K (.ref (ga K D)) (.type "ValueError") = some true) && ((List.range 6).all fun i => match excs[i]? with
    | some C => decide (PySem.W.exmOne K (.ref (ga K D)) (.ref (ga K C)) = some (decide (i = 0 ∨ i = j))) && decide (PySem.W.kitOne K (.ref (ga K D)) (.ref (ga K C)) = some (decide (i = 0 ∨ i = j)))
    | none => true)))))))))
theorem exB_ok {K : PySem.W.Frag} {D : Str} {j : Nat} (h : exB K D j = true) : ExK K D j := by
  obtain ⟨h1, h⟩ := He.ba h
  obtain ⟨h2, h⟩ := He.ba h
  obtain ⟨h3, h⟩ := He.ba h
  obtain ⟨h4, h⟩ := He.ba h
  obtain ⟨h5, h⟩ := He.ba h
  obtain ⟨h6, h⟩ := He.ba h
  obtain ⟨h7, h⟩ := He.ba h
  obtain ⟨h8, h⟩ := He.ba h
  obtain ⟨h9, h⟩ := He.ba h
  have q : ∀ i C, excs[i]? = some C → PySem.W.exmOne K (.ref (ga K D)) (.ref (ga K C)) = some (decide (i = 0 ∨ i = j)) ∧ PySem.W.kitOne K (.ref (ga K D)) (.ref (ga K C)) = some (decide (i = 0 ∨ i = j)) := fun i C hi => by
    have hlt : i < 6 := (List.getElem?_eq_some_iff.mp hi).1
    have q := List.all_eq_true.mp h i (List.mem_range.mpr hlt)
    rw [hi] at q
    obtain ⟨a, b⟩ := He.ba q
    exact ⟨of_decide_eq_true a, of_decide_eq_true b⟩
  exact ⟨⟨He.eqO_ok h1, He.eqO_ok h2, of_decide_eq_true h3, h4, He.eqO_ok h5, He.eqO_ok h6, of_decide_eq_true h7, of_decide_eq_true h8⟩, fun i C hi => (q i C hi).1, fun i C hi => (q i C hi).2, of_decide_eq_true h9⟩
end G
namespace Hd
open PySem PySem.Spec PyProof.Rows L2 G
def d_is_whole : He.DefD := ⟨("is_whole", none), "is_whole", "is_whole", defArgs s_is_whole, defBody s_is_whole, defScope s_is_whole, [], []⟩
def d_is_below : He.DefD := ⟨("is_below", none), "is_below", "is_below", defArgs s_is_below, defBody s_is_below, defScope s_is_below, [], []⟩
def d_is_tie : He.DefD := ⟨("is_tie", none), "is_tie", "is_tie", defArgs s_is_tie, defBody s_is_tie, defScope s_is_tie, [], []⟩
def d_Web_init : He.DefD := ⟨("Web", some "__init__"), "__init__", "Web.__init__", defArgs s_Web_init, defBody s_Web_init, defScope s_Web_init, [], []⟩
def d__law_cell_at : He.DefD := ⟨("_law_cell_at", none), "_law_cell_at", "_law_cell_at", defArgs s__law_cell_at, defBody s__law_cell_at, defScope s__law_cell_at, [], []⟩
def d__law_draw : He.DefD := ⟨("_law_draw", none), "_law_draw", "_law_draw", defArgs s__law_draw, defBody s__law_draw, defScope s__law_draw, [], []⟩
def d__law_few : He.DefD := ⟨("_law_few", none), "_law_few", "_law_few", defArgs s__law_few, defBody s__law_few, defScope s__law_few, [], []⟩
def d_Web_initX : He.DefD := ⟨("Web", some "__init__"), "__init__", "Web.__init__", defArgs s_Web_initX, defBody s_Web_initX, defScope s_Web_initX, [], []⟩
def d_number_inX : He.DefD := ⟨("number_in", none), "number_in", "number_in", defArgs s_number_inX, defBody s_number_inX, defScope s_number_inX, [], []⟩
def d_readX : He.DefD := ⟨("read", none), "read", "read", defArgs s_readX, defBody s_readX, defScope s_readX, [], []⟩
def d__law_refused : He.DefD := ⟨("_law_refused", none), "_law_refused", "_law_refused", defArgs s__law_refused, defBody s__law_refused, defScope s__law_refused, [], []⟩
def d_Web_ties : He.DefD := ⟨("Web", some "ties"), "ties", "Web.ties", defArgs s_Web_ties, defBody s_Web_ties, defScope s_Web_ties, [], []⟩
def d__law_number : He.DefD := ⟨("_law_number", none), "_law_number", "_law_number", defArgs s__law_number, defBody s__law_number, defScope s__law_number, [], []⟩
def d__law_tie_in : He.DefD := ⟨("_law_tie_in", none), "_law_tie_in", "_law_tie_in", defArgs s__law_tie_in, defBody s__law_tie_in, defScope s__law_tie_in, [], []⟩
def d__law_in : He.DefD := ⟨("_law_in", none), "_law_in", "_law_in", defArgs s__law_in, defBody s__law_in, defScope s__law_in, [], []⟩
def d_written : He.DefD := ⟨("written", none), "written", "written", defArgs s_written, defBody s_written, defScope s_written, [], []⟩
def d__law_right : He.DefD := ⟨("_law_right", none), "_law_right", "_law_right", defArgs s__law_right, defBody s__law_right, defScope s__law_right, [], []⟩
def d__law_web : He.DefD := ⟨("_law_web", none), "_law_web", "_law_web", defArgs s__law_web, defBody s__law_web, defScope s__law_web, [], []⟩
def d_law : He.DefD := ⟨("law", none), "law", "law", defArgs s_law, defBody s_law, defScope s_law, [], []⟩
def fn : List He.DefD := [d_is_whole, d_is_below, d_is_tie, d_Web_init, d__law_cell_at, d__law_draw, d__law_few, d_Web_initX, d_number_inX, d_readX, d__law_refused, d_Web_ties, d__law_number, d__law_tie_in, d__law_in, d_written, d__law_right, d__law_web, d_law]
def fa0 : List He.Fa := [.glo "law", .free "ValueError", .free "abs", .free "all", .free "any", .free "bool", .free "int", .free "isinstance", .free "len", .free "list", .free "max", .free "min"]
def fa1 : List He.Fa := [.free "range", .free "str", .free "tuple", .glo "BadPoint", .glo "BadText", .glo "BadTie", .glo "BadWeb", .glo "Unlike", .glo "WebError", .str "FIGURES" "0123456789", .int "GREATEST" 1000000, .exc "BadText"]
def fa2 : List He.Fa := [.exc "BadWeb", .cls "Web", .glo "Web", .noat "Web" "points", .noat "Web" "turn", .noat "Web" "bound", .glo "is_whole", .glo "is_below", .glo "is_tie", .mkr "Web", .glo "_law_cell_at", .glo "_law_draw"]
def fa3 : List He.Fa := [.glo "_law_few", .glo "number_in", .glo "read", .glo "_law_refused", .meth "Web" "ties", .glo "_law_number", .glo "_law_tie_in", .glo "_law_in", .glo "written", .glo "_law_right", .glo "_law_web"]
def fa : List He.Fa := fa0 ++ fa1 ++ fa2 ++ fa3
def loose0 : List Str := ["_wall", "WebError", "BadWeb", "BadPoint", "BadTie", "Unlike", "BadText", "GREATEST", "is_whole", "is_below", "is_tie", "Web"]
def loose1 : List Str := ["FIGURES", "written", "number_in", "read", "_law_cell_at", "_law_draw", "_law_web", "_law_nought", "_law_walk", "_law_numbers", "_law_number", "_law_tie_in"]
def loose2 : List Str := ["_law_in", "_law_refused", "_law_right", "_law_few"]
def loose : List Str := loose0 ++ loose1 ++ loose2
def ex (K : PySem.W.Frag) : Bool := exB K "BadWeb" 1 && (exB K "BadText" 5)
abbrev R : PySem.W.OpenRow := PySem.W.OpenLaw.row PySem.Challenge.rw_closering_k08_written
abbrev hk : PySem.W.Hook := hookE 5 fa fn ex
def ob (s : PySem.W.SharedT) : AlE := obsE 5 fa fn ex (HandSHeadRun.getT s)
theorem ob_eq (s : PySem.W.SharedT) : ob s = hk.obs s.abs := obsE_eq (HandSHeadRun.getT_eq s)
theorem run (w : World) : HandSHeadRun.RunEq R (PySem.W.view R.prog [32]) hk ob 20000 loose w := by
  intro os
  kernel_rfl
theorem facts {P : Program} {w : World} {K : PySem.W.Frag} {h : Heap} {mg : Str → Option Value} {f : Addr} (X : K.In h) (G : h.Ns mainGlobals mg) (hfa : mg ("law" : Str) = some (.ref f)) (c : He.SaysD fa fn K) (hx : ex K = true) :
    ∃ fd : FuncData, TopL K ∧ (∀ (s : Shared) (v : Value), BindsTo s fd ⟨[v], []⟩ [("_law_script", v)]) ∧ ∀ base : Heap, K.In base → base.Ns mainGlobals mg → FnOk P w K mg base CX0 9 f fd ["_law_script"] (sp_law K) := by
  have T : Nm K mg := ⟨He.free_ok X G (c.fact 1 (f := .free "ValueError") rfl), He.free_ok X G (c.fact 2 (f := .free "abs") rfl), He.free_ok X G (c.fact 3 (f := .free "all") rfl), He.free_ok X G (c.fact 4 (f := .free "any") rfl), He.free_ok X G (c.fact 5 (f := .free "bool") rfl), He.free_ok X G (c.fact 6 (f := .free "int") rfl), He.free_ok X G (c.fact 7 (f := .free "isinstance") rfl), He.free_ok X G (c.fact 8 (f := .free "len") rfl), He.free_ok X G (c.fact 9 (f := .free "list") rfl), He.free_ok X G (c.fact 10 (f := .free "max") rfl), He.free_ok X G (c.fact 11 (f := .free "min") rfl), He.free_ok X G (c.fact 12 (f := .free "range") rfl), He.free_ok X G (c.fact 13 (f := .free "str") rfl), He.free_ok X G (c.fact 14 (f := .free "tuple") rfl), He.glo_ok X G (c.fact 15 (f := .glo "BadPoint") rfl), He.glo_ok X G (c.fact 16 (f := .glo "BadText") rfl), He.glo_ok X G (c.fact 17 (f := .glo "BadTie") rfl), He.glo_ok X G (c.fact 18 (f := .glo "BadWeb") rfl), He.glo_ok X G (c.fact 19 (f := .glo "Unlike") rfl), He.glo_ok X G (c.fact 20 (f := .glo "WebError") rfl), He.str_ok X G (c.fact 21 (f := .str "FIGURES" "0123456789") rfl), He.int_ok X G (c.fact 22 (f := .int "GREATEST" 1000000) rfl), He.exc_ok (c.fact 23 (f := .exc "BadText") rfl), He.exc_ok (c.fact 24 (f := .exc "BadWeb") rfl)⟩
  have c_Web : Cls K (ga K "Web") := He.cls_ok (c.fact 25 (f := .cls "Web") rfl)
  have a_Web_points : NoAttr K (ga K "Web") "points" := He.noat_ok (c.fact 27 (f := .noat "Web" "points") rfl)
  have a_Web_turn : NoAttr K (ga K "Web") "turn" := He.noat_ok (c.fact 28 (f := .noat "Web" "turn") rfl)
  have a_Web_bound : NoAttr K (ga K "Web") "bound" := He.noat_ok (c.fact 29 (f := .noat "Web" "bound") rfl)
  obtain ⟨x_BadWeb, hx0⟩ := He.ba hx
  have x_BadText := hx0
  have xk_BadWeb : ExK K "BadWeb" 1 := exB_ok x_BadWeb
  have xk_BadText : ExK K "BadText" 5 := exB_ok x_BadText
  obtain ⟨fd_is_whole, F_is_whole⟩ := c.def_ 0 (d := d_is_whole) rfl
  obtain ⟨fd_is_below, F_is_below⟩ := c.def_ 1 (d := d_is_below) rfl
  obtain ⟨fd_is_tie, F_is_tie⟩ := c.def_ 2 (d := d_is_tie) rfl
  obtain ⟨fd_Web_init, F_Web_init⟩ := c.def_ 3 (d := d_Web_init) rfl
  obtain ⟨fd__law_cell_at, F__law_cell_at⟩ := c.def_ 4 (d := d__law_cell_at) rfl
  obtain ⟨fd__law_draw, F__law_draw⟩ := c.def_ 5 (d := d__law_draw) rfl
  obtain ⟨fd__law_few, F__law_few⟩ := c.def_ 6 (d := d__law_few) rfl
  obtain ⟨fd_Web_initX, F_Web_initX⟩ := c.def_ 7 (d := d_Web_initX) rfl
  obtain ⟨fd_number_inX, F_number_inX⟩ := c.def_ 8 (d := d_number_inX) rfl
  obtain ⟨fd_readX, F_readX⟩ := c.def_ 9 (d := d_readX) rfl
  obtain ⟨fd__law_refused, F__law_refused⟩ := c.def_ 10 (d := d__law_refused) rfl
  obtain ⟨fd_Web_ties, F_Web_ties⟩ := c.def_ 11 (d := d_Web_ties) rfl
  obtain ⟨fd__law_number, F__law_number⟩ := c.def_ 12 (d := d__law_number) rfl
  obtain ⟨fd__law_tie_in, F__law_tie_in⟩ := c.def_ 13 (d := d__law_tie_in) rfl
  obtain ⟨fd__law_in, F__law_in⟩ := c.def_ 14 (d := d__law_in) rfl
  obtain ⟨fd_written, F_written⟩ := c.def_ 15 (d := d_written) rfl
  obtain ⟨fd__law_right, F__law_right⟩ := c.def_ 16 (d := d__law_right) rfl
  obtain ⟨fd__law_web, F__law_web⟩ := c.def_ 17 (d := d__law_web) rfl
  obtain ⟨fd_law, F_law⟩ := c.def_ 18 (d := d_law) rfl
  have e := hfa.symm.trans (He.glo_ok X G (c.fact 0 (f := .glo "law") rfl))
  cases e
  have b := FunD.bindsA (ps := ["_law_script"]) F_law fun _ _ _ _ _ _ us hl => match us, hl with | [_], _ => rfl
  refine ⟨fd_law, ⟨⟨c_Web, a_Web_points, a_Web_turn, a_Web_bound⟩, xk_BadWeb, xk_BadText⟩, fun s v => b s [v] rfl, fun base _ _ => ?_⟩
  have U_is_whole : Use P w K mg base CX0 1 "is_whole" ["thing"] (sp_is_whole K) := ⟨_, fd_is_whole, He.glo_ok X G (c.fact 30 (f := .glo "is_whole") rfl), F_is_whole.kp, (F_is_whole.bindsN fun _ _ _ _ _ _ us hl => match us, hl with | [_], _ => rfl), (ok_is_whole F_is_whole T )⟩
  have U_is_below : Use P w K mg base CX0 2 "is_below" ["thing", "many"] (sp_is_below K) := ⟨_, fd_is_below, He.glo_ok X G (c.fact 31 (f := .glo "is_below") rfl), F_is_below.kp, (F_is_below.bindsN fun _ _ _ _ _ _ us hl => match us, hl with | [_, _], _ => rfl), (ok_is_below F_is_below T U_is_whole)⟩
  have U_is_tie : Use P w K mg base CX0 3 "is_tie" ["thing", "points"] (sp_is_tie K) := ⟨_, fd_is_tie, He.glo_ok X G (c.fact 32 (f := .glo "is_tie") rfl), F_is_tie.kp, (F_is_tie.bindsN fun _ _ _ _ _ _ us hl => match us, hl with | [_, _], _ => rfl), (ok_is_tie F_is_tie T U_is_below U_is_whole)⟩
  have U_Web_init : UseC P w K mg base CX0 4 "Web" (ga K "Web") ["self", "points", "ties", "turn"] (sp_Web_init K) := ⟨He.glo_ok X G (c.fact 26 (f := .glo "Web") rfl), _, fd_Web_init, He.mkr_ok (c.fact 33 (f := .mkr "Web") rfl), (F_Web_init.bindsN fun _ _ _ _ _ _ us hl => match us, hl with | [_, _, _, _], _ => rfl), (ok_Web_init F_Web_init T U_is_below U_is_tie)⟩
  have U__law_cell_at : Use P w K mg base CX0 1 "_law_cell_at" ["_law_script", "_law_k"] (sp__law_cell_at K) := ⟨_, fd__law_cell_at, He.glo_ok X G (c.fact 34 (f := .glo "_law_cell_at") rfl), F__law_cell_at.kp, (F__law_cell_at.bindsN fun _ _ _ _ _ _ us hl => match us, hl with | [_, _], _ => rfl), (ok__law_cell_at F__law_cell_at T )⟩
  have U__law_draw : Use P w K mg base CX0 1 "_law_draw" ["_law_cell", "_law_k", "_law_many"] (sp__law_draw K) := ⟨_, fd__law_draw, He.glo_ok X G (c.fact 35 (f := .glo "_law_draw") rfl), F__law_draw.kp, (F__law_draw.bindsN fun _ _ _ _ _ _ us hl => match us, hl with | [_, _, _], _ => rfl), (ok__law_draw F__law_draw T )⟩
  have U__law_few : Use P w K mg base CX0 1 "_law_few" [] (sp__law_few K) := ⟨_, fd__law_few, He.glo_ok X G (c.fact 36 (f := .glo "_law_few") rfl), F__law_few.kp, (F__law_few.bindsN fun _ _ _ _ _ _ us hl => match us, hl with | [], _ => rfl), (ok__law_few F__law_few T )⟩
  have U_Web_initX : UseC P w K mg base (L2N.CX P w) 4 "Web" (ga K "Web") ["self", "points", "ties", "turn"] (sp_Web_initX K) := ⟨He.glo_ok X G (c.fact 26 (f := .glo "Web") rfl), _, fd_Web_initX, He.mkr_ok (c.fact 33 (f := .mkr "Web") rfl), (F_Web_initX.bindsN fun _ _ _ _ _ _ us hl => match us, hl with | [_, _, _, _], _ => rfl), (ok_Web_initX F_Web_initX T U_is_below U_is_tie)⟩
  have U_number_inX : Use P w K mg base (L2N.CX P w) 1 "number_in" ["word"] (sp_number_inX K) := ⟨_, fd_number_inX, He.glo_ok X G (c.fact 37 (f := .glo "number_in") rfl), F_number_inX.kp, (F_number_inX.bindsN fun _ _ _ _ _ _ us hl => match us, hl with | [_], _ => rfl), (ok_number_inX F_number_inX T )⟩
  have U_readX : Use P w K mg base (GM.CX P w) 6 "read" ["text"] (sp_readX K) := ⟨_, fd_readX, He.glo_ok X G (c.fact 38 (f := .glo "read") rfl), F_readX.kp, (F_readX.bindsN fun _ _ _ _ _ _ us hl => match us, hl with | [_], _ => rfl), (ok_readX F_readX T U_Web_initX U_number_inX)⟩
  have U__law_refused : Use P w K mg base CX0 7 "_law_refused" ["_law_text"] (sp__law_refused K) := ⟨_, fd__law_refused, He.glo_ok X G (c.fact 39 (f := .glo "_law_refused") rfl), F__law_refused.kp, (F__law_refused.bindsN fun _ _ _ _ _ _ us hl => match us, hl with | [_], _ => rfl), (ok__law_refused F__law_refused T U_readX)⟩
  have U_Web_ties : UseM P w K mg base CX0 1 (ga K "Web") "ties" ["self"] (sp_Web_ties K) := ⟨c_Web, _, fd_Web_ties, He.meth_ok (c.fact 40 (f := .meth "Web" "ties") rfl), (F_Web_ties.bindsN fun _ _ _ _ _ _ us hl => match us, hl with | [_], _ => rfl), (ok_Web_ties F_Web_ties T )⟩
  have U__law_number : Use P w K mg base CX0 1 "_law_number" ["_law_text"] (sp__law_number K) := ⟨_, fd__law_number, He.glo_ok X G (c.fact 41 (f := .glo "_law_number") rfl), F__law_number.kp, (F__law_number.bindsN fun _ _ _ _ _ _ us hl => match us, hl with | [_], _ => rfl), (ok__law_number F__law_number T )⟩
  have U__law_tie_in : Use P w K mg base CX0 2 "_law_tie_in" ["_law_word", "_law_points"] (sp__law_tie_in K) := ⟨_, fd__law_tie_in, He.glo_ok X G (c.fact 42 (f := .glo "_law_tie_in") rfl), F__law_tie_in.kp, (F__law_tie_in.bindsN fun _ _ _ _ _ _ us hl => match us, hl with | [_, _], _ => rfl), (ok__law_tie_in F__law_tie_in T U__law_number)⟩
  have U__law_in : Use P w K mg base CX0 3 "_law_in" ["_law_text"] (sp__law_in K) := ⟨_, fd__law_in, He.glo_ok X G (c.fact 43 (f := .glo "_law_in") rfl), F__law_in.kp, (F__law_in.bindsN fun _ _ _ _ _ _ us hl => match us, hl with | [_], _ => rfl), (ok__law_in F__law_in T U__law_number U__law_tie_in)⟩
  have U_written : Use P w K mg base CX0 1 "written" ["web"] (sp_written K) := ⟨_, fd_written, He.glo_ok X G (c.fact 44 (f := .glo "written") rfl), F_written.kp, (F_written.bindsN fun _ _ _ _ _ _ us hl => match us, hl with | [_], _ => rfl), (ok_written F_written T )⟩
  have U__law_right : Use P w K mg base CX0 8 "_law_right" ["_law_text"] (sp__law_right K) := ⟨_, fd__law_right, He.glo_ok X G (c.fact 45 (f := .glo "_law_right") rfl), F__law_right.kp, (F__law_right.bindsN fun _ _ _ _ _ _ us hl => match us, hl with | [_], _ => rfl), (ok__law_right F__law_right T U_Web_ties U__law_in U__law_refused U_readX U_written)⟩
  have U__law_web : Use P w K mg base CX0 2 "_law_web" ["_law_script"] (sp__law_web K) := ⟨_, fd__law_web, He.glo_ok X G (c.fact 46 (f := .glo "_law_web") rfl), F__law_web.kp, (F__law_web.bindsN fun _ _ _ _ _ _ us hl => match us, hl with | [_], _ => rfl), (ok__law_web F__law_web T U__law_cell_at U__law_draw)⟩
  exact ok_law F_law T U_Web_init U__law_cell_at U__law_draw U__law_few U__law_refused U__law_right U__law_web U_written
end Hd
open PySem PySem.W PySem.Calls PyProof.Rows
theorem PySem.Challenge.cw_closering_k08_written_holds : PySem.Challenge.rw_closering_k08_written.Holds := by
  w_on; o_law
  refine HandSHeadRun.head_any (r := OpenLaw.row PySem.Challenge.rw_closering_k08_written) (q := view (OpenLaw.row PySem.Challenge.rw_closering_k08_written).prog [32]) (H := Hd.hk) (ob := Hd.ob) (M := 20000) (loose := Hd.loose) (d := HandSHeadRun.topDef (OpenLaw.row PySem.Challenge.rw_closering_k08_written).prog 32) (kwd := []) Hd.ob_eq
    (by kernel_rfl) (fun s => by kernel_rfl) Hd.run (by kernel_rfl) (by kernel_rfl) (by kernel_rfl) (by rfl) (by first | assumption | decide +kernel) (by decide +kernel) ⟨rfl, rfl, rfl, rfl, rfl, by decide +kernel⟩ ?hw ?hc
  case hw => w_witness2
  case hc =>
    refine L2.walk_ofE (l := PySem.Challenge.rw_closering_k08_written) (n := 63) (k := 9) (x := "_law_script") (CX := L2.CX0) rfl (by decide) (by kernel_rfl) ⟨rfl, by decide, by decide⟩ ?F (fun _ _ _ _ z => z)
    intro w mg fa h Y G hmg0
    obtain ⟨K, KX, c, hx⟩ := Y
    have hmg : mg ("law" : PySem.Str) = some (.ref fa) := by
      have e : (HandSHeadRun.topDef (OpenLaw.row PySem.Challenge.rw_closering_k08_written).prog 32).name = ("law" : PySem.Str) := by kernel_rfl
      rw [← e]
      exact hmg0
    obtain ⟨fd, T, hb, hF⟩ := Hd.facts (P := (PySem.Challenge.rw_closering_k08_written).prog) (w := w) KX G hmg c hx
    exact ⟨K, fd, _root_.G.sp_law K, KX, hb, fun H a ns hl _ hS => ⟨a, ns, rfl, hS, hl, T, fun _ => rfl⟩, hF⟩
