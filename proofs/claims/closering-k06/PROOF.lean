import PyProof.Rows.All
import Wide.All
import OpenK.AllK
import Wide.FinOn
import KE.KStateDown
import Lean
import HandS.Base
import HandS.Call
import HandS.List
import HandS.Comp
import HandS.Dict
import HandS.Iter
import HandS.Ends
import HandS.More
import HandS.Words
import HandS.WordsList
import HandS.WordsDict
import HandS.WordsExc
import HandS.Defaults
import HandS.Conv
import HandS.IsInst
import HandS.Style
import HandS.Walk
import HandS.Zip
import HandS.SetFor
import HandS.SortInts
import HandS.Evl
import HandS.Head0
import HandS.Head1
import HandS.Head2
import HandS.HeadEnd
import HandS.HeadHook1
import HandS.HeadHook2
import HandS.Set
import HandS.Exc
import HandS.ExcOwn
import HandS.ExcIs
import HandS.ExcCtx
import HandS.Hot
import HandS.HotCalls
import PySem.Challenge.RW_closering_k06_webs
set_option Elab.async false
set_option linter.all false
set_option maxRecDepth 100000
set_option maxHeartbeats 0
/-! The engine, part 1: short names for readings, and a few rules of our own. -/
namespace G
open PySem PySem.Spec PyProof.Rows L2

/-! ### readings by short names -/
abbrev ga := He.ga
abbrev rAddI : R2 := rI0 fun i j => .int (i + j)
abbrev rSubI : R2 := rI0 fun i j => .int (i - j)
abbrev rMulI : R2 := rI CMul fun i j => .int (i * j)
abbrev rModI : R2 := rI (fun _ j => 0 < j) fun i j => .int (i % j)
abbrev rDivI : R2 := rI CDiv fun i j => .int (i / j)
abbrev rNegI : V → Hp → VK → Prop := rU fun i => .int (-i)
abbrev rLtI : R2 := rI0 fun i j => .bl (decide (i < j))
abbrev rLeI : R2 := rI0 fun i j => .bl (decide (i ≤ j))
abbrev rGtI : R2 := rI0 fun i j => .bl (decide (j < i))
abbrev rGeI : R2 := rI0 fun i j => .bl (decide (j ≤ i))
def rLenS (K : PySem.W.Frag) : List V → Hp → VK → Prop := fun xs H Q => ∃ p ys, xs = [.ref p] ∧ (SqL K H p ys ∨ SqT K H p ys) ∧ Q (.int ys.length) H
def rListS (K : PySem.W.Frag) : List V → Hp → VK → Prop := fun xs H Q => ∃ p ys, xs = [.ref p] ∧ (SqL K H p ys ∨ SqT K H p ys) ∧ ∀ l, H l = none → Q (.ref l) (upd H l (.lst ys))
def rAbs : List V → Hp → VK → Prop := fun xs H Q => ∃ i, xs = [.int i] ∧ Q (.int (if i < 0 then -i else i)) H
def rMax2 : List V → Hp → VK → Prop := fun xs H Q => ∃ i j, xs = [.int i, .int j] ∧ Q (.int (if j > i then j else i)) H
def rInt1 : List V → Hp → VK → Prop := fun xs H Q => (∃ i, xs = [.int i] ∧ Q (.int i) H) ∨ ∃ k, xs = [.bl k] ∧ Q (.int (if k then 1 else 0)) H
def tPar3 (i j l : Nat) (ta : TA) : TS := fun D σ H => ta σ H fun vs H1 => ∃ u v w, vs = [u, v, w] ∧ D.nx (((σ.set i (some u)).set j (some v)).set l (some w)) H1

/-! ### uses of defs, methods, classes -/
section
variable (P : Program) (w : World) (K : PySem.W.Frag) (mg : Str → Option Value) (base : Heap) (CX : CXT)
/-- a def by its global name: at most level k, parameters ps, promise sp -/
def Use (k : Nat) (x : Str) (ps : List Str) (sp : Sp) : Prop :=
  ∃ (f : Addr) (fd : FuncData), mg x = some (.ref f) ∧ PySem.W.keepIn K (.ref f) = true ∧ Binds K fd ps [] ∧ FnOk P w K mg base CX k f fd ps sp
/-- a method m of the class at C -/
def UseM (k : Nat) (C : Addr) (m : Str) (ps : List Str) (sp : Sp) : Prop :=
  Cls K C ∧ ∃ (f : Addr) (fd : FuncData), Meth K C m f ∧ Binds K fd ps [] ∧ FnOk P w K mg base CX k f fd ps sp
/-- a class made by its name -/
def UseC (k : Nat) (x : Str) (C : Addr) (ps : List Str) (sp : Sp) : Prop :=
  mg x = some (.ref C) ∧ ∃ (f : Addr) (fd : FuncData), Mk K C f ∧ Binds K fd ps [] ∧ FnOk P w K mg base CX k f fd ps sp
end
section
variable {X : Cx} {k m : Nat} {x mt : Str} {C : Addr} {ps : List Str} {sp : Sp} {p pos apos : Pos} {e o : Expr} {es : List Expr} {t : TA} {ta : TE}
theorem pe_use (U : Use X.prog X.w X.K X.mg X.base CX0 k x ps sp) (hr : Room m X.A) (ha : PA X (e :: es) t) (hk : k ≤ m := by decide) (hg : Gl X x := by rfl) (hdb : (x == ("__debug__" : Str)) = false := by decide)
    (he : starEach (e :: es) X.env = (false, eval e X.env) :: starEach es X.env := by rfl) (hpl : (backTo pos (starEach es X.env)).any (·.1) = false := by rfl) :
    PE X (.Call (.Name x p) (e :: es) [] pos) (tCall sp [] E0 t) := by
  obtain ⟨f, fd, hm, kp, hb, F⟩ := U
  exact pe_call F (hr.mono hk) hg hm kp hb .nil pass0 ha hdb he hpl
theorem pe_use0 (U : Use X.prog X.w X.K X.mg X.base CX0 k x ps sp) (hr : Room m X.A) (hk : k ≤ m := by decide) (hg : Gl X x := by rfl) (hdb : (x == ("__debug__" : Str)) = false := by decide) :
    PE X (.Call (.Name x p) [] [] pos) (tCall sp [] E0 tNil) := by
  obtain ⟨f, fd, hm, kp, hb, F⟩ := U
  exact pe_call0 F (hr.mono hk) hg hm kp hb .nil pass0 hdb
theorem pe_usem {pl : Sem Bool} (U : UseM X.prog X.w X.K X.mg X.base CX0 k C mt ps sp) (hr : Room m X.A) (ho : PE X o ta) (ha : PA X (e :: es) t) (hk : k ≤ m := by decide)
    (hst : starEach (e :: es) X.env = (false, eval e X.env) :: starEach es X.env := by rfl) (hpl : (backTo pos (starEach es X.env)).any (·.1) = false := by rfl)
    (ht : eval (.Call (.Attribute o mt apos) (e :: es) [] pos) X.env = (do
      let ov ← eval o X.env
      standAt apos.atName
      let (f, first) ← holding [ov] (getMethod ov mt pl)
      callWith pos f first (backTo pos (starEach (e :: es) X.env)) (backToKw pos (keywordEach [] X.env))) := by rfl) :
    PE X (.Call (.Attribute o mt apos) (e :: es) [] pos) (tMeth C mt sp [] E0 ta t) := by
  obtain ⟨c, f, fd, hm, hb, F⟩ := U
  exact pe_meth ho c hm F (hr.mono hk) hb .nil pass0 ha hst hpl ht
theorem pe_usem0 {pl : Sem Bool} (U : UseM X.prog X.w X.K X.mg X.base CX0 k C mt ps sp) (hr : Room m X.A) (ho : PE X o ta) (hk : k ≤ m := by decide)
    (ht : eval (.Call (.Attribute o mt apos) [] [] pos) X.env = (do
      let ov ← eval o X.env
      standAt apos.atName
      let (f, first) ← holding [ov] (getMethod ov mt pl)
      callWith pos f first (backTo pos (starEach [] X.env)) (backToKw pos (keywordEach [] X.env))) := by rfl) :
    PE X (.Call (.Attribute o mt apos) [] [] pos) (tMeth C mt sp [] E0 ta tNil) := by
  obtain ⟨c, f, fd, hm, hb, F⟩ := U
  exact pe_meth0 ho c hm F (hr.mono hk) hb .nil pass0 ht
theorem pe_usemk (U : UseC X.prog X.w X.K X.mg X.base CX0 k x C ps sp) (hr : Room m X.A) (ha : PA X (e :: es) t) (hk : k + 1 ≤ m := by decide) (hg : Gl X x := by rfl) (hdb : (x == ("__debug__" : Str)) = false := by decide)
    (he : starEach (e :: es) X.env = (false, eval e X.env) :: starEach es X.env := by rfl) (hpl : (backTo pos (starEach es X.env)).any (·.1) = false := by rfl) :
    PE X (.Call (.Name x p) (e :: es) [] pos) (tMake C sp [] E0 t) := by
  obtain ⟨hm, f, fd, M, hb, F⟩ := U
  exact pe_make M F (hr.mono hk) hg hm hb .nil pass0 ha hdb he hpl
end

/-! ### a dict is frozen where it is walked, for good -/
def tFrz (te : TE) : TE := fun σ H Q => te σ H fun x H1 => ∃ d kvs, x = .ref d ∧ H1 d = some (.dK kvs) ∧ ∀ od, Q (.ref d) (upd H1 d (.frz od (.dK kvs)))
theorem pe_frz {X : Cx} {e : Expr} {te : TE} (he : PE X e te) : PE X e (tFrz te) := by
  refine ⟨fun pins s σ H Q I h => ?_⟩
  refine thn (he.run pins s σ H _ I h) fun u s1 hq => ?_
  obtain ⟨x, H1, I1, rx, d, kvs, ex, hd, q⟩ := hq
  subst ex
  obtain ⟨od, I2⟩ := I1.lock hd trivial
  exact ⟨.ref d, _, I2, rx, q od⟩

/-! ### len(set(xs)), xs a list of ints of any kind -/
def ucount (ns : List Int) : Nat := (firstMet (fun i => ns.getD i 0) ns.length).length
def tLenSetD (K : PySem.W.Frag) (ta : TE) : TE := fun σ H Q => ta σ H fun x H1 => ∃ (l : Addr) (ns : List Int), x = .ref l ∧ SqL K H1 l (ns.map V.int) ∧ ns.length ≤ 4000 ∧ Q (.int (ucount ns : Nat)) H1
theorem pe_lenSetD {X : Cx} {a : Expr} {ta : TE} {p p2 q pos : Pos} (hg : Gl X "len") (hm : X.mg "len" = none) (hg2 : Gl X "set") (hm2 : X.mg "set" = none) (ha : PE X a ta) (hc : X.calm = true := by rfl)
    (na : starEach [a] X.env = (false, eval a X.env) :: starEach [] X.env := by rfl) :
    PE X (.Call (.Name "len" p) [.Call (.Name "set" p2) [a] [] q] [] pos) (tLenSetD X.K ta) := by
  refine ⟨fun pins s σ H Q I h => Call_ (ld_blt I hg hm boot_len ?_)⟩
  refine callWith_builtin1 (args_cons (Call_ (ld_blt I hg2 hm2 boot_set ?_)) rfl) rfl rfl
  have run := ha.run pins s σ H _ I h
  refine callWith_type1 (args_cons (thn run fun v s1 hv => args_nil ?_) na) na rfl
  obtain ⟨x, H1, I1, r1, l, ns, rfl, hq, hl, q1⟩ := hv
  cases r1
  obtain ⟨its, r, pl, hz⟩ := I1.list hq
  have hn : its.toArray.size = ns.length := by rw [List.size_toArray, ← r.length, List.length_map]
  refine call_set_list (I1.ok.hd hc) pl.isList (by simpa using RZ.intsAre_vals r) (by rw [hn]; unfold scanBound; omega) fun h' tk hS hk => args_nil ?_
  rw [hn] at hS
  obtain ⟨o, es, ep, t, ho, hex, hd, _, _, _, hf, hsz⟩ := hS
  have le := firstMet_length_le (fun i => ns.getD i 0) ns.length
  have I2 : Inv X pins σ H1 { s1 with heap := h', toks := tk } := I1.kept fun b ob eb => hk b ob (Heap.lt_size eb) eb
  exact call_len_set ho hex hd hf (by rw [hsz]; omega) ⟨.int (ucount ns : Nat), H1, I2.tok _, ⟨_, by rw [hsz]; rfl⟩, q1⟩
end G

/-! The engine, part 2: what a reading evaluates to, while the heap only grows. -/
namespace G
open PySem PySem.Spec PyProof.Rows L2
open Evl (Ex Ev EvL EvU EvT EvA RV RetV)

variable {K : PySem.W.Frag} {σ : L2.St} {H H' H1 : Hp} {ta tb tc te : TE} {t u : TT} {tl : TA} {v x y z : V} {r r' : R2}

/-! ### what is known of the heap, and grows with it -/
theorem ex_app {a : Addr} {o : HO} (e : Ex H H') (h : H a = some o) : H' a = some o := e a o h
/-- v is a tuple of the ints xs -/
def TupI (K : PySem.W.Frag) (H : Hp) (v : V) (xs : List Int) : Prop := ∃ t, v = .ref t ∧ SqT K H t (xs.map V.int)
theorem TupI.mono {xs : List Int} (e : Ex H H') (h : TupI K H v xs) : TupI K H' v xs := by
  obtain ⟨t, rfl, h⟩ := h
  exact ⟨t, rfl, Evl.ex_t e h⟩
/-- the values vs are tuples of the ints xss -/
inductive TupL (K : PySem.W.Frag) (H : Hp) : List V → List (List Int) → Prop
  | nil : TupL K H [] []
  | cons {v : V} {vs : List V} {x : List Int} {xs : List (List Int)} : TupI K H v x → TupL K H vs xs → TupL K H (v :: vs) (x :: xs)
theorem TupL.mono (e : Ex H H') : ∀ {vs : List V} {xs : List (List Int)}, TupL K H vs xs → TupL K H' vs xs
  | _, _, .nil => .nil
  | _, _, .cons h t => .cons (h.mono e) (TupL.mono e t)
theorem TupL.length : ∀ {vs : List V} {xs : List (List Int)}, TupL K H vs xs → vs.length = xs.length
  | _, _, .nil => rfl
  | _, _, .cons _ t => congrArg Nat.succ t.length
theorem TupL.get : ∀ {vs : List V} {xs : List (List Int)} {i : Nat} {x : List Int}, TupL K H vs xs → xs[i]? = some x → ∃ v, vs[i]? = some v ∧ TupI K H v x
  | _, _, i, _, .nil, e => by simp at e
  | _, _, 0, _, .cons h _, e => by
    simp at e
    subst e
    exact ⟨_, rfl, h⟩
  | _, _, i + 1, _, .cons _ t, e => by
    obtain ⟨w, h1, h2⟩ := t.get (i := i) (by simpa using e)
    exact ⟨w, by simpa using h1, h2⟩
theorem TupL.getV : ∀ {vs : List V} {xs : List (List Int)} {i : Nat}, TupL K H vs xs → vs[i]? = some v → ∃ x, xs[i]? = some x ∧ TupI K H v x
  | _, _, i, .nil, e => by simp at e
  | _, _, 0, .cons h _, e => by
    simp at e
    subst e
    exact ⟨_, rfl, h⟩
  | _, _, i + 1, .cons _ t, e => by
    obtain ⟨w, h1, h2⟩ := t.getV (i := i) (by simpa using e)
    exact ⟨w, by simpa using h1, h2⟩
theorem TupL.append : ∀ {vs ws : List V} {xs ys : List (List Int)}, TupL K H vs xs → TupL K H ws ys → TupL K H (vs ++ ws) (xs ++ ys)
  | _, _, _, _, .nil, s => s
  | _, _, _, _, .cons h t, s => .cons h (TupL.append t s)
theorem TupL.snoc {vs : List V} {xs : List (List Int)} {w : V} {x : List Int} (h : TupL K H vs xs) (q : TupI K H w x) : TupL K H (vs ++ [w]) (xs ++ [x]) := h.append (.cons q .nil)
theorem TupL.rev : ∀ {vs : List V} {xs : List (List Int)}, TupL K H vs xs → TupL K H vs.reverse xs.reverse
  | _, _, .nil => .nil
  | _, _, .cons h t => by
    rw [List.reverse_cons, List.reverse_cons]
    exact t.rev.snoc h
theorem TupL.drop : ∀ {vs : List V} {xs : List (List Int)} (n : Nat), TupL K H vs xs → TupL K H (vs.drop n) (xs.drop n)
  | _, _, 0, h => h
  | _, _, _ + 1, .nil => .nil
  | _, _, n + 1, .cons _ t => TupL.drop n t
theorem TupL.take : ∀ {vs : List V} {xs : List (List Int)} (n : Nat), TupL K H vs xs → TupL K H (vs.take n) (xs.take n)
  | _, _, 0, _ => .nil
  | _, _, _ + 1, .nil => .nil
  | _, _, n + 1, .cons h t => .cons h (TupL.take n t)
/-- at a a list of tuples of ints is to be read -/
def LT (K : PySem.W.Frag) (H : Hp) (a : Addr) (xss : List (List Int)) : Prop := ∃ vs, SqL K H a vs ∧ TupL K H vs xss
theorem LT.mono {a : Addr} {xss : List (List Int)} (e : Ex H H') (h : LT K H a xss) : LT K H' a xss := by
  obtain ⟨vs, h1, h2⟩ := h
  exact ⟨vs, Evl.ex_l e h1, h2.mono e⟩
/-- at a a list of ints is to be read -/
def LI (K : PySem.W.Frag) (H : Hp) (a : Addr) (ns : List Int) : Prop := SqL K H a (ns.map V.int)
theorem LI.mono {a : Addr} {ns : List Int} (e : Ex H H') (h : LI K H a ns) : LI K H' a ns := Evl.ex_l e h

theorem li_of {a : Addr} {ns : List Int} (h : H a = some (.lst (ns.map V.int))) : LI K H a ns := .inl (.inl h)

/-! ### items by their place -/
theorem atI_map {α β : Type} (f : α → β) (xs : List α) (i : Int) : atI (xs.map f) i = (atI xs i).map f := by
  unfold atI
  rw [List.length_map]
  cases ixN xs.length i with
  | none => rfl
  | some j =>
    show (xs.map f)[j]? = (xs[j]?).map f
    rw [List.getElem?_map]
theorem atI_int {ns : List Int} {i n : Int} (h : atI ns i = some n) : atI (ns.map V.int) i = some (.int n) := by rw [atI_map, h]; rfl
theorem atI_pos {α : Type} {xs : List α} {i : Int} (h0 : 0 ≤ i) : atI xs i = xs[i.toNat]? := by
  unfold atI ixN
  rw [if_pos h0]
  by_cases h1 : i < xs.length
  · rw [if_pos h1]; rfl
  · rw [if_neg h1]
    exact (List.getElem?_eq_none_iff.mpr (by omega)).symm
theorem atI_of {α : Type} {xs : List α} {i : Int} {w : α} (h0 : 0 ≤ i) (h : xs[i.toNat]? = some w) : atI xs i = some w := by rw [atI_pos h0, h]
theorem atI_lastOf {α : Type} {xs : List α} {w : α} (h : xs.getLast? = some w) : atI xs (-1) = some w := by
  obtain ⟨ys, rfl⟩ := List.getLast?_eq_some_iff.mp h
  exact atI_last ys w
theorem TupL.atI {vs : List V} {xs : List (List Int)} {i : Int} {x : List Int} (h : TupL K H vs xs) (e : L2.atI xs i = some x) : ∃ w, L2.atI vs i = some w ∧ TupI K H w x := by
  unfold L2.atI at e ⊢
  rw [h.length]
  cases q : ixN xs.length i with
  | none =>
    rw [q] at e
    cases e
  | some j =>
    rw [q] at e
    exact h.get (i := j) e
theorem ixN_int {n : Nat} {i : Int} (h0 : 0 ≤ i) (h1 : i < n) : ixN n i = some i.toNat := by
  unfold ixN
  rw [if_pos h0, if_pos h1]

/-! ### judgements -/
/-- te ends with some value of which P holds -/
def EvP (te : TE) (σ : L2.St) (H : Hp) (P : V → Hp → Prop) : Prop := ∀ H1, Ex H H1 → ∀ Q : VK, (∀ v H2, Ex H1 H2 → P v H2 → Q v H2) → te σ H1 Q
def RetP (P : V → Hp → Prop) (H : Hp) (Q : VK) : Prop := ∀ v H2, Ex H H2 → P v H2 → Q v H2
/-- a tuple of these ints -/
abbrev EvI (K : PySem.W.Frag) (te : TE) (σ : L2.St) (H : Hp) (xs : List Int) : Prop := EvP te σ H (fun v H2 => TupI K H2 v xs)
theorem EvP.mono {P : V → Hp → Prop} (e : Ex H H') (h : EvP te σ H P) : EvP te σ H' P := fun H1 a Q q => h H1 (e.trans a) Q q
theorem EvP.imp {P P' : V → Hp → Prop} (h : EvP te σ H P) (f : ∀ v H2, Ex H H2 → P v H2 → P' v H2) : EvP te σ H P' := fun H1 a Q q => h H1 a Q fun v H2 e p => q v H2 e (f v H2 (a.trans e) p)
theorem Ev.toP {P : V → Hp → Prop} (h : Ev te σ H v) (f : ∀ H2, Ex H H2 → P v H2) : EvP te σ H P := fun H1 a Q q => h H1 a Q fun H2 e => q v H2 e (f H2 (a.trans e))
theorem evi_of {xs : List Int} (h : Ev te σ H v) (q : TupI K H v xs) : EvI K te σ H xs := Ev.toP h fun _ e => q.mono e

/-! ### expressions -/
theorem rv_lt {i j : Int} : RV rLtI (.int i) (.int j) H (.bl (decide (i < j))) := Evl.rv_I0
theorem rv_le {i j : Int} : RV rLeI (.int i) (.int j) H (.bl (decide (i ≤ j))) := Evl.rv_I0
theorem rv_gt {i j : Int} : RV rGtI (.int i) (.int j) H (.bl (decide (j < i))) := Evl.rv_I0
theorem rv_ge {i j : Int} : RV rGeI (.int i) (.int j) H (.bl (decide (j ≤ i))) := Evl.rv_I0
theorem rv_add {i j : Int} : RV rAddI (.int i) (.int j) H (.int (i + j)) := Evl.rv_I0
theorem rv_sub {i j : Int} : RV rSubI (.int i) (.int j) H (.int (i - j)) := Evl.rv_I0
theorem rv_mul {i j : Int} (h : CMul i j) : RV rMulI (.int i) (.int j) H (.int (i * j)) := Evl.rv_I h
theorem rv_mod {i j : Int} (h : 0 < j) : RV rModI (.int i) (.int j) H (.int (i % j)) := Evl.rv_I h
theorem rv_div {i j : Int} (h : CDiv i j) : RV rDivI (.int i) (.int j) H (.int (i / j)) := Evl.rv_I h
theorem rv_eqI {i j : Int} : RV rEq (.int i) (.int j) H (.bl (decide (i = j))) := fun H1 _ Q q => ⟨rfl, by
  have e : decide (V.int i = V.int j) = decide (i = j) := by
    by_cases h : i = j
    · rw [h]; simp
    · rw [decide_eq_false h, decide_eq_false fun z => h (V.int.inj z)]
  rw [e]
  exact q H1 (Ex.refl H1)⟩
theorem rv_neI {i j : Int} : RV rNe (.int i) (.int j) H (.bl (!decide (i = j))) := fun H1 _ Q q => ⟨rfl, by
  have e : decide (V.int i = V.int j) = decide (i = j) := by
    by_cases h : i = j
    · rw [h]; simp
    · rw [decide_eq_false h, decide_eq_false fun z => h (V.int.inj z)]
  rw [e]
  exact q H1 (Ex.refl H1)⟩
theorem rv_eqB {i j : Bool} : RV rEq (.bl i) (.bl j) H (.bl (i == j)) := fun H1 _ Q q => ⟨rfl, by
  have e : decide (V.bl i = V.bl j) = (i == j) := by cases i <;> cases j <;> rfl
  rw [e]
  exact q H1 (Ex.refl H1)⟩
theorem rv_neB {i j : Bool} : RV rNe (.bl i) (.bl j) H (.bl (!(i == j))) := fun H1 _ Q q => ⟨rfl, by
  have e : decide (V.bl i = V.bl j) = (i == j) := by cases i <;> cases j <;> rfl
  rw [e]
  exact q H1 (Ex.refl H1)⟩
theorem rv_isB {i j : Bool} : RV rIsB (.bl i) (.bl j) H (.bl (decide (i = j))) := fun H1 _ Q q => ⟨i, j, rfl, rfl, q H1 (Ex.refl H1)⟩
theorem rv_notB {i j : Bool} : RV rNotB (.bl i) (.bl j) H (.bl (!decide (i = j))) := fun H1 _ Q q => ⟨i, j, rfl, rfl, q H1 (Ex.refl H1)⟩
theorem ev_neg {i : Int} (h : Ev ta σ H (.int i)) : Ev (tUn rNegI ta) σ H (.int (-i)) := Evl.ev_un h Evl.ru_neg
theorem ev_chain {k k' : Bool} (ha : Ev ta σ H x) (hb : Ev tb σ H y) (hr : RV r x y H (.bl k)) (hc : Ev tc σ H z) (hr' : RV r' y z H (.bl k')) : Ev (tChain r r' ta tb tc) σ H (.bl (k && k')) := fun H1 e Q q =>
  ha H1 e _ fun H2 e2 => hb H2 (e.trans e2) _ fun H3 e3 => hr H3 ((e.trans e2).trans e3) _ fun H4 e4 => ⟨k, rfl, by
    have e14 : Ex H1 H4 := (e2.trans e3).trans e4
    cases k with
    | true =>
      show tc σ H4 _
      exact hc H4 (e.trans e14) _ fun H5 e5 => hr' H5 ((e.trans e14).trans e5) _ fun H6 e6 => q H6 ((e14.trans e5).trans e6)
    | false => exact q H4 e14⟩
theorem ev_len {p : Addr} {xs : List V} (ha : Ev ta σ H (.ref p)) (h : SqL K H p xs) : Ev (tCB (rLenS K) (tCons ta tNil)) σ H (.int (xs.length : Int)) := fun H1 e Q q =>
  ha H1 e _ fun H2 e2 => ⟨p, xs, rfl, Or.inl (Evl.ex_l (e.trans e2) h), q H2 e2⟩
theorem ev_lenI {p : Addr} {ns : List Int} (ha : Ev ta σ H (.ref p)) (h : LI K H p ns) : Ev (tCB (rLenS K) (tCons ta tNil)) σ H (.int (ns.length : Int)) := by
  have e := ev_len ha h
  rw [List.length_map] at e
  exact e
theorem ev_lenT {p : Addr} {xs : List (List Int)} (ha : Ev ta σ H (.ref p)) (h : LT K H p xs) : Ev (tCB (rLenS K) (tCons ta tNil)) σ H (.int (xs.length : Int)) := by
  obtain ⟨vs, h1, h2⟩ := h
  rw [← h2.length]
  exact ev_len ha h1
theorem ev_lenU {xs : List Int} (ha : EvI K ta σ H xs) : Ev (tCB (rLenS K) (tCons ta tNil)) σ H (.int (xs.length : Int)) := fun H1 e Q q =>
  ha H1 e _ fun v H2 e2 ⟨p, ev, hp⟩ => ⟨p, xs.map V.int, by rw [ev], Or.inr hp, by rw [List.length_map]; exact q H2 e2⟩
theorem ev_lenSet {p : Addr} {ns : List Int} (ha : Ev ta σ H (.ref p)) (h : LI K H p ns) (hl : ns.length ≤ 4000) : Ev (tLenSetD K ta) σ H (.int (ucount ns : Nat)) := fun H1 e Q q =>
  ha H1 e _ fun H2 e2 => ⟨p, ns, rfl, Evl.ex_l (e.trans e2) h, hl, q H2 e2⟩
/-- xs[i], ints -/
theorem ev_ixI {p : Addr} {ns : List Int} {i n : Int} (ha : Ev ta σ H (.ref p)) (hb : Ev tb σ H (.int i)) (h : LI K H p ns) (hi : atI ns i = some n) : Ev (tOp (rIxL K) ta tb) σ H (.int n) :=
  Evl.ev_op ha hb (Evl.rv_ixL h (atI_int hi))
/-- xs[i], tuples -/
theorem ei_ix {p : Addr} {xs : List (List Int)} {i : Int} {w : List Int} (ha : Ev ta σ H (.ref p)) (hb : Ev tb σ H (.int i)) (h : LT K H p xs) (hi : atI xs i = some w) : EvI K (tOp (rIxL K) ta tb) σ H w := by
  obtain ⟨vs, h1, h2⟩ := h
  obtain ⟨v, e1, e2⟩ := h2.atI hi
  exact evi_of (Evl.ev_op ha hb (Evl.rv_ixL h1 e1)) e2
/-- t[i], a tuple of ints -/
theorem ev_ixU {xs : List Int} {i n : Int} (ha : EvI K ta σ H xs) (hb : Ev tb σ H (.int i)) (hi : atI xs i = some n) : Ev (tOp (rIxT K) ta tb) σ H (.int n) := fun H1 e Q q =>
  ha H1 e _ fun v H2 e2 ⟨p, ev, hp⟩ => hb H2 (e.trans e2) _ fun H3 e3 => ⟨p, xs.map V.int, i, .int n, ev, rfl, Evl.ex_t e3 hp, atI_int hi, q H3 (e2.trans e3)⟩
/-- arguments that are ints -/
def EvAI (tl : TA) (σ : L2.St) (H : Hp) (xs : List Int) : Prop := EvA tl σ H (xs.map V.int)
theorem eai_nil : EvAI tNil σ H [] := Evl.ea_nil
theorem eai_cons {n : Int} {ns : List Int} (h : Ev te σ H (.int n)) (hr : EvAI tl σ H ns) : EvAI (tCons te tl) σ H (n :: ns) := Evl.ea_cons h hr
theorem ei_tup {xs : List Int} (h : EvAI tl σ H xs) (hl : xs.length ≤ 100000) : EvI K (tTup tl) σ H xs := fun H1 e Q q =>
  Evl.eu_tup h (by rw [List.length_map]; exact hl) H1 e Q fun p H2 hp e2 h2 => q _ H2 e2 ⟨p, rfl, .inl (.inl h2)⟩
theorem ev_fld {a C dx : Addr} {fs : List (Str × V)} {f : Str} (ha : Ev ta σ H (.ref a)) (h : H a = some (.ins C dx fs)) (hc : Cls K C) (hn : NoAttr K C f) (hl : fs.lookup f = some v) : Ev (tFld K ta f) σ H v := fun H1 e Q q =>
  ha H1 e _ fun H2 e2 => ⟨a, C, dx, fs, v, rfl, (e.trans e2) a _ h, hc, hn, hl, q H2 e2⟩
theorem ev_all {p : Addr} {bs : List Bool} (h : EvP ta σ H (fun v H2 => ∃ p, v = .ref p ∧ SqL K H2 p (bs.map V.bl))) : Ev (tCB (rAll K) (tCons ta tNil)) σ H (.bl (bs.all id)) := fun H1 e Q q =>
  h H1 e _ fun v H2 e2 ⟨p, ev, hp⟩ => ⟨p, bs, by rw [ev], hp, q H2 e2⟩
theorem ev_any {p : Addr} {bs : List Bool} (h : EvP ta σ H (fun v H2 => ∃ p, v = .ref p ∧ SqL K H2 p (bs.map V.bl))) : Ev (tCB (rAny K) (tCons ta tNil)) σ H (.bl (bs.any id)) := fun H1 e Q q =>
  h H1 e _ fun v H2 e2 ⟨p, ev, hp⟩ => ⟨p, bs, by rw [ev], hp, q H2 e2⟩
theorem ep_list {p : Addr} {xs : List V} (ha : Ev ta σ H (.ref p)) (h : SqL K H p xs) : EvP (tCB (rListS K) (tCons ta tNil)) σ H (fun v H2 => ∃ l, v = .ref l ∧ H l = none ∧ H2 l = some (.lst xs)) := fun H1 e Q q =>
  ha H1 e _ fun H2 e2 => ⟨p, xs, rfl, Or.inl (Evl.ex_l (e.trans e2) h), fun l hl => q _ _ (e2.trans (Ex.new hl)) ⟨l, rfl, Evl.fresh_back (e.trans e2) hl, upd_same⟩⟩
/-- isinstance(x, T) -/
theorem ev_isi {c : V} {b : Bool} {t' u' : Value} (ha : Ev ta σ H x) (hb : Ev tb σ H c) (k : ClsV c u') (ht : ∀ H2, Ex H H2 → TyX K H2 x t') (hk : PySem.W.kitOne K t' u' = some b) : Ev (tCB (rIsi K) (tCons ta (tCons tb tNil))) σ H (.bl b) := fun H1 e Q q =>
  ha H1 e _ fun H2 e2 => hb H2 (e.trans e2) _ fun H3 e3 => ⟨x, c, t', u', b, rfl, k, ht H3 ((e.trans e2).trans e3), hk, q H3 (e2.trans e3)⟩
theorem ev_isiTy {a b : String} {bb : Bool} (ha : Ev ta σ H x) (ht : ∀ H2, Ex H H2 → TyX K H2 x (.type a)) (hk : L2.kitB a b = some bb) : Ev (tCB (rIsi K) (tCons ta (tCons (tC (.ty b)) tNil))) σ H (.bl bb) :=
  ev_isi ha Evl.ev_c (.ty b) ht (kit_ty hk)
theorem ty_tup {xs : List Int} (h : TupI K H v xs) : ∀ H2, Ex H H2 → TyX K H2 v (.type "tuple") := fun H2 e => by
  obtain ⟨t, rfl, q⟩ := h.mono e
  rcases q with (h | ⟨o, h⟩) | ⟨o, its, n, hk, hc, _⟩
  · exact .base (.tup h)
  · exact .fTuple h
  · exact .kTuple hk hc
theorem ty_lst {a : Addr} {xs : List V} (h : SqL K H a xs) : ∀ H2, Ex H H2 → TyX K H2 (.ref a) (.type "list") := fun H2 e => by
  rcases Evl.ex_l e h with (h | ⟨o, h⟩) | ⟨o, its, n, hk, hc, _⟩
  · exact .base (.lst h)
  · exact .base (.frz h)
  · exact .kList hk hc
/-- a dict asked -/
theorem ev_dget {a : Addr} {kvs : List (Key × V)} {i : Int} (ha : Ev ta σ H (.ref a)) (hb : Ev tb σ H (.int i)) (h : Rd H a (.dK kvs)) (hv : valV kvs (Sum.inl i) = some v) : Ev (tDGet ta tb) σ H v := fun H1 e Q q =>
  ha H1 e _ fun H2 e2 => hb H2 (e.trans e2) _ fun H3 e3 => ⟨a, v, rfl, .inl ⟨kvs, Sum.inl i, Evl.ex_rd ((e.trans e2).trans e3) h, rfl, hv.symm⟩, q H3 (e2.trans e3)⟩
theorem ev_din {a : Addr} {kvs : List (Key × V)} {i : Int} (ha : Ev ta σ H (.int i)) (hb : Ev tb σ H (.ref a)) (h : Rd H a (.dK kvs)) : Ev (tDIn ta tb) σ H (.bl (valV kvs (Sum.inl i)).isSome) := fun H1 e Q q =>
  ha H1 e _ fun H2 e2 => hb H2 (e.trans e2) _ fun H3 e3 => ⟨a, _, rfl, .inl ⟨kvs, Sum.inl i, Evl.ex_rd ((e.trans e2).trans e3) h, rfl, rfl⟩, q H3 (e2.trans e3)⟩
theorem ev_dnotin {a : Addr} {kvs : List (Key × V)} {i : Int} (ha : Ev ta σ H (.int i)) (hb : Ev tb σ H (.ref a)) (h : Rd H a (.dK kvs)) : Ev (tDNotIn ta tb) σ H (.bl (!(valV kvs (Sum.inl i)).isSome)) := fun H1 e Q q =>
  ha H1 e _ fun H2 e2 => hb H2 (e.trans e2) _ fun H3 e3 => ⟨a, _, rfl, .inl ⟨kvs, Sum.inl i, Evl.ex_rd ((e.trans e2).trans e3) h, rfl, rfl⟩, q H3 (e2.trans e3)⟩
/-- calls -/
theorem ev_call {sp : Sp} {vs : List V} (h : EvA tl σ H vs) (hs : ∀ H1 Q, Ex H H1 → RetV z H1 Q → sp vs H1 Q E0) : Ev (tCall sp [] E0 tl) σ H z := fun H1 e Q q =>
  h H1 e _ fun H2 e2 => by
    show sp (vs ++ []) H2 Q E0
    rw [List.append_nil]
    exact hs H2 Q (e.trans e2) fun H3 e3 => q H3 (e2.trans e3)
theorem ep_call {sp : Sp} {vs : List V} {P : V → Hp → Prop} (h : EvA tl σ H vs) (hs : ∀ H1 Q, Ex H H1 → RetP P H1 Q → sp vs H1 Q E0) : EvP (tCall sp [] E0 tl) σ H P := fun H1 e Q q =>
  h H1 e _ fun H2 e2 => by
    show sp (vs ++ []) H2 Q E0
    rw [List.append_nil]
    exact hs H2 Q (e.trans e2) fun v H3 e3 p => q v H3 (e2.trans e3) p
theorem ev_meth {C a dx : Addr} {fs : List (Str × V)} {m : Str} {sp : Sp} {vs : List V} (ha : Ev ta σ H (.ref a)) (ho : H a = some (.ins C dx fs)) (hl : fs.lookup m = none) (h : EvA tl σ H vs) (hs : ∀ H1 Q, Ex H H1 → RetV z H1 Q → sp (.ref a :: vs) H1 Q E0) :
    Ev (tMeth C m sp [] E0 ta tl) σ H z := fun H1 e Q q => ha H1 e _ fun H2 e2 => ⟨a, dx, fs, rfl, (e.trans e2) a _ ho, hl, h H2 (e.trans e2) _ fun H3 e3 => by
    show sp (.ref a :: (vs ++ [])) H3 Q E0
    rw [List.append_nil]
    exact hs H3 Q ((e.trans e2).trans e3) fun H4 e4 => q H4 ((e2.trans e3).trans e4)⟩
theorem ep_meth {C a dx : Addr} {fs : List (Str × V)} {m : Str} {sp : Sp} {vs : List V} {P : V → Hp → Prop} (ha : Ev ta σ H (.ref a)) (ho : H a = some (.ins C dx fs)) (hl : fs.lookup m = none) (h : EvA tl σ H vs) (hs : ∀ H1 Q, Ex H H1 → RetP P H1 Q → sp (.ref a :: vs) H1 Q E0) :
    EvP (tMeth C m sp [] E0 ta tl) σ H P := fun H1 e Q q => ha H1 e _ fun H2 e2 => ⟨a, dx, fs, rfl, (e.trans e2) a _ ho, hl, h H2 (e.trans e2) _ fun H3 e3 => by
    show sp (.ref a :: (vs ++ [])) H3 Q E0
    rw [List.append_nil]
    exact hs H3 Q ((e.trans e2).trans e3) fun v H4 e4 p => q v H4 ((e2.trans e3).trans e4) p⟩
/-- an argument list one of whose values is known by P alone -/
def EvAP (tl : TA) (σ : L2.St) (H : Hp) (P : List V → Hp → Prop) : Prop := ∀ H1, Ex H H1 → ∀ Q : List V → Hp → Prop, (∀ vs H2, Ex H1 H2 → P vs H2 → Q vs H2) → tl σ H1 Q

/-! ### statements -/
variable {D : Ends} {tu tw tz : TS} {g : TG}
theorem s_asgP {i : Nat} {P : V → Hp → Prop} (h : EvP te σ H P) (k : ∀ v H1, Ex H H1 → P v H1 → D.nx (σ.set i (some v)) H1) : tAsg te (gName i) D σ H := h H (Ex.refl H) _ fun v H1 e p => k v H1 e p
theorem q_asgP {i : Nat} {P : V → Hp → Prop} (h : EvP te σ H P) (k : ∀ v H1, Ex H H1 → P v H1 → tz D (σ.set i (some v)) H1) : tSeq (tAsg te (gName i)) tz D σ H := s_asgP (D := { D with nx := tz D }) h k
theorem s_retP {P : V → Hp → Prop} (h : EvP te σ H P) (k : ∀ v H1, Ex H H1 → P v H1 → D.rt v H1) : tRet te D σ H := h H (Ex.refl H) _ k
/-- a, b = e; a, b, c = e: a tuple of ints -/
theorem q_un2 {i j : Nat} {a b : Int} (h : EvI K te σ H [a, b]) (k : ∀ H1, Ex H H1 → tz D ((σ.set i (some (.int a))).set j (some (.int b))) H1) : tSeq (tAsg te (gTup K 2 (gCons (gName i) (gCons (gName j) gNil)))) tz D σ H :=
  h H (Ex.refl H) _ fun v H1 e ⟨p, ev, hp⟩ => ⟨p, [.int a, .int b], ev, hp, rfl, .int a, [.int b], rfl, .int b, [], rfl, rfl, k H1 e⟩
theorem q_un3 {i j l : Nat} {a b c : Int} (h : EvI K te σ H [a, b, c]) (k : ∀ H1, Ex H H1 → tz D (((σ.set i (some (.int a))).set j (some (.int b))).set l (some (.int c))) H1) :
    tSeq (tAsg te (gTup K 3 (gCons (gName i) (gCons (gName j) (gCons (gName l) gNil))))) tz D σ H :=
  h H (Ex.refl H) _ fun v H1 e ⟨p, ev, hp⟩ => ⟨p, [.int a, .int b, .int c], ev, hp, rfl, .int a, [.int b, .int c], rfl, .int b, [.int c], rfl, .int c, [], rfl, rfl, k H1 e⟩
/-- a, b = e, any tuple -/
theorem q_unV2 {i j : Nat} {P : V → V → Hp → Prop} (h : EvP te σ H (fun v H2 => ∃ p a b, v = .ref p ∧ SqT K H2 p [a, b] ∧ P a b H2)) (k : ∀ a b H1, Ex H H1 → P a b H1 → tz D ((σ.set i (some a)).set j (some b)) H1) :
    tSeq (tAsg te (gTup K 2 (gCons (gName i) (gCons (gName j) gNil)))) tz D σ H :=
  h H (Ex.refl H) _ fun v H1 e ⟨p, a, b, ev, hp, pp⟩ => ⟨p, [a, b], ev, hp, rfl, a, [b], rfl, b, [], rfl, rfl, k a b H1 e pp⟩
/-- an if whose both ways go on alike: one wish for what is behind it -/
theorem q_if2 {b : Bool} (h : EvT t σ H b) (h1 : b = true → ∀ H1, Ex H H1 → tu { D with nx := tz D } σ H1) (h2 : b = false → ∀ H1, Ex H H1 → tw { D with nx := tz D } σ H1) : tSeq (tIfS t tu tw) tz D σ H := Evl.q_if h h1 h2
/-- if t: raise, never taken -/
theorem q_never {b : Bool} (h : EvT t σ H b) (hb : b = false) (k : ∀ H1, Ex H H1 → tz D σ H1) : tSeq (tIfS t tNever tNext) tz D σ H :=
  Evl.q_when h (fun c => by rw [hb] at c; cases c) fun _ => k
theorem s_never {b : Bool} (h : EvT t σ H b) (hb : b = false) (k : ∀ H1, Ex H H1 → D.nx σ H1) : tIfS t tNever tNext D σ H :=
  Evl.s_when h (fun c => by rw [hb] at c; cases c) fun _ => k
/-- o.f = e -/
theorem q_fld {a C dx : Addr} {fs : List (Str × V)} {f : Str} (hv : Ev tb σ H v) (ha : Ev ta σ H (.ref a)) (ho : H a = some (.ins C dx fs)) (hc : Cls K C) (hn : NoAttr K C f) (hl : fs.length < 1000) (k : ∀ H1, Ex H H1 → tz D σ (upd H1 a (.ins C dx (putF f v fs)))) :
    tSeq (sFld K ta tb f) tz D σ H := hv H (Ex.refl H) _ fun H1 e1 => ha H1 e1 _ fun H2 e2 => ⟨a, C, dx, fs, rfl, (e1.trans e2) a _ ho, hc, hn, hl, k H2 (e1.trans e2)⟩
theorem s_fldP {a C dx : Addr} {fs : List (Str × V)} {f : Str} {P : V → Hp → Prop} (hv : EvP tb σ H P) (ha : Ev ta σ H (.ref a)) (ho : H a = some (.ins C dx fs)) (hc : Cls K C) (hn : NoAttr K C f) (hl : fs.length < 1000) (k : ∀ v H1 H2, Ex H H1 → P v H1 → Ex H1 H2 → D.nx σ (upd H2 a (.ins C dx (putF f v fs)))) :
    sFld K ta tb f D σ H := hv H (Ex.refl H) _ fun v H1 e1 p => ha H1 e1 _ fun H2 e2 => ⟨a, C, dx, fs, rfl, (e1.trans e2) a _ ho, hc, hn, hl, k v H1 H2 e1 p e2⟩
/-- d[k] = v -/
theorem q_dput {a : Addr} {kvs : List (Key × V)} {i : Int} (hv : Ev tc σ H v) (ha : Ev ta σ H (.ref a)) (hb : Ev tb σ H (.int i)) (ho : H a = some (.dK kvs)) (hl : kvs.length < 100000) (k : ∀ H1, Ex H H1 → tz D σ (upd H1 a (.dK (putK kvs (Sum.inl i) v)))) :
    tSeq (sDPut ta tb tc) tz D σ H := hv H (Ex.refl H) _ fun H1 e1 => ha H1 e1 _ fun H2 e2 => hb H2 (e1.trans e2) _ fun H3 e3 => ⟨a, _, rfl, DPut.k (k := Sum.inl i) (((e1.trans e2).trans e3) a _ ho) (Evl.sz_lt hl), k H3 ((e1.trans e2).trans e3)⟩
theorem s_dput {a : Addr} {kvs : List (Key × V)} {i : Int} (hv : Ev tc σ H v) (ha : Ev ta σ H (.ref a)) (hb : Ev tb σ H (.int i)) (ho : H a = some (.dK kvs)) (hl : kvs.length < 100000) (k : ∀ H1, Ex H H1 → D.nx σ (upd H1 a (.dK (putK kvs (Sum.inl i) v)))) :
    sDPut ta tb tc D σ H := hv H (Ex.refl H) _ fun H1 e1 => ha H1 e1 _ fun H2 e2 => hb H2 (e1.trans e2) _ fun H3 e3 => ⟨a, _, rfl, DPut.k (k := Sum.inl i) (((e1.trans e2).trans e3) a _ ho) (Evl.sz_lt hl), k H3 ((e1.trans e2).trans e3)⟩
/-- xs.append(v), v known by P -/
theorem q_appP {l : Addr} {xs : List V} {P : V → Hp → Prop} (hl : H l = some (.lst xs)) (ha : Ev ta σ H (.ref l)) (h : EvP te σ H P) (hz : xs.length < 100000) (k : ∀ v H1, Ex H H1 → P v H1 → tz D σ (upd H1 l (.lst (xs ++ [v])))) :
    tSeq (tDrop (tBM K "list" rAppend ta (tCons te tNil))) tz D σ H := ha H (Ex.refl H) _ fun H1 e1 =>
  ⟨Or.inl ⟨rfl, xs, Evl.sq_of (e1 l _ hl)⟩, h H1 e1 _ fun v H2 e2 p => ⟨l, xs, v, rfl, rfl, e2 l _ (e1 l _ hl), Evl.sz_lt hz, k v H2 (e1.trans e2) p⟩⟩
theorem s_appP {l : Addr} {xs : List V} {P : V → Hp → Prop} (hl : H l = some (.lst xs)) (ha : Ev ta σ H (.ref l)) (h : EvP te σ H P) (hz : xs.length < 100000) (k : ∀ v H1, Ex H H1 → P v H1 → D.nx σ (upd H1 l (.lst (xs ++ [v])))) :
    tDrop (tBM K "list" rAppend ta (tCons te tNil)) D σ H := ha H (Ex.refl H) _ fun H1 e1 =>
  ⟨Or.inl ⟨rfl, xs, Evl.sq_of (e1 l _ hl)⟩, h H1 e1 _ fun v H2 e2 p => ⟨l, xs, v, rfl, rfl, e2 l _ (e1 l _ hl), Evl.sz_lt hz, k v H2 (e1.trans e2) p⟩⟩

/-! ### loops -/
/-- for over a walk: Pv by the turn -/
theorem f_it {J : It} {n : Nat} {G : Hp → Prop} {Y : Nat → Hp → V → Hp → Prop} {wi : TI} (hw : ∀ R : It → Hp → Prop, (∀ H1, Ex H H1 → R J H1) → wi σ H R) (w : Walk J n G Y) (Pv : Nat → L2.St → Hp → Prop) (h0 : ∀ H1, Ex H H1 → Pv 0 σ H1) (hG : ∀ i σ' H', i ≤ n → Pv i σ' H' → G H')
    (hs : ∀ i x σ' H' H2, i < n → Pv i σ' H' → Y i H' x H2 → g x σ' H2 fun σ3 H3 => tu { D with nx := Pv (i + 1), ct := Pv (i + 1), bk := D.nx } σ3 H3) (hd : ∀ σ' H', Pv n σ' H' → D.nx σ' H') : tFor wi g tu D σ H :=
  hw _ fun H1 e => for_it w Pv (h0 H1 e) hG hs hd
/-- over a list -/
theorem f_list {a : Addr} {xs : List V} (h : Ev te σ H (.ref a)) (hx : SqL K H a xs) (Pv : Nat → L2.St → Hp → Prop) (h0 : ∀ H1, Ex H H1 → Pv 0 σ H1) (hl : ∀ i σ' H', i ≤ xs.length → Pv i σ' H' → SqL K H' a xs)
    (hs : ∀ i x σ' H', xs[i]? = some x → Pv i σ' H' → g x σ' H' fun σ2 H2 => tu { D with nx := Pv (i + 1), ct := Pv (i + 1), bk := D.nx } σ2 H2) (hd : ∀ σ' H', Pv xs.length σ' H' → D.nx σ' H') : tFor (iList K te) g tu D σ H :=
  Evl.s_forL h hx Pv h0 hl hs hd
/-- over enumerate(list), two names: the pair is new -/
theorem f_enum {a : Addr} {xs : List V} {j l : Nat} (h : Ev te σ H (.ref a)) (hx : SqL K H a xs) (Pv : Nat → L2.St → Hp → Prop) (h0 : ∀ H1, Ex H H1 → Pv 0 σ H1) (hl : ∀ i σ' H', i ≤ xs.length → Pv i σ' H' → SqL K H' a xs)
    (hs : ∀ (i : Nat) x σ' H' H2, xs[i]? = some x → Pv i σ' H' → Ex H' H2 → tu { D with nx := Pv (i + 1), ct := Pv (i + 1), bk := D.nx } ((σ'.set j (some (.int (i : Int)))).set l (some x)) H2) (hd : ∀ σ' H', Pv xs.length σ' H' → D.nx σ' H') :
    tFor (iEnum K (tCons te tNil)) (gTup K 2 (gCons (gName j) (gCons (gName l) gNil))) tu D σ H :=
  h H (Ex.refl H) _ fun H1 e => ⟨a, xs, rfl, Evl.ex_l e hx, for_it walk_enum Pv (h0 H1 e) hl (fun i x σ' H' H2 hi p y => by
    obtain ⟨T, u, w, rfl, hT, rfl, eu, ew⟩ := y
    cases eu
    exact ⟨T, [.int (i : Nat), w], rfl, .inl (.inl upd_same), rfl, _, _, rfl, _, _, rfl, rfl, hs i w σ' H' _ ew p (Ex.new hT)⟩) hd⟩
/-- over range(n) -/
theorem f_range {j : Nat} {n : Int} (h : EvA tl σ H [.int n]) (hn : 0 ≤ n ∧ n ≤ 100000000) (Pv : Nat → L2.St → Hp → Prop) (h0 : ∀ H1, Ex H H1 → Pv 0 σ H1)
    (hs : ∀ (i : Nat) σ' H', (i : Int) < n → Pv i σ' H' → tu { D with nx := Pv (i + 1), ct := Pv (i + 1), bk := D.nx } (σ'.set j (some (.int (i : Int)))) H') (hd : ∀ σ' H', Pv n.toNat σ' H' → D.nx σ' H') : tFor (iRng1 tl) (gName j) tu D σ H :=
  h H (Ex.refl H) _ fun H1 e => ⟨n, rfl, by omega, by omega, for_range (lo := 0) (n := n.toNat) Pv (h0 H1 e) (fun i σ' H' hi p => by
    have e0 : (0 : Int) + (i : Int) = (i : Int) := Int.zero_add _
    have q := hs i σ' H' (by omega) p
    rw [← e0] at q
    exact q) hd⟩
/-- over a dict's keys; the dict is frozen -/
theorem f_keys {d : Addr} {kvs : List (Key × V)} {j : Nat} (h : EvP te σ H (fun v H2 => v = .ref d ∧ H2 d = some (.dK kvs))) (Pv : Obj → Nat → L2.St → Hp → Prop) (h0 : ∀ H1 od, Ex H H1 → H1 d = some (.dK kvs) → Pv od 0 σ (upd H1 d (.frz od (.dK kvs))))
    (hl : ∀ od i σ' H', i ≤ kvs.length → Pv od i σ' H' → H' d = some (.frz od (.dK kvs)))
    (hs : ∀ od (i : Nat) k w σ' H', kvs[i]? = some (k, w) → Pv od i σ' H' → tu { D with nx := Pv od (i + 1), ct := Pv od (i + 1), bk := D.nx } (σ'.set j (some (kV k))) H') (hd : ∀ od σ' H', Pv od kvs.length σ' H' → D.nx σ' H') :
    tFor (iKeys (tFrz te)) (gName j) tu D σ H :=
  h H (Ex.refl H) _ fun v H1 e ⟨ev, h1⟩ => ⟨d, kvs, ev, h1, fun od => ⟨d, od, rfl, .inl ⟨kvs, upd_same, for_it walk_keys (Pv od) (h0 H1 od e h1) (hl od) (fun i x σ' H' H2 hi p y => by
    obtain ⟨rfl, k, w, hk, rfl⟩ := y
    exact hs od i k w σ' H2 hk p) (hd od)⟩⟩⟩
/-- while, by a number that falls: the test, then the body -/
theorem f_while (W : Nat → L2.St → Hp → Prop) (m0 : Nat) (h0 : W m0 σ H)
    (hs : ∀ m σ' H', W m σ' H' → ∃ b, EvT t σ' H' b ∧ (b = true → ∀ H1, Ex H' H1 → ∃ N : L2.St → Hp → Prop, (∀ σ2 H2, N σ2 H2 → ∃ m', m' < m ∧ W m' σ2 H2) ∧ tu { D with nx := N, ct := N, bk := D.nx } σ' H1) ∧ (b = false → ∀ H1, Ex H' H1 → D.nx σ' H1)) : tWhile t tu D σ H :=
  Evl.s_while W m0 h0 hs
theorem q_seq (h : tu { D with nx := tz D } σ H) : tSeq tu tz D σ H := h

/-! ### comprehensions -/
/-- over any walk: B of the new list's place, the turn, what is made so far, the heap; B doesn't mind what the new list holds -/
theorem lc_gen {J : It} {n : Nat} {G : Hp → Prop} {Y : Nat → Hp → V → Hp → Prop} {wi : TI} {vs : List Nat} (hw : ∀ H1, Ex H H1 → ∀ R : It → Hp → Prop, (∀ H2, Ex H1 H2 → R J H2) → wi σ H1 R) (w : Walk J n G Y) (hn : n ≤ 90000)
    (B : Addr → Nat → List V → Hp → Prop) (bu : ∀ Dl i acc ys zs H1, B Dl i acc H1 → H1 Dl = some (.lst ys) → B Dl i acc (upd H1 Dl (.lst zs))) (b0 : ∀ Dl H1, Ex H H1 → H Dl = none → B Dl 0 [] H1) (hG : ∀ H1, Ex H H1 → G H1)
    (hs : ∀ Dl i x H1 H2 acc (Q : V → Hp → Prop), i < n → Ex H H1 → H Dl = none → H1 Dl = some (.lst acc) → B Dl i acc H1 → Y i H1 x H2 → (∀ v H3, Ex H1 H3 → B Dl (i + 1) (acc ++ [v]) H3 → Q v H3) → g x (wipe σ vs) H2 fun σ2 H4 => wipe σ2 vs = wipe σ vs ∧ te σ2 H4 Q) :
    EvP (tLc wi g tYes te vs) σ H (fun v H2 => ∃ p acc, v = .ref p ∧ H p = none ∧ H2 p = some (.lst acc) ∧ acc.length = n ∧ B p n acc H2) := fun H0 e0 Q q => hw H0 e0 _ fun H1 e1 => fun Dl hD => by
  have fr : H Dl = none := Evl.fresh_back (e0.trans e1) hD
  refine lc_it w (fun i H' => ∃ acc, Ex H1 H' ∧ B Dl i acc H' ∧ H' Dl = some (.lst acc) ∧ acc.length = i) ⟨[], Ex.new hD, b0 Dl _ ((e0.trans e1).trans (Ex.new hD)) fr, upd_same, rfl⟩ (fun i H' _ p => ?_) (fun i x H' H2 hi p y => ?_) fun H' p => ?_
  · obtain ⟨acc, a1, _⟩ := p
    exact hG H' ((e0.trans e1).trans a1)
  · obtain ⟨acc, a1, a4, a5, a6⟩ := p
    refine hs Dl i x H' H2 acc _ hi ((e0.trans e1).trans a1) fr a5 a4 y fun v H3 e3 b3 => ?_
    refine ⟨acc, e3 Dl _ a5, Evl.sz_lt (by omega), acc ++ [v], Evl.Ex.mut (a1.trans e3) hD, bu _ _ _ _ _ _ b3 (e3 Dl _ a5), upd_same, by rw [List.length_append, a6]; rfl⟩
  · obtain ⟨acc, a1, a4, a5, a6⟩ := p
    exact q _ H' (e1.trans a1) ⟨Dl, acc, rfl, fr, a5, a6, a4⟩
/-- the turn's part, one name -/
theorem turn1 {j : Nat} {vs : List Nat} {P : V → Hp → Prop} (hw : wipe ((wipe σ vs).set j (some x)) vs = wipe σ vs) (h : EvP te ((wipe σ vs).set j (some x)) H P) {Q : V → Hp → Prop} (q : ∀ v H3, Ex H H3 → P v H3 → Q v H3) :
    gName j x (wipe σ vs) H fun σ2 H4 => wipe σ2 vs = wipe σ vs ∧ te σ2 H4 Q := ⟨hw, h H (Ex.refl H) Q q⟩
/-- three names out of a tuple of ints -/
theorem turn3 {i j l : Nat} {vs : List Nat} {a b c : Int} {P : V → Hp → Prop} (hx : TupI K H x [a, b, c]) (hw : wipe ((((wipe σ vs).set i (some (.int a))).set j (some (.int b))).set l (some (.int c))) vs = wipe σ vs)
    (h : EvP te ((((wipe σ vs).set i (some (.int a))).set j (some (.int b))).set l (some (.int c))) H P) {Q : V → Hp → Prop} (q : ∀ v H3, Ex H H3 → P v H3 → Q v H3) :
    gTup K 3 (gCons (gName i) (gCons (gName j) (gCons (gName l) gNil))) x (wipe σ vs) H fun σ2 H4 => wipe σ2 vs = wipe σ vs ∧ te σ2 H4 Q := by
  obtain ⟨p, rfl, hp⟩ := hx
  exact ⟨p, _, rfl, hp, rfl, _, _, rfl, _, _, rfl, _, _, rfl, rfl, hw, h H (Ex.refl H) Q q⟩
theorem turn2 {i j : Nat} {vs : List Nat} {a b : Int} {P : V → Hp → Prop} (hx : TupI K H x [a, b]) (hw : wipe (((wipe σ vs).set i (some (.int a))).set j (some (.int b))) vs = wipe σ vs)
    (h : EvP te (((wipe σ vs).set i (some (.int a))).set j (some (.int b))) H P) {Q : V → Hp → Prop} (q : ∀ v H3, Ex H H3 → P v H3 → Q v H3) :
    gTup K 2 (gCons (gName i) (gCons (gName j) gNil)) x (wipe σ vs) H fun σ2 H4 => wipe σ2 vs = wipe σ vs ∧ te σ2 H4 Q := by
  obtain ⟨p, rfl, hp⟩ := hx
  exact ⟨p, _, rfl, hp, rfl, _, _, rfl, _, _, rfl, rfl, hw, h H (Ex.refl H) Q q⟩
theorem TupI.updL {l : Addr} {ys zs : List V} {xs : List Int} (h : TupI K H v xs) (hl : H l = some (.lst ys)) : TupI K (upd H l (.lst zs)) v xs := by
  obtain ⟨t, rfl, h⟩ := h
  refine ⟨t, rfl, ?_⟩
  rcases h with (h | ⟨o, h⟩) | h
  · exact .inl (.inl (by rw [upd_ne (ne_of h hl (by intro z; cases z))]; exact h))
  · exact .inl (.inr ⟨o, by rw [upd_ne (ne_of h hl (by intro z; cases z))]; exact h⟩)
  · exact .inr h
theorem TupL.updL {l : Addr} {ys zs : List V} (hl : H l = some (.lst ys)) : ∀ {vs : List V} {xs : List (List Int)}, TupL K H vs xs → TupL K (upd H l (.lst zs)) vs xs
  | _, _, .nil => .nil
  | _, _, .cons h t => .cons (h.updL hl) (TupL.updL hl t)
/-- each element a flat value that the turn tells: over a list of values by one name -/
theorem lc_vals {a : Addr} {xs ys : List V} {j : Nat} (h : Ev ta σ H (.ref a)) (hx : SqL K H a xs) (hz : xs.length ≤ 90000) (hy : ys.length = xs.length) (hw : ∀ x, wipe ((wipe σ [j]).set j (some x)) [j] = wipe σ [j])
    (he : ∀ (i : Nat) (x : V) H1, Ex H H1 → xs[i]? = some x → ∃ y, ys[i]? = some y ∧ Ev te ((wipe σ [j]).set j (some x)) H1 y) :
    EvP (tLc (iList K ta) (gName j) tYes te [j]) σ H (fun v H2 => ∃ p, v = .ref p ∧ H p = none ∧ H2 p = some (.lst ys)) := by
  refine (lc_gen (G := fun H => SqL K H a xs) (n := xs.length) (fun H1 e R q => h H1 e _ fun H2 e2 => ⟨a, rfl, ⟨xs, Evl.ex_l (e.trans e2) hx⟩, q H2 e2⟩) walk_list hz (fun _ i acc _ => acc = ys.take i) (fun _ _ _ _ _ _ b _ => b) (fun _ _ _ _ => by simp) (fun H1 e => Evl.ex_l e hx) fun Dl i x H1 H2 acc Q hi e fr hD b y q => ?_).imp fun v H2 e hp => ?_
  · obtain ⟨rfl, hxi⟩ := y
    obtain ⟨w, hw2, ev⟩ := he i x H2 e hxi
    exact turn1 (hw x) (Ev.toP (P := fun v _ => v = w) ev fun _ _ => rfl) fun v H3 e3 hv => q v H3 e3 (by rw [hv, b, List.take_add_one, hw2]; rfl)
  · obtain ⟨p, acc, rfl, fr, h2, hl, b⟩ := hp
    rw [b, List.take_of_length_le (by omega)] at h2
    exact ⟨p, rfl, fr, h2⟩
/-- each element a flat value: over a list of 3-tuples of ints by three names -/
theorem lc_vals3 {a : Addr} {xss : List (List Int)} {ys : List V} {i1 i2 i3 : Nat} {vs : List Nat} (h : Ev ta σ H (.ref a)) (hx : LT K H a xss) (hz : xss.length ≤ 90000) (hy : ys.length = xss.length)
    (hw : ∀ x y z, wipe ((((wipe σ vs).set i1 (some x)).set i2 (some y)).set i3 (some z)) vs = wipe σ vs)
    (he : ∀ (i : Nat) (x : List Int) H1, Ex H H1 → xss[i]? = some x → ∃ a b c y, x = [a, b, c] ∧ ys[i]? = some y ∧ Ev te ((((wipe σ vs).set i1 (some (.int a))).set i2 (some (.int b))).set i3 (some (.int c))) H1 y) :
    EvP (tLc (iList K ta) (gTup K 3 (gCons (gName i1) (gCons (gName i2) (gCons (gName i3) gNil)))) tYes te vs) σ H (fun v H2 => ∃ p, v = .ref p ∧ H p = none ∧ H2 p = some (.lst ys)) := by
  obtain ⟨us, hx, hT⟩ := hx
  have hul := hT.length
  refine (lc_gen (G := fun H => SqL K H a us) (n := us.length) (fun H1 e R q => h H1 e _ fun H2 e2 => ⟨a, rfl, ⟨us, Evl.ex_l (e.trans e2) hx⟩, q H2 e2⟩) walk_list (by omega) (fun _ i acc _ => acc = ys.take i) (fun _ _ _ _ _ _ b _ => b) (fun _ _ _ _ => by simp) (fun H1 e => Evl.ex_l e hx) fun Dl i x H1 H2 acc Q hi e fr hD b y q => ?_).imp fun v H2 e hp => ?_
  · obtain ⟨rfl, hxi⟩ := y
    obtain ⟨u, hu, tu⟩ := (hT.mono e).getV hxi
    obtain ⟨a1, b1, c1, w, rfl, hw2, ev⟩ := he i u H2 e hu
    exact turn3 tu (hw _ _ _) (Ev.toP (P := fun v _ => v = w) ev fun _ _ => rfl) fun v H3 e3 hv => q v H3 e3 (by rw [hv, b, List.take_add_one, hw2]; rfl)
  · obtain ⟨p, acc, rfl, fr, h2, hl, b⟩ := hp
    rw [b, List.take_of_length_le (by omega)] at h2
    exact ⟨p, rfl, fr, h2⟩
end G

/-! The engine, part 3: sorted of a dict's keys. -/
namespace G
open PySem PySem.Spec PyProof.Rows L2

def rSortedD : List V → Hp → VK → Prop := fun vs H Q => ∃ (a : Addr) (kvs : List (Key × V)) (ks : List Int), vs = [V.ref a] ∧ Rd H a (.dK kvs) ∧ kvs.map (·.1) = ks.map Sum.inl ∧ ks.length ≤ 100000 ∧
  ∀ (ns : List Int) (p : Addr), ns.Perm ks → ns.Pairwise (· ≤ ·) → H p = none → Q (.ref p) (upd H p (.lst (ns.map V.int)))
theorem valsInts : ∀ (ks : List Int) {us : List Value}, Vals (ks.map V.int) us → IntsAre us ks
  | [], _, .nil => .nil
  | k :: ks, _, .cons r t => by
    obtain ⟨tk, rfl⟩ := r
    exact .cons k tk (valsInts ks t)
/-- the list that sorted makes of what it has collected -/
theorem sort_tail {P : Program} {w : World} {A : Around} {E : Value → Shared → Prop} {us : List Value} {ns : List Int} {h : Heap} {s : Shared} {Q : PySem.Fin → Shared → Prop} (hI : IntsAre us ns) (hz : us.length ≤ sizeLine)
    (q : ∀ (out : List Value) (ms : List Int) (c : Nat) (h2 : Heap), IntsAre out ms → ms.Perm ns → ms.Pairwise (· ≤ ·) → h2.get? h.objs.size = some (seqObj "list" out.toArray c) → (∀ b o, h.get? b = some o → h2.get? b = some o) → Q (.done (.ret .none)) { s with heap := h2 }) :
    wpAny (model P w) A (Builtin.«list.sort» ⟨[.ref h.objs.size], []⟩) Q E { s with heap := h.push (seqObj "list" us.toArray 0) } := by
  have hob : (h.push (seqObj "list" us.toArray 0)).get? h.objs.size = some (seqObj "list" us.toArray 0) := Heap.get?_push_size _ rfl
  refine SrtO.list_sort_ord (s := { s with heap := h.push (seqObj "list" us.toArray 0) }) SrtO.swo_int hob hz (fun h2 => SrtO.ints_sortable hI h2) fun out g1 g2 => ?_
  obtain ⟨i1, i2, i3⟩ := SrtO.ints_out hI g1 g2
  obtain ⟨c, hc⟩ := sortedHeap_at (vs := us) (out := out.toArray) hob
  refine q out _ c _ i1 i2 i3 hc fun b o e => ?_
  have hb : b < h.objs.size := Heap.lt_size e
  rw [sortedHeap_old (Nat.ne_of_lt hb) (by rw [Heap.size_push]; exact Nat.lt_succ_of_lt hb)]
  exact Heap.get?_push_of_some _ e
theorem cr_sortedD {X : Cx} (hcalm : X.calm = true) : CallR X (.builtin "sorted") rSortedD := by
  intro pins s σ H xs us Q I r h
  obtain ⟨a, kvs, ks, rfl, hd, hks, hn, q⟩ := h
  rw [Vals.ref1 r]
  obtain ⟨z, lo, vs, rel, dd⟩ := dk_rd I.hok hd
  obtain ⟨ep, hat⟩ := dd.dictAt
  have hlv : vs.length = ks.length := by
    have e1 := rel.keys
    have e2 := congrArg List.length (e1.symm.trans hks)
    simpa using e2
  have h16 : vs.length ≤ sizeLine := by rw [hlv, sizeLine_eq]; omega
  refine Calls.call_function_entry kind_sorted plain_sorted entry_sorted (args_sorted1 _) ?_
  unfold Builtin.«sorted»
  refine wpAny_bind (m := checkCount "sorted" 1 1 _) (wpAny_pure ?_)
  refine wpAny_bind (PySem.W.kdu_collect (A := X.A.in1) (PySem.W.kdl_dict (knd := mixKind X.prog X.w) (kvs := vs) (ep := ep) lo) (I.ok.hd hcalm) hat h16 fun h1 tk acc kept items => ?_)
  have hacc : acc.toList.length = vs.length := by rw [Array.length_toList]; exact items.1
  have hV : Vals (vs.map fun p => kV p.1) acc.toList := keys_at hacc fun j v e => items.2 j v (by rw [← Array.getElem?_toList]; exact e)
  have hmap : (vs.map fun p => kV p.1) = ks.map V.int := by
    have e1 : (vs.map fun p => kV p.1) = (vs.map (·.1)).map kV := by rw [List.map_map]; rfl
    rw [e1, ← rel.keys, hks, List.map_map]
    rfl
  rw [hmap] at hV
  have hI := valsInts ks hV
  have I1 : Inv X pins σ H { s with heap := h1, toks := tk } := I.kept kept
  refine wpAny_bind (wpAny_newList ?_ (by rw [hacc]; exact h16))
  show wpAny _ _ _ _ _ { s with heap := h1.push (seqObj "list" acc.toList.toArray 0), toks := tk }
  have hob : (h1.push (seqObj "list" acc.toList.toArray 0)).get? h1.objs.size = some (seqObj "list" acc.toList.toArray 0) := Heap.get?_push_size _ rfl
  refine wpAny_bind (wpAny_holding (wpAny_call_entry slot_list_sort ⟨_, hob, rfl⟩ entry_list_sort (sort_tail (s := { s with toks := tk }) hI (by rw [hacc]; exact h16) fun out ms c h2 i1 i2 i3 hc hk => ⟨_, rfl, ?_⟩) (args_list_sort _)))
  have hms : (ms.map V.int).length ≤ sizeLine := by rw [List.length_map, i2.length_eq, ← hlv]; exact h16
  exact wpAny_pure ⟨_, rfl, .ref h1.objs.size, upd H h1.objs.size (.lst (ms.map V.int)), I1.laid (t' := tk) hk (Nat.le_refl _) ⟨hms, out, c, vals_of_ints i1, hc⟩, rfl, q ms _ i2 i3 (I1.hok.fresh (Nat.le_refl _))⟩

/-! ### t[1::-1] of a tuple of three -/
theorem applied_swap {P : Program} {w : World} {A : Around} {E : Value → Shared → Prop} {s : Shared} {sl : Addr} {vl vs : Value} {Q : Int × Int × Nat → Shared → Prop} (hs : s.heap.IsSliceOf sl vl .none vs) (pl : IsPart vl (some 1)) (ps : IsPart vs (some (-1)))
    (h : Q ((1 : Int), -1, 2) s) : wpAny (model P w) A (Builtin.Slice.sliceApplied (.ref sl) (pure ((3 : Nat) : Int))) Q E s := by
  obtain ⟨ob, g1, g2, g3⟩ := id hs
  unfold Builtin.Slice.sliceApplied Builtin.Slice.sliceFields
  refine wpAny_bind (wpAny_bind (wpAny_field g1 g3 (x := vl) rfl (wpAny_bind (wpAny_field g1 g3 (x := .none) rfl (wpAny_bind (wpAny_field g1 g3 (x := vs) rfl (wpAny_pure ?_)))))))
  refine wpAny_bind (HT.slicePart_ ps ?_)
  show wpAny _ _ (if ((-1 : Int) == 0) = true then _ else _) _ _ s
  rw [if_neg (by decide)]
  refine wpAny_bind (HT.slicePart_ pl (wpAny_bind (HT.slicePart_ .none (wpAny_bind (wpAny_pure (wpAny_pure ?_))))))
  exact h
theorem getItem_swap {P : Program} {w : World} {A : Around} {E : Value → Shared → Prop} {s : Shared} {t sl : Addr} {a b c vl vs : Value} {Q : Value → Shared → Prop} (ht : IsTup s.heap t #[a, b, c]) (hs : s.heap.IsSliceOf sl vl .none vs) (pl : IsPart vl (some 1)) (ps : IsPart vs (some (-1)))
    (h : Q (.ref s.heap.objs.size) { s with heap := s.heap.push { cls := .type "tuple", data := .seq #[b, a] } }) : wpAny (model P w) A (getItem (.ref t) (.ref sl)) Q E s := by
  obtain ⟨ob, g1, g2, g3⟩ := id hs
  have hsl : s.TypeIs (.ref sl) "slice" := ⟨ob, g1, g2⟩
  have hok : sizeOk (.seq #[b, a]) := by show 2 ≤ sizeLine; decide
  unfold getItem
  try with_reducible refine wpAny_holding ?_
  first
    | refine wpAny_bind (wpAny_pure ?_)
    | skip
  refine wpAny_bind (wpAny_sequenceKey ht.typeIs (by decide) ?_)
  refine wpAny_bind (wpAny_callSpecial?_slot (name := Str.ofString "__getitem__") ht.typeIs slot_tuple_getitem (wpAny_call_entry slot_tuple_getitem ht.typeIs entry_tuple_getitem ?_ (args_tuple_getitem _ _)))
  show wpAny _ _ (Builtin.Tuple.tupleItemsOf (.ref t) >>= _) _ _ s
  refine wpAny_bind (tupleItemsOf_ ht (wpAny_bind (wpAny_typeOf hsl ?_)))
  rw [if_pos (by decide)]
  refine wpAny_bind (applied_swap hs pl ps ?_)
  show wpAny _ _ (if ((1 : Int) == 0 && (-1 : Int) == 1 && (2 : Nat) == 3) = true then _ else _) _ _ s
  rw [if_neg (by decide)]
  first
    | exact wpAny_bind (m := Builtin.Tuple.tupleExact _) (wpAny_newObj_type (wpAny_pure ⟨_, rfl, wpAny_pure h⟩) hok)
    | exact wpAny_bind (m := Builtin.Tuple.tupleExact _) (wpAny_newObj_type (wpAny_bind (wpAny_pure (wpAny_pure ⟨_, rfl, wpAny_pure h⟩))) hok)
    | exact wpAny_bind (wpAny_bind (m := Builtin.Tuple.tupleExact _) (wpAny_newObj_type (wpAny_pure (wpAny_pure ⟨_, rfl, wpAny_pure h⟩)) hok))
    | exact wpAny_bind (wpAny_bind (m := Builtin.Tuple.tupleExact _) (wpAny_newObj_type (wpAny_pure ⟨_, rfl, wpAny_pure h⟩) hok))
def tSwapT (K : PySem.W.Frag) (te : TE) : TE := fun σ H Q => te σ H fun x H1 => ∃ p a b c, x = .ref p ∧ SqT K H1 p [a, b, c] ∧ ∀ q, H1 q = none → Q (.ref q) (upd H1 q (.tup [b, a]))
theorem pe_swapT {X : Cx} {e : Expr} {te : TE} {k0 k : Nat} {p0 p1 p2 p3 pos : Pos} (he : PE X e te) : PE X (.Subscript e (.Slice (some (.Constant (.int 1) k0 p0)) none (some (.UnaryOp .USub (.Constant (.int 1) k p1) p2)) p3) pos) (tSwapT X.K te) := by
  refine ⟨fun pins s σ H Q I h => ?_⟩
  refine Subscript_ (thn (he.run pins s σ H _ I h) fun v s1 hv => ?_)
  obtain ⟨x, H1, I1, r1, p, a, b, c, rfl, hp, q⟩ := hv
  cases r1
  have h1 : PO X (some (.Constant (.int 1) k0 p0)) (tPart (tC (.int 1))) := po_some pe_int
  have h3 : PO X (some (.UnaryOp .USub (.Constant (.int 1) k p1) p2)) (tPart (tUn rNegI (tC (.int 1)))) := po_some (pe_un un_neg pe_int)
  refine wpAny_Slice (thn (h1.run pins s1 σ H1 (fun o H2 => o = some 1 ∧ H2 = H1) I1 ⟨1, rfl, rfl, rfl⟩) fun vl s2 hl => ?_)
  obtain ⟨l, H2, I2, pl, rfl, rfl⟩ := hl
  refine thn (po_none.run pins s2 σ H2 (fun o H3 => o = none ∧ H3 = H2) I2 ⟨rfl, rfl⟩) fun vu s3 hu => ?_
  obtain ⟨u, H3, I3, pu, rfl, rfl⟩ := hu
  refine thn (h3.run pins s3 σ H3 (fun o H4 => o = some (-1) ∧ H4 = H3) I3 ⟨1, rfl, -1, rfl, rfl, rfl⟩) fun vs s4 ho => ?_
  obtain ⟨o, H4, I4, ps, rfl, rfl⟩ := ho
  cases pu
  have I5 : Inv X pins σ H4 { s4 with heap := s4.heap.push { cls := .type "slice", data := .fields #[vl, .none, vs] } } := I4.kept (t' := s4.toks) fun _ _ g => Heap.get?_push_of_some _ g
  obtain ⟨its, r, hit, hz⟩ := I5.tuple hp
  obtain ⟨ua, ub, uc, rfl, ra, rb, rc⟩ : ∃ ua ub uc, its = [ua, ub, uc] ∧ RelV a ua ∧ RelV b ub ∧ RelV c uc := by
    cases r with
    | cons ra t => cases t with
      | cons rb t => cases t with
        | cons rc t => cases t; exact ⟨_, _, _, rfl, ra, rb, rc⟩
  refine tail_any (ops := [.ref p, .ref s4.heap.objs.size]) hit.typeIs slot_tuple_getitem.lookup ?_ (by with_unfolding_all rfl)
  refine getItem_swap hit (Heap.IsSliceOf.new _ vl .none vs) pl ps ?_
  refine ⟨.ref _, _, I5.laid (t' := s4.toks) (o := .tup [b, a]) (fun _ _ g => Heap.get?_push_of_some _ g) (Nat.le_refl _) ?_, rfl, q _ (I5.hok.fresh (Nat.le_refl _))⟩
  exact ⟨by show 2 ≤ sizeLine; decide, [ub, ua], .cons rb (.cons ra .nil), ⟨_, Heap.get?_push_size _ rfl, rfl, _, rfl⟩⟩
end G

/-! The engine, part 4: sorted(set(xs)). -/
namespace G
open PySem PySem.Spec PyProof.Rows L2
/-- the set that stands there when nothing is in it yet -/
abbrev set0 (w : World) : Obj := { cls := .type "set", dict := none, data := .set #[] 0 (.fresh 0 0 (!w.params.followText "set-order")) }
section
variable {P : Program} {w : World} {A : Around} {E : Value → Shared → Prop} {s : Shared}
/-- what is wanted behind set.__init__ -/
def SetEnd (w : World) (s : Shared) (ks : List Int) (s2 : Shared) : Prop := ∃ h2 t2 n2, s2 = { s with heap := h2, toks := t2 } ∧ SetR w h2 s.heap.objs.size (fun j => decide (j ∈ ks)) n2 ∧ n2 ≤ ks.length ∧ (∀ b o, s.heap.get? b = some o → h2.get? b = some o)
theorem set_of_list {l : Addr} {arr : Array Value} (ks : List Int) {Q : Value → Shared → Prop} (hA : A.handled = none) (hL : s.heap.IsList l arr) (hK : IntsAre arr.toList ks) (hB : ks.length + 1 < scanBound)
    (fin : ∀ s2, SetEnd w s ks s2 → Q (.ref s.heap.objs.size) s2) : wpAny (model P w) A (call (.type "set") [.ref l]) Q E s := by
  have size : arr.size = ks.length := (Array.length_toList (xs := arr)).symm.trans (IntsAre.length hK)
  obtain ⟨c, tl, mro⟩ := F.called_set.mro
  have made := F.called_set.made
  have sub := F.called_set.sub
  refine wpAny_call (codeAny_of_tree (show wpAny _ _ (callAny (.type "set") _) _ _ _ from ?_))
  refine wpAny_pure ⟨Code.quiet_builtin _ (by decide +kernel), codeAny_builtin F.entry_type_call ?_⟩
  rw [Around.under_plain (weight_type_call_type "set" [.ref l] []) rfl]
  have noT := F.called_set.notType
  have can := F.called_set.canCreate
  have chk := F.typeCall_set_1 (.ref l)
  repeat (any_goals first
    | assumption
    | wp_step)
  refine codeAny_mono (code_set_led1 (.ref l) (E := E) (Q₁ := fun o1 s1 => o1 = .ref s.heap.objs.size ∧ s1 = { s with heap := s.heap.push (set0 w) }) ⟨rfl, rfl⟩) fun r s1 hr => ?_
  cases r with
  | error e => exact hr
  | ok fl =>
    cases fl with
    | ret o1 =>
      obtain ⟨rfl, rfl⟩ := hr
      have at0 : (s.heap.push (set0 w)).get? s.heap.objs.size = some (set0 w) := Heap.get?_push_size _ rfl
      have ty0 : Shared.TypeIs { s with heap := s.heap.push (set0 w) } (.ref s.heap.objs.size) "set" := ⟨_, at0, rfl⟩
      have look := F.called_set.init.lookup
      have bind := F.called_set.init.bind (.ref s.heap.objs.size)
      repeat (any_goals first
        | assumption
        | wp_step)
      refine codeAny_mono (codeAny_call_builtin (R := wants (fun r s2 => r = .none ∧ SetEnd w s ks s2) E) F.called_set.init.plain F.entry_set_init (check_set_init_1 ty0 ?_)) fun r2 s2 hr2 => ?_
      · obtain ⟨ol, gl, cl, nl, dl⟩ := hL
        obtain ⟨oc, od, odt, osl⟩ := ol
        simp only at cl dl
        subst cl; subst dl
        have gl2 : (s.heap.push (set0 w)).get? l = some { cls := .type "list", dict := od, data := .seq arr nl, slots := osl } := Heap.get?_push_of_some _ gl
        have f1 := F.sub_list_set
        have f2 := F.sub_list_frozenset
        have f3 : (Value.type "list" == Value.type "dict") = false := by decide
        have hL1 : (s.heap.push (set0 w)).IsList l arr := ⟨_, gl2, rfl, nl, rfl⟩
        unfold Builtin.«set.__init__» noKeywords Builtin.Frozenset.updateFrom
        generalize eP : pyIter = PI
        wp_walk
        subst eP
        refine wpAny_pyIter_list hL1 (wpAny_bind (wpAny_runValue ?_))
        have lt : l < s.heap.objs.size := Heap.lt_size gl
        have hA3 : A.in1.in1.in1.handled = none := by simp [hA]
        have big : (s.heap.push (set0 w)).objs.size = s.heap.objs.size + 1 := Heap.size_push ..
        have apart : l ≠ (s.heap.push (set0 w)).objs.size := by rw [big]; exact Nat.ne_of_lt (Nat.lt_succ_of_lt lt)
        have outer : s.heap.objs.size ∉ [(s.heap.push (set0 w)).objs.size, l] := by
          rw [big]
          simp only [List.mem_cons, List.not_mem_nil, or_false, not_or]
          exact ⟨Nat.ne_of_lt (Nat.lt_succ_self _), Nat.ne_of_gt lt⟩
        have vals : ∀ (i : Nat) (v : Value), arr[i]? = some v → ∃ k t, ks[i]? = some k ∧ v = .int k t := fun i v hv => by
          have hi : i < ks.length := size ▸ (Array.getElem?_eq_some_iff.mp hv).1
          obtain ⟨t, e⟩ := IntsAre.int_at hK i v (by rw [Array.getElem?_toList]; exact hv)
          refine ⟨ks[i], t, List.getElem?_eq_getElem hi, e.trans ?_⟩
          rw [List.getD_eq_getElem?_getD, List.getElem?_eq_getElem hi]
          rfl
        refine set_update_ints ((Walks.list hA3 _ l apart arr).toS) s.heap.objs.size outer ks size hB vals (arr.size - 0) 0 _ (by omega) (Nat.zero_le _) ⟨⟨_, Heap.get?_push_size _ rfl, rfl, rfl⟩, hL1.push _⟩ ?start ?stop
        case start =>
          exact ⟨0, Nat.le_refl 0, setR_new_at (Heap.get?_push_of_some _ at0)⟩
        case stop =>
          intro s3 n3 mv le3 set3
          obtain ⟨h3, g3, d3, t3, o3⟩ := s3
          obtain rfl : g3 = s.gens := mv.gens
          obtain rfl : d3 = s.drawn := mv.drawn
          obtain rfl : o3 = s.os := mv.os
          show wpAny _ _ _ _ _ _
          refine wpAny_pure ?_
          show wpAny _ _ (ret Value.none) _ _ _
          refine wpAny_pure ⟨rfl, h3, t3, n3, rfl, set3, size ▸ le3, fun b o e => ?_⟩
          have hb : b < s.heap.objs.size := Heap.lt_size e
          refine mv.heap b o ?_ (Heap.get?_push_of_some _ (Heap.get?_push_of_some _ e))
          rw [big]
          simp only [List.mem_cons, List.not_mem_nil, or_false, not_or]
          exact ⟨Nat.ne_of_lt hb, Nat.ne_of_lt (Nat.lt_succ_of_lt hb)⟩
      · cases r2 with
        | error e => exact hr2
        | ok fl2 =>
          cases fl2 with
          | ret r =>
            obtain ⟨rfl, h2, t2, n2, rfl, rest⟩ := hr2
            repeat (any_goals first
              | assumption
              | wp_step)
            exact fin _ ⟨h2, t2, n2, rfl, rest⟩
          | _ => exact hr2.elim
    | _ => exact hr.elim
end
/-- sorted(set(xs)) -/
def tSortSet (K : PySem.W.Frag) (ta : TE) : TE := fun σ H Q => ta σ H fun x H1 => ∃ (l : Addr) (ns : List Int), x = .ref l ∧ SqL K H1 l (ns.map V.int) ∧ ns.length ≤ 4000 ∧
  ∀ (ms : List Int) (p : Addr), ms.Pairwise (· < ·) → (∀ k, k ∈ ms ↔ k ∈ ns) → H1 p = none → Q (.ref p) (upd H1 p (.lst (ms.map V.int)))
theorem pe_sortSet {X : Cx} {a : Expr} {ta : TE} {p p2 q pos : Pos} (hg : Gl X "sorted") (hm : X.mg "sorted" = none) (hg2 : Gl X "set") (hm2 : X.mg "set" = none) (ha : PE X a ta) (hc : X.calm = true := by rfl)
    (na : starEach [a] X.env = (false, eval a X.env) :: starEach [] X.env := by rfl) : PE X (.Call (.Name "sorted" p) [.Call (.Name "set" p2) [a] [] q] [] pos) (tSortSet X.K ta) := by
  refine ⟨fun pins s σ H Q I h => Call_ (ld_blt (u := .builtin "sorted") I hg hm (by decide +kernel) ?_)⟩
  refine callWith_builtin1 (args_cons (Call_ (ld_blt I hg2 hm2 boot_set ?_)) rfl) rfl rfl
  have run := ha.run pins s σ H _ I h
  refine callWith_type1 (args_cons (thn run fun v s1 hv => args_nil ?_) na) na rfl
  obtain ⟨x, H1, I1, r1, l, ns, rfl, hq, hl, q1⟩ := hv
  cases r1
  obtain ⟨its, r, pl, hz⟩ := I1.list hq
  refine set_of_list ns (I1.ok.hd hc) pl.isList (valsInts ns (by simpa using r)) (by unfold scanBound; omega) fun s2 h2 => args_nil ?_
  obtain ⟨hp2, t2, n2, rfl, hS, hn, kept⟩ := h2
  have I2 : Inv X pins σ H1 { s1 with heap := hp2, toks := t2 } := I1.kept kept
  obtain ⟨o, es, ep, t, ho, hex, hd, gd, nd, hmem, hb, hf, hsz, hr, hled⟩ := hS
  refine Calls.call_function_entry kind_sorted plain_sorted entry_sorted (args_sorted1 _) ?_
  unfold Builtin.«sorted»
  refine wpAny_bind (m := checkCount "sorted" 1 1 _) (wpAny_pure ?_)
  refine wpAny_bind (collect_set (A := X.A.in1) (I2.ok.hd hc) ⟨o, ho, hex.1, hd⟩ hf hb hr hled fun s3 vs k3 _ g3 o3 pm => ?_)
  obtain ⟨hp3, gs3, dr3, tk3, os3⟩ := s3
  have hlen : vs.length = n2 := by rw [pm.length_eq, List.length_map, Array.length_toList]; exact hsz
  have hI : IntsAre vs (vs.map Builtin.Re.reRawOf) := ints_of vs fun v hv => by
    obtain ⟨e, he, ee⟩ := List.mem_map.mp (pm.mem_iff.mp hv)
    obtain ⟨k, tk, e1, _⟩ := gd e he
    exact ⟨k, tk, ee ▸ e1⟩
  have pk : (vs.map Builtin.Re.reRawOf).Perm (es.toList.map keyOf) := by
    have pq := pm.map Builtin.Re.reRawOf
    rw [List.map_map] at pq
    exact pq
  have hle : vs.length ≤ sizeLine := by rw [hlen, sizeLine_eq]; omega
  have I3 : Inv X pins σ H1 { s1 with heap := hp3, gens := gs3, drawn := dr3, toks := tk3 } :=
    Inv.call (s := { s1 with heap := hp2, toks := t2 }) (ch := []) I2 (Un.kept k3) (I2.hok.kept k3) (by have e : gs3 = s1.gens := g3; rw [e]; exact I1.bare) (fun _ z => nomatch z)
  have eo : os3 = s1.os := o3
  subst eo
  refine wpAny_bind (wpAny_newList ?_ hle)
  have hob : (hp3.push (seqObj "list" vs.toArray 0)).get? hp3.objs.size = some (seqObj "list" vs.toArray 0) := Heap.get?_push_size _ rfl
  show wpAny _ _ _ _ _ { s1 with heap := hp3.push (seqObj "list" vs.toArray 0), gens := gs3, drawn := dr3, toks := tk3 }
  refine wpAny_bind (wpAny_holding (wpAny_call_entry slot_list_sort ⟨_, hob, rfl⟩ entry_list_sort (sort_tail (s := { s1 with gens := gs3, drawn := dr3, toks := tk3 }) hI hle fun out ms c h4 i1 i2 i3 hc4 hk4 => ⟨_, rfl, ?_⟩) (args_list_sort _)))
  have pn : ms.Perm (es.toList.map keyOf) := i2.trans pk
  have hms : (ms.map V.int).length ≤ sizeLine := by rw [List.length_map, pn.length_eq, List.length_map, Array.length_toList, hsz, sizeLine_eq]; omega
  refine wpAny_pure ⟨_, rfl, ?_⟩
  refine ⟨.ref hp3.objs.size, upd H1 hp3.objs.size (.lst (ms.map V.int)), I3.laid (t' := tk3) hk4 (Nat.le_refl _) ⟨hms, out, c, vals_of_ints i1, hc4⟩, rfl, q1 ms _ (lt_of_le_nodup ms i3 (pn.nodup_iff.mpr nd)) (fun k => ?_) (I3.hok.fresh (Nat.le_refl _))⟩
  rw [pn.mem_iff, ← hmem k]
  exact decide_eq_true_iff
end G

/-! Webs: promises and readings of the small defs. -/
namespace G
open PySem PySem.Spec PyProof.Rows L2
open Evl (Ex Ev EvL EvU EvT EvA RV RetV)
local macro_rules | `(tactic| walk_at "hp") => `(tactic| first
  | with_reducible assumption
  | ((with_reducible show _ = some (_ : HO)); (with_reducible exact ex_app (by assumption) (by walk_at "hp")))
  | ((with_reducible show TupI _ _ _ _); (with_reducible exact TupI.mono (by assumption) (by walk_at "hp")))
  | ((with_reducible show LT _ _ _ _); (with_reducible exact LT.mono (by assumption) (by walk_at "hp")))
  | ((with_reducible show LI _ _ _ _); (first | (with_reducible exact li_of (by walk_at "hp")) | (with_reducible exact LI.mono (by assumption) (by walk_at "hp"))))
  | ((with_reducible show SqL _ _ _ _); (first | (with_reducible exact SqL.of (by walk_at "hp")) | (with_reducible exact Evl.ex_l (by assumption) (by walk_at "hp"))))
  | ((with_reducible show SqT _ _ _ _); (first | (with_reducible exact SqT.of (by walk_at "hp")) | (with_reducible exact Evl.ex_t (by assumption) (by walk_at "hp"))))
  | ((with_reducible show Rd _ _ _); (first | (with_reducible exact Rd.of (by walk_at "hp")) | (with_reducible exact Evl.ex_rd (by assumption) (by walk_at "hp"))))
  | walk_at "hpf")
local macro_rules | `(tactic| walk_at "at") => `(tactic| first
  | with_reducible assumption
  | with_reducible rfl
  | (refine atI_of ?va ?vb; (case va => omega); (case vb => assumption))
  | walk_at "atf"
  | rfl)
local macro_rules | `(tactic| walk_at "rv") => `(tactic| first
  | with_reducible exact rv_add | with_reducible exact rv_sub | with_reducible exact rv_eqI | with_reducible exact rv_neI | with_reducible exact rv_lt | with_reducible exact rv_le | with_reducible exact rv_gt | with_reducible exact rv_ge
  | with_reducible exact rv_eqB | with_reducible exact rv_neB | with_reducible exact rv_isB | with_reducible exact rv_notB
  | ((with_reducible refine rv_mod ?_); (first | assumption | omega))
  | ((with_reducible refine rv_mul ?_); (first | exact Or.inl ⟨by omega, by omega⟩ | exact Or.inr ⟨by omega, by omega⟩))
  | ((with_reducible refine rv_div ?_); exact ⟨by omega, by omega⟩))
local macro_rules | `(tactic| walk_at "ty") => `(tactic| first
  | with_reducible exact fun _ _ => .base (.int _) | with_reducible exact fun _ _ => .base (.bl _) | with_reducible exact fun _ _ => .base .non | with_reducible exact fun _ _ => .base (.str _)
  | ((with_reducible apply ty_tup); walk_at "hp")
  | ((with_reducible apply ty_lst); walk_at "hp")
  | walk_at "tyf")
local macro_rules | `(tactic| walk_at "ev") => `(tactic| repeat' (first
  | with_reducible exact Evl.ev_c
  | ((with_reducible apply Evl.ev_var); rfl)
  | with_reducible apply ev_neg
  | with_reducible apply ev_ixU
  | walk_at "evf"
  | ((with_reducible apply ev_lenI); (· walk_at "ev"); (· walk_at "hp"))
  | ((with_reducible apply ev_lenT); (· walk_at "ev"); (· walk_at "hp"))
  | ((with_reducible apply ev_lenU); (· walk_at "ev"))
  | with_reducible apply ev_lenSet
  | with_reducible apply ev_chain
  | with_reducible apply ev_isiTy
  | with_reducible apply Evl.ev_andV
  | with_reducible apply Evl.ev_orV
  | with_reducible apply Evl.ev_notV
  | ((with_reducible apply ev_ixI); (· walk_at "ev"); (· walk_at "ev"); (· walk_at "hp"); (· walk_at "at"))
  | with_reducible apply Evl.ev_op
  | ((with_reducible apply evi_of); (· (with_reducible apply Evl.ev_var); rfl); (· walk_at "hp"))
  | with_reducible apply ei_ix
  | with_reducible apply ei_tup
  | with_reducible exact eai_nil
  | with_reducible apply eai_cons
  | with_reducible exact Evl.ea_nil
  | with_reducible apply Evl.ea_cons
  | with_reducible apply Evl.et_test
  | with_reducible apply Evl.et_and
  | with_reducible apply Evl.et_or
  | with_reducible apply Evl.et_not
  | with_reducible apply Evl.et_B
  | walk_at "rv"
  | ((with_reducible show L2.kitB _ _ = _); rfl)
  | ((with_reducible show L2.atI _ _ = _); walk_at "at")
  | ((with_reducible show (_ : Nat) ≤ _); (first | omega | (simp; done) | (simp; omega)))
  | ((with_reducible show _ = true → _); intro _)
  | ((with_reducible show _ = false → _); intro _)
  | ((with_reducible show TupI _ _ _ _); walk_at "hp")
  | ((with_reducible show LT _ _ _ _); walk_at "hp")
  | ((with_reducible show LI _ _ _ _); walk_at "hp")
  | ((with_reducible show SqL _ _ _ _); walk_at "hp")
  | ((with_reducible show SqT _ _ _ _); walk_at "hp")
  | ((with_reducible show Rd _ _ _); walk_at "hp")
  | ((with_reducible show _ = some (_ : HO)); walk_at "hp")
  | walk_at "hpg"
  | walk_at "ty"))

variable {K : PySem.W.Frag} {σ : L2.St} {H H' H1 : Hp} {ta tb tc te : TE} {t u : TT} {tl : TA} {v x y z : V}
abbrev goal (t : TS) (N : List Str) (vs : List V) (H : Hp) (Q : VK) : Prop := t { nx := fun _ H' => Q .non H', rt := Q } (start N vs) H

/-! ### the data -/
abbrev Tie := Int × Int × Int
abbrev Step := Int × Int
abbrev tieL (t : Tie) : List Int := [t.1, t.2.1, t.2.2]
abbrev stepL (s : Step) : List Int := [s.1, s.2]
abbrev LTie (K : PySem.W.Frag) (H : Hp) (a : Addr) (ts : List Tie) : Prop := LT K H a (ts.map tieL)
abbrev LStep (K : PySem.W.Frag) (H : Hp) (a : Addr) (ss : List Step) : Prop := LT K H a (ss.map stepL)
structure WebTop (K : PySem.W.Frag) : Prop where
  cl : Cls K (ga K "Web")
  nP : NoAttr K (ga K "Web") "points"
  nT : NoAttr K (ga K "Web") "turn"
  nB : NoAttr K (ga K "Web") "bound"
def webF (n turn : Int) (l : Addr) : List (Str × V) := putF "bound" (.ref l) (putF "turn" (.int turn) (putF "points" (.int n) []))
theorem putF_lt {f : Str} {v : V} {m : Nat} : ∀ {fs : List (Str × V)}, fs.length < m → (putF f v fs).length < m + 1
  | [], h => Nat.succ_lt_succ h
  | (g, w) :: r, h => by
    unfold putF
    split
    · exact Nat.lt_succ_of_lt h
    · exact Nat.succ_lt_succ (putF_lt (m := m - 1) (by simp at h; omega) |> fun z => by have : m - 1 + 1 = m := (by simp at h; omega); rwa [this] at z)
theorem nePT : ¬ (("points" : Str) = "turn") := by decide +kernel
theorem nePB : ¬ (("points" : Str) = "bound") := by decide +kernel
theorem neTB : ¬ (("turn" : Str) = "bound") := by decide +kernel
theorem webF_points (n turn : Int) (l : Addr) : (webF n turn l).lookup ("points" : Str) = some (.int n) := by
  unfold webF
  rw [lookup_putF, if_neg nePB, lookup_putF, if_neg nePT, lookup_putF, if_pos rfl]
theorem webF_turn (n turn : Int) (l : Addr) : (webF n turn l).lookup ("turn" : Str) = some (.int turn) := by
  unfold webF
  rw [lookup_putF, if_neg neTB, lookup_putF, if_pos rfl]
theorem webF_bound (n turn : Int) (l : Addr) : (webF n turn l).lookup ("bound" : Str) = some (.ref l) := by
  unfold webF
  rw [lookup_putF, if_pos rfl]
theorem webF_no (n turn : Int) (l : Addr) {m : Str} (h1 : ¬ m = "points") (h2 : ¬ m = "turn") (h3 : ¬ m = "bound") : (webF n turn l).lookup m = none := by
  unfold webF
  rw [lookup_putF, if_neg h3, lookup_putF, if_neg h2, lookup_putF, if_neg h1]
  rfl
/-- a Web stands at w -/
def WebAt (K : PySem.W.Frag) (H : Hp) (w : Addr) (n : Int) (ts : List Tie) (turn : Int) : Prop :=
  WebTop K ∧ ∃ dx l, H w = some (.ins (ga K "Web") dx (webF n turn l)) ∧ LTie K H l ts
/-- the same, its own list at l -/
def WebAtL (K : PySem.W.Frag) (H : Hp) (w : Addr) (n : Int) (ts : List Tie) (turn : Int) (l : Addr) : Prop :=
  WebTop K ∧ (∃ dx, H w = some (.ins (ga K "Web") dx (webF n turn l))) ∧ ∃ vs, H l = some (.lst vs) ∧ TupL K H vs (ts.map tieL)
theorem WebAtL.web {w l : Addr} {n turn : Int} {ts : List Tie} (h : WebAtL K H w n ts turn l) : WebAt K H w n ts turn := by
  obtain ⟨T, ⟨dx, a⟩, vs, b, c⟩ := h
  exact ⟨T, dx, l, a, vs, SqL.of b, c⟩
theorem WebAtL.mono {w l : Addr} {n turn : Int} {ts : List Tie} (e : Ex H H') (h : WebAtL K H w n ts turn l) : WebAtL K H' w n ts turn l := by
  obtain ⟨T, ⟨dx, a⟩, vs, b, c⟩ := h
  exact ⟨T, ⟨dx, e _ _ a⟩, vs, e _ _ b, c.mono e⟩
theorem WebAt.mono {w : Addr} {n turn : Int} {ts : List Tie} (e : Ex H H') (h : WebAt K H w n ts turn) : WebAt K H' w n ts turn := by
  obtain ⟨T, dx, l, h1, h2⟩ := h
  exact ⟨T, dx, l, e _ _ h1, h2.mono e⟩
theorem ev_points {w : Addr} {n turn : Int} {ts : List Tie} (ha : Ev ta σ H (.ref w)) (h : WebAt K H w n ts turn) : Ev (tFld K ta "points") σ H (.int n) := by
  obtain ⟨T, dx, l, h1, _⟩ := h
  exact ev_fld ha h1 T.cl T.nP (webF_points ..)
theorem ev_turn {w : Addr} {n turn : Int} {ts : List Tie} (ha : Ev ta σ H (.ref w)) (h : WebAt K H w n ts turn) : Ev (tFld K ta "turn") σ H (.int turn) := by
  obtain ⟨T, dx, l, h1, _⟩ := h
  exact ev_fld ha h1 T.cl T.nT (webF_turn ..)
theorem WebAt.bound {w : Addr} {n turn : Int} {ts : List Tie} (h : WebAt K H w n ts turn) : ∃ l, LTie K H l ts ∧ ∀ {ta : TE} {σ : L2.St}, Ev ta σ H (.ref w) → Ev (tFld K ta "bound") σ H (.ref l) := by
  obtain ⟨T, dx, l, h1, h2⟩ := h
  exact ⟨l, h2, fun ha => ev_fld ha h1 T.cl T.nB (webF_bound ..)⟩
/-- len(web.bound) -/
theorem ev_lenB {w : Addr} {n turn : Int} {ts : List Tie} (ha : Ev ta σ H (.ref w)) (h : WebAt K H w n ts turn) : Ev (tCB (rLenS K) (tCons (tFld K ta "bound") tNil)) σ H (.int (ts.length : Int)) := by
  obtain ⟨l, h2, f⟩ := h.bound
  have e := ev_lenT (f ha) h2
  rw [List.length_map] at e
  exact e
/-- web.bound[i] -/
theorem ei_bound {w : Addr} {n turn i : Int} {ts : List Tie} {tt : Tie} (ha : Ev ta σ H (.ref w)) (h : WebAt K H w n ts turn) (hb : Ev tb σ H (.int i)) (hi : atI ts i = some tt) : EvI K (tOp (rIxL K) (tFld K ta "bound") tb) σ H (tieL tt) := by
  obtain ⟨l, h2, f⟩ := h.bound
  exact ei_ix (f ha) hb h2 (by rw [atI_map, hi]; rfl)
local macro_rules | `(tactic| walk_at "hpf") => `(tactic| ((with_reducible show WebAt _ _ _ _ _ _); (with_reducible exact WebAt.mono (by assumption) (by walk_at "hp"))))
local macro_rules | `(tactic| walk_at "hpg") => `(tactic| ((with_reducible show WebAt _ _ _ _ _ _); walk_at "hp"))
local macro_rules | `(tactic| walk_at "evf") => `(tactic| with_reducible apply ev_points)
local macro_rules | `(tactic| walk_at "evf") => `(tactic| with_reducible apply ev_turn)
local macro_rules | `(tactic| walk_at "evf") => `(tactic| with_reducible apply ev_lenB)
local macro_rules | `(tactic| walk_at "evf") => `(tactic| with_reducible apply ei_bound)

/-! ### is_whole, is_below, is_tie -/
def sp_is_whole (K : PySem.W.Frag) : Sp := fun vs H Q _ => ∃ n : Int, vs = [.int n] ∧ RetV (.bl true) H Q
theorem ev_is_whole {n : Int} (h : EvA tl σ H [.int n]) : Ev (tCall (sp_is_whole K) [] E0 tl) σ H (.bl true) := ev_call h fun _ _ _ k => ⟨n, rfl, k⟩
def sp_is_below (K : PySem.W.Frag) : Sp := fun vs H Q _ => ∃ n m : Int, vs = [.int n, .int m] ∧ RetV (.bl (decide (0 ≤ n ∧ n < m))) H Q
theorem ev_is_below {n m : Int} (h : EvA tl σ H [.int n, .int m]) : Ev (tCall (sp_is_below K) [] E0 tl) σ H (.bl (decide (0 ≤ n ∧ n < m))) := ev_call h fun _ _ _ k => ⟨n, m, rfl, k⟩
/-- a tie of n points -/
def okTie (n : Int) (t : Tie) : Bool := decide ((0 ≤ t.1 ∧ t.1 < n) ∧ (0 ≤ t.2.1 ∧ t.2.1 < n) ∧ t.1 ≠ t.2.1 ∧ -1000000 ≤ t.2.2 ∧ t.2.2 ≤ 1000000)
def sp_is_tie (K : PySem.W.Frag) : Sp := fun vs H Q _ => ∃ (v : V) (t : Tie) (n : Int), vs = [v, .int n] ∧ TupI K H v (tieL t) ∧ RetV (.bl (okTie n t)) H Q
theorem ev_is_tie {t : Tie} {n : Int} (h : EvA tl σ H [v, .int n]) (ht : TupI K H v (tieL t)) : Ev (tCall (sp_is_tie K) [] E0 tl) σ H (.bl (okTie n t)) := ev_call h fun _ _ e k => ⟨v, t, n, rfl, ht.mono e, k⟩
local macro_rules | `(tactic| walk_at "evf") => `(tactic| with_reducible apply ev_is_whole)
local macro_rules | `(tactic| walk_at "evf") => `(tactic| with_reducible apply ev_is_below)
local macro_rules | `(tactic| walk_at "evf") => `(tactic| with_reducible apply ev_is_tie)

def t_is_whole (K : PySem.W.Frag) : TS :=
 (tRet (tAndV (tCB (rIsi K) (tCons (tVar 0) (tCons (tC (.ty "int")) tNil))) (tNotV (tCB (rIsi K) (tCons (tVar 0) (tCons (tC (.ty "bool")) tNil))))))
def t_is_below (K : PySem.W.Frag) : TS :=
 (tRet (tAndV (tCall (sp_is_whole K) [] E0 (tCons (tVar 0) tNil)) (tChain rLeI rLtI (tC (.int 0)) (tVar 0) (tVar 1))))
def t_is_tie (K : PySem.W.Frag) : TS :=
 (tSeq (tIfS (tOr (tNot (tB (tCB (rIsi K) (tCons (tVar 0) (tCons (tC (.ty "tuple")) tNil))))) (tTest (tOp rNe (tCB (rLenS K) (tCons (tVar 0) tNil)) (tC (.int 3))))) (tRet (tC (.bl false))) tNext)
 (tSeq (tIfS (tOr (tNot (tB (tCall (sp_is_below K) [] E0 (tCons (tOp (rIxT K) (tVar 0) (tC (.int 0))) (tCons (tVar 1) tNil))))) (tOr (tNot (tB (tCall (sp_is_below K) [] E0 (tCons (tOp (rIxT K) (tVar 0) (tC (.int 1))) (tCons (tVar 1) tNil))))) (tTest (tOp rEq (tOp (rIxT K) (tVar 0) (tC (.int 0))) (tOp (rIxT K) (tVar 0) (tC (.int 1))))))) (tRet (tC (.bl false))) tNext)
 (tRet (tAndV (tCall (sp_is_whole K) [] E0 (tCons (tOp (rIxT K) (tVar 0) (tC (.int 2))) tNil)) (tChain rLeI rLeI (tUn rNegI (tC (.int 1000000))) (tOp (rIxT K) (tVar 0) (tC (.int 2))) (tC (.int 1000000)))))))
theorem rd_is_whole (vs : List V) (H : Hp) (Q : VK) (E : XK) (h : sp_is_whole K vs H Q E) : goal (t_is_whole K) ["thing"] vs H Q := by
  obtain ⟨n, rfl, k⟩ := h
  refine Evl.s_ret (v := .bl true) (Evl.ev_is (by walk_at "ev") (by rfl)) fun H1 e => k H1 e
theorem rd_is_below (vs : List V) (H : Hp) (Q : VK) (E : XK) (h : sp_is_below K vs H Q E) : goal (t_is_below K) ["thing", "many"] vs H Q := by
  obtain ⟨n, m, rfl, k⟩ := h
  refine Evl.s_ret (v := .bl (decide (0 ≤ n ∧ n < m))) (Evl.ev_is (by walk_at "ev") ?_) fun H1 e => k H1 e
  simp
theorem rd_is_tie (vs : List V) (H : Hp) (Q : VK) (E : XK) (h : sp_is_tie K vs H Q E) : goal (t_is_tie K) ["thing", "points"] vs H Q := by
  obtain ⟨v, t, n, rfl, ht, k⟩ := h
  refine Evl.q_when (b := false) (Evl.et_is (by walk_at "ev") (by simp [tieL])) (fun hb _ _ => by cases hb) fun _ H1 e1 => ?_
  refine Evl.q_when (by walk_at "ev") (fun hb H2 e2 => ?_) fun hb H2 e2 => ?_
  · refine Evl.s_ret Evl.ev_c fun H3 e3 => ?_
    have q : okTie n t = false := by
      simp at hb
      simp [okTie]
      omega
    rw [q] at k
    exact k H3 (e1.trans (e2.trans e3))
  · refine Evl.s_ret (v := .bl (okTie n t)) (Evl.ev_is (by walk_at "ev") ?_) fun H3 e3 => k H3 (e1.trans (e2.trans e3))
    refine congrArg V.bl (Bool.eq_iff_iff.mpr ?_)
    simp at hb
    simp [okTie]
    omega

/-! ### the class Web -/
/-- a web that may be made -/
def okWeb (n : Int) (ts : List Tie) (turn : Int) : Prop := 1 ≤ n ∧ n ≤ 1000000 ∧ 0 ≤ turn ∧ turn ≤ 1000000 ∧ (∀ t ∈ ts, okTie n t = true) ∧ ts.length ≤ 5000
/-- all is as it was but at p and what it owns -/
def ExBut (p : Addr) (H H' : Hp) : Prop := ∀ a o, a ≠ p → H a = some o → H' a = some o
theorem ex_but {p : Addr} (e : Ex H H') : ExBut p H H' := fun a o _ h => e a o h
theorem _root_.Evl.Ex.but {p : Addr} (e : Ex H H') : ExBut p H H' := ex_but e
theorem ExBut.trans {p : Addr} {H2 : Hp} (a : ExBut p H H') (b : ExBut p H' H2) : ExBut p H H2 := fun c o n h => b c o n (a c o n h)
theorem upd_but {p : Addr} {o : HO} : ExBut p H (upd H p o) := fun a u n h => by rw [upd_ne n]; exact h
theorem ExBut.sqL {p l C dx : Addr} {fs : List (Str × V)} {xs : List V} (b : ExBut p H H') (hp : H p = some (.ins C dx fs)) (h : SqL K H l xs) : SqL K H' l xs := by
  rcases h with (h | ⟨o, h⟩) | h
  · exact .inl (.inl (b _ _ (ne_of h hp (by intro z; cases z)) h))
  · exact .inl (.inr ⟨o, b _ _ (ne_of h hp (by intro z; cases z)) h⟩)
  · exact .inr h
theorem ExBut.tupI {p C dx : Addr} {fs : List (Str × V)} {xs : List Int} (b : ExBut p H H') (hp : H p = some (.ins C dx fs)) (h : TupI K H v xs) : TupI K H' v xs := by
  obtain ⟨l, rfl, h⟩ := h
  refine ⟨l, rfl, ?_⟩
  rcases h with (h | ⟨o, h⟩) | h
  · exact .inl (.inl (b _ _ (ne_of h hp (by intro z; cases z)) h))
  · exact .inl (.inr ⟨o, b _ _ (ne_of h hp (by intro z; cases z)) h⟩)
  · exact .inr h
theorem ExBut.tupL {p C dx : Addr} {fs : List (Str × V)} (b : ExBut p H H') (hp : H p = some (.ins C dx fs)) : ∀ {vs : List V} {xs : List (List Int)}, TupL K H vs xs → TupL K H' vs xs
  | _, _, .nil => .nil
  | _, _, .cons h t => .cons (b.tupI hp h) (ExBut.tupL b hp t)
def sp_Web_init (K : PySem.W.Frag) : Sp := fun vs H Q _ => ∃ (p l dx : Addr) (n turn : Int) (ts : List Tie), vs = [.ref p, .int n, .ref l, .int turn] ∧ WebTop K ∧ H p = some (.ins (ga K "Web") dx []) ∧ LTie K H l ts ∧ okWeb n ts turn ∧
  ∀ H' l2, ExBut p H H' → H l2 = none → WebAtL K H' p n ts turn l2 → Q .non H'
/-- Web(n, ts, turn) made -/
theorem ep_WebL {l : Addr} {n turn : Int} {ts : List Tie} (T : WebTop K) (h : EvA tl σ H [.int n, .ref l, .int turn]) (hl : LTie K H l ts) (ok : okWeb n ts turn) :
    EvP (tMake (ga K "Web") (sp_Web_init K) [] E0 tl) σ H (fun v H2 => ∃ p l2, v = .ref p ∧ H p = none ∧ H l2 = none ∧ WebAtL K H2 p n ts turn l2) := fun H1 e Q q => h H1 e _ fun H2 e2 => by
  intro x dx hx hdx ne
  have big : Ex H H2 := e.trans e2
  have ex1 : Ex H2 (upd (upd H2 dx (.own x)) x (.ins (ga K "Web") dx [])) := (Ex.new hdx).trans (Ex.new (by rw [upd_ne ne.symm]; exact hx))
  refine ⟨x, l, dx, n, turn, ts, rfl, T, upd_same, (hl.mono big).mono ex1, ok, fun H3 l2 eb f2 hw => ⟨rfl, q _ H3 (fun a o ha => eb a o (fun z => ?_) (ex1 a o (e2 a o ha))) ⟨x, l2, rfl, Evl.fresh_back big hx, Evl.fresh_back big (Evl.fresh_back ex1 f2), hw⟩⟩⟩
  have q2 := e2 a o ha
  rw [z, hx] at q2
  cases q2
theorem ep_Web {l : Addr} {n turn : Int} {ts : List Tie} (T : WebTop K) (h : EvA tl σ H [.int n, .ref l, .int turn]) (hl : LTie K H l ts) (ok : okWeb n ts turn) :
    EvP (tMake (ga K "Web") (sp_Web_init K) [] E0 tl) σ H (fun v H2 => ∃ p, v = .ref p ∧ H p = none ∧ WebAt K H2 p n ts turn) :=
  (ep_WebL T h hl ok).imp fun v H2 e ⟨p, l2, a, b, _, c⟩ => ⟨p, a, b, c.web⟩
def sp_Web_ties (K : PySem.W.Frag) : Sp := fun vs H Q _ => ∃ (p : Addr) (n turn : Int) (ts : List Tie), vs = [.ref p] ∧ WebAt K H p n ts turn ∧ RetP (fun v H2 => ∃ l vs, v = .ref l ∧ H l = none ∧ H2 l = some (.lst vs) ∧ TupL K H2 vs (ts.map tieL)) H Q
def noughtF (turn n : Int) : Bool := if turn = 0 then decide (n = 0) else decide (n % turn = 0)
def sp_Web_is_nought (K : PySem.W.Frag) : Sp := fun vs H Q _ => ∃ (p : Addr) (n turn i : Int) (ts : List Tie), vs = [.ref p, .int i] ∧ WebAt K H p n ts turn ∧ 0 ≤ turn ∧ RetV (.bl (noughtF turn i)) H Q
theorem ev_nought {w : Addr} {n turn i : Int} {ts : List Tie} (hw : WebAt K H w n ts turn) (h0 : 0 ≤ turn) (ha : Ev ta σ H (.ref w)) (h : EvA tl σ H [.int i]) : Ev (tMeth (ga K "Web") "is_nought" (sp_Web_is_nought K) [] E0 ta tl) σ H (.bl (noughtF turn i)) := by
  obtain ⟨T, dx, l, h1, h2⟩ := id hw
  exact ev_meth ha h1 (webF_no _ _ _ (by decide +kernel) (by decide +kernel) (by decide +kernel)) h fun _ _ e k => ⟨w, n, turn, i, ts, rfl, hw.mono e, h0, k⟩
theorem ep_ties {w : Addr} {n turn : Int} {ts : List Tie} (hw : WebAt K H w n ts turn) (ha : Ev ta σ H (.ref w)) : EvP (tMeth (ga K "Web") "ties" (sp_Web_ties K) [] E0 ta tNil) σ H (fun v H2 => ∃ l vs, v = .ref l ∧ H l = none ∧ H2 l = some (.lst vs) ∧ TupL K H2 vs (ts.map tieL)) := by
  obtain ⟨T, dx, l, h1, h2⟩ := id hw
  refine ep_meth ha h1 (webF_no _ _ _ (by decide +kernel) (by decide +kernel) (by decide +kernel)) Evl.ea_nil fun H1 Q e k => ⟨w, n, turn, ts, rfl, hw.mono e, fun v H2 e2 hp => k v H2 e2 ?_⟩
  obtain ⟨l, vs, a, b, c⟩ := hp
  exact ⟨l, vs, a, Evl.fresh_back e b, c⟩
def t_Web_init (K : PySem.W.Frag) : TS :=
 (tSeq (tIfS (tOr (tNot (tB (tCall (sp_is_below K) [] E0 (tCons (tVar 1) (tCons (tOp rAddI (tC (.int 1000000)) (tC (.int 1))) tNil))))) (tOr (tTest (tOp rLtI (tVar 1) (tC (.int 1)))) (tNot (tB (tCall (sp_is_below K) [] E0 (tCons (tVar 3) (tCons (tOp rAddI (tC (.int 1000000)) (tC (.int 1))) tNil))))))) tNever tNext)
 (tSeq (tIfS (tOr (tNot (tB (tCB (rIsi K) (tCons (tVar 2) (tCons (tC (.ty "list")) tNil))))) (tNot (tB (tCB (rAll K) (tCons (tLc (iList K (tVar 2)) (gName 4) tYes (tCall (sp_is_tie K) [] E0 (tCons (tVar 4) (tCons (tVar 1) tNil))) [4]) tNil))))) tNever tNext)
 (tSeq (sFld K (tVar 0) (tVar 1) "points")
 (tSeq (sFld K (tVar 0) (tVar 3) "turn")
 (sFld K (tVar 0) (tCB (rListS K) (tCons (tVar 2) tNil)) "bound")))))
def t_Web_ties (K : PySem.W.Frag) : TS :=
 (tRet (tCB (rListS K) (tCons (tFld K (tVar 0) "bound") tNil)))
def t_Web_is_nought (K : PySem.W.Frag) : TS :=
 (tSeq (tIfS (tTest (tOp rEq (tFld K (tVar 0) "turn") (tC (.int 0)))) (tRet (tOp rEq (tVar 1) (tC (.int 0)))) tNext)
 (tRet (tOp rEq (tOp rModI (tVar 1) (tFld K (tVar 0) "turn")) (tC (.int 0)))))
theorem rd_Web_init (vs : List V) (H : Hp) (Q : VK) (E : XK) (h : sp_Web_init K vs H Q E) : goal (t_Web_init K) ["self", "points", "ties", "turn", "tie"] vs H Q := by
  obtain ⟨p, l, dx, n, turn, ts, rfl, T, hp, hl, ok, k⟩ := h
  obtain ⟨o1, o2, o3, o4, o5, o6⟩ := ok
  refine q_never (by walk_at "ev") (by simp; omega) fun H1 e1 => ?_
  obtain ⟨us, hq, hT⟩ := id hl
  have hul : us.length = ts.length := by rw [hT.length, List.length_map]
  refine q_never (b := false) (Evl.et_is (a := !(true) || !((ts.map fun t => okTie n t).all id)) ?_ ?_) rfl fun H2 e2 => ?_
  · refine Evl.et_or (Evl.et_not (Evl.et_B (by walk_at "ev"))) fun _ => Evl.et_not (Evl.et_B (ev_all (p := l) ?_))
    refine (lc_vals (a := l) (xs := us) (ys := (ts.map fun t => okTie n t).map V.bl) (by walk_at "ev") (by walk_at "hp") (by omega) (by simp [hul]) (fun _ => rfl) fun i x H3 e3 hx => ?_).imp fun v H3 e3 hh => ?_
    · obtain ⟨z, hz, tz⟩ := hT.getV hx
      rw [List.getElem?_map] at hz
      cases ht : ts[i]? with
      | none => rw [ht] at hz; cases hz
      | some t =>
        rw [ht] at hz
        cases hz
        exact ⟨.bl (okTie n t), by simp [ht], ev_is_tie (by walk_at "ev") (tz.mono (e1.trans e3))⟩
    · obtain ⟨q, a, _, b⟩ := hh
      exact ⟨q, a, .inl (.inl b)⟩
  · have q : (ts.map fun t => okTie n t).all id = true := by
      rw [List.all_eq_true]
      intro b hb
      obtain ⟨t, ht, rfl⟩ := List.mem_map.mp hb
      exact o5 t ht
    rw [q]
    rfl
  have e : Ex H H2 := e1.trans e2
  refine q_fld (by walk_at "ev") (by walk_at "ev") (e _ _ hp) T.cl T.nP (by show 0 < 1000; decide) fun H3 e3 => ?_
  refine q_fld (a := p) (by walk_at "ev") (by walk_at "ev") upd_same T.cl T.nT (by show 1 < 1000; decide) fun H4 e4 => ?_
  have b1 : ExBut p H (upd H4 p (.ins (ga K "Web") dx (putF "turn" (.int turn) (putF "points" (.int n) [])))) := (((e.trans e3).but.trans upd_but).trans e4.but).trans upd_but
  refine s_fldP (a := p) (ep_list (by walk_at "ev") (b1.sqL hp hq)) (by walk_at "ev") upd_same T.cl T.nB (putF_lt (m := 999) (putF_lt (m := 998) (by show 0 < 998; decide))) fun v H5 H6 e5 hv e6 => ?_
  obtain ⟨l2, rfl, fr2, h5⟩ := hv
  have nlp : l2 ≠ p := fun z => by rw [z, upd_same] at fr2; cases fr2
  have b2 := ((b1.trans e5.but).trans e6.but).trans (upd_but (p := p) (o := .ins (ga K "Web") dx (webF n turn l2)))
  have f2H : H l2 = none := by
    cases hh : H l2 with
    | none => rfl
    | some o => rw [b1 _ _ nlp hh] at fr2; cases fr2
  refine k _ l2 b2 f2H ⟨T, ⟨dx, upd_same⟩, us, ?_, b2.tupL hp hT⟩
  rw [upd_ne nlp]
  exact e6 _ _ h5
theorem rd_Web_ties (vs : List V) (H : Hp) (Q : VK) (E : XK) (h : sp_Web_ties K vs H Q E) : goal (t_Web_ties K) ["self"] vs H Q := by
  obtain ⟨p, n, turn, ts, rfl, hw, k⟩ := h
  obtain ⟨l, ⟨us, hq, hT⟩, f⟩ := hw.bound
  refine s_retP (ep_list (f (by walk_at "ev")) hq) fun v H1 e1 hv => ?_
  obtain ⟨l2, rfl, fr, h1⟩ := hv
  exact k _ H1 e1 ⟨l2, us, rfl, fr, h1, hT.mono e1⟩
theorem rd_Web_is_nought (vs : List V) (H : Hp) (Q : VK) (E : XK) (h : sp_Web_is_nought K vs H Q E) : goal (t_Web_is_nought K) ["self", "number"] vs H Q := by
  obtain ⟨p, n, turn, i, ts, rfl, hw, h0, k⟩ := h
  refine Evl.q_when (by walk_at "ev") (fun hb H1 e1 => ?_) fun hb H1 e1 => ?_
  · refine Evl.s_ret (v := .bl (noughtF turn i)) (Evl.ev_is (by walk_at "ev") ?_) fun H2 e2 => k H2 (e1.trans e2)
    simp at hb
    simp [noughtF, hb]
  · have hp : 0 < turn := by simp at hb; omega
    refine Evl.s_ret (v := .bl (noughtF turn i)) (Evl.ev_is (by walk_at "ev") ?_) fun H2 e2 => k H2 (e1.trans e2)
    simp at hb
    simp [noughtF, hb]
end G

/-! Walks: stepped, walked, is_straight. -/
namespace G
open PySem PySem.Spec PyProof.Rows L2
open Evl (Ex Ev EvL EvU EvT EvA RV RetV)
local macro_rules | `(tactic| walk_at "hp") => `(tactic| first
  | with_reducible assumption
  | ((with_reducible show _ = some (_ : HO)); (with_reducible exact ex_app (by assumption) (by walk_at "hp")))
  | ((with_reducible show TupI _ _ _ _); (with_reducible exact TupI.mono (by assumption) (by walk_at "hp")))
  | ((with_reducible show LT _ _ _ _); (with_reducible exact LT.mono (by assumption) (by walk_at "hp")))
  | ((with_reducible show LI _ _ _ _); (first | (with_reducible exact li_of (by walk_at "hp")) | (with_reducible exact LI.mono (by assumption) (by walk_at "hp"))))
  | ((with_reducible show SqL _ _ _ _); (first | (with_reducible exact SqL.of (by walk_at "hp")) | (with_reducible exact Evl.ex_l (by assumption) (by walk_at "hp"))))
  | ((with_reducible show SqT _ _ _ _); (first | (with_reducible exact SqT.of (by walk_at "hp")) | (with_reducible exact Evl.ex_t (by assumption) (by walk_at "hp"))))
  | ((with_reducible show Rd _ _ _); (first | (with_reducible exact Rd.of (by walk_at "hp")) | (with_reducible exact Evl.ex_rd (by assumption) (by walk_at "hp"))))
  | walk_at "hpf")
local macro_rules | `(tactic| walk_at "at") => `(tactic| first
  | with_reducible assumption
  | with_reducible rfl
  | (refine atI_of ?va ?vb; (case va => omega); (case vb => assumption))
  | walk_at "atf"
  | rfl)
local macro_rules | `(tactic| walk_at "rv") => `(tactic| first
  | with_reducible exact rv_add | with_reducible exact rv_sub | with_reducible exact rv_eqI | with_reducible exact rv_neI | with_reducible exact rv_lt | with_reducible exact rv_le | with_reducible exact rv_gt | with_reducible exact rv_ge
  | with_reducible exact rv_eqB | with_reducible exact rv_neB | with_reducible exact rv_isB | with_reducible exact rv_notB
  | ((with_reducible refine rv_mod ?_); (first | assumption | omega))
  | ((with_reducible refine rv_mul ?_); (first | exact Or.inl ⟨by omega, by omega⟩ | exact Or.inr ⟨by omega, by omega⟩))
  | ((with_reducible refine rv_div ?_); exact ⟨by omega, by omega⟩))
local macro_rules | `(tactic| walk_at "ty") => `(tactic| first
  | with_reducible exact fun _ _ => .base (.int _) | with_reducible exact fun _ _ => .base (.bl _) | with_reducible exact fun _ _ => .base .non | with_reducible exact fun _ _ => .base (.str _)
  | ((with_reducible apply ty_tup); walk_at "hp")
  | ((with_reducible apply ty_lst); walk_at "hp")
  | walk_at "tyf")
local macro_rules | `(tactic| walk_at "ev") => `(tactic| repeat' (first
  | with_reducible exact Evl.ev_c
  | ((with_reducible apply Evl.ev_var); rfl)
  | with_reducible apply ev_neg
  | with_reducible apply ev_ixU
  | walk_at "evf"
  | ((with_reducible apply ev_lenI); (· walk_at "ev"); (· walk_at "hp"))
  | ((with_reducible apply ev_lenT); (· walk_at "ev"); (· walk_at "hp"))
  | ((with_reducible apply ev_lenU); (· walk_at "ev"))
  | with_reducible apply ev_lenSet
  | with_reducible apply ev_chain
  | with_reducible apply ev_isiTy
  | with_reducible apply Evl.ev_andV
  | with_reducible apply Evl.ev_orV
  | with_reducible apply Evl.ev_notV
  | ((with_reducible apply ev_ixI); (· walk_at "ev"); (· walk_at "ev"); (· walk_at "hp"); (· walk_at "at"))
  | with_reducible apply Evl.ev_op
  | ((with_reducible apply evi_of); (· (with_reducible apply Evl.ev_var); rfl); (· walk_at "hp"))
  | with_reducible apply ei_ix
  | with_reducible apply ei_tup
  | with_reducible exact eai_nil
  | with_reducible apply eai_cons
  | with_reducible exact Evl.ea_nil
  | with_reducible apply Evl.ea_cons
  | with_reducible apply Evl.et_test
  | with_reducible apply Evl.et_and
  | with_reducible apply Evl.et_or
  | with_reducible apply Evl.et_not
  | with_reducible apply Evl.et_B
  | walk_at "rv"
  | ((with_reducible show L2.kitB _ _ = _); rfl)
  | ((with_reducible show L2.atI _ _ = _); walk_at "at")
  | ((with_reducible show (_ : Nat) ≤ _); (first | omega | (simp; done) | (simp; omega)))
  | ((with_reducible show _ = true → _); intro _)
  | ((with_reducible show _ = false → _); intro _)
  | ((with_reducible show TupI _ _ _ _); walk_at "hp")
  | ((with_reducible show LT _ _ _ _); walk_at "hp")
  | ((with_reducible show LI _ _ _ _); walk_at "hp")
  | ((with_reducible show SqL _ _ _ _); walk_at "hp")
  | ((with_reducible show SqT _ _ _ _); walk_at "hp")
  | ((with_reducible show Rd _ _ _); walk_at "hp")
  | ((with_reducible show _ = some (_ : HO)); walk_at "hp")
  | walk_at "hpg"
  | walk_at "ty"))

local macro_rules | `(tactic| walk_at "hpf") => `(tactic| ((with_reducible show WebAt _ _ _ _ _ _); (with_reducible exact WebAt.mono (by assumption) (by walk_at "hp"))))
local macro_rules | `(tactic| walk_at "hpg") => `(tactic| ((with_reducible show WebAt _ _ _ _ _ _); walk_at "hp"))
local macro_rules | `(tactic| walk_at "evf") => `(tactic| with_reducible apply ev_points)
local macro_rules | `(tactic| walk_at "evf") => `(tactic| with_reducible apply ev_turn)
local macro_rules | `(tactic| walk_at "evf") => `(tactic| with_reducible apply ev_lenB)
local macro_rules | `(tactic| walk_at "evf") => `(tactic| with_reducible apply ei_bound)
local macro_rules | `(tactic| walk_at "evf") => `(tactic| with_reducible apply ev_is_whole)
local macro_rules | `(tactic| walk_at "evf") => `(tactic| with_reducible apply ev_is_below)
local macro_rules | `(tactic| walk_at "evf") => `(tactic| with_reducible apply ev_is_tie)
variable {K : PySem.W.Frag} {σ : L2.St} {H H' H1 : Hp} {ta tb tc te : TE} {t u : TT} {tl : TA} {v x y z : V}

/-! ### stepped -/
def stepF (ts : List Tie) (p : Int) (s : Step) : Int × Int :=
  if 0 ≤ s.1 ∧ s.1 < ts.length then
    match ts[s.1.toNat]? with
    | some t => if s.2 = 1 ∧ p = t.1 then (t.2.1, t.2.2) else if s.2 = -1 ∧ p = t.2.1 then (t.1, -t.2.2) else (-1, 0)
    | none => (-1, 0)
  else (-1, 0)
def sp_stepped (K : PySem.W.Frag) : Sp := fun vs H Q _ => ∃ (w : Addr) (p : Int) (v : V) (s : Step) (n turn : Int) (ts : List Tie), vs = [.ref w, .int p, v] ∧ WebAt K H w n ts turn ∧ TupI K H v (stepL s) ∧ RetP (fun v H2 => TupI K H2 v (stepL (stepF ts p s))) H Q
theorem ei_stepped {w : Addr} {p n turn : Int} {s : Step} {ts : List Tie} (h1 : Ev ta σ H (.ref w)) (h2 : Ev tb σ H (.int p)) (h3 : EvI K tc σ H (stepL s)) (hw : WebAt K H w n ts turn) :
    EvI K (tCall (sp_stepped K) [] E0 (tCons ta (tCons tb (tCons tc tNil)))) σ H (stepL (stepF ts p s)) := fun H1 e Q q =>
  h1 H1 e _ fun H2 e2 => h2 H2 (e.trans e2) _ fun H3 e3 => h3 H3 ((e.trans e2).trans e3) _ fun v H4 e4 hv =>
    ⟨w, p, v, s, n, turn, ts, rfl, hw.mono (((e.trans e2).trans e3).trans e4), hv, fun v5 H5 e5 h5 => q v5 H5 (((e2.trans e3).trans e4).trans e5) h5⟩
def t_stepped (K : PySem.W.Frag) : TS :=
 (tSeq (tIfS (tOr (tNot (tB (tCB (rIsi K) (tCons (tVar 2) (tCons (tC (.ty "tuple")) tNil))))) (tOr (tTest (tOp rNe (tCB (rLenS K) (tCons (tVar 2) tNil)) (tC (.int 2)))) (tNot (tB (tCall (sp_is_below K) [] E0 (tCons (tOp (rIxT K) (tVar 2) (tC (.int 0))) (tCons (tCB (rLenS K) (tCons (tFld K (tVar 0) "bound") tNil)) tNil))))))) (tRet (tTup (tCons (tUn rNegI (tC (.int 1))) (tCons (tC (.int 0)) tNil)))) tNext)
 (tSeq (tIfS (tNot (tB (tCall (sp_is_whole K) [] E0 (tCons (tOp (rIxT K) (tVar 2) (tC (.int 1))) tNil)))) (tRet (tTup (tCons (tUn rNegI (tC (.int 1))) (tCons (tC (.int 0)) tNil)))) tNext)
 (tSeq (tAsg (tOp (rIxL K) (tFld K (tVar 0) "bound") (tOp (rIxT K) (tVar 2) (tC (.int 0)))) (gTup K 3 (gCons (gName 3) (gCons (gName 4) (gCons (gName 5) gNil)))))
 (tSeq (tIfS (tAnd (tTest (tOp rEq (tOp (rIxT K) (tVar 2) (tC (.int 1))) (tC (.int 1)))) (tTest (tOp rEq (tVar 1) (tVar 3)))) (tRet (tTup (tCons (tVar 4) (tCons (tVar 5) tNil)))) tNext)
 (tSeq (tIfS (tAnd (tTest (tOp rEq (tOp (rIxT K) (tVar 2) (tC (.int 1))) (tUn rNegI (tC (.int 1))))) (tTest (tOp rEq (tVar 1) (tVar 4)))) (tRet (tTup (tCons (tVar 3) (tCons (tUn rNegI (tVar 5)) tNil)))) tNext)
 (tRet (tTup (tCons (tUn rNegI (tC (.int 1))) (tCons (tC (.int 0)) tNil)))))))))
theorem rd_stepped (vs : List V) (H : Hp) (Q : VK) (E : XK) (h : sp_stepped K vs H Q E) : goal (t_stepped K) ["web", "point", "step", "one", "other", "number"] vs H Q := by
  obtain ⟨w, p, v, s, n, turn, ts, rfl, hw, hs, k⟩ := h
  obtain ⟨sa, sb⟩ := s
  refine Evl.q_when (b := !decide (0 ≤ sa ∧ sa < (ts.length : Int))) (Evl.et_is (by walk_at "ev") (by simp [stepL])) (fun hb H1 e1 => ?_) fun hb H1 e1 => ?_
  · refine s_retP (P := fun v H2 => TupI K H2 v [-1, 0]) (by walk_at "ev") fun v H2 e2 hv => k v H2 (e1.trans e2) ?_
    have : ¬ (0 ≤ sa ∧ sa < (ts.length : Int)) := by intro z; rw [decide_eq_true z] at hb; cases hb
    unfold stepF
    rw [if_neg this]
    exact hv
  have hin : 0 ≤ sa ∧ sa < (ts.length : Int) := by simp at hb; omega
  refine Evl.q_when (b := false) (Evl.et_is (by walk_at "ev") (by rfl)) (fun hb _ _ => by cases hb) fun _ H2 e2 => ?_
  obtain ⟨tt, ht⟩ : ∃ tt, ts[sa.toNat]? = some tt := ⟨ts[sa.toNat]'(by omega), List.getElem?_eq_getElem (by omega)⟩
  have ha : atI ts sa = some tt := atI_of hin.1 ht
  have hv : stepF ts p (sa, sb) = if sb = 1 ∧ p = tt.1 then (tt.2.1, tt.2.2) else if sb = -1 ∧ p = tt.2.1 then (tt.1, -tt.2.2) else (-1, 0) := by
    unfold stepF
    rw [if_pos hin]
    simp only [ht]
  refine q_un3 (a := tt.1) (b := tt.2.1) (c := tt.2.2) (by walk_at "ev") fun H3 e3 => ?_
  have e13 : Ex H H3 := e1.trans (e2.trans e3)
  refine Evl.q_when (b := decide (sb = 1 ∧ p = tt.1)) (Evl.et_is (by walk_at "ev") (by simp)) (fun hb H4 e4 => ?_) fun hb H4 e4 => ?_
  · refine s_retP (P := fun v H2 => TupI K H2 v [tt.2.1, tt.2.2]) (by walk_at "ev") fun v H5 e5 hq => k v H5 (e13.trans (e4.trans e5)) ?_
    rw [hv, if_pos (by simpa using hb)]
    exact hq
  · refine Evl.q_when (b := decide (sb = -1 ∧ p = tt.2.1)) (Evl.et_is (by walk_at "ev") (by simp)) (fun hb2 H5 e5 => ?_) fun hb2 H5 e5 => ?_
    · refine s_retP (P := fun v H2 => TupI K H2 v [tt.1, -tt.2.2]) (by walk_at "ev") fun v H6 e6 hq => k v H6 (e13.trans (e4.trans (e5.trans e6))) ?_
      rw [hv, if_neg (by simpa using hb), if_pos (by simpa using hb2)]
      exact hq
    · refine s_retP (P := fun v H2 => TupI K H2 v [-1, 0]) (by walk_at "ev") fun v H6 e6 hq => k v H6 (e13.trans (e4.trans (e5.trans e6))) ?_
      rw [hv, if_neg (by simpa using hb), if_neg (by simpa using hb2)]
      exact hq
local macro_rules | `(tactic| walk_at "evf") => `(tactic| with_reducible apply ei_stepped)

/-! ### walked -/
def walkA (ts : List Tie) (pre : List Int) (p c : Int) : List Step → Option (List Int × Int)
  | [] => some (pre ++ [p], c)
  | s :: r => if (stepF ts p s).1 < 0 then none else walkA ts (pre ++ [p]) (stepF ts p s).1 (c + (stepF ts p s).2) r
def walkF (ts : List Tie) (p : Int) (ss : List Step) : Option (List Int × Int) := walkA ts [] p 0 ss
theorem walkA_len {ts : List Tie} : ∀ {ss : List Step} {pre : List Int} {p c : Int} {ps : List Int} {d : Int}, walkA ts pre p c ss = some (ps, d) → ps.length = pre.length + ss.length + 1
  | [], pre, p, c, ps, d, h => by
    unfold walkA at h
    cases h
    simp
  | s :: r, pre, p, c, ps, d, h => by
    unfold walkA at h
    split at h
    · cases h
    · have := walkA_len h
      simp at this
      simp
      omega
def walkR (ts : List Tie) (p : Int) (ss : List Step) : List Int × Int := (walkF ts p ss).getD ([], 0)
/-- what walked tells: a pair of a new list and a number -/
def WalkV (K : PySem.W.Frag) (H : Hp) (r : List Int × Int) (v : V) (H2 : Hp) : Prop := ∃ t l, v = .ref t ∧ SqT K H2 t [.ref l, .int r.2] ∧ H l = none ∧ H2 l = some (.lst (r.1.map V.int))
def sp_walked (K : PySem.W.Frag) : Sp := fun vs H Q _ => ∃ (w l : Addr) (p : Int) (ss : List Step) (n turn : Int) (ts : List Tie), vs = [.ref w, .int p, .ref l] ∧ WebAt K H w n ts turn ∧ LStep K H l ss ∧ ss.length ≤ 3000 ∧ RetP (WalkV K H (walkR ts p ss)) H Q
theorem ep_walked {w l : Addr} {p n turn : Int} {ss : List Step} {ts : List Tie} (h : EvA tl σ H [.ref w, .int p, .ref l]) (hw : WebAt K H w n ts turn) (hs : LStep K H l ss) (hl : ss.length ≤ 3000) : EvP (tCall (sp_walked K) [] E0 tl) σ H (WalkV K H (walkR ts p ss)) :=
  ep_call h fun H1 Q e k => ⟨w, l, p, ss, n, turn, ts, rfl, hw.mono e, hs.mono e, hl, fun v H2 e2 ⟨t, l, a, b, c, d⟩ => k v H2 e2 ⟨t, l, a, b, Evl.fresh_back e c, d⟩⟩
def t_walked (K : PySem.W.Frag) : TS :=
 (tSeq (tAsg (tLst (tCons (tVar 1) tNil)) (gName 3))
 (tSeq (tAsg (tC (.int 0)) (gName 4))
 (tSeq (tFor (iList K (tVar 2)) (gName 5) (tSeq (tAsg (tCall (sp_stepped K) [] E0 (tCons (tVar 0) (tCons (tOp (rIxL K) (tVar 3) (tUn rNegI (tC (.int 1)))) (tCons (tVar 5) tNil)))) (gTup K 2 (gCons (gName 6) (gCons (gName 7) gNil))))
 (tSeq (tIfS (tTest (tOp rLtI (tVar 6) (tC (.int 0)))) (tRet (tTup (tCons (tLst tNil) (tCons (tC (.int 0)) tNil)))) tNext)
 (tSeq (tDrop (tBM K "list" rAppend (tVar 3) (tCons (tVar 6) tNil)))
 (tAug 4 (tVar 7) (ipI fun i j => i + j))))))
 (tRet (tTup (tCons (tVar 3) (tCons (tVar 4) tNil)))))))
def t_is_straight (K : PySem.W.Frag) : TS :=
 (tSeq (tAsg (tOp (rIxT K) (tCall (sp_walked K) [] E0 (tCons (tVar 0) (tCons (tVar 1) (tCons (tVar 2) tNil)))) (tC (.int 0))) (gName 4))
 (tRet (tAndV (tOp rGtI (tCB (rLenS K) (tCons (tVar 4) tNil)) (tC (.int 0))) (tAndV (tOp rEq (tOp (rIxL K) (tVar 4) (tUn rNegI (tC (.int 1)))) (tVar 3)) (tOp rEq (tLenSetD K (tVar 4)) (tCB (rLenS K) (tCons (tVar 4) tNil)))))))
theorem rd_walked (vs : List V) (H : Hp) (Q : VK) (E : XK) (h : sp_walked K vs H Q E) : goal (t_walked K) ["web", "start", "steps", "points", "climb", "step", "point", "more"] vs H Q := by
  obtain ⟨w, l, p, ss, n, turn, ts, rfl, hw, hs, hl, k⟩ := h
  refine Evl.q_asgL (xs := [.int p]) (Evl.el_lst (by walk_at "ev") (by show 1 ≤ 100000; decide)) fun a H1 hfr e1 h1 => ?_
  refine Evl.q_asg Evl.ev_c fun H2 e2 => ?_
  obtain ⟨us, hq, hT⟩ := id hs
  have hul : us.length = ss.length := by rw [hT.length, List.length_map]
  refine q_seq (f_list (a := l) (xs := us) (by walk_at "ev") (by walk_at "hp")
    (fun i σ' H' => ∃ (pre : List Int) (q c : Int) (o1 o2 o3 : Option V), σ' = [some (.ref w), some (.int p), some (.ref l), some (.ref a), some (.int c), o1, o2, o3] ∧ Ex H H' ∧ H' a = some (.lst ((pre ++ [q]).map V.int)) ∧ pre.length ≤ i ∧ walkF ts p ss = walkA ts pre q c (ss.drop i))
    (fun H3 e3 => ⟨[], p, 0, _, _, _, rfl, e1.trans (e2.trans e3), e3 _ _ (e2 _ _ h1), Nat.le_refl _, rfl⟩) (fun i σ' H' _ ⟨_, _, _, _, _, _, _, e, _⟩ => Evl.ex_l e hq) ?_ ?_)
  · rintro i x σ' H' hx ⟨pre, q, c, o1, o2, o3, rfl, e, ha, hi, hv⟩
    obtain ⟨z, hz, tz⟩ := (hT.mono e).getV hx
    rw [List.getElem?_map] at hz
    cases hsi : ss[i]? with
    | none => rw [hsi] at hz; cases hz
    | some s =>
      rw [hsi] at hz
      cases hz
      have hil : i < us.length := (List.getElem?_eq_some_iff.mp hx).1
      have hlast : atI (pre ++ [q]) (-1) = some q := atI_last pre q
      have hdr : ss.drop i = s :: ss.drop (i + 1) := by
        obtain ⟨hlt, hg⟩ := List.getElem?_eq_some_iff.mp hsi
        rw [List.drop_eq_getElem_cons hlt, hg]
      rw [hdr] at hv
      unfold walkA at hv
      refine q_un2 (a := (stepF ts q s).1) (b := (stepF ts q s).2) (by walk_at "ev") fun H3 e3 => ?_
      refine Evl.q_when (b := decide ((stepF ts q s).1 < 0)) (by walk_at "ev") (fun hb H4 e4 => ?_) fun hb H4 e4 => ?_
      · rw [if_pos (by simpa using hb)] at hv
        refine s_retP (P := WalkV K H ([], 0)) (fun H5 e5 Q' q' => ?_) fun v H5 e5 hq5 => k v H5 (e.trans (e3.trans (e4.trans e5))) (by unfold walkR; rw [hv]; exact hq5)
        refine ⟨Nat.zero_le _, fun l2 hl2 => ?_⟩
        refine ⟨by show 2 ≤ sizeLine; decide, fun t2 ht2 => ?_⟩
        refine q' _ _ ((Ex.new hl2).trans (Ex.new ht2)) ⟨t2, l2, rfl, .inl (.inl upd_same), Evl.fresh_back (e.trans (e3.trans (e4.trans e5))) hl2, ?_⟩
        have n2 : l2 ≠ t2 := fun z => by rw [z, upd_same] at ht2; cases ht2
        rw [upd_ne n2, upd_same]
        rfl
      · rw [if_neg (by simpa using hb)] at hv
        refine Evl.q_app (l := a) (xs := (pre ++ [q]).map V.int) (v := .int (stepF ts q s).1) (by walk_at "hp") (by walk_at "ev") (by walk_at "ev") (by simp; omega) fun H5 e5 => ?_
        refine Evl.s_aug (a := c) (b := (stepF ts q s).2) rfl (by walk_at "ev") fun H6 e6 => ?_
        refine ⟨pre ++ [q], (stepF ts q s).1, c + (stepF ts q s).2, _, _, _, rfl, ((e.trans (e3.trans (e4.trans e5))).mut hfr).trans e6, ?_, by simp; omega, hv⟩
        refine e6 _ _ ?_
        rw [upd_same]
        simp
  · rintro σ' H' ⟨pre, q, c, o1, o2, o3, rfl, e, ha, hi, hv⟩
    have hd : ss.drop us.length = [] := List.drop_of_length_le (by omega)
    rw [hd] at hv
    unfold walkA at hv
    dsimp only
    refine s_retP (P := WalkV K H (pre ++ [q], c)) ?_ fun v H5 e5 hq5 => ?_
    rotate_left
    · exact k v H5 (e.trans e5) (by unfold walkR; rw [hv]; exact hq5)
    intro H5 e5 Q' q'
    have ev : EvA (tCons (tVar 3) (tCons (tVar 4) tNil)) [some (.ref w), some (.int p), some (.ref l), some (.ref a), some (.int c), o1, o2, o3] H' [.ref a, .int c] := by walk_at "ev"
    refine ev H5 e5 _ fun H6 e6 => ⟨by show 2 ≤ sizeLine; decide, fun t2 ht2 => q' _ _ (e6.trans (Ex.new ht2)) ⟨t2, a, rfl, .inl (.inl upd_same), hfr, ?_⟩⟩
    have n2 : a ≠ t2 := ne_of_none (e6 _ _ (e5 _ _ ha)) ht2
    rw [upd_ne n2]
    exact e6 _ _ (e5 _ _ ha)
/-! ### is_straight -/
def straightF (ts : List Tie) (p : Int) (ss : List Step) (q : Int) : Bool := match walkF ts p ss with
  | some r => decide (r.1.getLast? = some q) && decide (ucount r.1 = r.1.length)
  | none => false
def sp_is_straight (K : PySem.W.Frag) : Sp := fun vs H Q _ => ∃ (w l : Addr) (p q : Int) (ss : List Step) (n turn : Int) (ts : List Tie), vs = [.ref w, .int p, .ref l, .int q] ∧ WebAt K H w n ts turn ∧ LStep K H l ss ∧ ss.length ≤ 3000 ∧ RetV (.bl (straightF ts p ss q)) H Q
theorem ev_is_straight {w l : Addr} {p q n turn : Int} {ss : List Step} {ts : List Tie} (h : EvA tl σ H [.ref w, .int p, .ref l, .int q]) (hw : WebAt K H w n ts turn) (hs : LStep K H l ss) (hl : ss.length ≤ 3000) : Ev (tCall (sp_is_straight K) [] E0 tl) σ H (.bl (straightF ts p ss q)) :=
  ev_call h fun H1 Q e k => ⟨w, l, p, q, ss, n, turn, ts, rfl, hw.mono e, hs.mono e, hl, k⟩
/-- the list of walked's answer -/
theorem ep_fst {r : List Int × Int} (h : EvP te σ H (WalkV K H r)) : EvP (tOp (rIxT K) te (tC (.int 0))) σ H (fun v H2 => ∃ l, v = .ref l ∧ H l = none ∧ H2 l = some (.lst (r.1.map V.int))) := fun H1 e Q q =>
  h H1 e _ fun v H2 e2 ⟨t, l, a, b, c, d⟩ => ⟨t, _, 0, .ref l, a, rfl, b, rfl, q _ H2 e2 ⟨l, rfl, c, d⟩⟩
theorem rd_is_straight (vs : List V) (H : Hp) (Q : VK) (E : XK) (h : sp_is_straight K vs H Q E) : goal (t_is_straight K) ["web", "start", "steps", "end", "points"] vs H Q := by
  obtain ⟨w, l, p, q, ss, n, turn, ts, rfl, hw, hs, hl, k⟩ := h
  refine q_asgP (ep_fst (ep_walked (w := w) (l := l) (p := p) (by walk_at "ev") hw hs hl)) fun v H1 e1 hv => ?_
  obtain ⟨a, rfl, fr, h1⟩ := hv
  refine Evl.s_ret (v := .bl (straightF ts p ss q)) ?_ fun H2 e2 => k H2 (e1.trans e2)
  unfold straightF
  unfold walkR at h1
  cases hc : walkF ts p ss with
  | none =>
    rw [hc] at h1
    have h1' : H1 a = some (.lst (([] : List Int).map V.int)) := h1
    clear h1
    exact Evl.ev_is (Evl.ev_andV (a := false) (b := true) (Evl.ev_is (v := .bl (decide ((0 : Int) < (([] : List Int).length : Int)))) (by walk_at "ev") (by rfl)) fun z => by cases z) (by rfl)
  | some r =>
    rw [hc] at h1
    obtain ⟨ps, c⟩ := r
    have h1' : H1 a = some (.lst (ps.map V.int)) := h1
    have hlen : ps.length = ss.length + 1 := by
      have := walkA_len hc
      simpa using this
    have hne : ps ≠ [] := fun z => by rw [z] at hlen; simp at hlen
    obtain ⟨m, hm⟩ : ∃ m, ps.getLast? = some m := ⟨ps.getLast hne, List.getLast?_eq_some_getLast hne⟩
    have hat : atI ps (-1) = some m := atI_lastOf hm
    refine Evl.ev_is (by walk_at "ev") ?_
    refine congrArg V.bl (Bool.eq_iff_iff.mpr ?_)
    simp [hm, hlen]
    intro _
    omega
end G

/-! Deep == of lists and tuples of ints. -/
namespace G
open PySem PySem.Spec PyProof.Rows L2
open Evl (Ex Ev EvL EvU EvT EvA RV RetV)
variable {K : PySem.W.Frag} {σ : L2.St} {H H' H1 : Hp} {ta tb tc te : TE} {t u : TT} {tl : TA} {v x y z : V}

mutual
theorem dp_mono (e : Ex H H') : ∀ (d : PyData) (v : V), Dp K H v d → Dp K H' v d
  | .none, _, h => by cases h; exact .non
  | .bool b, _, h => by cases h; exact .bl b
  | .int i, _, h => by cases h; exact .int i
  | .str s, _, h => by cases h; exact .str s
  | .list ds, _, h => by
    cases h with
    | lst q r => exact .lst (Evl.ex_l e q) (dpAll_mono e ds _ r)
  | .tuple ds, _, h => by
    cases h with
    | tup q r => exact .tup (Evl.ex_t e q) (dpAll_mono e ds _ r)
  | .dict ds, _, h => by cases h
theorem dpAll_mono (e : Ex H H') : ∀ (ds : List PyData) (vs : List V), DpAll K H vs ds → DpAll K H' vs ds
  | [], _, h => by cases h; exact .nil
  | d :: ds, _, h => by
    cases h with
    | cons q r => exact .cons (dp_mono e d _ q) (dpAll_mono e ds _ r)
end
abbrev EvD (K : PySem.W.Frag) (te : TE) (σ : L2.St) (H : Hp) (d : PyData) : Prop := EvP te σ H (fun v H2 => Dp K H2 v d)
theorem ev_eqD {d e : PyData} (h1 : EvD K ta σ H d) (h2 : EvD K tb σ H e) (s1 : SeqAt.shaped d = true) (s2 : SeqAt.shaped e = true) : Ev (tOp (rEqD K) ta tb) σ H (.bl (PyData.eqv d e)) := fun H1 a Q q =>
  h1 H1 a _ fun v H2 a2 p => h2 H2 (a.trans a2) _ fun w H3 a3 p2 => ⟨d, e, dp_mono a3 _ _ p, p2, s1, s2, q H3 (a2.trans a3)⟩
theorem ev_neD {d e : PyData} (h1 : EvD K ta σ H d) (h2 : EvD K tb σ H e) (s1 : SeqAt.shaped d = true) (s2 : SeqAt.shaped e = true) : Ev (tOp (rNeD K) ta tb) σ H (.bl (!PyData.eqv d e)) := fun H1 a Q q =>
  h1 H1 a _ fun v H2 a2 p => h2 H2 (a.trans a2) _ fun w H3 a3 p2 => ⟨d, e, dp_mono a3 _ _ p, p2, s1, s2, q H3 (a2.trans a3)⟩
def tupD (xs : List Int) : PyData := .tuple (xs.map .int)
def intsD (xs : List Int) : PyData := .list (xs.map .int)
def tupsD (xss : List (List Int)) : PyData := .list (xss.map tupD)
theorem lay_ints : ∀ xs : List Int, PyData.canLayAll0 (xs.map .int) = true
  | [] => by simp [PyData.canLayAll0]
  | x :: xs => by simp [PyData.canLayAll0, PyData.canLay0, lay_ints xs]
theorem dep_ints : ∀ xs : List Int, PyData.depthAll (xs.map .int) ≤ 1
  | [] => by simp [PyData.depthAll]
  | x :: xs => by
    have h := dep_ints xs
    simp only [List.map_cons, PyData.depthAll, PyData.depth]
    omega
theorem lay_tups : ∀ xss : List (List Int), PyData.canLayAll0 (xss.map tupD) = true
  | [] => by simp [PyData.canLayAll0]
  | x :: xs => by simp [PyData.canLayAll0, tupD, PyData.canLay0, lay_ints x, lay_tups xs]
theorem dep_tups : ∀ xss : List (List Int), PyData.depthAll (xss.map tupD) ≤ 2
  | [] => by simp [PyData.depthAll]
  | x :: xs => by
    have h := dep_tups xs
    have h2 := dep_ints x
    simp only [List.map_cons, PyData.depthAll, tupD, PyData.depth]
    omega
theorem shp {d : PyData} (h1 : d.canLay0 = true) (h2 : d.depth ≤ 64) : SeqAt.shaped d = true := by
  unfold SeqAt.shaped
  rw [h1, decide_eq_true h2]
  rfl
theorem shp_tup (xs : List Int) : SeqAt.shaped (tupD xs) = true := shp (by simp only [tupD, PyData.canLay0]; exact lay_ints xs) (by have := dep_ints xs; simp only [tupD, PyData.depth]; omega)
theorem shp_ints (xs : List Int) : SeqAt.shaped (intsD xs) = true := shp (by simp only [intsD, PyData.canLay0]; exact lay_ints xs) (by have := dep_ints xs; simp only [intsD, PyData.depth]; omega)
theorem shp_tups (xs : List (List Int)) : SeqAt.shaped (tupsD xs) = true := shp (by simp only [tupsD, PyData.canLay0]; exact lay_tups xs) (by have := dep_tups xs; simp only [tupsD, PyData.depth]; omega)
theorem eqv_ints : ∀ xs ys : List Int, PyData.eqvAll (xs.map .int) (ys.map .int) = decide (xs = ys)
  | [], [] => by simp [PyData.eqvAll]
  | [], y :: ys => by simp [PyData.eqvAll]
  | x :: xs, [] => by simp [PyData.eqvAll]
  | x :: xs, y :: ys => by
    simp only [List.map_cons, PyData.eqvAll, PyData.eqv, eqv_ints xs ys]
    rw [Bool.eq_iff_iff]
    simp
theorem eqv_tup (xs ys : List Int) : PyData.eqv (tupD xs) (tupD ys) = decide (xs = ys) := by
  simp only [tupD, PyData.eqv]
  exact eqv_ints xs ys
theorem eqv_intsD (xs ys : List Int) : PyData.eqv (intsD xs) (intsD ys) = decide (xs = ys) := by
  simp only [intsD, PyData.eqv]
  exact eqv_ints xs ys
theorem eqv_tups : ∀ xs ys : List (List Int), PyData.eqvAll (xs.map tupD) (ys.map tupD) = decide (xs = ys)
  | [], [] => by simp [PyData.eqvAll]
  | [], y :: ys => by simp [PyData.eqvAll]
  | x :: xs, [] => by simp [PyData.eqvAll]
  | x :: xs, y :: ys => by
    simp only [List.map_cons, PyData.eqvAll, eqv_tup, eqv_tups xs ys]
    rw [Bool.eq_iff_iff]
    simp
theorem eqv_tupsD (xs ys : List (List Int)) : PyData.eqv (tupsD xs) (tupsD ys) = decide (xs = ys) := by
  simp only [tupsD, PyData.eqv]
  exact eqv_tups xs ys
theorem dpAll_ints : ∀ xs : List Int, DpAll K H (xs.map V.int) (xs.map .int)
  | [] => .nil
  | x :: xs => .cons (.int x) (dpAll_ints xs)
theorem dp_tup {xs : List Int} (h : TupI K H v xs) : Dp K H v (tupD xs) := by
  obtain ⟨t, rfl, h⟩ := h
  exact .tup h (dpAll_ints xs)
theorem dp_ints {a : Addr} {xs : List Int} (h : LI K H a xs) : Dp K H (.ref a) (intsD xs) := .lst h (dpAll_ints xs)
theorem dpAll_tups : ∀ {vs : List V} {xss : List (List Int)}, TupL K H vs xss → DpAll K H vs (xss.map tupD)
  | _, _, .nil => .nil
  | _, _, .cons h t => .cons (dp_tup h) (dpAll_tups t)
theorem dp_tups {a : Addr} {xss : List (List Int)} (h : LT K H a xss) : Dp K H (.ref a) (tupsD xss) := by
  obtain ⟨vs, h1, h2⟩ := h
  exact .lst h1 (dpAll_tups h2)
/-- == and != of tuples of ints -/
theorem ev_eqTup {xs ys : List Int} (h1 : EvI K ta σ H xs) (h2 : EvI K tb σ H ys) : Ev (tOp (rEqD K) ta tb) σ H (.bl (decide (xs = ys))) := by
  rw [← eqv_tup]
  exact ev_eqD (EvP.imp h1 fun _ _ _ h => dp_tup h) (EvP.imp h2 fun _ _ _ h => dp_tup h) (shp_tup _) (shp_tup _)
theorem ev_neTup {xs ys : List Int} (h1 : EvI K ta σ H xs) (h2 : EvI K tb σ H ys) : Ev (tOp (rNeD K) ta tb) σ H (.bl (!decide (xs = ys))) := by
  rw [← eqv_tup]
  exact ev_neD (EvP.imp h1 fun _ _ _ h => dp_tup h) (EvP.imp h2 fun _ _ _ h => dp_tup h) (shp_tup _) (shp_tup _)
/-- a list of ints told as an expression -/
abbrev EvLI (K : PySem.W.Frag) (te : TE) (σ : L2.St) (H : Hp) (xs : List Int) : Prop := EvP te σ H (fun v H2 => ∃ a, v = .ref a ∧ LI K H2 a xs)
abbrev EvLT (K : PySem.W.Frag) (te : TE) (σ : L2.St) (H : Hp) (xs : List (List Int)) : Prop := EvP te σ H (fun v H2 => ∃ a, v = .ref a ∧ LT K H2 a xs)
theorem ev_eqLI {xs ys : List Int} (h1 : EvLI K ta σ H xs) (h2 : EvLI K tb σ H ys) : Ev (tOp (rEqD K) ta tb) σ H (.bl (decide (xs = ys))) := by
  rw [← eqv_intsD]
  exact ev_eqD (EvP.imp h1 fun _ _ _ ⟨_, e, h⟩ => e ▸ dp_ints h) (EvP.imp h2 fun _ _ _ ⟨_, e, h⟩ => e ▸ dp_ints h) (shp_ints _) (shp_ints _)
theorem ev_neLI {xs ys : List Int} (h1 : EvLI K ta σ H xs) (h2 : EvLI K tb σ H ys) : Ev (tOp (rNeD K) ta tb) σ H (.bl (!decide (xs = ys))) := by
  rw [← eqv_intsD]
  exact ev_neD (EvP.imp h1 fun _ _ _ ⟨_, e, h⟩ => e ▸ dp_ints h) (EvP.imp h2 fun _ _ _ ⟨_, e, h⟩ => e ▸ dp_ints h) (shp_ints _) (shp_ints _)
theorem ev_eqLT {xs ys : List (List Int)} (h1 : EvLT K ta σ H xs) (h2 : EvLT K tb σ H ys) : Ev (tOp (rEqD K) ta tb) σ H (.bl (decide (xs = ys))) := by
  rw [← eqv_tupsD]
  exact ev_eqD (EvP.imp h1 fun _ _ _ ⟨_, e, h⟩ => e ▸ dp_tups h) (EvP.imp h2 fun _ _ _ ⟨_, e, h⟩ => e ▸ dp_tups h) (shp_tups _) (shp_tups _)
theorem ev_neLT {xs ys : List (List Int)} (h1 : EvLT K ta σ H xs) (h2 : EvLT K tb σ H ys) : Ev (tOp (rNeD K) ta tb) σ H (.bl (!decide (xs = ys))) := by
  rw [← eqv_tupsD]
  exact ev_neD (EvP.imp h1 fun _ _ _ ⟨_, e, h⟩ => e ▸ dp_tups h) (EvP.imp h2 fun _ _ _ ⟨_, e, h⟩ => e ▸ dp_tups h) (shp_tups _) (shp_tups _)

/-! ### dicts from ints to tuples of ints -/
inductive DTup (K : PySem.W.Frag) (H : Hp) : List (Key × V) → List (Int × List Int) → Prop
  | nil : DTup K H [] []
  | cons {k : Int} {v : V} {x : List Int} {kvs : List (Key × V)} {cs : List (Int × List Int)} : TupI K H v x → DTup K H kvs cs → DTup K H ((Sum.inl k, v) :: kvs) ((k, x) :: cs)
theorem DTup.mono (e : Ex H H') : ∀ {kvs : List (Key × V)} {cs : List (Int × List Int)}, DTup K H kvs cs → DTup K H' kvs cs
  | _, _, .nil => .nil
  | _, _, .cons h t => .cons (h.mono e) (DTup.mono e t)
theorem DTup.length : ∀ {kvs : List (Key × V)} {cs : List (Int × List Int)}, DTup K H kvs cs → kvs.length = cs.length
  | _, _, .nil => rfl
  | _, _, .cons _ t => congrArg Nat.succ t.length
theorem DTup.snoc {k : Int} {w : V} {x : List Int} (q : TupI K H w x) : ∀ {kvs : List (Key × V)} {cs : List (Int × List Int)}, DTup K H kvs cs → DTup K H (kvs ++ [(Sum.inl k, w)]) (cs ++ [(k, x)])
  | _, _, .nil => .cons q .nil
  | _, _, .cons h t => .cons h (DTup.snoc q t)
theorem DTup.look {k : Int} : ∀ {kvs : List (Key × V)} {cs : List (Int × List Int)}, DTup K H kvs cs → (∀ x, cs.lookup k = some x → ∃ w, valV kvs (Sum.inl k) = some w ∧ TupI K H w x) ∧ (cs.lookup k = none → valV kvs (Sum.inl k) = none)
  | _, _, .nil => ⟨fun x h => by simp at h, fun _ => rfl⟩
  | _, _, .cons (k := j) (v := w) (x := x) (kvs := kvs) (cs := cs) h t => by
    by_cases hj : k = j
    · subst hj
      refine ⟨fun y hy => ?_, fun hy => ?_⟩
      · simp at hy
        subst hy
        exact ⟨w, valV_pos rfl, h⟩
      · simp at hy
    · have hb : (k == j) = false := by simpa using hj
      have hv : valV ((Sum.inl j, w) :: kvs : List (Key × V)) (Sum.inl k) = valV kvs (Sum.inl k) := valV_neg (fun z => hj (Sum.inl.inj z).symm)
      rw [hv]
      simp only [List.lookup, hb]
      exact t.look
theorem DTup.isSome {k : Int} {kvs : List (Key × V)} {cs : List (Int × List Int)} (h : DTup K H kvs cs) : (valV kvs (Sum.inl k)).isSome = (cs.lookup k).isSome := by
  cases e : cs.lookup k with
  | none =>
    rw [h.look.2 e]
    rfl
  | some x =>
    obtain ⟨w, hw, _⟩ := h.look.1 x e
    rw [hw]
    rfl
theorem DTup.keys : ∀ {kvs : List (Key × V)} {cs : List (Int × List Int)}, DTup K H kvs cs → kvs.map (·.1) = (cs.map (·.1)).map Sum.inl
  | _, _, .nil => rfl
  | _, _, .cons _ t => by
    simp only [List.map_cons]
    rw [t.keys]
theorem look_mem {α : Type} {k : Int} : ∀ {cs : List (Int × α)}, (cs.lookup k).isSome = true ↔ k ∈ cs.map (·.1)
  | [] => by simp
  | (j, x) :: cs => by
    by_cases hj : k = j
    · subst hj
      simp
    · have hb : (k == j) = false := by simpa using hj
      simp only [List.lookup, hb, List.map_cons, List.mem_cons]
      rw [look_mem]
      simp [hj]
theorem look_none {α : Type} {k : Int} {cs : List (Int × α)} : cs.lookup k = none ↔ k ∉ cs.map (·.1) := by
  rw [← look_mem]
  cases cs.lookup k <;> simp
theorem look_app {α : Type} {k : Int} (ds : List (Int × α)) : ∀ {cs : List (Int × α)}, (cs ++ ds).lookup k = if (cs.lookup k).isSome then cs.lookup k else ds.lookup k
  | [] => by simp
  | (j, x) :: cs => by
    by_cases hj : k = j
    · subst hj
      simp
    · have hb : (k == j) = false := by simpa using hj
      simp only [List.cons_append, List.lookup, hb]
      exact look_app ds
theorem ei_dget {a : Addr} {kvs : List (Key × V)} {cs : List (Int × List Int)} {i : Int} {x : List Int} (ha : Ev ta σ H (.ref a)) (hb : Ev tb σ H (.int i)) (h : Rd H a (.dK kvs)) (ht : DTup K H kvs cs) (hi : cs.lookup i = some x) : EvI K (tDGet ta tb) σ H x := by
  obtain ⟨w, hw, tw⟩ := ht.look.1 x hi
  exact evi_of (ev_dget ha hb h hw) tw
theorem ev_dinC {a : Addr} {kvs : List (Key × V)} {cs : List (Int × List Int)} {i : Int} (ha : Ev ta σ H (.int i)) (hb : Ev tb σ H (.ref a)) (h : Rd H a (.dK kvs)) (ht : DTup K H kvs cs) : Ev (tDIn ta tb) σ H (.bl (decide (i ∈ cs.map (·.1)))) := by
  have e := ev_din ha hb h
  have q : (valV kvs (Sum.inl i)).isSome = decide (i ∈ cs.map (·.1)) := by
    rw [ht.isSome, Bool.eq_iff_iff, decide_eq_true_iff]
    exact look_mem
  rw [q] at e
  exact e
theorem ev_dnotinC {a : Addr} {kvs : List (Key × V)} {cs : List (Int × List Int)} {i : Int} (ha : Ev ta σ H (.int i)) (hb : Ev tb σ H (.ref a)) (h : Rd H a (.dK kvs)) (ht : DTup K H kvs cs) : Ev (tDNotIn ta tb) σ H (.bl (!decide (i ∈ cs.map (·.1)))) := by
  have e := ev_dnotin ha hb h
  have q : (valV kvs (Sum.inl i)).isSome = decide (i ∈ cs.map (·.1)) := by
    rw [ht.isSome, Bool.eq_iff_iff, decide_eq_true_iff]
    exact look_mem
  rw [q] at e
  exact e
end G

/-! Webs as graphs: beside, reached, way_back. -/
namespace G
open PySem PySem.Spec PyProof.Rows L2
open Evl (Ex Ev EvL EvU EvT EvA RV RetV)
local macro_rules | `(tactic| walk_at "hp") => `(tactic| first
  | with_reducible assumption
  | ((with_reducible show _ = some (_ : HO)); (with_reducible exact ex_app (by assumption) (by walk_at "hp")))
  | ((with_reducible show TupI _ _ _ _); (with_reducible exact TupI.mono (by assumption) (by walk_at "hp")))
  | ((with_reducible show LT _ _ _ _); (with_reducible exact LT.mono (by assumption) (by walk_at "hp")))
  | ((with_reducible show LI _ _ _ _); (first | (with_reducible exact li_of (by walk_at "hp")) | (with_reducible exact LI.mono (by assumption) (by walk_at "hp"))))
  | ((with_reducible show SqL _ _ _ _); (first | (with_reducible exact SqL.of (by walk_at "hp")) | (with_reducible exact Evl.ex_l (by assumption) (by walk_at "hp"))))
  | ((with_reducible show SqT _ _ _ _); (first | (with_reducible exact SqT.of (by walk_at "hp")) | (with_reducible exact Evl.ex_t (by assumption) (by walk_at "hp"))))
  | ((with_reducible show Rd _ _ _); (first | (with_reducible exact Rd.of (by walk_at "hp")) | (with_reducible exact Evl.ex_rd (by assumption) (by walk_at "hp"))))
  | walk_at "hpf")
local macro_rules | `(tactic| walk_at "at") => `(tactic| first
  | with_reducible assumption
  | with_reducible rfl
  | (refine atI_of ?va ?vb; (case va => omega); (case vb => assumption))
  | walk_at "atf"
  | rfl)
local macro_rules | `(tactic| walk_at "rv") => `(tactic| first
  | with_reducible exact rv_add | with_reducible exact rv_sub | with_reducible exact rv_eqI | with_reducible exact rv_neI | with_reducible exact rv_lt | with_reducible exact rv_le | with_reducible exact rv_gt | with_reducible exact rv_ge
  | with_reducible exact rv_eqB | with_reducible exact rv_neB | with_reducible exact rv_isB | with_reducible exact rv_notB
  | ((with_reducible refine rv_mod ?_); (first | assumption | omega))
  | ((with_reducible refine rv_mul ?_); (first | exact Or.inl ⟨by omega, by omega⟩ | exact Or.inr ⟨by omega, by omega⟩))
  | ((with_reducible refine rv_div ?_); exact ⟨by omega, by omega⟩))
local macro_rules | `(tactic| walk_at "ty") => `(tactic| first
  | with_reducible exact fun _ _ => .base (.int _) | with_reducible exact fun _ _ => .base (.bl _) | with_reducible exact fun _ _ => .base .non | with_reducible exact fun _ _ => .base (.str _)
  | ((with_reducible apply ty_tup); walk_at "hp")
  | ((with_reducible apply ty_lst); walk_at "hp")
  | walk_at "tyf")
local macro_rules | `(tactic| walk_at "ev") => `(tactic| repeat' (first
  | with_reducible exact Evl.ev_c
  | ((with_reducible apply Evl.ev_var); rfl)
  | with_reducible apply ev_neg
  | with_reducible apply ev_ixU
  | walk_at "evf"
  | ((with_reducible apply ev_lenI); (· walk_at "ev"); (· walk_at "hp"))
  | ((with_reducible apply ev_lenT); (· walk_at "ev"); (· walk_at "hp"))
  | ((with_reducible apply ev_lenU); (· walk_at "ev"))
  | with_reducible apply ev_lenSet
  | with_reducible apply ev_chain
  | with_reducible apply ev_isiTy
  | with_reducible apply Evl.ev_andV
  | with_reducible apply Evl.ev_orV
  | with_reducible apply Evl.ev_notV
  | ((with_reducible apply ev_ixI); (· walk_at "ev"); (· walk_at "ev"); (· walk_at "hp"); (· walk_at "at"))
  | with_reducible apply Evl.ev_op
  | ((with_reducible apply evi_of); (· (with_reducible apply Evl.ev_var); rfl); (· walk_at "hp"))
  | with_reducible apply ei_ix
  | with_reducible apply ei_tup
  | with_reducible exact eai_nil
  | with_reducible apply eai_cons
  | with_reducible exact Evl.ea_nil
  | with_reducible apply Evl.ea_cons
  | with_reducible apply Evl.et_test
  | with_reducible apply Evl.et_and
  | with_reducible apply Evl.et_or
  | with_reducible apply Evl.et_not
  | with_reducible apply Evl.et_B
  | walk_at "rv"
  | ((with_reducible show L2.kitB _ _ = _); rfl)
  | ((with_reducible show L2.atI _ _ = _); walk_at "at")
  | ((with_reducible show (_ : Nat) ≤ _); (first | omega | (simp; done) | (simp; omega)))
  | ((with_reducible show _ = true → _); intro _)
  | ((with_reducible show _ = false → _); intro _)
  | ((with_reducible show TupI _ _ _ _); walk_at "hp")
  | ((with_reducible show LT _ _ _ _); walk_at "hp")
  | ((with_reducible show LI _ _ _ _); walk_at "hp")
  | ((with_reducible show SqL _ _ _ _); walk_at "hp")
  | ((with_reducible show SqT _ _ _ _); walk_at "hp")
  | ((with_reducible show Rd _ _ _); walk_at "hp")
  | ((with_reducible show _ = some (_ : HO)); walk_at "hp")
  | walk_at "hpg"
  | walk_at "ty"))

local macro_rules | `(tactic| walk_at "hpf") => `(tactic| ((with_reducible show WebAt _ _ _ _ _ _); (with_reducible exact WebAt.mono (by assumption) (by walk_at "hp"))))
local macro_rules | `(tactic| walk_at "hpg") => `(tactic| ((with_reducible show WebAt _ _ _ _ _ _); walk_at "hp"))
local macro_rules | `(tactic| walk_at "evf") => `(tactic| with_reducible apply ev_points)
local macro_rules | `(tactic| walk_at "evf") => `(tactic| with_reducible apply ev_turn)
local macro_rules | `(tactic| walk_at "evf") => `(tactic| with_reducible apply ev_lenB)
local macro_rules | `(tactic| walk_at "evf") => `(tactic| with_reducible apply ei_bound)
local macro_rules | `(tactic| walk_at "evf") => `(tactic| with_reducible apply ev_is_whole)
local macro_rules | `(tactic| walk_at "evf") => `(tactic| with_reducible apply ev_is_below)
local macro_rules | `(tactic| walk_at "evf") => `(tactic| with_reducible apply ev_is_tie)
local macro_rules | `(tactic| walk_at "evf") => `(tactic| with_reducible apply ei_stepped)
variable {K : PySem.W.Frag} {σ : L2.St} {H H' H1 : Hp} {ta tb tc te : TE} {t u : TT} {tl : TA} {v x y z : V}

/-! ### a list of lists of steps -/
structure Rows (K : PySem.W.Frag) (H : Hp) (ps : List Addr) (rows : List (List Step)) : Prop where
  len : ps.length = rows.length
  nd : ps.Nodup
  at_ : ∀ (i : Nat) (p : Addr) (row : List Step), ps[i]? = some p → rows[i]? = some row → ∃ vs, H p = some (.lst vs) ∧ TupL K H vs (row.map stepL)
theorem Rows.mono {ps : List Addr} {rows : List (List Step)} (e : Ex H H') (h : Rows K H ps rows) : Rows K H' ps rows :=
  ⟨h.len, h.nd, fun i p row a b => by
    obtain ⟨vs, c, d⟩ := h.at_ i p row a b
    exact ⟨vs, e _ _ c, d.mono e⟩⟩
def setApp (rows : List (List Step)) (a : Int) (s : Step) : List (List Step) := rows.set a.toNat (rows.getD a.toNat [] ++ [s])
theorem setApp_len (rows : List (List Step)) (a : Int) (s : Step) : (setApp rows a s).length = rows.length := by simp [setApp]
theorem Rows.app {ps : List Addr} {rows : List (List Step)} {a : Int} {p : Addr} {s : Step} (h : Rows K H ps rows) (hp : ps[a.toNat]? = some p) (hv : TupI K H v (stepL s)) :
    ∃ vs, H p = some (.lst vs) ∧ Rows K (upd H p (.lst (vs ++ [v]))) ps (setApp rows a s) := by
  have hl : a.toNat < ps.length := (List.getElem?_eq_some_iff.mp hp).1
  have hr : rows[a.toNat]? = some (rows.getD a.toNat []) := by
    rw [List.getD_eq_getElem?_getD, List.getElem?_eq_getElem (by rw [← h.len]; exact hl)]
    rfl
  obtain ⟨vs, h1, h2⟩ := h.at_ _ _ _ hp hr
  refine ⟨vs, h1, ⟨by rw [setApp_len]; exact h.len, h.nd, fun i q row hq hrow => ?_⟩⟩
  by_cases hi : i = a.toNat
  · subst hi
    rw [hp] at hq
    cases hq
    have er : row = rows.getD a.toNat [] ++ [s] := by
      unfold setApp at hrow
      rw [List.getElem?_set_self (by rw [← h.len]; exact hl)] at hrow
      exact (Option.some.inj hrow).symm
    rw [er]
    refine ⟨_, upd_same, ?_⟩
    rw [List.map_append]
    exact (h2.updL h1).snoc (hv.updL h1)
  · have hrow' : rows[i]? = some row := by
      unfold setApp at hrow
      rw [List.getElem?_set_ne (Ne.symm hi)] at hrow
      exact hrow
    obtain ⟨ws, g1, g2⟩ := h.at_ i q row hq hrow'
    have nq : q ≠ p := fun z => by
      subst z
      obtain ⟨l1, e1⟩ := List.getElem?_eq_some_iff.mp hq
      obtain ⟨l2, e2⟩ := List.getElem?_eq_some_iff.mp hp
      exact hi ((List.getElem_inj h.nd).mp (e1.trans e2.symm))
    exact ⟨ws, by rw [upd_ne nq]; exact g1, g2.updL h1⟩
theorem Rows.app2 {ps : List Addr} {rows : List (List Step)} {a : Int} {p : Addr} {s : Step} {vs : List V} (h : Rows K H ps rows) (hp : ps[a.toNat]? = some p) (h1 : H p = some (.lst vs)) (hv : TupI K H v (stepL s)) :
    Rows K (upd H p (.lst (vs ++ [v]))) ps (setApp rows a s) := by
  obtain ⟨ws, q1, q2⟩ := h.app hp hv
  have e : ws = vs := by
    rw [q1] at h1
    cases h1
    rfl
  rw [← e]
  exact q2
theorem Rows.lst {ps : List Addr} {rows : List (List Step)} {a : Nat} {p : Addr} (h : Rows K H ps rows) (hp : ps[a]? = some p) : ∃ vs, H p = some (.lst vs) ∧ TupL K H vs ((rows.getD a []).map stepL) := by
  have hl : a < ps.length := (List.getElem?_eq_some_iff.mp hp).1
  refine h.at_ _ _ _ hp ?_
  rw [List.getD_eq_getElem?_getD, List.getElem?_eq_getElem (by rw [← h.len]; exact hl)]
  rfl
def NearAt (K : PySem.W.Frag) (H : Hp) (l : Addr) (rows : List (List Step)) : Prop := ∃ ps : List Addr, H l = some (.lst (ps.map V.ref)) ∧ Rows K H ps rows
theorem NearAt.mono {l : Addr} {rows : List (List Step)} (e : Ex H H') (h : NearAt K H l rows) : NearAt K H' l rows := by
  obtain ⟨ps, a, b⟩ := h
  exact ⟨ps, e _ _ a, b.mono e⟩

/-! ### beside -/
abbrev OkT := Nat → Tie → Bool
def addT (ok : OkT) (i : Nat) (t : Tie) (rows : List (List Step)) : List (List Step) :=
  if ok i t then setApp (setApp rows t.1 ((i : Int), 1)) t.2.1 ((i : Int), -1) else rows
def rowsUp (ok : OkT) (n : Int) (ts : List Tie) : Nat → List (List Step)
  | 0 => List.replicate n.toNat []
  | i + 1 => match ts[i]? with
    | some t => addT ok i t (rowsUp ok n ts i)
    | none => rowsUp ok n ts i
theorem rowsUp_len (ok : OkT) (n : Int) (ts : List Tie) : ∀ i, (rowsUp ok n ts i).length = n.toNat
  | 0 => List.length_replicate
  | i + 1 => by
    unfold rowsUp
    cases ts[i]? with
    | none => exact rowsUp_len ok n ts i
    | some t =>
      show (addT ok i t (rowsUp ok n ts i)).length = n.toNat
      unfold addT
      split
      · rw [setApp_len, setApp_len]
        exact rowsUp_len ok n ts i
      · exact rowsUp_len ok n ts i
theorem setApp_row (rows : List (List Step)) (a : Int) (s : Step) (j : Nat) : ((setApp rows a s).getD j []).length ≤ (rows.getD j []).length + 1 := by
  unfold setApp
  rw [List.getD_eq_getElem?_getD, List.getElem?_set]
  split
  · rename_i h
    subst h
    split
    · simp
    · simp
  · rw [← List.getD_eq_getElem?_getD]
    omega
theorem rowsUp_row (ok : OkT) (n : Int) (ts : List Tie) (j : Nat) : ∀ i, ((rowsUp ok n ts i).getD j []).length ≤ 2 * i
  | 0 => by
    unfold rowsUp
    rw [List.getD_eq_getElem?_getD, List.getElem?_replicate]
    split <;> simp
  | i + 1 => by
    have ih := rowsUp_row ok n ts j i
    unfold rowsUp
    cases ts[i]? with
    | none => exact Nat.le_trans ih (by omega)
    | some t =>
      show ((addT ok i t (rowsUp ok n ts i)).getD j []).length ≤ 2 * (i + 1)
      unfold addT
      split
      · have h1 := setApp_row (setApp (rowsUp ok n ts i) t.1 ((i : Int), 1)) t.2.1 ((i : Int), -1) j
        have h2 := setApp_row (rowsUp ok n ts i) t.1 ((i : Int), 1) j
        omega
      · omega
def okF (skip : Int) (fr : Bool) (turn : Int) : OkT := fun i t => decide ((i : Int) ≠ skip) && (!fr || noughtF turn t.2.2)
def Valid (n : Int) (ts : List Tie) : Prop := ∀ t ∈ ts, (0 ≤ t.1 ∧ t.1 < n) ∧ (0 ≤ t.2.1 ∧ t.2.1 < n) ∧ t.1 ≠ t.2.1
def nearF (skip : Int) (fr : Bool) (n turn : Int) (ts : List Tie) : List (List Step) := rowsUp (okF skip fr turn) n ts ts.length
def sp_beside (K : PySem.W.Frag) : Sp := fun vs H Q _ => ∃ (w : Addr) (skip n turn : Int) (fr : Bool) (ts : List Tie), vs = [.ref w, .int skip, .bl fr] ∧ WebAt K H w n ts turn ∧ (0 ≤ n ∧ n ≤ 5000) ∧ 0 ≤ turn ∧ ts.length ≤ 5000 ∧ Valid n ts ∧
  RetP (fun v H2 => ∃ l, v = .ref l ∧ NearAt K H2 l (nearF skip fr n turn ts)) H Q
theorem ep_beside {w : Addr} {skip n turn : Int} {fr : Bool} {ts : List Tie} (h : EvA tl σ H [.ref w, .int skip, .bl fr]) (hw : WebAt K H w n ts turn) (hn : 0 ≤ n ∧ n ≤ 5000) (h0 : 0 ≤ turn) (hl : ts.length ≤ 5000) (hv : Valid n ts) :
    EvP (tCall (sp_beside K) [] E0 tl) σ H (fun v H2 => ∃ l, v = .ref l ∧ NearAt K H2 l (nearF skip fr n turn ts)) :=
  ep_call h fun H1 Q e k => ⟨w, skip, n, turn, fr, ts, rfl, hw.mono e, hn, h0, hl, hv, k⟩
def t_beside (K : PySem.W.Frag) : TS :=
 (tSeq (tAsg (tLc (iRng1 (tCons (tFld K (tVar 0) "points") tNil)) (gName 6) tYes (tLst tNil) [6]) (gName 3))
 (tSeq (tFor (iEnum K (tCons (tFld K (tVar 0) "bound") tNil)) (gTup K 2 (gCons (gName 4) (gCons (gName 5) gNil))) (tIfS (tAnd (tTest (tOp rNe (tVar 4) (tVar 1))) (tOr (tNot (tB (tVar 2))) (tB (tMeth (ga K "Web") "is_nought" (sp_Web_is_nought K) [] E0 (tVar 0) (tCons (tOp (rIxT K) (tVar 5) (tC (.int 2))) tNil))))) (tSeq (tDrop (tBM K "list" rAppend (tOp (rIxL K) (tVar 3) (tOp (rIxT K) (tVar 5) (tC (.int 0)))) (tCons (tTup (tCons (tVar 4) (tCons (tC (.int 1)) tNil))) tNil)))
 (tDrop (tBM K "list" rAppend (tOp (rIxL K) (tVar 3) (tOp (rIxT K) (tVar 5) (tC (.int 1)))) (tCons (tTup (tCons (tVar 4) (tCons (tUn rNegI (tC (.int 1))) tNil))) tNil)))) tNext))
 (tRet (tVar 3))))
theorem rd_beside (vs : List V) (H : Hp) (Q : VK) (E : XK) (h : sp_beside K vs H Q E) : goal (t_beside K) ["web", "skipped", "friends", "found", "at", "tie", "point"] vs H Q := by
  obtain ⟨w, skip, n, turn, fr, ts, rfl, hw, hn, h0, hl, hv, k⟩ := h
  refine q_asgP (P := fun v H2 => ∃ (l : Addr) (ps : List Addr), v = .ref l ∧ H l = none ∧ H2 l = some (.lst (ps.map V.ref)) ∧ ps.length = n.toNat ∧ ps.Nodup ∧ l ∉ ps ∧ ∀ p ∈ ps, H p = none ∧ H2 p = some (.lst [])) ?_ fun v H1 e1 hv1 => ?_
  · refine (lc_gen (G := fun _ => True) (n := n.toNat) (fun H1 e R q => ?_) (walk_range (lo := 0)) (by omega)
      (fun Dl i acc H2 => ∃ ps : List Addr, acc = ps.map V.ref ∧ ps.length = i ∧ ps.Nodup ∧ Dl ∉ ps ∧ ∀ p ∈ ps, H p = none ∧ H2 p = some (.lst [])) (fun Dl i acc ys zs H1 b hD => ?_) (fun Dl H1 e _ => ⟨[], rfl, rfl, List.nodup_nil, by simp, by simp⟩) (fun _ _ => trivial) fun Dl i x H1 H2 acc Q hi e fr1 hD b y q => ?_).imp fun v H2 e hp => ?_
    · have ev : EvA (tCons (tFld K (tVar 0) "points") tNil) (L2.start ["web", "skipped", "friends", "found", "at", "tie", "point"] [V.ref w, V.int skip, V.bl fr]) H1 [.int n] := by walk_at "ev"
      exact ev H1 (Ex.refl H1) _ fun H2 e2 => ⟨n, rfl, by omega, by omega, q H2 e2⟩
    · obtain ⟨ps, a1, a2, a3, a4, a5⟩ := b
      exact ⟨ps, a1, a2, a3, a4, fun p hp => ⟨(a5 p hp).1, by rw [upd_ne (by rintro rfl; exact a4 hp)]; exact (a5 p hp).2⟩⟩
    · obtain ⟨rfl, rfl⟩ := y
      obtain ⟨ps, a1, a2, a3, a4, a5⟩ := b
      refine turn1 (P := fun v H3 => ∃ p, v = .ref p ∧ H2 p = none ∧ H3 p = some (.lst [])) rfl (fun H3 e3 Q' q' => ?_) fun v H3 e3 hv3 => ?_
      · exact ⟨Nat.zero_le _, fun p hp => q' _ _ (Ex.new hp) ⟨p, rfl, Evl.fresh_back e3 hp, upd_same⟩⟩
      · obtain ⟨p, rfl, p1, p2⟩ := hv3
        have np : p ∉ ps := fun z => by
          have := (a5 p z).2
          rw [p1] at this
          cases this
        refine q _ H3 e3 ⟨ps ++ [p], by rw [a1, List.map_append]; rfl, by rw [List.length_append, a2]; rfl, ?_, ?_, fun c hc => ?_⟩
        · rw [List.nodup_append]
          exact ⟨a3, by simp, fun a ha b hb => by simp at hb; subst hb; exact fun z => np (z ▸ ha)⟩
        · simp only [List.mem_append, List.mem_singleton, not_or]
          exact ⟨a4, fun z => by rw [← z, hD] at p1; cases p1⟩
        · rcases List.mem_append.mp hc with hc | hc
          · exact ⟨(a5 c hc).1, e3 _ _ (a5 c hc).2⟩
          · have : c = p := by simpa using hc
            subst this
            exact ⟨Evl.fresh_back e p1, p2⟩
    · obtain ⟨p, acc, rfl, f1, f2, f3, ps, a1, a2, a3, a4, a5⟩ := hp
      exact ⟨p, ps, rfl, f1, by rw [f2, a1], a2, a3, a4, a5⟩
  obtain ⟨l, ps, rfl, fl, hl1, hpl, hnd, hlp, hps⟩ := hv1
  obtain ⟨b, ⟨us, hq, hT⟩, fb⟩ := hw.bound
  have hul : us.length = ts.length := by rw [hT.length, List.length_map]
  have fps : ∀ p ∈ ps, H p = none := fun p hp => (hps p hp).1
  refine q_seq (f_enum (a := b) (xs := us) (Evl.Ev.mono e1 (fb (Evl.ev_var rfl))) (by walk_at "hp")
    (fun i σ' H' => ∃ (o1 o2 o3 : Option V), σ' = [some (.ref w), some (.int skip), some (.bl fr), some (.ref l), o1, o2, o3] ∧ Ex H H' ∧ H' l = some (.lst (ps.map V.ref)) ∧ Rows K H' ps (rowsUp (okF skip fr turn) n ts i))
    (fun H2 e2 => ⟨_, _, _, rfl, e1.trans e2, e2 _ _ hl1, ?_⟩) (fun i σ' H' _ ⟨_, _, _, _, e, _⟩ => Evl.ex_l e hq) ?_ ?_)
  · refine ⟨by rw [rowsUp_len]; exact hpl, hnd, fun i p row hp hr => ⟨[], e2 _ _ (hps p (List.mem_of_getElem? hp)).2, ?_⟩⟩
    have : row = [] := by
      have := List.mem_of_getElem? hr
      exact (List.mem_replicate.mp this).2
    rw [this]
    exact .nil
  · rintro i x σ' H' H2 hx ⟨o1, o2, o3, rfl, e, hl2, hR⟩ e2
    obtain ⟨zz, hz, tz⟩ := (hT.mono (e.trans e2)).getV hx
    rw [List.getElem?_map] at hz
    cases hti : ts[i]? with
    | none => rw [hti] at hz; cases hz
    | some t =>
      rw [hti] at hz
      cases hz
      obtain ⟨v1, v2, v3⟩ := hv t (List.mem_of_getElem? hti)
      have hup : rowsUp (okF skip fr turn) n ts (i + 1) = addT (okF skip fr turn) i t (rowsUp (okF skip fr turn) n ts i) := by
        rw [rowsUp, hti]
      have hw2 := hw.mono (e.trans e2)
      refine Evl.s_when (b := okF skip fr turn i t) (Evl.et_is (a := !decide ((i : Int) = skip) && (!fr || noughtF turn t.2.2)) (Evl.et_and (by walk_at "ev") fun _ => Evl.et_or (by walk_at "ev") fun _ => Evl.et_B (ev_nought hw2 h0 (by walk_at "ev") (by walk_at "ev"))) (by unfold okF; rw [Bool.eq_iff_iff]; simp)) (fun hb H3 e3 => ?_) fun hb H3 e3 => ?_
      · obtain ⟨pa, hpa⟩ : ∃ p, ps[t.1.toNat]? = some p := ⟨ps[t.1.toNat]'(by omega), List.getElem?_eq_getElem (by omega)⟩
        obtain ⟨pb, hpb⟩ : ∃ p, ps[t.2.1.toNat]? = some p := ⟨ps[t.2.1.toNat]'(by omega), List.getElem?_eq_getElem (by omega)⟩
        have R3 : Rows K H3 ps (rowsUp (okF skip fr turn) n ts i) := hR.mono (e2.trans e3)
        have l3 : H3 l = some (.lst (ps.map V.ref)) := e3 _ _ (e2 _ _ hl2)
        have tz3 : TupI K H3 x (tieL t) := tz.mono e3
        have aa : atI (ps.map V.ref) t.1 = some (.ref pa) := by rw [atI_map, atI_of v1.1 hpa]; rfl
        have ab : atI (ps.map V.ref) t.2.1 = some (.ref pb) := by rw [atI_map, atI_of v2.1 hpb]; rfl
        have hpa0 : H pa = none := fps pa (List.mem_of_getElem? hpa)
        have hpb0 : H pb = none := fps pb (List.mem_of_getElem? hpb)
        obtain ⟨vs0, g1, g2⟩ := R3.lst hpa
        have il : i < ts.length := (List.getElem?_eq_some_iff.mp hti).1
        have sz0 : vs0.length < 100000 := by
          have q1 := g2.length
          have q2 := rowsUp_row (okF skip fr turn) n ts t.1.toNat i
          rw [List.length_map] at q1
          omega
        refine q_appP (l := pa) (xs := vs0) (P := fun v H2 => TupI K H2 v [(i : Int), 1]) g1 (Evl.ev_op (by walk_at "ev") (by walk_at "ev") (Evl.rv_ixL (SqL.of l3) aa)) (by walk_at "ev") sz0 fun w1 H4 e4 tv => ?_
        have R5 := (R3.mono e4).app2 (s := ((i : Int), 1)) hpa (e4 _ _ g1) tv
        have l5 : (upd H4 pa (.lst (vs0 ++ [w1]))) l = some (.lst (ps.map V.ref)) := by
          rw [upd_ne (by rintro rfl; exact hlp (List.mem_of_getElem? hpa))]
          exact e4 _ _ l3
        have tz5 : TupI K (upd H4 pa (.lst (vs0 ++ [w1]))) x (tieL t) := (tz3.mono e4).updL (e4 _ _ g1)
        have x5 : Ex H (upd H4 pa (.lst (vs0 ++ [w1]))) := (e.trans (e2.trans (e3.trans e4))).mut hpa0
        obtain ⟨vs1, g3, g4⟩ := R5.lst hpb
        have sz1 : vs1.length < 100000 := by
          have q1 := g4.length
          have q2 := rowsUp_row (okF skip fr turn) n ts t.2.1.toNat i
          have q3 := setApp_row (rowsUp (okF skip fr turn) n ts i) t.1 ((i : Int), 1) t.2.1.toNat
          rw [List.length_map] at q1
          omega
        refine s_appP (l := pb) (xs := vs1) (P := fun v H2 => TupI K H2 v [(i : Int), -1]) g3 (Evl.ev_op (by walk_at "ev") (by walk_at "ev") (Evl.rv_ixL (SqL.of l5) ab)) (by walk_at "ev") sz1 fun w2 H6 e6 tv2 => ?_
        refine ⟨_, _, _, rfl, (x5.trans e6).mut hpb0, ?_, ?_⟩
        · rw [upd_ne (by rintro rfl; exact hlp (List.mem_of_getElem? hpb))]
          exact e6 _ _ l5
        · rw [hup]
          unfold addT
          rw [if_pos hb]
          exact (R5.mono e6).app2 (s := ((i : Int), -1)) hpb (e6 _ _ g3) tv2
      · refine ⟨_, _, _, rfl, e.trans (e2.trans e3), e3 _ _ (e2 _ _ hl2), ?_⟩
        rw [hup]
        unfold addT
        rw [hb]
        exact hR.mono (e2.trans e3)
  · rintro σ' H' ⟨o1, o2, o3, rfl, e, hl2, hR⟩
    dsimp only
    refine Evl.s_ret (v := .ref l) (by walk_at "ev") fun H2 e2 => k _ H2 (e.trans e2) ⟨l, rfl, ps, e2 _ _ hl2, ?_⟩
    rw [hul] at hR
    exact hR.mono e2
end G

/-! Webs as graphs: reached, way_back. -/
namespace G
open PySem PySem.Spec PyProof.Rows L2
open Evl (Ex Ev EvL EvU EvT EvA RV RetV)
local macro_rules | `(tactic| walk_at "hp") => `(tactic| first
  | with_reducible assumption
  | ((with_reducible show _ = some (_ : HO)); (with_reducible exact ex_app (by assumption) (by walk_at "hp")))
  | ((with_reducible show TupI _ _ _ _); (with_reducible exact TupI.mono (by assumption) (by walk_at "hp")))
  | ((with_reducible show LT _ _ _ _); (with_reducible exact LT.mono (by assumption) (by walk_at "hp")))
  | ((with_reducible show LI _ _ _ _); (first | (with_reducible exact li_of (by walk_at "hp")) | (with_reducible exact LI.mono (by assumption) (by walk_at "hp"))))
  | ((with_reducible show SqL _ _ _ _); (first | (with_reducible exact SqL.of (by walk_at "hp")) | (with_reducible exact Evl.ex_l (by assumption) (by walk_at "hp"))))
  | ((with_reducible show SqT _ _ _ _); (first | (with_reducible exact SqT.of (by walk_at "hp")) | (with_reducible exact Evl.ex_t (by assumption) (by walk_at "hp"))))
  | ((with_reducible show Rd _ _ _); (first | (with_reducible exact Rd.of (by walk_at "hp")) | (with_reducible exact Evl.ex_rd (by assumption) (by walk_at "hp"))))
  | walk_at "hpf")
local macro_rules | `(tactic| walk_at "at") => `(tactic| first
  | with_reducible assumption
  | with_reducible rfl
  | (refine atI_of ?va ?vb; (case va => omega); (case vb => assumption))
  | walk_at "atf"
  | rfl)
local macro_rules | `(tactic| walk_at "rv") => `(tactic| first
  | with_reducible exact rv_add | with_reducible exact rv_sub | with_reducible exact rv_eqI | with_reducible exact rv_neI | with_reducible exact rv_lt | with_reducible exact rv_le | with_reducible exact rv_gt | with_reducible exact rv_ge
  | with_reducible exact rv_eqB | with_reducible exact rv_neB | with_reducible exact rv_isB | with_reducible exact rv_notB
  | ((with_reducible refine rv_mod ?_); (first | assumption | omega))
  | ((with_reducible refine rv_mul ?_); (first | exact Or.inl ⟨by omega, by omega⟩ | exact Or.inr ⟨by omega, by omega⟩))
  | ((with_reducible refine rv_div ?_); exact ⟨by omega, by omega⟩))
local macro_rules | `(tactic| walk_at "ty") => `(tactic| first
  | with_reducible exact fun _ _ => .base (.int _) | with_reducible exact fun _ _ => .base (.bl _) | with_reducible exact fun _ _ => .base .non | with_reducible exact fun _ _ => .base (.str _)
  | ((with_reducible apply ty_tup); walk_at "hp")
  | ((with_reducible apply ty_lst); walk_at "hp")
  | walk_at "tyf")
local macro_rules | `(tactic| walk_at "ev") => `(tactic| repeat' (first
  | with_reducible exact Evl.ev_c
  | ((with_reducible apply Evl.ev_var); rfl)
  | with_reducible apply ev_neg
  | with_reducible apply ev_ixU
  | walk_at "evf"
  | ((with_reducible apply ev_lenI); (· walk_at "ev"); (· walk_at "hp"))
  | ((with_reducible apply ev_lenT); (· walk_at "ev"); (· walk_at "hp"))
  | ((with_reducible apply ev_lenU); (· walk_at "ev"))
  | with_reducible apply ev_lenSet
  | with_reducible apply ev_chain
  | with_reducible apply ev_isiTy
  | with_reducible apply Evl.ev_andV
  | with_reducible apply Evl.ev_orV
  | with_reducible apply Evl.ev_notV
  | ((with_reducible apply ev_ixI); (· walk_at "ev"); (· walk_at "ev"); (· walk_at "hp"); (· walk_at "at"))
  | with_reducible apply Evl.ev_op
  | ((with_reducible apply evi_of); (· (with_reducible apply Evl.ev_var); rfl); (· walk_at "hp"))
  | with_reducible apply ei_ix
  | with_reducible apply ei_tup
  | with_reducible exact eai_nil
  | with_reducible apply eai_cons
  | with_reducible exact Evl.ea_nil
  | with_reducible apply Evl.ea_cons
  | with_reducible apply Evl.et_test
  | with_reducible apply Evl.et_and
  | with_reducible apply Evl.et_or
  | with_reducible apply Evl.et_not
  | with_reducible apply Evl.et_B
  | walk_at "rv"
  | ((with_reducible show L2.kitB _ _ = _); rfl)
  | ((with_reducible show L2.atI _ _ = _); walk_at "at")
  | ((with_reducible show (_ : Nat) ≤ _); (first | omega | (simp; done) | (simp; omega)))
  | ((with_reducible show _ = true → _); intro _)
  | ((with_reducible show _ = false → _); intro _)
  | ((with_reducible show TupI _ _ _ _); walk_at "hp")
  | ((with_reducible show LT _ _ _ _); walk_at "hp")
  | ((with_reducible show LI _ _ _ _); walk_at "hp")
  | ((with_reducible show SqL _ _ _ _); walk_at "hp")
  | ((with_reducible show SqT _ _ _ _); walk_at "hp")
  | ((with_reducible show Rd _ _ _); walk_at "hp")
  | ((with_reducible show _ = some (_ : HO)); walk_at "hp")
  | walk_at "hpg"
  | walk_at "ty"))

local macro_rules | `(tactic| walk_at "hpf") => `(tactic| ((with_reducible show WebAt _ _ _ _ _ _); (with_reducible exact WebAt.mono (by assumption) (by walk_at "hp"))))
local macro_rules | `(tactic| walk_at "hpg") => `(tactic| ((with_reducible show WebAt _ _ _ _ _ _); walk_at "hp"))
local macro_rules | `(tactic| walk_at "evf") => `(tactic| with_reducible apply ev_points)
local macro_rules | `(tactic| walk_at "evf") => `(tactic| with_reducible apply ev_turn)
local macro_rules | `(tactic| walk_at "evf") => `(tactic| with_reducible apply ev_lenB)
local macro_rules | `(tactic| walk_at "evf") => `(tactic| with_reducible apply ei_bound)
local macro_rules | `(tactic| walk_at "evf") => `(tactic| with_reducible apply ev_is_whole)
local macro_rules | `(tactic| walk_at "evf") => `(tactic| with_reducible apply ev_is_below)
local macro_rules | `(tactic| walk_at "evf") => `(tactic| with_reducible apply ev_is_tie)
local macro_rules | `(tactic| walk_at "evf") => `(tactic| with_reducible apply ei_stepped)
variable {K : PySem.W.Frag} {σ : L2.St} {H H' H1 : Hp} {ta tb tc te : TE} {t u : TT} {tl : TA} {v x y z : V}

/-! ### what stays when a list or a dict changes -/
def isM : HO → Bool
  | .lst _ => true
  | .dK _ => true
  | .ins _ _ _ => true
  | _ => false
theorem SqT.updM {d p : Addr} {o u : HO} {xs : List V} (h : SqT K H p xs) (hd : H d = some u) (hu : isM u = true) : SqT K (upd H d o) p xs := by
  rcases h with (h | ⟨ob, h⟩) | h
  · exact .inl (.inl (by rw [upd_ne (ne_of h hd (by intro z; subst z; cases hu))]; exact h))
  · exact .inl (.inr ⟨ob, by rw [upd_ne (ne_of h hd (by intro z; subst z; cases hu))]; exact h⟩)
  · exact .inr h
theorem TupI.updM {d : Addr} {o u : HO} {xs : List Int} (h : TupI K H v xs) (hd : H d = some u) (hu : isM u = true) : TupI K (upd H d o) v xs := by
  obtain ⟨p, rfl, h⟩ := h
  exact ⟨p, rfl, SqT.updM h hd hu⟩
theorem TupL.updM {d : Addr} {o u : HO} (hd : H d = some u) (hu : isM u = true) : ∀ {vs : List V} {xs : List (List Int)}, TupL K H vs xs → TupL K (upd H d o) vs xs
  | _, _, .nil => .nil
  | _, _, .cons h t => .cons (h.updM hd hu) (TupL.updM hd hu t)
theorem DTup.updM {d : Addr} {o u : HO} (hd : H d = some u) (hu : isM u = true) : ∀ {kvs : List (Key × V)} {cs : List (Int × List Int)}, DTup K H kvs cs → DTup K (upd H d o) kvs cs
  | _, _, .nil => .nil
  | _, _, .cons h t => .cons (h.updM hd hu) (DTup.updM hd hu t)
def DAt (K : PySem.W.Frag) (H : Hp) (d : Addr) (cs : List (Int × List Int)) : Prop := ∃ kvs, H d = some (.dK kvs) ∧ DTup K H kvs cs
theorem DAt.mono {d : Addr} {cs : List (Int × List Int)} (e : Ex H H') (h : DAt K H d cs) : DAt K H' d cs := by
  obtain ⟨kvs, a, b⟩ := h
  exact ⟨kvs, e _ _ a, b.mono e⟩

/-! ### the tree that reached makes -/
abbrev keys (cs : List (Int × List Int)) : List Int := cs.map (·.1)
inductive Tree (ts : List Tie) (rows : List (List Step)) (start : Int) : List (Int × List Int) → Prop
  | root : Tree ts rows start [(start, [])]
  | grow {cs : List (Int × List Int)} {a : Int} {s : Step} : Tree ts rows start cs → a ∈ keys cs → s ∈ rows.getD a.toNat [] → (stepF ts a s).1 ∉ keys cs → Tree ts rows start (cs ++ [((stepF ts a s).1, stepL s)])
def GoodR (ts : List Tie) (n : Int) (rows : List (List Step)) : Prop := rows.length = n.toNat ∧ ∀ a, 0 ≤ a → a < n → ∀ s ∈ rows.getD a.toNat [], 0 ≤ (stepF ts a s).1 ∧ (stepF ts a s).1 < n
section
variable {ts : List Tie} {rows : List (List Step)} {start n : Int} {cs : List (Int × List Int)}
theorem Tree.nodup (h : Tree ts rows start cs) : (keys cs).Nodup := by
  induction h with
  | root => simp [keys]
  | grow h ha hs hn ih =>
    simp only [keys, List.map_append, List.nodup_append]
    refine ⟨ih, by simp, fun a ha b hb => ?_⟩
    simp at hb
    subst hb
    exact fun z => hn (z ▸ ha)
theorem Tree.range (h : Tree ts rows start cs) (g : GoodR ts n rows) (h0 : 0 ≤ start ∧ start < n) : ∀ k ∈ keys cs, 0 ≤ k ∧ k < n := by
  induction h with
  | root =>
    intro k hk
    simp [keys] at hk
    subst hk
    exact h0
  | grow h ha hs hn ih =>
    intro k hk
    simp only [keys, List.map_append, List.mem_append] at hk
    rcases hk with hk | hk
    · exact ih k hk
    · simp at hk
      subst hk
      exact g.2 _ (ih _ ha).1 (ih _ ha).2 _ hs
theorem nodup_le : ∀ (n : Nat) (l : List Nat), l.Nodup → (∀ x ∈ l, x < n) → l.length ≤ n
  | 0, l, _, h => by
    cases l with
    | nil => simp
    | cons x l => exact absurd (h x List.mem_cons_self) (by omega)
  | n + 1, l, nd, h => by
    have h1 : (l.erase n).length ≤ n := nodup_le n (l.erase n) (nd.erase n) fun x hx => by
      have := h x (List.mem_of_mem_erase hx)
      have : x ≠ n := (List.Nodup.mem_erase_iff nd).mp hx |>.1
      omega
    have h2 : l.length ≤ (l.erase n).length + 1 := by
      rw [List.length_erase]
      split <;> omega
    omega
theorem nodup_leI {l : List Int} {n : Int} (nd : l.Nodup) (h : ∀ x ∈ l, 0 ≤ x ∧ x < n) : l.length ≤ n.toNat := by
  have q := nodup_le n.toNat (l.map Int.toNat) ?_ ?_
  · rw [List.length_map] at q
    exact q
  · rw [List.nodup_iff_pairwise_ne, List.pairwise_map]
    refine (List.Pairwise.imp_of_mem (fun {a b} ha hb hab => ?_) nd)
    have := h a ha
    have := h b hb
    intro z
    exact hab (by omega)
  · intro x hx
    obtain ⟨y, hy, rfl⟩ := List.mem_map.mp hx
    have := h y hy
    omega
theorem Tree.len (h : Tree ts rows start cs) (g : GoodR ts n rows) (h0 : 0 ≤ start ∧ start < n) : cs.length ≤ n.toNat := by
  have := nodup_leI h.nodup (h.range g h0)
  rw [List.length_map] at this
  exact this
end
def Reach (ts : List Tie) (rows : List (List Step)) (start : Int) (cs : List (Int × List Int)) : Prop :=
  Tree ts rows start cs ∧ ∀ a ∈ keys cs, ∀ s ∈ rows.getD a.toNat [], (stepF ts a s).1 ∈ keys cs
def sp_reached (K : PySem.W.Frag) : Sp := fun vs H Q _ => ∃ (w l : Addr) (start n turn : Int) (ts : List Tie) (rows : List (List Step)), vs = [.ref w, .int start, .ref l] ∧ WebAt K H w n ts turn ∧ NearAt K H l rows ∧ GoodR ts n rows ∧ (0 ≤ start ∧ start < n) ∧ n ≤ 5000 ∧
  RetP (fun v H2 => ∃ d cs, v = .ref d ∧ H d = none ∧ DAt K H2 d cs ∧ Reach ts rows start cs) H Q
theorem ep_reached {w l : Addr} {start n turn : Int} {ts : List Tie} {rows : List (List Step)} (h : EvA tl σ H [.ref w, .int start, .ref l]) (hw : WebAt K H w n ts turn) (hn : NearAt K H l rows) (g : GoodR ts n rows) (h0 : 0 ≤ start ∧ start < n) (hb : n ≤ 5000) :
    EvP (tCall (sp_reached K) [] E0 tl) σ H (fun v H2 => ∃ d cs, v = .ref d ∧ H d = none ∧ DAt K H2 d cs ∧ Reach ts rows start cs) :=
  ep_call h fun H1 Q e k => ⟨w, l, start, n, turn, ts, rows, rfl, hw.mono e, hn.mono e, g, h0, hb, fun v H2 e2 ⟨d, cs, a, b, c⟩ => k v H2 e2 ⟨d, cs, a, Evl.fresh_back e b, c⟩⟩
def t_reached (K : PySem.W.Frag) : TS :=
 (tSeq (tAsg (tDisp [((tVar 1), (tTup tNil))]) (gName 3))
 (tSeq (tAsg (tLst (tCons (tVar 1) tNil)) (gName 4))
 (tSeq (tAsg (tC (.int 0)) (gName 5))
 (tSeq (tWhile (tTest (tOp rLtI (tVar 5) (tCB (rLenS K) (tCons (tVar 4) tNil)))) (tSeq (tFor (iList K (tOp (rIxL K) (tVar 2) (tOp (rIxL K) (tVar 4) (tVar 5)))) (gName 6) (tSeq (tAsg (tOp (rIxT K) (tCall (sp_stepped K) [] E0 (tCons (tVar 0) (tCons (tOp (rIxL K) (tVar 4) (tVar 5)) (tCons (tVar 6) tNil)))) (tC (.int 0))) (gName 7))
 (tIfS (tB (tDNotIn (tVar 7) (tVar 3))) (tSeq (sDPut (tVar 3) (tVar 7) (tVar 6))
 (tDrop (tBM K "list" rAppend (tVar 4) (tCons (tVar 7) tNil)))) tNext)))
 (tAug 5 (tC (.int 1)) (ipI fun i j => i + j))))
 (tRet (tVar 3))))))
def t_way_back (K : PySem.W.Frag) : TS :=
 (tSeq (tAsg (tLst tNil) (gName 3))
 (tSeq (tWhile (tTest (tOp (rNeD K) (tDGet (tVar 1) (tVar 2)) (tTup tNil))) (tSeq (tAsg (tDGet (tVar 1) (tVar 2)) (gName 4))
 (tSeq (tDrop (tBM K "list" rAppend (tVar 3) (tCons (tVar 4) tNil)))
 (tAsg (tOp (rIxT K) (tCall (sp_stepped K) [] E0 (tCons (tVar 0) (tCons (tVar 2) (tCons (tTup (tCons (tOp (rIxT K) (tVar 4) (tC (.int 0))) (tCons (tUn rNegI (tOp (rIxT K) (tVar 4) (tC (.int 1)))) tNil))) tNil)))) (tC (.int 0))) (gName 2)))))
 (tRet (tRevL K (tVar 3)))))
theorem rd_reached (vs : List V) (H : Hp) (Q : VK) (E : XK) (h : sp_reached K vs H Q E) : goal (t_reached K) ["web", "start", "near", "came", "left", "at", "step", "point"] vs H Q := by
  obtain ⟨w, l, start, n, turn, ts, rows, rfl, hw, hnr, g, h0, hb, k⟩ := h
  obtain ⟨ps, hps, hR⟩ := id hnr
  refine q_asgP (P := fun v H2 => ∃ d, v = .ref d ∧ H d = none ∧ DAt K H2 d [(start, [])]) (fun H1 e1 Q' q' => ?_) fun v H1 e1 hv => ?_
  · intro p hp
    refine ⟨_, rfl, ?_⟩
    refine ⟨Nat.zero_le _, fun t2 ht2 => ?_⟩
    have npt : p ≠ t2 := fun z => by rw [← z, upd_same] at ht2; cases ht2
    have ht3 : H1 t2 = none := by rw [upd_ne npt.symm] at ht2; exact ht2
    refine ⟨by rw [upd_ne npt]; exact upd_same, [(Sum.inl start, .ref t2)], rfl, by show 1 ≤ 15; decide, q' _ _ (fun a o ha => ?_) ⟨p, rfl, Evl.fresh_back e1 hp, _, upd_same, .cons ⟨t2, rfl, .inl (.inl ?_)⟩ .nil⟩⟩
    · rw [upd_ne (ne_of_none ha hp), upd_ne (ne_of_none ha ht3), upd_ne (ne_of_none ha hp)]
      exact ha
    · rw [upd_ne npt.symm, upd_same]
      rfl
  obtain ⟨d, rfl, fd, hD1⟩ := hv
  refine Evl.q_asgL (xs := [.int start]) (Evl.el_lst (by walk_at "ev") (by show 1 ≤ 100000; decide)) fun q H2 hq0 e2 hq2 => ?_
  refine Evl.q_asg Evl.ev_c fun H3 e3 => ?_
  have fq : H q = none := Evl.fresh_back e1 hq0
  refine q_seq (f_while (fun m σ' H' => ∃ (cs : List (Int × List Int)) (i : Nat) (o6 o7 : Option V), σ' = [some (.ref w), some (.int start), some (.ref l), some (.ref d), some (.ref q), some (.int (i : Int)), o6, o7] ∧ Ex H H' ∧ H' q = some (.lst ((keys cs).map V.int)) ∧ DAt K H' d cs ∧ Tree ts rows start cs ∧ i ≤ cs.length ∧
      (∀ (j : Nat) (a : Int), j < i → (keys cs)[j]? = some a → ∀ s ∈ rows.getD a.toNat [], (stepF ts a s).1 ∈ keys cs) ∧ m = n.toNat - i) (n.toNat) ⟨[(start, [])], 0, _, _, rfl, e1.trans (e2.trans e3), e3 _ _ hq2, (hD1.mono e2).mono e3, .root, Nat.zero_le _, fun j a hj => absurd hj (by omega), by omega⟩ ?_)
  rintro m σ' H' ⟨cs, i, o6, o7, rfl, e, hq, hD, hT, hi, hcl, rfl⟩
  have hlen : cs.length ≤ n.toNat := hT.len g h0
  refine ⟨decide ((i : Int) < ((keys cs).length : Int)), by walk_at "ev", fun hb1 H4 e4 => ?_, fun hb1 H4 e4 => ?_⟩
  · have hlt : i < cs.length := by
      have := of_decide_eq_true hb1
      rw [List.length_map] at this
      omega
    obtain ⟨cur, hcur⟩ : ∃ cur, (keys cs)[i]? = some cur := ⟨(keys cs)[i]'(by rw [List.length_map]; exact hlt), List.getElem?_eq_getElem (by rw [List.length_map]; exact hlt)⟩
    have hcm : cur ∈ keys cs := List.mem_of_getElem? hcur
    obtain ⟨c0, c1⟩ := hT.range g h0 cur hcm
    have hat : atI (keys cs) (i : Int) = some cur := atI_nat hcur
    obtain ⟨pr, hpr⟩ : ∃ p, ps[cur.toNat]? = some p := ⟨ps[cur.toNat]'(by rw [hR.len, g.1]; omega), List.getElem?_eq_getElem (by rw [hR.len, g.1]; omega)⟩
    obtain ⟨vr, hvr, tvr⟩ := hR.lst hpr
    have hpat : atI (ps.map V.ref) cur = some (.ref pr) := by rw [atI_map, atI_of c0 hpr]; rfl
    have hrl : vr.length = (rows.getD cur.toNat []).length := by rw [tvr.length, List.length_map]
    refine ⟨fun σ2 H2 => ∃ (cs : List (Int × List Int)) (o6 o7 : Option V), σ2 = [some (.ref w), some (.int start), some (.ref l), some (.ref d), some (.ref q), some (.int ((i + 1 : Nat) : Int)), o6, o7] ∧ Ex H H2 ∧ H2 q = some (.lst ((keys cs).map V.int)) ∧ DAt K H2 d cs ∧ Tree ts rows start cs ∧ i + 1 ≤ cs.length ∧
      (∀ (j : Nat) (a : Int), j < i + 1 → (keys cs)[j]? = some a → ∀ s ∈ rows.getD a.toNat [], (stepF ts a s).1 ∈ keys cs), ?_, ?_⟩
    · rintro σ2 H2 ⟨cs, o6, o7, rfl, x1, x2, x3, x4, x5, x6⟩
      exact ⟨n.toNat - (i + 1), by omega, cs, i + 1, o6, o7, rfl, x1, x2, x3, x4, x5, x6, rfl⟩
    have e04 : Ex H H4 := e.trans e4
    have hq4 : H4 q = some (.lst ((keys cs).map V.int)) := e4 _ _ hq
    refine q_seq (f_list (a := pr) (xs := vr) (Evl.ev_op (by walk_at "ev") (by walk_at "ev") (Evl.rv_ixL (SqL.of (e04 _ _ hps)) hpat)) (SqL.of (e04 _ _ hvr))
      (fun j σ2 H2 => ∃ (cs2 : List (Int × List Int)) (o6 o7 : Option V), σ2 = [some (.ref w), some (.int start), some (.ref l), some (.ref d), some (.ref q), some (.int (i : Int)), o6, o7] ∧ Ex H H2 ∧ H2 q = some (.lst ((keys cs2).map V.int)) ∧ DAt K H2 d cs2 ∧ Tree ts rows start cs2 ∧ (∃ ext, cs2 = cs ++ ext) ∧
        (∀ (m : Nat) (s : Step), m < j → (rows.getD cur.toNat [])[m]? = some s → (stepF ts cur s).1 ∈ keys cs2))
      (fun H5 e5 => ⟨cs, _, _, rfl, e04.trans e5, e5 _ _ hq4, (hD.mono e4).mono e5, hT, ⟨[], by simp⟩, fun m s hm => absurd hm (by omega)⟩)
      (fun j σ2 H2 _ ⟨_, _, _, _, e5, _⟩ => SqL.of (e5 _ _ hvr)) ?_ ?_)
    · rintro j x σ2 H2 hx ⟨cs2, o6, o7, rfl, e5, hq5, hD5, hT5, ⟨ext, hext⟩, hcl5⟩
      obtain ⟨zz, hz, tz⟩ := (tvr.mono e5).getV hx
      rw [List.getElem?_map] at hz
      cases hsj : (rows.getD cur.toNat [])[j]? with
      | none => rw [hsj] at hz; cases hz
      | some s =>
        rw [hsj] at hz
        cases hz
        have hat5 : atI (keys cs2) (i : Int) = some cur := by
          refine atI_nat ?_
          rw [hext]
          simp only [keys, List.map_append]
          rw [List.getElem?_append_left (by rw [List.length_map]; exact hlt)]
          exact hcur
        have hw5 := hw.mono e5
        have hli : LI K H2 q (keys cs2) := li_of hq5
        refine Evl.q_asg (v := .int (stepF ts cur s).1) (by walk_at "ev") fun H6 e6 => ?_
        obtain ⟨kvs, hk1, hk2⟩ := hD5.mono e6
        have hq6 := e6 _ _ hq5
        have tz6 := tz.mono e6
        refine Evl.s_when (b := !decide ((stepF ts cur s).1 ∈ keys cs2)) (Evl.et_B (ev_dnotinC (Evl.ev_var rfl) (Evl.ev_var rfl) (Rd.of hk1) hk2)) (fun hb2 H7 e7 => ?_) fun hb2 H7 e7 => ?_
        · have hnm : (stepF ts cur s).1 ∉ keys cs2 := by
            intro z
            rw [decide_eq_true z] at hb2
            cases hb2
          have hsm : s ∈ rows.getD cur.toNat [] := List.mem_of_getElem? hsj
          have hcm5 : cur ∈ keys cs2 := by rw [hext]; simp only [keys, List.map_append, List.mem_append]; exact .inl hcm
          have hT6 : Tree ts rows start (cs2 ++ [((stepF ts cur s).1, stepL s)]) := .grow hT5 hcm5 hsm hnm
          have hlen6 := hT6.len g h0
          have hkl := hk2.length
          rw [List.length_append, List.length_singleton] at hlen6
          have hd7 := e7 _ _ hk1
          have hnone : valV kvs (Sum.inl (stepF ts cur s).1) = none := hk2.look.2 (look_none.mpr hnm)
          refine q_dput (v := x) (a := d) (kvs := kvs) (i := (stepF ts cur s).1) (by walk_at "ev") (by walk_at "ev") (by walk_at "ev") hd7 (by omega) fun H8 e8 => ?_
          rw [putK_new _ hnone]
          have hd8 : H8 d = some (.dK kvs) := e8 _ _ hd7
          have hq8 : H8 q = some (.lst ((keys cs2).map V.int)) := e8 _ _ (e7 _ _ hq6)
          have nqd : q ≠ d := ne_of hq8 hd8 (by intro z; cases z)
          have hq9 : (upd H8 d (.dK (kvs ++ [(Sum.inl (stepF ts cur s).1, x)]))) q = some (.lst ((keys cs2).map V.int)) := by rw [upd_ne nqd]; exact hq8
          have x8 : Ex H (upd H8 d (.dK (kvs ++ [(Sum.inl (stepF ts cur s).1, x)]))) := ((e5.trans e6).trans (e7.trans e8)).mut fd
          refine Evl.s_app (l := q) (xs := (keys cs2).map V.int) (v := .int (stepF ts cur s).1) hq9 (by walk_at "ev") (by walk_at "ev") (by rw [List.length_map, List.length_map]; omega) fun H9 e9 => ?_
          have hd9 : H9 d = some (.dK (kvs ++ [(Sum.inl (stepF ts cur s).1, x)])) := e9 _ _ upd_same
          have hq10 := e9 _ _ hq9
          refine ⟨cs2 ++ [((stepF ts cur s).1, stepL s)], _, _, rfl, (x8.trans e9).mut fq, ?_, ⟨_, by rw [upd_ne nqd.symm]; exact hd9, ?_⟩, hT6, ⟨ext ++ [((stepF ts cur s).1, stepL s)], by rw [hext, List.append_assoc]⟩, fun m s2 hm hs2 => ?_⟩
          · rw [upd_same]
            simp [keys]
          · refine DTup.updM hq10 rfl (DTup.mono e9 (DTup.updM hd8 rfl ?_))
            exact (hk2.mono (e7.trans e8)).snoc (tz6.mono (e7.trans e8))
          · simp only [keys, List.map_append, List.mem_append]
            by_cases hmj : m = j
            · subst hmj
              rw [hsj] at hs2
              cases hs2
              exact .inr (by simp)
            · exact .inl (hcl5 m s2 (by omega) hs2)
        · have hm5 : (stepF ts cur s).1 ∈ keys cs2 := by
            have : decide ((stepF ts cur s).1 ∈ keys cs2) = true := by
              cases hc : decide ((stepF ts cur s).1 ∈ keys cs2)
              · rw [hc] at hb2; cases hb2
              · rfl
            exact of_decide_eq_true this
          refine ⟨cs2, _, _, rfl, e5.trans (e6.trans e7), e7 _ _ hq6, (hD5.mono e6).mono e7, hT5, ⟨ext, hext⟩, fun m s2 hm hs2 => ?_⟩
          by_cases hmj : m = j
          · subst hmj
            rw [hsj] at hs2
            cases hs2
            exact hm5
          · exact hcl5 m s2 (by omega) hs2
    · rintro σ2 H2 ⟨cs2, o6, o7, rfl, e5, hq5, hD5, hT5, ⟨ext, hext⟩, hcl5⟩
      dsimp only
      refine Evl.s_aug (a := (i : Int)) (b := 1) rfl (by walk_at "ev") fun H6 e6 => ?_
      refine ⟨cs2, _, _, rfl, e5.trans e6, e6 _ _ hq5, hD5.mono e6, hT5, by rw [hext, List.length_append]; omega, fun j a hj ha s hs => ?_⟩
      have hkeys : keys cs2 = keys cs ++ keys ext := by rw [hext]; simp [keys]
      by_cases hji : j = i
      · subst hji
        rw [hkeys, List.getElem?_append_left (by rw [List.length_map]; exact hlt), hcur] at ha
        cases ha
        obtain ⟨m, hm⟩ := List.mem_iff_getElem?.mp hs
        exact hcl5 m s (by rw [hrl]; exact (List.getElem?_eq_some_iff.mp hm).1) hm
      · rw [hkeys, List.getElem?_append_left (by rw [List.length_map]; omega)] at ha
        have := hcl j a (by omega) ha s hs
        rw [hkeys]
        exact List.mem_append_left _ this
  · dsimp only
    refine Evl.s_ret (v := .ref d) (by walk_at "ev") fun H5 e5 => k _ H5 (e.trans (e4.trans e5)) ⟨d, cs, rfl, fd, (hD.mono e4).mono e5, hT, fun a ha s hs => ?_⟩
    have hge : ¬ (i : Int) < ((keys cs).length : Int) := of_decide_eq_false hb1
    rw [List.length_map] at hge
    obtain ⟨j, hj⟩ := List.mem_iff_getElem?.mp ha
    have hjl := (List.getElem?_eq_some_iff.mp hj).1
    rw [List.length_map] at hjl
    exact hcl j a (by omega) hj s hs

/-! ### way_back -/
inductive Back (ts : List Tie) (cs : List (Int × List Int)) : Int → List Step → Prop
  | stop {k : Int} : cs.lookup k = some [] → Back ts cs k []
  | go {k : Int} {s : Step} {r : List Step} : cs.lookup k = some (stepL s) → Back ts cs (stepF ts k (s.1, -s.2)).1 r → Back ts cs k (s :: r)
abbrev NewLT (K : PySem.W.Frag) (H : Hp) (xss : List (List Int)) (v : V) (H2 : Hp) : Prop := ∃ l vs, v = .ref l ∧ H l = none ∧ H2 l = some (.lst vs) ∧ TupL K H2 vs xss
def sp_way_back (K : PySem.W.Frag) : Sp := fun vs H Q _ => ∃ (w d : Addr) (k n turn : Int) (ts : List Tie) (kvs : List (Key × V)) (cs : List (Int × List Int)) (r : List Step), vs = [.ref w, .ref d, .int k] ∧ WebAt K H w n ts turn ∧ Rd H d (.dK kvs) ∧ DTup K H kvs cs ∧ Back ts cs k r ∧ r.length ≤ 5000 ∧
  RetP (NewLT K H (r.reverse.map stepL)) H Q
theorem ep_way_back {w d : Addr} {k n turn : Int} {ts : List Tie} {kvs : List (Key × V)} {cs : List (Int × List Int)} {r : List Step} (h : EvA tl σ H [.ref w, .ref d, .int k]) (hw : WebAt K H w n ts turn) (hd : Rd H d (.dK kvs)) (hc : DTup K H kvs cs) (hb : Back ts cs k r) (hl : r.length ≤ 5000) :
    EvP (tCall (sp_way_back K) [] E0 tl) σ H (NewLT K H (r.reverse.map stepL)) :=
  ep_call h fun H1 Q e q => ⟨w, d, k, n, turn, ts, kvs, cs, r, rfl, hw.mono e, Evl.ex_rd e hd, hc.mono e, hb, hl, fun v H2 e2 ⟨l, vs, a, b, c⟩ => q v H2 e2 ⟨l, vs, a, Evl.fresh_back e b, c⟩⟩
theorem ep_rev {a : Addr} {vs : List V} {xss : List (List Int)} (ha : Ev ta σ H (.ref a)) (h : SqL K H a vs) (hT : TupL K H vs xss) : EvP (tRevL K ta) σ H (NewLT K H xss.reverse) := fun H1 e Q q =>
  ha H1 e _ fun H2 e2 => ⟨a, vs, rfl, Evl.ex_l (e.trans e2) h, fun p hp => q _ _ (e2.trans (Ex.new hp)) ⟨p, vs.reverse, rfl, Evl.fresh_back (e.trans e2) hp, upd_same, ((hT.mono (e.trans e2)).mono (Ex.new hp)).rev⟩⟩
theorem rd_way_back (vs : List V) (H : Hp) (Q : VK) (E : XK) (h : sp_way_back K vs H Q E) : goal (t_way_back K) ["web", "came", "point", "found", "step"] vs H Q := by
  obtain ⟨w, d, k0, n, turn, ts, kvs, cs, r, rfl, hw, hd, hc, hb, hl, k⟩ := h
  refine Evl.q_asgL (xs := []) (Evl.el_lst (by walk_at "ev") (by show 0 ≤ 100000; decide)) fun f H1 hf e1 hf1 => ?_
  refine q_seq (f_while (fun m σ' H' => ∃ (kk : Int) (r2 done : List Step) (vs : List V) (o4 : Option V), σ' = [some (.ref w), some (.ref d), some (.int kk), some (.ref f), o4] ∧ Ex H H' ∧ H' f = some (.lst vs) ∧ TupL K H' vs (done.map stepL) ∧ Back ts cs kk r2 ∧ r = done ++ r2 ∧ m = r2.length) r.length
    ⟨k0, r, [], [], _, rfl, e1, hf1, .nil, hb, rfl, rfl⟩ ?_)
  rintro m σ' H' ⟨kk, r2, done, us, o4, rfl, e, hfu, hT, hB, hr, rfl⟩
  have hw' := hw.mono e
  have hd' := Evl.ex_rd e hd
  have hc' := hc.mono e
  cases hB with
  | stop hk =>
    refine ⟨false, Evl.et_test (Evl.ev_is (ev_neTup (ei_dget (i := kk) (Evl.ev_var rfl) (Evl.ev_var rfl) hd' hc' hk) (ei_tup eai_nil (by decide))) (by rfl)), (fun z => nomatch z), fun _ H2 e2 => ?_⟩
    dsimp only
    refine s_retP (ep_rev (a := f) (vs := us) (xss := done.map stepL) (by walk_at "ev") (SqL.of (e2 _ _ hfu)) (hT.mono e2)) fun v H3 e3 hv => k v H3 (e.trans (e2.trans e3)) ?_
    obtain ⟨l, ws, a, b, c, c2⟩ := hv
    refine ⟨l, ws, a, Evl.fresh_back (e.trans e2) b, c, ?_⟩
    rw [hr, List.append_nil, List.map_reverse]
    exact c2
  | go hk hB2 =>
    rename_i s r3
    refine ⟨true, Evl.et_test (Evl.ev_is (ev_neTup (ei_dget (i := kk) (Evl.ev_var rfl) (Evl.ev_var rfl) hd' hc' hk) (ei_tup eai_nil (by decide))) (by rw [decide_eq_false (by simp)]; rfl)), fun _ H2 e2 => ?_, fun z => nomatch z⟩
    refine ⟨fun σ2 H2 => ∃ (vs : List V) (o4 : Option V), σ2 = [some (.ref w), some (.ref d), some (.int (stepF ts kk (s.1, -s.2)).1), some (.ref f), o4] ∧ Ex H H2 ∧ H2 f = some (.lst vs) ∧ TupL K H2 vs ((done ++ [s]).map stepL), ?_, ?_⟩
    · rintro σ2 H2 ⟨vs, o4, rfl, x1, x2, x3⟩
      exact ⟨r3.length, by simp, _, r3, done ++ [s], vs, o4, rfl, x1, x2, x3, hB2, by rw [hr]; simp, rfl⟩
    · have hd2 := Evl.ex_rd e2 hd'
      have hc2 := hc'.mono e2
      have hf2 := e2 _ _ hfu
      have hT2 := hT.mono e2
      refine q_asgP (ei_dget (K := K) (i := kk) (Evl.ev_var rfl) (Evl.ev_var rfl) hd2 hc2 hk) fun v H3 e3 hv => ?_
      have hus : us.length ≤ 5000 := by
        have := hT.length
        rw [List.length_map] at this
        rw [hr, List.length_append] at hl
        omega
      refine Evl.q_app (l := f) (xs := us) (v := v) (e3 _ _ hf2) (by walk_at "ev") (by walk_at "ev") (by omega) fun H4 e4 => ?_
      have x4 : Ex H (upd H4 f (.lst (us ++ [v]))) := (e.trans (e2.trans (e3.trans e4))).mut hf
      have hw4 := hw.mono x4
      have hf4 : H4 f = some (.lst us) := e4 _ _ (e3 _ _ hf2)
      have hv4 : TupI K (upd H4 f (.lst (us ++ [v]))) v (stepL s) := (hv.mono e4).updM hf4 rfl
      have hT4 : TupL K (upd H4 f (.lst (us ++ [v]))) (us ++ [v]) ((done ++ [s]).map stepL) := by
        rw [List.map_append]
        exact ((hT2.mono (e3.trans e4)).updM hf4 rfl).snoc hv4
      refine Evl.s_asg (v := .int (stepF ts kk (s.1, -s.2)).1) ?_ fun H5 e5 => ⟨_, _, rfl, x4.trans e5, e5 _ _ upd_same, hT4.mono e5⟩
      exact ev_ixU (ei_stepped (w := w) (p := kk) (s := (s.1, -s.2)) (by walk_at "ev") (by walk_at "ev") (by walk_at "ev") hw4) Evl.ev_c rfl
end G

/-! is_closed, and the answers that hold one list. -/
namespace G
open PySem PySem.Spec PyProof.Rows L2
open Evl (Ex Ev EvL EvU EvT EvA RV RetV)
local macro_rules | `(tactic| walk_at "hp") => `(tactic| first
  | with_reducible assumption
  | ((with_reducible show _ = some (_ : HO)); (with_reducible exact ex_app (by assumption) (by walk_at "hp")))
  | ((with_reducible show TupI _ _ _ _); (with_reducible exact TupI.mono (by assumption) (by walk_at "hp")))
  | ((with_reducible show LT _ _ _ _); (with_reducible exact LT.mono (by assumption) (by walk_at "hp")))
  | ((with_reducible show LI _ _ _ _); (first | (with_reducible exact li_of (by walk_at "hp")) | (with_reducible exact LI.mono (by assumption) (by walk_at "hp"))))
  | ((with_reducible show SqL _ _ _ _); (first | (with_reducible exact SqL.of (by walk_at "hp")) | (with_reducible exact Evl.ex_l (by assumption) (by walk_at "hp"))))
  | ((with_reducible show SqT _ _ _ _); (first | (with_reducible exact SqT.of (by walk_at "hp")) | (with_reducible exact Evl.ex_t (by assumption) (by walk_at "hp"))))
  | ((with_reducible show Rd _ _ _); (first | (with_reducible exact Rd.of (by walk_at "hp")) | (with_reducible exact Evl.ex_rd (by assumption) (by walk_at "hp"))))
  | walk_at "hpf")
local macro_rules | `(tactic| walk_at "at") => `(tactic| first
  | with_reducible assumption
  | with_reducible rfl
  | (refine atI_of ?va ?vb; (case va => omega); (case vb => assumption))
  | walk_at "atf"
  | rfl)
local macro_rules | `(tactic| walk_at "rv") => `(tactic| first
  | with_reducible exact rv_add | with_reducible exact rv_sub | with_reducible exact rv_eqI | with_reducible exact rv_neI | with_reducible exact rv_lt | with_reducible exact rv_le | with_reducible exact rv_gt | with_reducible exact rv_ge
  | with_reducible exact rv_eqB | with_reducible exact rv_neB | with_reducible exact rv_isB | with_reducible exact rv_notB
  | ((with_reducible refine rv_mod ?_); (first | assumption | omega))
  | ((with_reducible refine rv_mul ?_); (first | exact Or.inl ⟨by omega, by omega⟩ | exact Or.inr ⟨by omega, by omega⟩))
  | ((with_reducible refine rv_div ?_); exact ⟨by omega, by omega⟩))
local macro_rules | `(tactic| walk_at "ty") => `(tactic| first
  | with_reducible exact fun _ _ => .base (.int _) | with_reducible exact fun _ _ => .base (.bl _) | with_reducible exact fun _ _ => .base .non | with_reducible exact fun _ _ => .base (.str _)
  | ((with_reducible apply ty_tup); walk_at "hp")
  | ((with_reducible apply ty_lst); walk_at "hp")
  | walk_at "tyf")
local macro_rules | `(tactic| walk_at "ev") => `(tactic| repeat' (first
  | with_reducible exact Evl.ev_c
  | ((with_reducible apply Evl.ev_var); rfl)
  | with_reducible apply ev_neg
  | with_reducible apply ev_ixU
  | walk_at "evf"
  | ((with_reducible apply ev_lenI); (· walk_at "ev"); (· walk_at "hp"))
  | ((with_reducible apply ev_lenT); (· walk_at "ev"); (· walk_at "hp"))
  | ((with_reducible apply ev_lenU); (· walk_at "ev"))
  | with_reducible apply ev_lenSet
  | with_reducible apply ev_chain
  | with_reducible apply ev_isiTy
  | with_reducible apply Evl.ev_andV
  | with_reducible apply Evl.ev_orV
  | with_reducible apply Evl.ev_notV
  | ((with_reducible apply ev_ixI); (· walk_at "ev"); (· walk_at "ev"); (· walk_at "hp"); (· walk_at "at"))
  | with_reducible apply Evl.ev_op
  | ((with_reducible apply evi_of); (· (with_reducible apply Evl.ev_var); rfl); (· walk_at "hp"))
  | with_reducible apply ei_ix
  | with_reducible apply ei_tup
  | with_reducible exact eai_nil
  | with_reducible apply eai_cons
  | with_reducible exact Evl.ea_nil
  | with_reducible apply Evl.ea_cons
  | with_reducible apply Evl.et_test
  | with_reducible apply Evl.et_and
  | with_reducible apply Evl.et_or
  | with_reducible apply Evl.et_not
  | with_reducible apply Evl.et_B
  | walk_at "rv"
  | ((with_reducible show L2.kitB _ _ = _); rfl)
  | ((with_reducible show L2.atI _ _ = _); walk_at "at")
  | ((with_reducible show (_ : Nat) ≤ _); (first | omega | (simp; done) | (simp; omega)))
  | ((with_reducible show _ = true → _); intro _)
  | ((with_reducible show _ = false → _); intro _)
  | ((with_reducible show TupI _ _ _ _); walk_at "hp")
  | ((with_reducible show LT _ _ _ _); walk_at "hp")
  | ((with_reducible show LI _ _ _ _); walk_at "hp")
  | ((with_reducible show SqL _ _ _ _); walk_at "hp")
  | ((with_reducible show SqT _ _ _ _); walk_at "hp")
  | ((with_reducible show Rd _ _ _); walk_at "hp")
  | ((with_reducible show _ = some (_ : HO)); walk_at "hp")
  | walk_at "hpg"
  | walk_at "ty"))

local macro_rules | `(tactic| walk_at "hpf") => `(tactic| ((with_reducible show WebAt _ _ _ _ _ _); (with_reducible exact WebAt.mono (by assumption) (by walk_at "hp"))))
local macro_rules | `(tactic| walk_at "hpg") => `(tactic| ((with_reducible show WebAt _ _ _ _ _ _); walk_at "hp"))
local macro_rules | `(tactic| walk_at "evf") => `(tactic| with_reducible apply ev_points)
local macro_rules | `(tactic| walk_at "evf") => `(tactic| with_reducible apply ev_turn)
local macro_rules | `(tactic| walk_at "evf") => `(tactic| with_reducible apply ev_lenB)
local macro_rules | `(tactic| walk_at "evf") => `(tactic| with_reducible apply ei_bound)
local macro_rules | `(tactic| walk_at "evf") => `(tactic| with_reducible apply ev_is_whole)
local macro_rules | `(tactic| walk_at "evf") => `(tactic| with_reducible apply ev_is_below)
local macro_rules | `(tactic| walk_at "evf") => `(tactic| with_reducible apply ev_is_tie)
local macro_rules | `(tactic| walk_at "evf") => `(tactic| with_reducible apply ei_stepped)
variable {K : PySem.W.Frag} {σ : L2.St} {H H' H1 : Hp} {ta tb tc te : TE} {t u : TT} {tl : TA} {v x y z : V}

theorem inV_int (a : Int) : ∀ ns : List Int, inV (.int a) (ns.map V.int) = decide (a ∈ ns)
  | [] => rfl
  | n :: ns => by
    have ih := inV_int a ns
    have e : inV (.int a) ((n :: ns).map V.int) = (eqV (.int n) (.int a) || inV (.int a) (ns.map V.int)) := by
      simp [inV]
    rw [e, ih, Bool.eq_iff_iff]
    simp [eqV]
    constructor <;> (rintro (h | h) <;> simp [h])
theorem flat_ints (ns : List Int) : (ns.map V.int).all flatV = true := by
  rw [List.all_eq_true]
  intro b hb
  obtain ⟨n, _, rfl⟩ := List.mem_map.mp hb
  rfl
theorem ev_inI {a : Addr} {ns : List Int} {i : Int} (hb : Ev tb σ H (.int i)) (ha : Ev ta σ H (.ref a)) (h : LI K H a ns) : Ev (tOp (rIn K false) tb ta) σ H (.bl (decide (i ∈ ns))) := by
  rw [← inV_int]
  exact Evl.ev_op hb ha (Evl.rv_isL h rfl (flat_ints ns))
theorem ev_notInI {a : Addr} {ns : List Int} {i : Int} (hb : Ev tb σ H (.int i)) (ha : Ev ta σ H (.ref a)) (h : LI K H a ns) : Ev (tOp (rIn K true) tb ta) σ H (.bl (!decide (i ∈ ns))) := by
  rw [← inV_int]
  exact Evl.ev_op hb ha (Evl.rv_niL h rfl (flat_ints ns))

/-! ### is_closed -/
def risingF (n last : Int) : List Int → Bool
  | [] => true
  | p :: r => decide ((0 ≤ p ∧ p < n) ∧ last < p) && risingF n p r
def allT (f : Nat → Tie → Bool) : Nat → List Tie → Bool
  | _, [] => true
  | i, t :: r => f i t && allT f (i + 1) r
def sideF (pts : List Int) (skip : Int) (i : Nat) (t : Tie) : Bool := !(decide ((i : Int) ≠ skip) && !(decide (t.1 ∈ pts) == decide (t.2.1 ∈ pts)))
def closedF (n : Int) (ts : List Tie) (pts : List Int) (skip : Int) : Bool := risingF n (-1) pts && allT (sideF pts skip) 0 ts
def sp_is_closed (K : PySem.W.Frag) : Sp := fun vs H Q _ => ∃ (w l : Addr) (skip n turn : Int) (ts : List Tie) (pts : List Int), vs = [.ref w, .ref l, .int skip] ∧ WebAt K H w n ts turn ∧ LI K H l pts ∧ pts.length ≤ 5000 ∧ RetV (.bl (closedF n ts pts skip)) H Q
theorem ev_is_closed {w l : Addr} {skip n turn : Int} {ts : List Tie} {pts : List Int} (h : EvA tl σ H [.ref w, .ref l, .int skip]) (hw : WebAt K H w n ts turn) (hp : LI K H l pts) (hl : pts.length ≤ 5000) : Ev (tCall (sp_is_closed K) [] E0 tl) σ H (.bl (closedF n ts pts skip)) :=
  ev_call h fun H1 Q e k => ⟨w, l, skip, n, turn, ts, pts, rfl, hw.mono e, hp.mono e, hl, k⟩
theorem kmem {kvs : List (Key × V)} {ks : List Int} (h : kvs.map (·.1) = ks.map Sum.inl) (i : Int) : (valV kvs (Sum.inl i)).isSome = decide (i ∈ ks) := by
  rw [← valV_any, Bool.eq_iff_iff, List.any_eq_true, decide_eq_true_iff]
  constructor
  · rintro ⟨kv, hm, he⟩
    have e2 : kv.1 = Sum.inl i := of_decide_eq_true he
    have : kv.1 ∈ kvs.map (·.1) := List.mem_map.mpr ⟨kv, hm, rfl⟩
    rw [h, e2] at this
    obtain ⟨j, hj, e⟩ := List.mem_map.mp this
    cases e
    exact hj
  · intro hi
    have : (Sum.inl i : Key) ∈ kvs.map (·.1) := by rw [h]; exact List.mem_map.mpr ⟨i, hi, rfl⟩
    obtain ⟨kv, hm, e⟩ := List.mem_map.mp this
    exact ⟨kv, hm, decide_eq_true e⟩
theorem ev_dinK {a : Addr} {kvs : List (Key × V)} {ks : List Int} {i : Int} (ha : Ev ta σ H (.int i)) (hb : Ev tb σ H (.ref a)) (h : Rd H a (.dK kvs)) (hk : kvs.map (·.1) = ks.map Sum.inl) : Ev (tDIn ta tb) σ H (.bl (decide (i ∈ ks))) := by
  have e := ev_din ha hb h
  rw [kmem hk] at e
  exact e
theorem allT_drop {f : Nat → Tie → Bool} {ts : List Tie} {i : Nat} {t : Tie} (h : ts[i]? = some t) : allT f i (ts.drop i) = (f i t && allT f (i + 1) (ts.drop (i + 1))) := by
  obtain ⟨hl, e⟩ := List.getElem?_eq_some_iff.mp h
  rw [List.drop_eq_getElem_cons hl, e]
  rfl
def t_is_closed (K : PySem.W.Frag) : TS :=
 (tSeq (tAsg tDNewK (gName 3))
 (tSeq (tAsg (tUn rNegI (tC (.int 1))) (gName 4))
 (tSeq (tFor (iList K (tVar 1)) (gName 5) (tSeq (tIfS (tOr (tNot (tB (tCall (sp_is_below K) [] E0 (tCons (tVar 5) (tCons (tFld K (tVar 0) "points") tNil))))) (tTest (tOp rLeI (tVar 5) (tVar 4)))) (tRet (tC (.bl false))) tNext)
 (tSeq (sDPut (tVar 3) (tVar 5) (tC (.bl true)))
 (tAsg (tVar 5) (gName 4)))))
 (tSeq (tFor (iEnum K (tCons (tFld K (tVar 0) "bound") tNil)) (gTup K 2 (gCons (gName 6) (gCons (gName 7) gNil))) (tIfS (tAnd (tTest (tOp rNe (tVar 6) (tVar 2))) (tTest (tOp rNe (tDIn (tOp (rIxT K) (tVar 7) (tC (.int 0))) (tVar 3)) (tDIn (tOp (rIxT K) (tVar 7) (tC (.int 1))) (tVar 3))))) (tRet (tC (.bl false))) tNext))
 (tRet (tC (.bl true)))))))
theorem rd_is_closed (vs : List V) (H : Hp) (Q : VK) (E : XK) (h : sp_is_closed K vs H Q E) : goal (t_is_closed K) ["web", "points", "skipped", "inside", "last", "point", "at", "tie"] vs H Q := by
  obtain ⟨w, l, skip, n, turn, ts, pts, rfl, hw, hp, hl, k⟩ := h
  refine q_asgP (P := fun v H2 => ∃ d, v = .ref d ∧ H d = none ∧ H2 d = some (.dK [])) (fun H1 e1 Q' q' => fun p hp => q' _ _ (Ex.new hp) ⟨p, rfl, Evl.fresh_back e1 hp, upd_same⟩) fun v H1 e1 hv => ?_
  obtain ⟨d, rfl, fd, hd1⟩ := hv
  refine Evl.q_asg (v := .int (-1)) (by walk_at "ev") fun H2 e2 => ?_
  refine q_seq (f_list (a := l) (xs := pts.map V.int) (by walk_at "ev") ((hp.mono e1).mono e2)
    (fun i σ' H' => ∃ (last : Int) (kvs : List (Key × V)) (o5 o6 o7 : Option V), σ' = [some (.ref w), some (.ref l), some (.int skip), some (.ref d), some (.int last), o5, o6, o7] ∧ Ex H H' ∧ H' d = some (.dK kvs) ∧ kvs.map (·.1) = (pts.take i).map Sum.inl ∧ (∀ a ∈ pts.take i, a ≤ last) ∧ risingF n (-1) pts = risingF n last (pts.drop i))
    (fun H3 e3 => ⟨-1, [], _, _, _, rfl, e1.trans (e2.trans e3), e3 _ _ (e2 _ _ hd1), rfl, by simp, rfl⟩) (fun i σ' H' _ ⟨_, _, _, _, _, _, e, _⟩ => hp.mono e) ?_ ?_)
  · rintro i x σ' H' hx ⟨last, kvs, o5, o6, o7, rfl, e, hd, hk, hmax, hr⟩
    rw [List.getElem?_map] at hx
    cases hpi : pts[i]? with
    | none => rw [hpi] at hx; cases hx
    | some p =>
      rw [hpi] at hx
      cases hx
      obtain ⟨hil, hge⟩ := List.getElem?_eq_some_iff.mp hpi
      have hdr : pts.drop i = p :: pts.drop (i + 1) := by rw [List.drop_eq_getElem_cons hil, hge]
      have htk : pts.take (i + 1) = pts.take i ++ [p] := by rw [List.take_add_one, hpi]; rfl
      rw [hdr, show risingF n last (p :: pts.drop (i + 1)) = (decide ((0 ≤ p ∧ p < n) ∧ last < p) && risingF n p (pts.drop (i + 1))) from rfl] at hr
      refine Evl.q_when (by walk_at "ev") (fun hb H3 e3 => ?_) fun hb H3 e3 => ?_
      · refine Evl.s_ret Evl.ev_c fun H4 e4 => ?_
        have hf : closedF n ts pts skip = false := by
          unfold closedF
          rw [hr]
          simp at hb
          have : decide ((0 ≤ p ∧ p < n) ∧ last < p) = false := decide_eq_false (by omega)
          rw [this]
          rfl
        rw [hf] at k
        exact k H4 (e.trans (e3.trans e4))
      · have hin : (0 ≤ p ∧ p < n) ∧ last < p := by simp at hb; omega
        rw [decide_eq_true hin, Bool.true_and] at hr
        have hnone : valV kvs (Sum.inl p) = none := by
          have q := kmem hk p
          have : p ∉ pts.take i := fun z => by have := hmax p z; omega
          rw [decide_eq_false this] at q
          cases hv : valV kvs (Sum.inl p : Key) with
          | none => rfl
          | some _ => rw [hv] at q; cases q
        have hkl : kvs.length ≤ 5000 := by
          have := congrArg List.length hk
          rw [List.length_map, List.length_map, List.length_take] at this
          omega
        have hd3 := e3 _ _ hd
        refine q_dput (v := .bl true) (a := d) (kvs := kvs) (i := p) Evl.ev_c (by walk_at "ev") (by walk_at "ev") hd3 (by omega) fun H4 e4 => ?_
        rw [putK_new _ hnone]
        refine Evl.s_asg (v := .int p) (by walk_at "ev") fun H5 e5 => ⟨p, kvs ++ [(Sum.inl p, .bl true)], _, _, _, rfl, ((e.trans (e3.trans e4)).mut fd).trans e5, e5 _ _ upd_same, ?_, fun a ha => ?_, hr⟩
        · rw [List.map_append, hk, htk, List.map_append]
          rfl
        · rw [htk] at ha
          rcases List.mem_append.mp ha with ha | ha
          · have := hmax a ha; omega
          · simp at ha; omega
  · rintro σ' H' ⟨last, kvs, o5, o6, o7, rfl, e, hd, hk, hmax, hr⟩
    rw [List.length_map] at hk hr
    rw [List.take_length] at hk
    rw [List.drop_length] at hr
    have hr2 : risingF n (-1) pts = true := hr
    obtain ⟨b, ⟨us, hq, hT⟩, fb⟩ := (hw.mono e).bound
    have hul : us.length = ts.length := by rw [hT.length, List.length_map]
    dsimp only
    refine q_seq (f_enum (a := b) (xs := us) (fb (Evl.ev_var rfl)) hq
      (fun i σ2 H2 => ∃ (o5 o6 o7 : Option V), σ2 = [some (.ref w), some (.ref l), some (.int skip), some (.ref d), some (.int last), o5, o6, o7] ∧ Ex H' H2 ∧ allT (sideF pts skip) 0 ts = allT (sideF pts skip) i (ts.drop i))
      (fun H2 e2 => ⟨_, _, _, rfl, e2, rfl⟩) (fun i σ2 H2 _ ⟨_, _, _, _, e2, _⟩ => Evl.ex_l e2 hq) ?_ ?_)
    · rintro i x σ2 H2 H3 hx ⟨o5, o6, o7, rfl, e2, ha⟩ e3
      obtain ⟨zz, hz, tz⟩ := (hT.mono (e2.trans e3)).getV hx
      rw [List.getElem?_map] at hz
      cases hti : ts[i]? with
      | none => rw [hti] at hz; cases hz
      | some t =>
        rw [hti] at hz
        cases hz
        rw [allT_drop hti] at ha
        have hd3 := (e2.trans e3) _ _ hd
        refine Evl.s_when (b := !sideF pts skip i t) (Evl.et_is (a := !decide ((i : Int) = skip) && !(decide (t.1 ∈ pts) == decide (t.2.1 ∈ pts))) (Evl.et_and (by walk_at "ev") fun _ => Evl.et_test (Evl.ev_op (ev_dinK (by walk_at "ev") (by walk_at "ev") (Rd.of hd3) hk) (ev_dinK (by walk_at "ev") (by walk_at "ev") (Rd.of hd3) hk) rv_neB)) (by simp [sideF])) (fun hb H4 e4 => ?_) fun hb H4 e4 => ?_
        · refine Evl.s_ret Evl.ev_c fun H5 e5 => ?_
          have hs : sideF pts skip i t = false := by simpa using hb
          have hf : closedF n ts pts skip = false := by
            unfold closedF
            rw [ha, hs]
            simp
          rw [hf] at k
          exact k H5 (e.trans (e2.trans (e3.trans (e4.trans e5))))
        · have hs : sideF pts skip i t = true := by simpa using hb
          rw [hs, Bool.true_and] at ha
          exact ⟨_, _, _, rfl, e2.trans (e3.trans e4), ha⟩
    · rintro σ2 H2 ⟨o5, o6, o7, rfl, e2, ha⟩
      rw [hul, List.drop_length] at ha
      have ha2 : allT (sideF pts skip) 0 ts = true := ha
      dsimp only
      refine Evl.s_ret Evl.ev_c fun H5 e5 => ?_
      have hf : closedF n ts pts skip = true := by
        unfold closedF
        rw [hr2, ha2]
        rfl
      rw [hf] at k
      exact k H5 (e.trans (e2.trans e5))

/-! ### answers that hold one list -/
structure OneTop (K : PySem.W.Frag) (C f : Str) : Prop where
  cl : Cls K (ga K C)
  no : NoAttr K (ga K C) f
/-- an instance of C at p with one field f, the list at l -/
def One (K : PySem.W.Frag) (H : Hp) (C f : Str) (p l : Addr) : Prop := OneTop K C f ∧ ∃ dx, H p = some (.ins (ga K C) dx [(f, V.ref l)])
theorem One.mono {C f : Str} {p l : Addr} (e : Ex H H') (h : One K H C f p l) : One K H' C f p l := by
  obtain ⟨T, dx, a⟩ := h
  exact ⟨T, dx, e _ _ a⟩
theorem ev_one {C f : Str} {p l : Addr} (ha : Ev ta σ H (.ref p)) (h : One K H C f p l) : Ev (tFld K ta f) σ H (.ref l) := by
  obtain ⟨T, dx, a⟩ := h
  exact ev_fld ha a T.cl T.no (by simp)
def sp_one_init (C f : Str) (K : PySem.W.Frag) : Sp := fun vs H Q _ => ∃ (p l dx : Addr) (xs : List V), vs = [.ref p, .ref l] ∧ OneTop K C f ∧ H p = some (.ins (ga K C) dx []) ∧ SqL K H l xs ∧
  ∀ l2 H', ExBut p H H' → H l2 = none → l2 ≠ p → H' p = some (.ins (ga K C) dx [(f, V.ref l2)]) → H' l2 = some (.lst xs) → Q .non H'
def t_one_init (f : Str) (K : PySem.W.Frag) : TS := sFld K (tVar 0) (tCB (rListS K) (tCons (tVar 1) tNil)) f
theorem rd_one_init {C f : Str} {N : List Str} {o : List (Option V)} (vs : List V) (H : Hp) (Q : VK) (E : XK) (h : sp_one_init C f K vs H Q E) (hN : N.length = 2) : goal (t_one_init f K) N vs H Q := by
  obtain ⟨p, l, dx, xs, rfl, T, hp, hl, k⟩ := h
  obtain ⟨a, b, rfl⟩ : ∃ a b, N = [a, b] := by
    match N, hN with
    | [a, b], _ => exact ⟨a, b, rfl⟩
  refine s_fldP (a := p) (ep_list (by walk_at "ev") hl) (by walk_at "ev") hp T.cl T.no (by show 0 < 1000; decide) fun v H1 H2 e1 hv e2 => ?_
  obtain ⟨l2, rfl, f2, h2⟩ := hv
  have ne : l2 ≠ p := fun z => by rw [z, hp] at f2; cases f2
  refine k l2 _ ((e1.but.trans e2.but).trans upd_but) f2 ne upd_same ?_
  rw [upd_ne ne]
  exact e2 _ _ h2
/-- C(xs) made: a new instance, a new list -/
theorem ep_one {C f : Str} {B : List V → Hp → Prop} (bm : ∀ xs H1 H2, Ex H1 H2 → B xs H1 → B xs H2) (T : OneTop K C f) (h : EvP te σ H (fun v H1 => ∃ l xs, v = .ref l ∧ SqL K H1 l xs ∧ B xs H1)) :
    EvP (tMake (ga K C) (sp_one_init C f K) [] E0 (tCons te tNil)) σ H (fun v H2 => ∃ p l xs, v = .ref p ∧ H p = none ∧ H l = none ∧ l ≠ p ∧ One K H2 C f p l ∧ H2 l = some (.lst xs) ∧ B xs H2) := fun H1 e Q q => h H1 e _ fun v H2 e2 hv => by
  obtain ⟨l, xs, rfl, hl, hB⟩ := hv
  intro x dx hx hdx ne
  have big : Ex H H2 := e.trans e2
  have ex1 : Ex H2 (upd (upd H2 dx (.own x)) x (.ins (ga K C) dx [])) := (Ex.new hdx).trans (Ex.new (by rw [upd_ne ne.symm]; exact hx))
  refine ⟨x, l, dx, xs, rfl, T, upd_same, Evl.ex_l ex1 hl, fun l2 H3 eb f2 n2 hp3 hl3 => ⟨rfl, ?_⟩⟩
  have e23 : Ex H2 H3 := fun a o ha => eb a o (fun z => by rw [z, hx] at ha; cases ha) (ex1 a o ha)
  exact q _ H3 (e2.trans e23) ⟨x, l2, xs, rfl, Evl.fresh_back big hx, Evl.fresh_back big (Evl.fresh_back ex1 f2), n2, ⟨T, dx, hp3⟩, hl3, bm _ _ _ e23 hB⟩
end G

/-! Plain laws: what is come to from a point, and the ways there. -/
namespace G
open PySem L2

/-! ### steps beside a point -/
theorem setApp_mem {rows : List (List Step)} {a : Int} {s z : Step} {j : Nat} (ha : a.toNat < rows.length) : z ∈ (setApp rows a s).getD j [] ↔ z ∈ rows.getD j [] ∨ (z = s ∧ j = a.toNat) := by
  unfold setApp
  rw [List.getD_eq_getElem?_getD, List.getElem?_set]
  by_cases h : a.toNat = j
  · subst h
    rw [if_pos rfl, if_pos ha]
    simp
  · rw [if_neg h, ← List.getD_eq_getElem?_getD]
    constructor
    · exact .inl
    · rintro (q | ⟨_, q⟩)
      · exact q
      · exact absurd q.symm h
def Beside (ok : OkT) (ts : List Tie) (k : Nat) (j : Nat) (z : Step) : Prop :=
  ∃ (i : Nat) (t : Tie), i < k ∧ ts[i]? = some t ∧ ok i t = true ∧ ((z = ((i : Int), 1) ∧ j = t.1.toNat) ∨ (z = ((i : Int), -1) ∧ j = t.2.1.toNat))
theorem rowsUp_mem {ok : OkT} {n : Int} {ts : List Tie} (hv : Valid n ts) (j : Nat) (z : Step) : ∀ k, z ∈ (rowsUp ok n ts k).getD j [] ↔ Beside ok ts k j z
  | 0 => by
    unfold rowsUp Beside
    rw [List.getD_eq_getElem?_getD, List.getElem?_replicate]
    constructor
    · intro h
      split at h <;> simp at h
    · rintro ⟨i, t, h, _⟩
      omega
  | k + 1 => by
    have ih := rowsUp_mem (ok := ok) hv j z k
    unfold rowsUp
    cases ht : ts[k]? with
    | none =>
      show z ∈ (rowsUp ok n ts k).getD j [] ↔ _
      rw [ih]
      constructor
      · rintro ⟨i, t, h1, h2⟩
        exact ⟨i, t, by omega, h2⟩
      · rintro ⟨i, t, h1, h2, h3⟩
        refine ⟨i, t, ?_, h2, h3⟩
        by_cases e : i = k
        · subst e
          rw [ht] at h2
          cases h2
        · omega
    | some t =>
      show z ∈ (addT ok k t (rowsUp ok n ts k)).getD j [] ↔ _
      obtain ⟨v1, v2, v3⟩ := hv t (List.mem_of_getElem? ht)
      unfold addT
      by_cases hk : ok k t = true
      · rw [if_pos hk, setApp_mem (by rw [setApp_len, rowsUp_len]; omega), setApp_mem (by rw [rowsUp_len]; omega), ih]
        constructor
        · rintro ((⟨i, u, h1, h2⟩ | ⟨h1, h2⟩) | ⟨h1, h2⟩)
          · exact ⟨i, u, by omega, h2⟩
          · exact ⟨k, t, by omega, ht, hk, .inl ⟨h1, h2⟩⟩
          · exact ⟨k, t, by omega, ht, hk, .inr ⟨h1, h2⟩⟩
        · rintro ⟨i, u, h1, h2, h3, h4⟩
          by_cases e : i = k
          · subst e
            rw [ht] at h2
            cases h2
            rcases h4 with h4 | h4
            · exact .inl (.inr h4)
            · exact .inr h4
          · exact .inl (.inl ⟨i, u, by omega, h2, h3, h4⟩)
      · rw [if_neg hk, ih]
        constructor
        · rintro ⟨i, u, h1, h2⟩
          exact ⟨i, u, by omega, h2⟩
        · rintro ⟨i, u, h1, h2, h3, h4⟩
          refine ⟨i, u, ?_, h2, h3, h4⟩
          by_cases e : i = k
          · subst e
            rw [ht] at h2
            cases h2
            exact absurd h3 hk
          · omega
theorem stepF_fwd {ts : List Tie} {i : Nat} {t : Tie} (h : ts[i]? = some t) : stepF ts t.1 ((i : Int), 1) = (t.2.1, t.2.2) := by
  have hl := (List.getElem?_eq_some_iff.mp h).1
  unfold stepF
  rw [if_pos (by constructor <;> (show _ ; simp) <;> omega)]
  simp [h]
theorem stepF_back {ts : List Tie} {i : Nat} {t : Tie} (h : ts[i]? = some t) : stepF ts t.2.1 ((i : Int), -1) = (t.1, -t.2.2) := by
  have hl := (List.getElem?_eq_some_iff.mp h).1
  unfold stepF
  rw [if_pos (by constructor <;> (show _ ; simp) <;> omega)]
  simp [h]
/-- what is known of a step beside a point -/
structure StepOf (ok : OkT) (ts : List Tie) (n a : Int) (s : Step) (b : Int) : Prop where
  to : (stepF ts a s).1 = b
  back : (stepF ts b (s.1, -s.2)).1 = a
  lo : 0 ≤ b
  hi : b < n
  tie : ∃ (i : Nat) (t : Tie), ts[i]? = some t ∧ ok i t = true ∧ s.1 = (i : Int) ∧ ((s.2 = 1 ∧ t.1 = a ∧ t.2.1 = b) ∨ (s.2 = -1 ∧ t.2.1 = a ∧ t.1 = b))
theorem rows_step {ok : OkT} {n : Int} {ts : List Tie} (hv : Valid n ts) {a : Int} (h0 : 0 ≤ a) {s : Step} (h : s ∈ (rowsUp ok n ts ts.length).getD a.toNat []) : ∃ b, StepOf ok ts n a s b := by
  obtain ⟨i, t, h1, h2, h3, h4⟩ := (rowsUp_mem hv _ _ _).mp h
  obtain ⟨v1, v2, v3⟩ := hv t (List.mem_of_getElem? h2)
  rcases h4 with ⟨rfl, e⟩ | ⟨rfl, e⟩
  · have ea : a = t.1 := by omega
    subst ea
    exact ⟨t.2.1, by rw [stepF_fwd h2], by show (stepF ts t.2.1 ((i : Int), -1)).1 = _; rw [stepF_back h2], v2.1, v2.2, i, t, h2, h3, rfl, .inl ⟨rfl, rfl, rfl⟩⟩
  · have ea : a = t.2.1 := by omega
    subst ea
    refine ⟨t.1, by rw [stepF_back h2], ?_, v1.1, v1.2, i, t, h2, h3, rfl, .inr ⟨rfl, rfl, rfl⟩⟩
    show (stepF ts t.1 ((i : Int), - -1)).1 = _
    rw [show (- -1 : Int) = 1 from rfl, stepF_fwd h2]
theorem rows_of {ok : OkT} {n : Int} {ts : List Tie} (hv : Valid n ts) {i : Nat} {t : Tie} (h : ts[i]? = some t) (hk : ok i t = true) :
    ((i : Int), 1) ∈ (rowsUp ok n ts ts.length).getD t.1.toNat [] ∧ ((i : Int), -1) ∈ (rowsUp ok n ts ts.length).getD t.2.1.toNat [] := by
  have hl := (List.getElem?_eq_some_iff.mp h).1
  exact ⟨(rowsUp_mem hv _ _ _).mpr ⟨i, t, hl, h, hk, .inl ⟨rfl, rfl⟩⟩, (rowsUp_mem hv _ _ _).mpr ⟨i, t, hl, h, hk, .inr ⟨rfl, rfl⟩⟩⟩
theorem rows_good {ok : OkT} {n : Int} {ts : List Tie} (hv : Valid n ts) : GoodR ts n (rowsUp ok n ts ts.length) := by
  refine ⟨rowsUp_len .., fun a h0 h1 s hs => ?_⟩
  obtain ⟨b, q⟩ := rows_step hv h0 hs
  rw [q.to]
  exact ⟨q.lo, q.hi⟩

/-! ### walks -/
theorem walkA_snoc {ts : List Tie} {s : Step} : ∀ {ss : List Step} {pre : List Int} {p c : Int} {ps : List Int} {q d : Int}, walkA ts pre p c ss = some (ps ++ [q], d) → 0 ≤ (stepF ts q s).1 →
    walkA ts pre p c (ss ++ [s]) = some (ps ++ [q] ++ [(stepF ts q s).1], d + (stepF ts q s).2)
  | [], pre, p, c, ps, q, d, h, h0 => by
    unfold walkA at h
    obtain ⟨e1, e2⟩ := Prod.mk.inj (Option.some.inj h)
    obtain ⟨e3, e4⟩ := List.append_inj' e1 rfl
    cases e4
    subst e3 e2
    show (if (stepF ts p s).1 < 0 then none else walkA ts (pre ++ [p]) (stepF ts p s).1 (c + (stepF ts p s).2) []) = _
    rw [if_neg (by omega)]
    rfl
  | r :: ss, pre, p, c, ps, q, d, h, h0 => by
    unfold walkA at h
    show (if (stepF ts p r).1 < 0 then none else walkA ts (pre ++ [p]) (stepF ts p r).1 (c + (stepF ts p r).2) (ss ++ [s])) = _
    split at h
    · cases h
    · rename_i hn
      rw [if_neg hn]
      exact walkA_snoc h h0
theorem walkF_snoc {ts : List Tie} {s : Step} {ss : List Step} {p : Int} {ps : List Int} {q d : Int} (h : walkF ts p ss = some (ps, d)) (hq : ps.getLast? = some q) (h0 : 0 ≤ (stepF ts q s).1) :
    walkF ts p (ss ++ [s]) = some (ps ++ [(stepF ts q s).1], d + (stepF ts q s).2) := by
  obtain ⟨ys, rfl⟩ := List.getLast?_eq_some_iff.mp hq
  exact walkA_snoc h h0

/-! ### the tree's ways -/
theorem look_grow {cs : List (Int × List Int)} {k j : Int} {x y : List Int} (h : cs.lookup k = some x) : (cs ++ [(j, y)]).lookup k = some x := by
  rw [look_app, h]
  rfl
theorem Back.grow {ts : List Tie} {cs : List (Int × List Int)} {k j : Int} {r : List Step} {y : List Int} (h : Back ts cs k r) : Back ts (cs ++ [(j, y)]) k r := by
  induction h with
  | stop h => exact .stop (look_grow h)
  | go h _ ih => exact .go (look_grow h) ih
structure PathTo (ok : OkT) (ts : List Tie) (n start : Int) (cs : List (Int × List Int)) (k : Int) (r : List Step) (ps : List Int) (c : Int) : Prop where
  back : Back ts cs k r
  walk : walkF ts start r.reverse = some (ps, c)
  last : ps.getLast? = some k
  nd : ps.Nodup
  sub : ∀ p ∈ ps, p ∈ keys cs
  len : r.length < cs.length
  ok_ : ∀ s ∈ r, ∃ (i : Nat) (t : Tie), ts[i]? = some t ∧ ok i t = true ∧ s.1 = (i : Int)
theorem tree_path {ok : OkT} {ts : List Tie} {n start : Int} {cs : List (Int × List Int)} (hv : Valid n ts) (h0 : 0 ≤ start ∧ start < n) (h : Tree ts (rowsUp ok n ts ts.length) start cs) : ∀ k ∈ keys cs, ∃ r ps c, PathTo ok ts n start cs k r ps c := by
  have g := rows_good (ok := ok) hv
  induction h with
  | root =>
    intro k hk
    simp [keys] at hk
    subst hk
    exact ⟨[], [k], 0, .stop (by simp), rfl, rfl, by simp, by simp [keys], by simp, by simp⟩
  | grow h ha hs hn ih =>
    rename_i cs a s
    intro k hk
    simp only [keys, List.map_append, List.mem_append] at hk
    have hr := h.range g h0
    rcases hk with hk | hk
    · obtain ⟨r, ps, c, q⟩ := ih k hk
      exact ⟨r, ps, c, q.back.grow, q.walk, q.last, q.nd, fun p hp => by simp only [keys, List.map_append, List.mem_append]; exact .inl (q.sub p hp), by have := q.len; simp; omega, q.ok_⟩
    · simp at hk
      subst hk
      obtain ⟨b, sb⟩ := rows_step hv (hr a ha).1 hs
      obtain ⟨r, ps, c, q⟩ := ih a ha
      have e1 := sb.to
      have hw := walkF_snoc (s := s) q.walk q.last (by rw [e1]; exact sb.lo)
      refine ⟨s :: r, ps ++ [(stepF ts a s).1], c + (stepF ts a s).2, .go (s := s) ?_ ?_, ?_, by simp, ?_, ?_, by have := q.len; simp; omega, ?_⟩
      · rw [look_app]
        have : cs.lookup (stepF ts a s).1 = none := look_none.mpr hn
        rw [this]
        simp
      · rw [e1, sb.back]
        exact q.back.grow
      · rw [List.reverse_cons]
        exact hw
      · rw [List.nodup_append]
        refine ⟨q.nd, by simp, fun x hx y hy => ?_⟩
        simp at hy
        subst hy
        exact fun z => hn (z ▸ q.sub x hx)
      · intro p hp
        simp only [keys, List.map_append, List.mem_append]
        rcases List.mem_append.mp hp with hp | hp
        · exact .inl (q.sub p hp)
        · simp at hp
          subst hp
          exact .inr (by simp)
      · intro z hz
        rcases List.mem_cons.mp hz with rfl | hz
        · obtain ⟨i, t, h1, h2, h3, _⟩ := sb.tie
          exact ⟨i, t, h1, h2, h3⟩
        · exact q.ok_ z hz
theorem ucount_nodup {ps : List Int} (h : ps.Nodup) : ucount ps = ps.length := by
  unfold ucount
  rw [RZ.firstMet_nodup h ps.length (Nat.le_refl _), List.take_length]
theorem path_straight {ok : OkT} {ts : List Tie} {n start k c : Int} {cs : List (Int × List Int)} {r : List Step} {ps : List Int} (h : PathTo ok ts n start cs k r ps c) : straightF ts start r.reverse k = true := by
  unfold straightF
  rw [h.walk]
  show (decide (ps.getLast? = some k) && decide (ucount ps = ps.length)) = true
  rw [h.last, ucount_nodup h.nd]
  simp
/-- what is come to is closed -/
theorem reach_side {ok : OkT} {ts : List Tie} {n start : Int} {cs : List (Int × List Int)} (hv : Valid n ts) (h : Reach ts (rowsUp ok n ts ts.length) start cs) {i : Nat} {t : Tie} (ht : ts[i]? = some t) (hk : ok i t = true) : t.1 ∈ keys cs ↔ t.2.1 ∈ keys cs := by
  obtain ⟨r1, r2⟩ := rows_of hv ht hk
  constructor
  · intro q
    have := h.2 _ q _ r1
    rw [stepF_fwd ht] at this
    exact this
  · intro q
    have := h.2 _ q _ r2
    rw [stepF_back ht] at this
    exact this
theorem rising_of {n last : Int} : ∀ {ps : List Int}, ps.Pairwise (· < ·) → (∀ p ∈ ps, 0 ≤ p ∧ p < n) → (∀ p ∈ ps, last < p) → risingF n last ps = true
  | [], _, _, _ => rfl
  | p :: r, h, h1, h2 => by
    have h3 := h1 p List.mem_cons_self
    have h4 := h2 p List.mem_cons_self
    obtain ⟨a, b⟩ := List.pairwise_cons.mp h
    unfold risingF
    rw [rising_of b (fun q hq => h1 q (List.mem_cons_of_mem _ hq)) (fun q hq => a q hq), decide_eq_true ⟨h3, h4⟩]
    rfl
theorem allT_of {f : Nat → Tie → Bool} : ∀ {ts : List Tie} {i : Nat}, (∀ j t, ts[j]? = some t → f (i + j) t = true) → allT f i ts = true
  | [], _, _ => rfl
  | t :: r, i, h => by
    unfold allT
    rw [show f i t = true from h 0 t rfl, allT_of (fun j u hu => by have := h (j + 1) u (by simpa using hu); rwa [show i + (j + 1) = i + 1 + j by omega] at this)]
    rfl
theorem closed_of {ok : OkT} {ts : List Tie} {n start skip : Int} {cs : List (Int × List Int)} {pts : List Int} (hv : Valid n ts) (h0 : 0 ≤ start ∧ start < n) (h : Reach ts (rowsUp ok n ts ts.length) start cs) (hk : ∀ i t, ts[i]? = some t → ok i t = true ∨ (i : Int) = skip)
    (hp : pts.Perm (keys cs)) (hs : pts.Pairwise (· ≤ ·)) : closedF n ts pts skip = true := by
  have hr := h.1.range (rows_good hv) h0
  have nd : pts.Nodup := hp.nodup_iff.mpr h.1.nodup
  have hlt : pts.Pairwise (· < ·) := by
    have := List.Pairwise.and hs nd
    exact this.imp fun {a b} ⟨h1, h2⟩ => by
      have : a ≠ b := h2
      omega
  unfold closedF
  rw [rising_of hlt (fun p hp' => hr p (hp.mem_iff.mp hp')) (fun p hp' => by have := hr p (hp.mem_iff.mp hp'); omega), Bool.true_and]
  refine allT_of fun j t ht => ?_
  rw [Nat.zero_add]
  unfold sideF
  rcases hk j t ht with hk | hk
  · have := reach_side hv h ht hk
    have e : decide (t.1 ∈ pts) = decide (t.2.1 ∈ pts) := by
      rw [Bool.eq_iff_iff, decide_eq_true_iff, decide_eq_true_iff, hp.mem_iff, hp.mem_iff]
      exact this
    rw [e]
    simp
  · rw [hk]
    simp
theorem start_in {ts : List Tie} {rows : List (List Step)} {start : Int} {cs : List (Int × List Int)} (h : Tree ts rows start cs) : start ∈ keys cs := by
  induction h with
  | root => simp [keys]
  | grow _ _ _ _ ih =>
    simp only [keys, List.map_append, List.mem_append]
    exact .inl ih
end G

/-! spare, between, climb; Around, Held, Way, Apart. -/
namespace G
open PySem PySem.Spec PyProof.Rows L2
open Evl (Ex Ev EvL EvU EvT EvA RV RetV)
local macro_rules | `(tactic| walk_at "hp") => `(tactic| first
  | with_reducible assumption
  | ((with_reducible show _ = some (_ : HO)); (with_reducible exact ex_app (by assumption) (by walk_at "hp")))
  | ((with_reducible show TupI _ _ _ _); (with_reducible exact TupI.mono (by assumption) (by walk_at "hp")))
  | ((with_reducible show LT _ _ _ _); (with_reducible exact LT.mono (by assumption) (by walk_at "hp")))
  | ((with_reducible show LI _ _ _ _); (first | (with_reducible exact li_of (by walk_at "hp")) | (with_reducible exact LI.mono (by assumption) (by walk_at "hp"))))
  | ((with_reducible show SqL _ _ _ _); (first | (with_reducible exact SqL.of (by walk_at "hp")) | (with_reducible exact Evl.ex_l (by assumption) (by walk_at "hp"))))
  | ((with_reducible show SqT _ _ _ _); (first | (with_reducible exact SqT.of (by walk_at "hp")) | (with_reducible exact Evl.ex_t (by assumption) (by walk_at "hp"))))
  | ((with_reducible show Rd _ _ _); (first | (with_reducible exact Rd.of (by walk_at "hp")) | (with_reducible exact Evl.ex_rd (by assumption) (by walk_at "hp"))))
  | walk_at "hpf")
local macro_rules | `(tactic| walk_at "at") => `(tactic| first
  | with_reducible assumption
  | with_reducible rfl
  | (refine atI_of ?va ?vb; (case va => omega); (case vb => assumption))
  | walk_at "atf"
  | rfl)
local macro_rules | `(tactic| walk_at "rv") => `(tactic| first
  | with_reducible exact rv_add | with_reducible exact rv_sub | with_reducible exact rv_eqI | with_reducible exact rv_neI | with_reducible exact rv_lt | with_reducible exact rv_le | with_reducible exact rv_gt | with_reducible exact rv_ge
  | with_reducible exact rv_eqB | with_reducible exact rv_neB | with_reducible exact rv_isB | with_reducible exact rv_notB
  | ((with_reducible refine rv_mod ?_); (first | assumption | omega))
  | ((with_reducible refine rv_mul ?_); (first | exact Or.inl ⟨by omega, by omega⟩ | exact Or.inr ⟨by omega, by omega⟩))
  | ((with_reducible refine rv_div ?_); exact ⟨by omega, by omega⟩))
local macro_rules | `(tactic| walk_at "ty") => `(tactic| first
  | with_reducible exact fun _ _ => .base (.int _) | with_reducible exact fun _ _ => .base (.bl _) | with_reducible exact fun _ _ => .base .non | with_reducible exact fun _ _ => .base (.str _)
  | ((with_reducible apply ty_tup); walk_at "hp")
  | ((with_reducible apply ty_lst); walk_at "hp")
  | walk_at "tyf")
local macro_rules | `(tactic| walk_at "ev") => `(tactic| repeat' (first
  | with_reducible exact Evl.ev_c
  | ((with_reducible apply Evl.ev_var); rfl)
  | with_reducible apply ev_neg
  | with_reducible apply ev_ixU
  | walk_at "evf"
  | ((with_reducible apply ev_lenI); (· walk_at "ev"); (· walk_at "hp"))
  | ((with_reducible apply ev_lenT); (· walk_at "ev"); (· walk_at "hp"))
  | ((with_reducible apply ev_lenU); (· walk_at "ev"))
  | with_reducible apply ev_lenSet
  | with_reducible apply ev_chain
  | with_reducible apply ev_isiTy
  | with_reducible apply Evl.ev_andV
  | with_reducible apply Evl.ev_orV
  | with_reducible apply Evl.ev_notV
  | ((with_reducible apply ev_ixI); (· walk_at "ev"); (· walk_at "ev"); (· walk_at "hp"); (· walk_at "at"))
  | with_reducible apply Evl.ev_op
  | ((with_reducible apply evi_of); (· (with_reducible apply Evl.ev_var); rfl); (· walk_at "hp"))
  | with_reducible apply ei_ix
  | with_reducible apply ei_tup
  | with_reducible exact eai_nil
  | with_reducible apply eai_cons
  | with_reducible exact Evl.ea_nil
  | with_reducible apply Evl.ea_cons
  | with_reducible apply Evl.et_test
  | with_reducible apply Evl.et_and
  | with_reducible apply Evl.et_or
  | with_reducible apply Evl.et_not
  | with_reducible apply Evl.et_B
  | walk_at "rv"
  | ((with_reducible show L2.kitB _ _ = _); rfl)
  | ((with_reducible show L2.atI _ _ = _); walk_at "at")
  | ((with_reducible show (_ : Nat) ≤ _); (first | omega | (simp; done) | (simp; omega)))
  | ((with_reducible show _ = true → _); intro _)
  | ((with_reducible show _ = false → _); intro _)
  | ((with_reducible show TupI _ _ _ _); walk_at "hp")
  | ((with_reducible show LT _ _ _ _); walk_at "hp")
  | ((with_reducible show LI _ _ _ _); walk_at "hp")
  | ((with_reducible show SqL _ _ _ _); walk_at "hp")
  | ((with_reducible show SqT _ _ _ _); walk_at "hp")
  | ((with_reducible show Rd _ _ _); walk_at "hp")
  | ((with_reducible show _ = some (_ : HO)); walk_at "hp")
  | walk_at "hpg"
  | walk_at "ty"))

local macro_rules | `(tactic| walk_at "hpf") => `(tactic| ((with_reducible show WebAt _ _ _ _ _ _); (with_reducible exact WebAt.mono (by assumption) (by walk_at "hp"))))
local macro_rules | `(tactic| walk_at "hpg") => `(tactic| ((with_reducible show WebAt _ _ _ _ _ _); walk_at "hp"))
local macro_rules | `(tactic| walk_at "evf") => `(tactic| with_reducible apply ev_points)
local macro_rules | `(tactic| walk_at "evf") => `(tactic| with_reducible apply ev_turn)
local macro_rules | `(tactic| walk_at "evf") => `(tactic| with_reducible apply ev_lenB)
local macro_rules | `(tactic| walk_at "evf") => `(tactic| with_reducible apply ei_bound)
local macro_rules | `(tactic| walk_at "evf") => `(tactic| with_reducible apply ev_is_whole)
local macro_rules | `(tactic| walk_at "evf") => `(tactic| with_reducible apply ev_is_below)
local macro_rules | `(tactic| walk_at "evf") => `(tactic| with_reducible apply ev_is_tie)
local macro_rules | `(tactic| walk_at "evf") => `(tactic| with_reducible apply ei_stepped)
variable {K : PySem.W.Frag} {σ : L2.St} {H H' H1 : Hp} {ta tb tc te : TE} {t u : TT} {tl : TA} {v x y z : V}

/-! ### the lists that answers hold -/
def HasS (K : PySem.W.Frag) (H : Hp) (l : Addr) (ss : List Step) : Prop := ∃ vs, H l = some (.lst vs) ∧ TupL K H vs (ss.map stepL)
theorem HasS.mono {l : Addr} {ss : List Step} (e : Ex H H') (h : HasS K H l ss) : HasS K H' l ss := by
  obtain ⟨vs, a, b⟩ := h
  exact ⟨vs, e _ _ a, b.mono e⟩
theorem HasS.lt {l : Addr} {ss : List Step} (h : HasS K H l ss) : LStep K H l ss := by
  obtain ⟨vs, a, b⟩ := h
  exact ⟨vs, SqL.of a, b⟩
def HasI (H : Hp) (l : Addr) (ns : List Int) : Prop := H l = some (.lst (ns.map V.int))
theorem HasI.mono {l : Addr} {ns : List Int} (e : Ex H H') (h : HasI H l ns) : HasI H' l ns := e _ _ h
theorem HasI.li {l : Addr} {ns : List Int} (h : HasI H l ns) : LI K H l ns := li_of h
abbrev sp_Around_init := sp_one_init "Around" "steps"
abbrev sp_Way_init := sp_one_init "Way" "steps"
abbrev sp_Held_init := sp_one_init "Held" "points"
abbrev sp_Apart_init := sp_one_init "Apart" "points"

/-! ### check_tie, check_point -/
def sp_check_tie (K : PySem.W.Frag) : Sp := fun vs H Q _ => ∃ (w : Addr) (i n turn : Int) (ts : List Tie), vs = [.ref w, .int i] ∧ WebAt K H w n ts turn ∧ (0 ≤ i ∧ i < ts.length) ∧ RetV .non H Q
theorem ev_check_tie {w : Addr} {i n turn : Int} {ts : List Tie} (h : EvA tl σ H [.ref w, .int i]) (hw : WebAt K H w n ts turn) (hi : 0 ≤ i ∧ i < ts.length) : Ev (tCall (sp_check_tie K) [] E0 tl) σ H .non :=
  ev_call h fun H1 Q e k => ⟨w, i, n, turn, ts, rfl, hw.mono e, hi, k⟩
def sp_check_point (K : PySem.W.Frag) : Sp := fun vs H Q _ => ∃ (w : Addr) (i n turn : Int) (ts : List Tie), vs = [.ref w, .int i] ∧ WebAt K H w n ts turn ∧ (0 ≤ i ∧ i < n) ∧ RetV .non H Q
theorem ev_check_point {w : Addr} {i n turn : Int} {ts : List Tie} (h : EvA tl σ H [.ref w, .int i]) (hw : WebAt K H w n ts turn) (hi : 0 ≤ i ∧ i < n) : Ev (tCall (sp_check_point K) [] E0 tl) σ H .non :=
  ev_call h fun H1 Q e k => ⟨w, i, n, turn, ts, rfl, hw.mono e, hi, k⟩
def t_check_tie (K : PySem.W.Frag) : TS :=
 (tIfS (tNot (tB (tCall (sp_is_below K) [] E0 (tCons (tVar 1) (tCons (tCB (rLenS K) (tCons (tFld K (tVar 0) "bound") tNil)) tNil))))) tNever tNext)
def t_Around_shows (K : PySem.W.Frag) : TS :=
 (tSeq (tAsg (tOp (rIxL K) (tFld K (tVar 1) "bound") (tVar 2)) (gTup K 3 (gCons (gName 3) (gCons (gName 4) (gCons (gName 5) gNil)))))
 (tSeq (tIfS (tNot (tB (tCall (sp_is_straight K) [] E0 (tCons (tVar 1) (tCons (tVar 3) (tCons (tFld K (tVar 0) "steps") (tCons (tVar 4) tNil))))))) (tRet (tC (.bl false))) tNext)
 (tRet (tCB (rAll K) (tCons (tLc (iList K (tFld K (tVar 0) "steps")) (gName 6) tYes (tOp rNe (tOp (rIxT K) (tVar 6) (tC (.int 0))) (tVar 2)) [6]) tNil)))))
def t_Held_shows (K : PySem.W.Frag) : TS :=
 (tSeq (tAsg (tOp (rIxL K) (tFld K (tVar 1) "bound") (tVar 2)) (gTup K 3 (gCons (gName 3) (gCons (gName 4) (gCons (gName 5) gNil)))))
 (tRet (tAndV (tOp (rIn K false) (tVar 3) (tFld K (tVar 0) "points")) (tAndV (tOp (rIn K true) (tVar 4) (tFld K (tVar 0) "points")) (tCall (sp_is_closed K) [] E0 (tCons (tVar 1) (tCons (tFld K (tVar 0) "points") (tCons (tVar 2) tNil))))))))
def t_spare (K : PySem.W.Frag) : TS :=
 (tSeq (tDrop (tCall (sp_check_tie K) [] E0 (tCons (tVar 0) (tCons (tVar 1) tNil))))
 (tSeq (tAsg (tOp (rIxL K) (tFld K (tVar 0) "bound") (tVar 1)) (gTup K 3 (gCons (gName 2) (gCons (gName 3) (gCons (gName 4) gNil)))))
 (tSeq (tAsg (tCall (sp_reached K) [] E0 (tCons (tVar 0) (tCons (tVar 2) (tCons (tCall (sp_beside K) [] E0 (tCons (tVar 0) (tCons (tVar 1) (tCons (tC (.bl false)) tNil)))) tNil)))) (gName 5))
 (tSeq (tIfS (tB (tDIn (tVar 3) (tVar 5))) (tRet (tMake (ga K "Around") (sp_Around_init K) [] E0 (tCons (tCall (sp_way_back K) [] E0 (tCons (tVar 0) (tCons (tVar 5) (tCons (tVar 3) tNil)))) tNil))) tNext)
 (tRet (tMake (ga K "Held") (sp_Held_init K) [] E0 (tCons (tCB rSortedD (tCons (tVar 5) tNil)) tNil)))))))
def t_check_point (K : PySem.W.Frag) : TS :=
 (tIfS (tNot (tB (tCall (sp_is_below K) [] E0 (tCons (tVar 1) (tCons (tFld K (tVar 0) "points") tNil))))) tNever tNext)
def t_Way_shows (K : PySem.W.Frag) : TS :=
 (tRet (tCall (sp_is_straight K) [] E0 (tCons (tVar 1) (tCons (tVar 2) (tCons (tFld K (tVar 0) "steps") (tCons (tVar 3) tNil))))))
def t_Apart_shows (K : PySem.W.Frag) : TS :=
 (tRet (tAndV (tOp (rIn K false) (tVar 2) (tFld K (tVar 0) "points")) (tAndV (tOp (rIn K true) (tVar 3) (tFld K (tVar 0) "points")) (tCall (sp_is_closed K) [] E0 (tCons (tVar 1) (tCons (tFld K (tVar 0) "points") (tCons (tUn rNegI (tC (.int 1))) tNil)))))))
theorem rd_check_tie (vs : List V) (H : Hp) (Q : VK) (E : XK) (h : sp_check_tie K vs H Q E) : goal (t_check_tie K) ["web", "tie"] vs H Q := by
  obtain ⟨w, i, n, turn, ts, rfl, hw, hi, k⟩ := h
  exact s_never (by walk_at "ev") (by rw [decide_eq_true hi]; rfl) fun H1 e1 => k H1 e1
theorem rd_check_point (vs : List V) (H : Hp) (Q : VK) (E : XK) (h : sp_check_point K vs H Q E) : goal (t_check_point K) ["web", "point"] vs H Q := by
  obtain ⟨w, i, n, turn, ts, rfl, hw, hi, k⟩ := h
  exact s_never (by walk_at "ev") (by rw [decide_eq_true hi]; rfl) fun H1 e1 => k H1 e1

/-! ### shows -/
def aroundF (ts : List Tie) (tt : Tie) (ss : List Step) (tie : Int) : Bool := straightF ts tt.1 ss tt.2.1 && ss.all fun s => !decide (s.1 = tie)
def heldF (n : Int) (ts : List Tie) (tt : Tie) (pts : List Int) (tie : Int) : Bool := decide (tt.1 ∈ pts) && (!decide (tt.2.1 ∈ pts) && closedF n ts pts tie)
def apartF (n : Int) (ts : List Tie) (pts : List Int) (one other : Int) : Bool := decide (one ∈ pts) && (!decide (other ∈ pts) && closedF n ts pts (-1))
def sp_Around_shows (K : PySem.W.Frag) : Sp := fun vs H Q _ => ∃ (a l w : Addr) (tie n turn : Int) (ts : List Tie) (tt : Tie) (ss : List Step), vs = [.ref a, .ref w, .int tie] ∧ One K H "Around" "steps" a l ∧ HasS K H l ss ∧ ss.length ≤ 3000 ∧ WebAt K H w n ts turn ∧ atI ts tie = some tt ∧ RetV (.bl (aroundF ts tt ss tie)) H Q
def sp_Held_shows (K : PySem.W.Frag) : Sp := fun vs H Q _ => ∃ (a l w : Addr) (tie n turn : Int) (ts : List Tie) (tt : Tie) (pts : List Int), vs = [.ref a, .ref w, .int tie] ∧ One K H "Held" "points" a l ∧ HasI H l pts ∧ pts.length ≤ 3000 ∧ WebAt K H w n ts turn ∧ atI ts tie = some tt ∧ RetV (.bl (heldF n ts tt pts tie)) H Q
def sp_Way_shows (K : PySem.W.Frag) : Sp := fun vs H Q _ => ∃ (a l w : Addr) (one other n turn : Int) (ts : List Tie) (ss : List Step), vs = [.ref a, .ref w, .int one, .int other] ∧ One K H "Way" "steps" a l ∧ HasS K H l ss ∧ ss.length ≤ 3000 ∧ WebAt K H w n ts turn ∧ RetV (.bl (straightF ts one ss other)) H Q
def sp_Apart_shows (K : PySem.W.Frag) : Sp := fun vs H Q _ => ∃ (a l w : Addr) (one other n turn : Int) (ts : List Tie) (pts : List Int), vs = [.ref a, .ref w, .int one, .int other] ∧ One K H "Apart" "points" a l ∧ HasI H l pts ∧ pts.length ≤ 3000 ∧ WebAt K H w n ts turn ∧ RetV (.bl (apartF n ts pts one other)) H Q
theorem One.ins {C f : Str} {p l : Addr} (h : One K H C f p l) : ∃ dx, H p = some (.ins (ga K C) dx [(f, V.ref l)]) := h.2
theorem one_no {f m : Str} {l : Addr} (h : ¬ m = f) : List.lookup m [(f, V.ref l)] = none := by
  have : (m == f) = false := by simpa using h
  simp [List.lookup, this]
theorem ev_shows1 {C f : Str} {a l w : Addr} {i : Int} {sp : Sp} {b : Bool} (h : One K H C f a l) (hf : ¬ (("shows" : Str) = f)) (h1 : Ev ta σ H (.ref a)) (h2 : EvA tl σ H [.ref w, .int i]) (hs : ∀ H1 Q, Ex H H1 → RetV (.bl b) H1 Q → sp [.ref a, .ref w, .int i] H1 Q E0) :
    Ev (tMeth (ga K C) "shows" sp [] E0 ta tl) σ H (.bl b) := by
  obtain ⟨dx, g⟩ := h.ins
  exact ev_meth h1 g (one_no hf) h2 hs
theorem ev_shows2 {C f : Str} {a l w : Addr} {i j : Int} {sp : Sp} {b : Bool} (h : One K H C f a l) (hf : ¬ (("shows" : Str) = f)) (h1 : Ev ta σ H (.ref a)) (h2 : EvA tl σ H [.ref w, .int i, .int j]) (hs : ∀ H1 Q, Ex H H1 → RetV (.bl b) H1 Q → sp [.ref a, .ref w, .int i, .int j] H1 Q E0) :
    Ev (tMeth (ga K C) "shows" sp [] E0 ta tl) σ H (.bl b) := by
  obtain ⟨dx, g⟩ := h.ins
  exact ev_meth h1 g (one_no hf) h2 hs
theorem neSS : ¬ (("shows" : Str) = "steps") := by decide +kernel
theorem neSP : ¬ (("shows" : Str) = "points") := by decide +kernel
theorem ev_around {a l w : Addr} {tie n turn : Int} {ts : List Tie} {tt : Tie} {ss : List Step} (h : One K H "Around" "steps" a l) (hs : HasS K H l ss) (hl : ss.length ≤ 3000) (hw : WebAt K H w n ts turn) (ht : atI ts tie = some tt) (h1 : Ev ta σ H (.ref a)) (h2 : EvA tl σ H [.ref w, .int tie]) :
    Ev (tMeth (ga K "Around") "shows" (sp_Around_shows K) [] E0 ta tl) σ H (.bl (aroundF ts tt ss tie)) := ev_shows1 h neSS h1 h2 fun H1 Q e k => ⟨a, l, w, tie, n, turn, ts, tt, ss, rfl, h.mono e, hs.mono e, hl, hw.mono e, ht, k⟩
theorem ev_held {a l w : Addr} {tie n turn : Int} {ts : List Tie} {tt : Tie} {pts : List Int} (h : One K H "Held" "points" a l) (hs : HasI H l pts) (hl : pts.length ≤ 3000) (hw : WebAt K H w n ts turn) (ht : atI ts tie = some tt) (h1 : Ev ta σ H (.ref a)) (h2 : EvA tl σ H [.ref w, .int tie]) :
    Ev (tMeth (ga K "Held") "shows" (sp_Held_shows K) [] E0 ta tl) σ H (.bl (heldF n ts tt pts tie)) := ev_shows1 h neSP h1 h2 fun H1 Q e k => ⟨a, l, w, tie, n, turn, ts, tt, pts, rfl, h.mono e, hs.mono e, hl, hw.mono e, ht, k⟩
theorem ev_way {a l w : Addr} {one other n turn : Int} {ts : List Tie} {ss : List Step} (h : One K H "Way" "steps" a l) (hs : HasS K H l ss) (hl : ss.length ≤ 3000) (hw : WebAt K H w n ts turn) (h1 : Ev ta σ H (.ref a)) (h2 : EvA tl σ H [.ref w, .int one, .int other]) :
    Ev (tMeth (ga K "Way") "shows" (sp_Way_shows K) [] E0 ta tl) σ H (.bl (straightF ts one ss other)) := ev_shows2 h neSS h1 h2 fun H1 Q e k => ⟨a, l, w, one, other, n, turn, ts, ss, rfl, h.mono e, hs.mono e, hl, hw.mono e, k⟩
theorem ev_apart {a l w : Addr} {one other n turn : Int} {ts : List Tie} {pts : List Int} (h : One K H "Apart" "points" a l) (hs : HasI H l pts) (hl : pts.length ≤ 3000) (hw : WebAt K H w n ts turn) (h1 : Ev ta σ H (.ref a)) (h2 : EvA tl σ H [.ref w, .int one, .int other]) :
    Ev (tMeth (ga K "Apart") "shows" (sp_Apart_shows K) [] E0 ta tl) σ H (.bl (apartF n ts pts one other)) := ev_shows2 h neSP h1 h2 fun H1 Q e k => ⟨a, l, w, one, other, n, turn, ts, pts, rfl, h.mono e, hs.mono e, hl, hw.mono e, k⟩
theorem rd_Around_shows (vs : List V) (H : Hp) (Q : VK) (E : XK) (h : sp_Around_shows K vs H Q E) : goal (t_Around_shows K) ["self", "web", "tie", "one", "other", "number", "step"] vs H Q := by
  obtain ⟨a, l, w, tie, n, turn, ts, tt, ss, rfl, h1, hs, hl, hw, ht, k⟩ := h
  refine q_un3 (a := tt.1) (b := tt.2.1) (c := tt.2.2) (by walk_at "ev") fun H1 e1 => ?_
  refine Evl.q_when (b := !straightF ts tt.1 ss tt.2.1) (Evl.et_not (Evl.et_B (ev_is_straight (w := w) (l := l) (n := n) (turn := turn) (Evl.ea_cons (by walk_at "ev") (Evl.ea_cons (by walk_at "ev") (Evl.ea_cons (ev_one (by walk_at "ev") (h1.mono e1)) (by walk_at "ev")))) (hw.mono e1) (hs.mono e1).lt hl))) (fun hb H2 e2 => ?_) fun hb H2 e2 => ?_
  · have hf : straightF ts tt.1 ss tt.2.1 = false := by simpa using hb
    unfold aroundF at k
    rw [hf, Bool.false_and] at k
    exact Evl.s_ret Evl.ev_c fun H3 e3 => k H3 (e1.trans (e2.trans e3))
  · have hf : straightF ts tt.1 ss tt.2.1 = true := by simpa using hb
    unfold aroundF at k
    rw [hf, Bool.true_and] at k
    obtain ⟨us, hq, hT⟩ := hs.mono (e1.trans e2)
    have hul : us.length = ss.length := by rw [hT.length, List.length_map]
    refine Evl.s_ret (v := .bl (ss.all fun s => !decide (s.1 = tie))) (Evl.ev_is (ev_all (p := l) (bs := ss.map fun s => !decide (s.1 = tie)) ?_) ?_) fun H3 e3 => k H3 (e1.trans (e2.trans e3))
    · refine (lc_vals (a := l) (xs := us) (ys := (ss.map fun s => !decide (s.1 = tie)).map V.bl) (ev_one (by walk_at "ev") (h1.mono (e1.trans e2))) (SqL.of hq) (by omega) (by simp [hul]) (fun _ => rfl) fun i x H3 e3 hx => ?_).imp fun v H3 e3 hh => ?_
      · obtain ⟨zz, hz, tz⟩ := hT.getV hx
        rw [List.getElem?_map] at hz
        cases hsi : ss[i]? with
        | none => rw [hsi] at hz; cases hz
        | some s =>
          rw [hsi] at hz
          cases hz
          have tz3 := tz.mono e3
          exact ⟨.bl (!decide (s.1 = tie)), by simp [hsi], by walk_at "ev"⟩
      · obtain ⟨q, a, _, b⟩ := hh
        exact ⟨q, a, SqL.of b⟩
    · rw [List.all_map]
      rfl
theorem rd_Held_shows (vs : List V) (H : Hp) (Q : VK) (E : XK) (h : sp_Held_shows K vs H Q E) : goal (t_Held_shows K) ["self", "web", "tie", "one", "other", "number"] vs H Q := by
  obtain ⟨a, l, w, tie, n, turn, ts, tt, pts, rfl, h1, hs, hl, hw, ht, k⟩ := h
  refine q_un3 (a := tt.1) (b := tt.2.1) (c := tt.2.2) (by walk_at "ev") fun H1 e1 => ?_
  have hi := (hs.mono e1).li (K := K)
  have o1 := h1.mono e1
  have hw1 := hw.mono e1
  refine Evl.s_ret (v := .bl (heldF n ts tt pts tie)) (Evl.ev_andV (ev_inI (by walk_at "ev") (ev_one (by walk_at "ev") o1) hi) fun _ => Evl.ev_andV (ev_notInI (by walk_at "ev") (ev_one (by walk_at "ev") o1) hi) fun _ =>
    ev_is_closed (w := w) (l := l) (Evl.ea_cons (by walk_at "ev") (Evl.ea_cons (ev_one (by walk_at "ev") o1) (by walk_at "ev"))) hw1 hi (by omega)) fun H3 e3 => k H3 (e1.trans e3)
theorem rd_Way_shows (vs : List V) (H : Hp) (Q : VK) (E : XK) (h : sp_Way_shows K vs H Q E) : goal (t_Way_shows K) ["self", "web", "one", "other"] vs H Q := by
  obtain ⟨a, l, w, one, other, n, turn, ts, ss, rfl, h1, hs, hl, hw, k⟩ := h
  refine Evl.s_ret (v := .bl (straightF ts one ss other)) (ev_is_straight (w := w) (l := l) (n := n) (turn := turn) (Evl.ea_cons (by walk_at "ev") (Evl.ea_cons (by walk_at "ev") (Evl.ea_cons (ev_one (by walk_at "ev") h1) (by walk_at "ev")))) hw hs.lt hl) fun H3 e3 => k H3 e3
theorem rd_Apart_shows (vs : List V) (H : Hp) (Q : VK) (E : XK) (h : sp_Apart_shows K vs H Q E) : goal (t_Apart_shows K) ["self", "web", "one", "other"] vs H Q := by
  obtain ⟨a, l, w, one, other, n, turn, ts, pts, rfl, h1, hs, hl, hw, k⟩ := h
  have hi := hs.li (K := K)
  refine Evl.s_ret (v := .bl (apartF n ts pts one other)) (Evl.ev_andV (ev_inI (by walk_at "ev") (ev_one (by walk_at "ev") h1) hi) fun _ => Evl.ev_andV (ev_notInI (by walk_at "ev") (ev_one (by walk_at "ev") h1) hi) fun _ =>
    ev_is_closed (w := w) (l := l) (Evl.ea_cons (by walk_at "ev") (Evl.ea_cons (ev_one (by walk_at "ev") h1) (by walk_at "ev"))) hw hi (by omega)) fun H3 e3 => k H3 e3

/-! ### spare, between -/
structure TopA (K : PySem.W.Frag) : Prop where
  ar : OneTop K "Around" "steps"
  he : OneTop K "Held" "points"
structure TopB (K : PySem.W.Frag) : Prop where
  wa : OneTop K "Way" "steps"
  ap : OneTop K "Apart" "points"
/-- an answer of class C over a list of steps, of points -/
def AnsS (K : PySem.W.Frag) (H : Hp) (C : Str) (ss : List Step) (v : V) (H2 : Hp) : Prop := ∃ a l, v = .ref a ∧ H a = none ∧ H l = none ∧ l ≠ a ∧ One K H2 C "steps" a l ∧ HasS K H2 l ss
def AnsI (K : PySem.W.Frag) (H : Hp) (C : Str) (pts : List Int) (v : V) (H2 : Hp) : Prop := ∃ a l, v = .ref a ∧ H a = none ∧ H l = none ∧ l ≠ a ∧ One K H2 C "points" a l ∧ HasI H2 l pts
theorem ep_ansS {C : Str} {ss : List Step} (T : OneTop K C "steps") (h : EvP te σ H (NewLT K H (ss.map stepL))) : EvP (tMake (ga K C) (sp_one_init C "steps" K) [] E0 (tCons te tNil)) σ H (AnsS K H C ss) :=
  (ep_one (B := fun xs H => TupL K H xs (ss.map stepL)) (fun _ _ _ e h => h.mono e) T (h.imp fun v H2 e ⟨l, vs, a, _, c, d⟩ => ⟨l, vs, a, SqL.of c, d⟩)).imp fun v H2 e ⟨p, l, xs, a, b, c, d, f, g, h⟩ => ⟨p, l, a, b, c, d, f, xs, g, h⟩
theorem ep_ansI {C : Str} {pts : List Int} (T : OneTop K C "points") (h : EvP te σ H (fun v H1 => ∃ l, v = .ref l ∧ LI K H1 l pts)) : EvP (tMake (ga K C) (sp_one_init C "points" K) [] E0 (tCons te tNil)) σ H (AnsI K H C pts) :=
  (ep_one (B := fun xs H => xs = pts.map V.int) (fun _ _ _ e h => h) T (h.imp fun v H2 e ⟨l, a, b⟩ => ⟨l, _, a, b, rfl⟩)).imp fun v H2 e ⟨p, l, xs, a, b, c, d, f, g, h⟩ => ⟨p, l, a, b, c, d, f, by rw [h] at g; exact g⟩
/-- sorted(came) -/
theorem ep_sorted {d : Addr} {cs : List (Int × List Int)} {P : List Int → Prop} (ha : Ev ta σ H (.ref d)) (h : DAt K H d cs) (hl : cs.length ≤ 5000) (hP : ∀ ns : List Int, ns.Perm (keys cs) → ns.Pairwise (· ≤ ·) → P ns) {Pv : List Int → V → Hp → Prop} (hv : ∀ ns p H2, P ns → H p = none → H2 p = some (.lst (ns.map V.int)) → Pv ns (.ref p) H2) :
    EvP (tCB rSortedD (tCons ta tNil)) σ H (fun v H2 => ∃ ns, P ns ∧ Pv ns v H2) := fun H1 e Q q =>
  ha H1 e _ fun H2 e2 => by
    obtain ⟨kvs, h1, h2⟩ := h.mono (e.trans e2)
    exact ⟨d, kvs, keys cs, rfl, Rd.of h1, h2.keys, by rw [List.length_map]; omega, fun ns p hp hs hf => q _ _ (e2.trans (Ex.new hf)) ⟨ns, hP ns hp hs, hv ns p _ (hP ns hp hs) (Evl.fresh_back (e.trans e2) hf) upd_same⟩⟩
/-- sizes that the laws' webs keep -/
structure WebOk (n turn : Int) (ts : List Tie) : Prop where
  n0 : 1 ≤ n
  n1 : n ≤ 1000
  t0 : 0 ≤ turn
  len : ts.length ≤ 1000
  val : Valid n ts
def SpareV (K : PySem.W.Frag) (H : Hp) (n : Int) (ts : List Tie) (tt : Tie) (tie : Int) (v : V) (H2 : Hp) : Prop :=
  (∃ ss, AnsS K H "Around" ss v H2 ∧ ss.length ≤ 1000 ∧ aroundF ts tt ss tie = true) ∨ ∃ pts, AnsI K H "Held" pts v H2 ∧ pts.length ≤ 1000 ∧ heldF n ts tt pts tie = true
def sp_spare (K : PySem.W.Frag) : Sp := fun vs H Q _ => ∃ (w : Addr) (tie n turn : Int) (ts : List Tie) (tt : Tie), vs = [.ref w, .int tie] ∧ TopA K ∧ WebAt K H w n ts turn ∧ WebOk n turn ts ∧ 0 ≤ tie ∧ ts[tie.toNat]? = some tt ∧ RetP (SpareV K H n ts tt tie) H Q
theorem ep_spare {w : Addr} {tie n turn : Int} {ts : List Tie} {tt : Tie} (T : TopA K) (h : EvA tl σ H [.ref w, .int tie]) (hw : WebAt K H w n ts turn) (ok : WebOk n turn ts) (h0 : 0 ≤ tie) (ht : ts[tie.toNat]? = some tt) : EvP (tCall (sp_spare K) [] E0 tl) σ H (SpareV K H n ts tt tie) :=
  ep_call h fun H1 Q e k => ⟨w, tie, n, turn, ts, tt, rfl, T, hw.mono e, ok, h0, ht, fun v H2 e2 hv => k v H2 e2 (by
    rcases hv with ⟨ss, ⟨a, l, b1, b2, b3, b4⟩, c⟩ | ⟨ss, ⟨a, l, b1, b2, b3, b4⟩, c⟩
    · exact .inl ⟨ss, ⟨a, l, b1, Evl.fresh_back e b2, Evl.fresh_back e b3, b4⟩, c⟩
    · exact .inr ⟨ss, ⟨a, l, b1, Evl.fresh_back e b2, Evl.fresh_back e b3, b4⟩, c⟩)⟩
theorem okF_true {skip turn : Int} {i : Nat} {t : Tie} : okF skip false turn i t = true ↔ (i : Int) ≠ skip := by simp [okF]
theorem AnsS.back {C : Str} {ss : List Step} {H2 : Hp} (e : Ex H H1) (h : AnsS K H1 C ss v H2) : AnsS K H C ss v H2 := by
  obtain ⟨a, l, b1, b2, b3, b4⟩ := h
  exact ⟨a, l, b1, Evl.fresh_back e b2, Evl.fresh_back e b3, b4⟩
theorem AnsI.back {C : Str} {ss : List Int} {H2 : Hp} (e : Ex H H1) (h : AnsI K H1 C ss v H2) : AnsI K H C ss v H2 := by
  obtain ⟨a, l, b1, b2, b3, b4⟩ := h
  exact ⟨a, l, b1, Evl.fresh_back e b2, Evl.fresh_back e b3, b4⟩
theorem rd_spare (vs : List V) (H : Hp) (Q : VK) (E : XK) (h : sp_spare K vs H Q E) : goal (t_spare K) ["web", "tie", "one", "other", "number", "came"] vs H Q := by
  obtain ⟨w, tie, n, turn, ts, tt, rfl, T, hw, ok, h0, ht, k⟩ := h
  have hin : tie.toNat < ts.length := (List.getElem?_eq_some_iff.mp ht).1
  obtain ⟨v1, v2, v3⟩ := ok.val tt (List.mem_of_getElem? ht)
  refine Evl.q_drop (ev_check_tie (w := w) (by walk_at "ev") hw ⟨h0, by omega⟩) fun H1 e1 => ?_
  have hat : atI ts tie = some tt := atI_of h0 ht
  refine q_un3 (a := tt.1) (b := tt.2.1) (c := tt.2.2) (by walk_at "ev") fun H2 e2 => ?_
  have hw2 := hw.mono (e1.trans e2)
  refine q_asgP (P := fun v H3 => ∃ d cs, v = .ref d ∧ H2 d = none ∧ DAt K H3 d cs ∧ Reach ts (nearF tie false n turn ts) tt.1 cs) (fun H3 e3 Q3 q3 => ?_) fun v H3 e3 hv => ?_
  · have hb := ep_beside (K := K) (tl := tCons (tVar 0) (tCons (tVar 1) (tCons (tC (.bl false)) tNil))) (σ := ((((L2.start ["web", "tie", "one", "other", "number", "came"] [V.ref w, V.int tie]).set 2 (some (V.int tt.1))).set 3 (some (V.int tt.2.1))).set 4 (some (V.int tt.2.2)))) (H := H3) (w := w) (skip := tie) (n := n) (turn := turn) (fr := false) (ts := ts) (by walk_at "ev") (hw2.mono e3) ⟨by have := ok.n0; omega, by have := ok.n1; omega⟩ ok.t0 (by have := ok.len; omega) ok.val
    refine ⟨_, rfl, _, rfl, hb H3 (Ex.refl H3) _ fun v4 H4 e4 hv4 => ?_⟩
    obtain ⟨l4, rfl, hn4⟩ := hv4
    exact ⟨w, l4, tt.1, n, turn, ts, nearF tie false n turn ts, rfl, (hw2.mono e3).mono e4, hn4, rows_good ok.val, v1, by have := ok.n1; omega, fun v5 H5 e5 ⟨d, cs, a, b, c⟩ => q3 v5 H5 (e4.trans e5) ⟨d, cs, a, Evl.fresh_back (e3.trans e4) b, c⟩⟩
  obtain ⟨d, cs, rfl, fd, hD, hR⟩ := hv
  obtain ⟨kvs, hk1, hk2⟩ := id hD
  have big : Ex H H3 := e1.trans (e2.trans e3)
  have hcl : cs.length ≤ n.toNat := hR.1.len (rows_good ok.val) v1
  refine Evl.q_when (b := decide (tt.2.1 ∈ keys cs)) (Evl.et_B (ev_dinC (by walk_at "ev") (by walk_at "ev") (Rd.of hk1) hk2)) (fun hb H4 e4 => ?_) fun hb H4 e4 => ?_
  · obtain ⟨r, ps, c, hp⟩ := tree_path ok.val v1 hR.1 tt.2.1 (of_decide_eq_true hb)
    have hrl := hp.len
    have hn1 := ok.n1
    refine s_retP (ep_ansS T.ar (ep_way_back (w := w) (d := d) (k := tt.2.1) (n := n) (turn := turn) (ts := ts) (kvs := kvs) (cs := cs) (r := r) (by walk_at "ev") (hw2.mono (e3.trans e4)) (Rd.of (e4 _ _ hk1)) (hk2.mono e4) hp.back (by omega))) fun v H5 e5 hv => k v H5 (big.trans (e4.trans e5)) (.inl ⟨r.reverse, hv.back (big.trans e4), by rw [List.length_reverse]; omega, ?_⟩)
    unfold aroundF
    rw [path_straight hp, Bool.true_and, List.all_eq_true]
    intro s hs
    obtain ⟨i, t, g1, g2, g3⟩ := hp.ok_ s (List.mem_reverse.mp hs)
    have := okF_true.mp g2
    rw [g3, decide_eq_false this]
    rfl
  · have hn1 := ok.n1
    refine s_retP (P := fun v H5 => ∃ ns : List Int, (ns.Perm (keys cs) ∧ ns.Pairwise (· ≤ ·)) ∧ AnsI K H4 "Held" ns v H5) ?_ fun v H5 e5 hv => ?_
    · intro H5 e5 Q5 q5
      refine ep_sorted (K := K) (P := fun ns => ns.Perm (keys cs) ∧ ns.Pairwise (· ≤ ·)) (Pv := fun ns v H2 => ∃ l, v = .ref l ∧ LI K H2 l ns) (by walk_at "ev") (hD.mono e4) (by omega) (fun ns a b => ⟨a, b⟩) (fun ns p H2 _ _ c => ⟨p, rfl, li_of c⟩) H5 e5 _ fun v6 H6 e6 hv6 => ?_
      obtain ⟨ns, hns, l6, rfl, hl6⟩ := hv6
      have mk := ep_ansI (C := "Held") (te := tC (.ref l6)) (σ := []) (H := H6) T.he (Ev.toP Evl.ev_c fun H2 e => ⟨l6, rfl, hl6.mono e⟩)
      exact mk H6 (Ex.refl H6) Q5 fun v7 H7 e7 hv7 => q5 v7 H7 (e6.trans e7) ⟨ns, hns, hv7.back (e5.trans e6)⟩
    · obtain ⟨ns, ⟨g1, g2⟩, hv⟩ := hv
      refine k v H5 (big.trans (e4.trans e5)) (.inr ⟨ns, hv.back (big.trans e4), by rw [g1.length_eq, List.length_map]; omega, ?_⟩)
      unfold heldF
      have hcl2 := closed_of (skip := tie) (pts := ns) ok.val v1 hR (fun i t hti => by
        by_cases e : (i : Int) = tie
        · exact .inr e
        · exact .inl (okF_true.mpr e)) g1 g2
      have m1 : tt.1 ∈ ns := g1.mem_iff.mpr (start_in hR.1)
      have m2 : tt.2.1 ∉ ns := fun z => of_decide_eq_false hb (g1.mem_iff.mp z)
      rw [hcl2, decide_eq_true m1, decide_eq_false m2]
      rfl
end G

/-! between, climb. -/
namespace G
open PySem PySem.Spec PyProof.Rows L2
open Evl (Ex Ev EvL EvU EvT EvA RV RetV)
local macro_rules | `(tactic| walk_at "hp") => `(tactic| first
  | with_reducible assumption
  | ((with_reducible show _ = some (_ : HO)); (with_reducible exact ex_app (by assumption) (by walk_at "hp")))
  | ((with_reducible show TupI _ _ _ _); (with_reducible exact TupI.mono (by assumption) (by walk_at "hp")))
  | ((with_reducible show LT _ _ _ _); (with_reducible exact LT.mono (by assumption) (by walk_at "hp")))
  | ((with_reducible show LI _ _ _ _); (first | (with_reducible exact li_of (by walk_at "hp")) | (with_reducible exact LI.mono (by assumption) (by walk_at "hp"))))
  | ((with_reducible show SqL _ _ _ _); (first | (with_reducible exact SqL.of (by walk_at "hp")) | (with_reducible exact Evl.ex_l (by assumption) (by walk_at "hp"))))
  | ((with_reducible show SqT _ _ _ _); (first | (with_reducible exact SqT.of (by walk_at "hp")) | (with_reducible exact Evl.ex_t (by assumption) (by walk_at "hp"))))
  | ((with_reducible show Rd _ _ _); (first | (with_reducible exact Rd.of (by walk_at "hp")) | (with_reducible exact Evl.ex_rd (by assumption) (by walk_at "hp"))))
  | walk_at "hpf")
local macro_rules | `(tactic| walk_at "at") => `(tactic| first
  | with_reducible assumption
  | with_reducible rfl
  | (refine atI_of ?va ?vb; (case va => omega); (case vb => assumption))
  | walk_at "atf"
  | rfl)
local macro_rules | `(tactic| walk_at "rv") => `(tactic| first
  | with_reducible exact rv_add | with_reducible exact rv_sub | with_reducible exact rv_eqI | with_reducible exact rv_neI | with_reducible exact rv_lt | with_reducible exact rv_le | with_reducible exact rv_gt | with_reducible exact rv_ge
  | with_reducible exact rv_eqB | with_reducible exact rv_neB | with_reducible exact rv_isB | with_reducible exact rv_notB
  | ((with_reducible refine rv_mod ?_); (first | assumption | omega))
  | ((with_reducible refine rv_mul ?_); (first | exact Or.inl ⟨by omega, by omega⟩ | exact Or.inr ⟨by omega, by omega⟩))
  | ((with_reducible refine rv_div ?_); exact ⟨by omega, by omega⟩))
local macro_rules | `(tactic| walk_at "ty") => `(tactic| first
  | with_reducible exact fun _ _ => .base (.int _) | with_reducible exact fun _ _ => .base (.bl _) | with_reducible exact fun _ _ => .base .non | with_reducible exact fun _ _ => .base (.str _)
  | ((with_reducible apply ty_tup); walk_at "hp")
  | ((with_reducible apply ty_lst); walk_at "hp")
  | walk_at "tyf")
local macro_rules | `(tactic| walk_at "ev") => `(tactic| repeat' (first
  | with_reducible exact Evl.ev_c
  | ((with_reducible apply Evl.ev_var); rfl)
  | with_reducible apply ev_neg
  | with_reducible apply ev_ixU
  | walk_at "evf"
  | ((with_reducible apply ev_lenI); (· walk_at "ev"); (· walk_at "hp"))
  | ((with_reducible apply ev_lenT); (· walk_at "ev"); (· walk_at "hp"))
  | ((with_reducible apply ev_lenU); (· walk_at "ev"))
  | with_reducible apply ev_lenSet
  | with_reducible apply ev_chain
  | with_reducible apply ev_isiTy
  | with_reducible apply Evl.ev_andV
  | with_reducible apply Evl.ev_orV
  | with_reducible apply Evl.ev_notV
  | ((with_reducible apply ev_ixI); (· walk_at "ev"); (· walk_at "ev"); (· walk_at "hp"); (· walk_at "at"))
  | with_reducible apply Evl.ev_op
  | ((with_reducible apply evi_of); (· (with_reducible apply Evl.ev_var); rfl); (· walk_at "hp"))
  | with_reducible apply ei_ix
  | with_reducible apply ei_tup
  | with_reducible exact eai_nil
  | with_reducible apply eai_cons
  | with_reducible exact Evl.ea_nil
  | with_reducible apply Evl.ea_cons
  | with_reducible apply Evl.et_test
  | with_reducible apply Evl.et_and
  | with_reducible apply Evl.et_or
  | with_reducible apply Evl.et_not
  | with_reducible apply Evl.et_B
  | walk_at "rv"
  | ((with_reducible show L2.kitB _ _ = _); rfl)
  | ((with_reducible show L2.atI _ _ = _); walk_at "at")
  | ((with_reducible show (_ : Nat) ≤ _); (first | omega | (simp; done) | (simp; omega)))
  | ((with_reducible show _ = true → _); intro _)
  | ((with_reducible show _ = false → _); intro _)
  | ((with_reducible show TupI _ _ _ _); walk_at "hp")
  | ((with_reducible show LT _ _ _ _); walk_at "hp")
  | ((with_reducible show LI _ _ _ _); walk_at "hp")
  | ((with_reducible show SqL _ _ _ _); walk_at "hp")
  | ((with_reducible show SqT _ _ _ _); walk_at "hp")
  | ((with_reducible show Rd _ _ _); walk_at "hp")
  | ((with_reducible show _ = some (_ : HO)); walk_at "hp")
  | walk_at "hpg"
  | walk_at "ty"))

local macro_rules | `(tactic| walk_at "hpf") => `(tactic| ((with_reducible show WebAt _ _ _ _ _ _); (with_reducible exact WebAt.mono (by assumption) (by walk_at "hp"))))
local macro_rules | `(tactic| walk_at "hpg") => `(tactic| ((with_reducible show WebAt _ _ _ _ _ _); walk_at "hp"))
local macro_rules | `(tactic| walk_at "evf") => `(tactic| with_reducible apply ev_points)
local macro_rules | `(tactic| walk_at "evf") => `(tactic| with_reducible apply ev_turn)
local macro_rules | `(tactic| walk_at "evf") => `(tactic| with_reducible apply ev_lenB)
local macro_rules | `(tactic| walk_at "evf") => `(tactic| with_reducible apply ei_bound)
local macro_rules | `(tactic| walk_at "evf") => `(tactic| with_reducible apply ev_is_whole)
local macro_rules | `(tactic| walk_at "evf") => `(tactic| with_reducible apply ev_is_below)
local macro_rules | `(tactic| walk_at "evf") => `(tactic| with_reducible apply ev_is_tie)
local macro_rules | `(tactic| walk_at "evf") => `(tactic| with_reducible apply ei_stepped)
variable {K : PySem.W.Frag} {σ : L2.St} {H H' H1 : Hp} {ta tb tc te : TE} {t u : TT} {tl : TA} {v x y z : V}

def BetV (K : PySem.W.Frag) (H : Hp) (n : Int) (ts : List Tie) (one other : Int) (v : V) (H2 : Hp) : Prop :=
  (∃ ss, AnsS K H "Way" ss v H2 ∧ ss.length ≤ 1000 ∧ straightF ts one ss other = true) ∨ ∃ pts, AnsI K H "Apart" pts v H2 ∧ pts.length ≤ 1000 ∧ apartF n ts pts one other = true
def sp_between (K : PySem.W.Frag) : Sp := fun vs H Q _ => ∃ (w : Addr) (one other n turn : Int) (ts : List Tie), vs = [.ref w, .int one, .int other] ∧ TopB K ∧ WebAt K H w n ts turn ∧ WebOk n turn ts ∧ (0 ≤ one ∧ one < n) ∧ (0 ≤ other ∧ other < n) ∧ RetP (BetV K H n ts one other) H Q
theorem BetV.back {n one other : Int} {ts : List Tie} {H2 : Hp} (e : Ex H H1) (h : BetV K H1 n ts one other v H2) : BetV K H n ts one other v H2 := by
  rcases h with ⟨ss, a, c⟩ | ⟨ss, a, c⟩
  · exact .inl ⟨ss, a.back e, c⟩
  · exact .inr ⟨ss, a.back e, c⟩
theorem ep_between {w : Addr} {one other n turn : Int} {ts : List Tie} (T : TopB K) (h : EvA tl σ H [.ref w, .int one, .int other]) (hw : WebAt K H w n ts turn) (ok : WebOk n turn ts) (h1 : 0 ≤ one ∧ one < n) (h2 : 0 ≤ other ∧ other < n) : EvP (tCall (sp_between K) [] E0 tl) σ H (BetV K H n ts one other) :=
  ep_call h fun H1 Q e k => ⟨w, one, other, n, turn, ts, rfl, T, hw.mono e, ok, h1, h2, fun v H2 e2 hv => k v H2 e2 (hv.back e)⟩
def t_between (K : PySem.W.Frag) : TS :=
 (tSeq (tDrop (tCall (sp_check_point K) [] E0 (tCons (tVar 0) (tCons (tVar 1) tNil))))
 (tSeq (tDrop (tCall (sp_check_point K) [] E0 (tCons (tVar 0) (tCons (tVar 2) tNil))))
 (tSeq (tAsg (tCall (sp_reached K) [] E0 (tCons (tVar 0) (tCons (tVar 1) (tCons (tCall (sp_beside K) [] E0 (tCons (tVar 0) (tCons (tUn rNegI (tC (.int 1))) (tCons (tC (.bl false)) tNil)))) tNil)))) (gName 3))
 (tSeq (tIfS (tB (tDIn (tVar 2) (tVar 3))) (tRet (tMake (ga K "Way") (sp_Way_init K) [] E0 (tCons (tCall (sp_way_back K) [] E0 (tCons (tVar 0) (tCons (tVar 3) (tCons (tVar 2) tNil)))) tNil))) tNext)
 (tRet (tMake (ga K "Apart") (sp_Apart_init K) [] E0 (tCons (tCB rSortedD (tCons (tVar 3) tNil)) tNil)))))))
def t_climb (K : PySem.W.Frag) : TS :=
 (tSeq (tDrop (tCall (sp_check_point K) [] E0 (tCons (tVar 0) (tCons (tVar 1) tNil))))
 (tSeq (tIfS (tNot (tB (tCB (rIsi K) (tCons (tVar 2) (tCons (tC (.ty "list")) tNil))))) tNever tNext)
 (tSeq (tAsg (tCall (sp_walked K) [] E0 (tCons (tVar 0) (tCons (tVar 1) (tCons (tVar 2) tNil)))) (gTup K 2 (gCons (gName 3) (gCons (gName 4) gNil))))
 (tSeq (tIfS (tTest (tOp rEq (tCB (rLenS K) (tCons (tVar 3) tNil)) (tC (.int 0)))) tNever tNext)
 (tRet (tTup (tCons (tOp (rIxL K) (tVar 3) (tUn rNegI (tC (.int 1)))) (tCons (tVar 4) tNil))))))))
theorem rd_between (vs : List V) (H : Hp) (Q : VK) (E : XK) (h : sp_between K vs H Q E) : goal (t_between K) ["web", "one", "other", "came"] vs H Q := by
  obtain ⟨w, one, other, n, turn, ts, rfl, T, hw, ok, i1, i2, k⟩ := h
  have hn1 := ok.n1
  refine Evl.q_drop (ev_check_point (w := w) (by walk_at "ev") hw i1) fun H1 e1 => ?_
  refine Evl.q_drop (ev_check_point (w := w) (by walk_at "ev") (hw.mono e1) i2) fun H2 e2 => ?_
  have hw2 := hw.mono (e1.trans e2)
  refine q_asgP (P := fun v H3 => ∃ d cs, v = .ref d ∧ H2 d = none ∧ DAt K H3 d cs ∧ Reach ts (nearF (-1) false n turn ts) one cs) (fun H3 e3 Q3 q3 => ?_) fun v H3 e3 hv => ?_
  · have hb := ep_beside (K := K) (tl := tCons (tVar 0) (tCons (tUn rNegI (tC (.int 1))) (tCons (tC (.bl false)) tNil))) (σ := (L2.start ["web", "one", "other", "came"] [V.ref w, V.int one, V.int other])) (H := H3) (w := w) (skip := -1) (n := n) (turn := turn) (fr := false) (ts := ts) (by walk_at "ev") (hw2.mono e3) ⟨by have := ok.n0; omega, by omega⟩ ok.t0 (by have := ok.len; omega) ok.val
    refine ⟨_, rfl, _, rfl, hb H3 (Ex.refl H3) _ fun v4 H4 e4 hv4 => ?_⟩
    obtain ⟨l4, rfl, hn4⟩ := hv4
    exact ⟨w, l4, one, n, turn, ts, nearF (-1) false n turn ts, rfl, (hw2.mono e3).mono e4, hn4, rows_good ok.val, i1, by omega, fun v5 H5 e5 ⟨d, cs, a, b, c⟩ => q3 v5 H5 (e4.trans e5) ⟨d, cs, a, Evl.fresh_back (e3.trans e4) b, c⟩⟩
  obtain ⟨d, cs, rfl, fd, hD, hR⟩ := hv
  obtain ⟨kvs, hk1, hk2⟩ := id hD
  have big : Ex H H3 := e1.trans (e2.trans e3)
  have hcl : cs.length ≤ n.toNat := hR.1.len (rows_good ok.val) i1
  refine Evl.q_when (b := decide (other ∈ keys cs)) (Evl.et_B (ev_dinC (by walk_at "ev") (by walk_at "ev") (Rd.of hk1) hk2)) (fun hb H4 e4 => ?_) fun hb H4 e4 => ?_
  · obtain ⟨r, ps, c, hp⟩ := tree_path ok.val i1 hR.1 other (of_decide_eq_true hb)
    have hrl := hp.len
    refine s_retP (ep_ansS T.wa (ep_way_back (w := w) (d := d) (k := other) (n := n) (turn := turn) (ts := ts) (kvs := kvs) (cs := cs) (r := r) (by walk_at "ev") (hw2.mono (e3.trans e4)) (Rd.of (e4 _ _ hk1)) (hk2.mono e4) hp.back (by omega))) fun v H5 e5 hv => k v H5 (big.trans (e4.trans e5)) (.inl ⟨r.reverse, hv.back (big.trans e4), by rw [List.length_reverse]; omega, path_straight hp⟩)
  · refine s_retP (P := fun v H5 => ∃ ns : List Int, (ns.Perm (keys cs) ∧ ns.Pairwise (· ≤ ·)) ∧ AnsI K H4 "Apart" ns v H5) ?_ fun v H5 e5 hv => ?_
    · intro H5 e5 Q5 q5
      refine ep_sorted (K := K) (P := fun ns => ns.Perm (keys cs) ∧ ns.Pairwise (· ≤ ·)) (Pv := fun ns v H2 => ∃ l, v = .ref l ∧ LI K H2 l ns) (by walk_at "ev") (hD.mono e4) (by omega) (fun ns a b => ⟨a, b⟩) (fun ns p H2 _ _ c => ⟨p, rfl, li_of c⟩) H5 e5 _ fun v6 H6 e6 hv6 => ?_
      obtain ⟨ns, hns, l6, rfl, hl6⟩ := hv6
      have mk := ep_ansI (C := "Apart") (te := tC (.ref l6)) (σ := []) (H := H6) T.ap (Ev.toP Evl.ev_c fun H2 e => ⟨l6, rfl, hl6.mono e⟩)
      exact mk H6 (Ex.refl H6) Q5 fun v7 H7 e7 hv7 => q5 v7 H7 (e6.trans e7) ⟨ns, hns, hv7.back (e5.trans e6)⟩
    · obtain ⟨ns, ⟨g1, g2⟩, hv⟩ := hv
      refine k v H5 (big.trans (e4.trans e5)) (.inr ⟨ns, hv.back (big.trans e4), by rw [g1.length_eq, List.length_map]; omega, ?_⟩)
      unfold apartF
      have hcl2 := closed_of (skip := -1) (pts := ns) ok.val i1 hR (fun i t hti => .inl (okF_true.mpr (by omega))) g1 g2
      have m1 : one ∈ ns := g1.mem_iff.mpr (start_in hR.1)
      have m2 : other ∉ ns := fun z => of_decide_eq_false hb (g1.mem_iff.mp z)
      rw [hcl2, decide_eq_true m1, decide_eq_false m2]
      rfl
/-! ### climb -/
def sp_climb (K : PySem.W.Frag) : Sp := fun vs H Q _ => ∃ (w l : Addr) (p n turn q c : Int) (ps : List Int) (ss : List Step) (ts : List Tie), vs = [.ref w, .int p, .ref l] ∧ WebAt K H w n ts turn ∧ (0 ≤ p ∧ p < n) ∧ LStep K H l ss ∧ ss.length ≤ 3000 ∧ walkF ts p ss = some (ps, c) ∧ ps.getLast? = some q ∧ RetP (fun v H2 => TupI K H2 v [q, c]) H Q
theorem ei_climb {w l : Addr} {p n turn q c : Int} {ps : List Int} {ss : List Step} {ts : List Tie} (h : EvA tl σ H [.ref w, .int p, .ref l]) (hw : WebAt K H w n ts turn) (hp : 0 ≤ p ∧ p < n) (hs : LStep K H l ss) (hl : ss.length ≤ 3000) (hf : walkF ts p ss = some (ps, c)) (hq : ps.getLast? = some q) : EvI K (tCall (sp_climb K) [] E0 tl) σ H [q, c] :=
  ep_call h fun H1 Q e k => ⟨w, l, p, n, turn, q, c, ps, ss, ts, rfl, hw.mono e, hp, hs.mono e, hl, hf, hq, k⟩
theorem rd_climb (vs : List V) (H : Hp) (Q : VK) (E : XK) (h : sp_climb K vs H Q E) : goal (t_climb K) ["web", "start", "steps", "points", "total"] vs H Q := by
  obtain ⟨w, l, p, n, turn, q, c, ps, ss, ts, rfl, hw, hp, hs, hl, hf, hq, k⟩ := h
  refine Evl.q_drop (ev_check_point (w := w) (by walk_at "ev") hw hp) fun H1 e1 => ?_
  obtain ⟨us, hs1, hs2⟩ := hs.mono e1
  refine q_never (b := false) (Evl.et_is (Evl.et_not (Evl.et_B (ev_isiTy (a := "list") (b := "list") (bb := true) (Evl.ev_var rfl) (ty_lst hs1) rfl))) (by rfl)) rfl fun H2 e2 => ?_
  have e12 := e1.trans e2
  have hv : walkR ts p ss = (ps, c) := by unfold walkR; rw [hf]; rfl
  have hlen : ps.length = ss.length + 1 := by
    have := walkA_len hf
    simpa using this
  refine q_unV2 (P := fun x y H3 => ∃ a, x = .ref a ∧ y = .int c ∧ LI K H3 a ps) ((ep_walked (w := w) (l := l) (p := p) (by walk_at "ev") (hw.mono e12) (hs.mono e12) hl).imp fun v H3 e3 hh => ?_) fun x y H3 e3 hx => ?_
  · rw [hv] at hh
    obtain ⟨t, a, a1, a2, a3, a4⟩ := hh
    exact ⟨t, _, _, a1, a2, a, rfl, rfl, li_of a4⟩
  obtain ⟨a, rfl, rfl, hli⟩ := hx
  refine q_never (b := false) (Evl.et_is (a := decide ((ps.length : Int) = 0)) (by walk_at "ev") (decide_eq_false (by omega))) rfl fun H4 e4 => ?_
  have hli4 := hli.mono e4
  have hat := atI_lastOf hq
  exact s_retP (P := fun v H2 => TupI K H2 v [q, c]) (ei_tup (eai_cons (ev_ixI (Evl.ev_var rfl) (by walk_at "ev") hli4 hat) (eai_cons (Evl.ev_var rfl) eai_nil)) (by show 2 ≤ 100000; decide)) fun v H5 e5 h5 => k v H5 (e12.trans (e3.trans (e4.trans e5))) h5
end G

/-! Dicts from ints to ints; groups of points. -/
namespace G
open PySem PySem.Spec PyProof.Rows L2
open Evl (Ex Ev EvL EvU EvT EvA RV RetV)
local macro_rules | `(tactic| walk_at "hp") => `(tactic| first
  | with_reducible assumption
  | ((with_reducible show _ = some (_ : HO)); (with_reducible exact ex_app (by assumption) (by walk_at "hp")))
  | ((with_reducible show TupI _ _ _ _); (with_reducible exact TupI.mono (by assumption) (by walk_at "hp")))
  | ((with_reducible show LT _ _ _ _); (with_reducible exact LT.mono (by assumption) (by walk_at "hp")))
  | ((with_reducible show LI _ _ _ _); (first | (with_reducible exact li_of (by walk_at "hp")) | (with_reducible exact LI.mono (by assumption) (by walk_at "hp"))))
  | ((with_reducible show SqL _ _ _ _); (first | (with_reducible exact SqL.of (by walk_at "hp")) | (with_reducible exact Evl.ex_l (by assumption) (by walk_at "hp"))))
  | ((with_reducible show SqT _ _ _ _); (first | (with_reducible exact SqT.of (by walk_at "hp")) | (with_reducible exact Evl.ex_t (by assumption) (by walk_at "hp"))))
  | ((with_reducible show Rd _ _ _); (first | (with_reducible exact Rd.of (by walk_at "hp")) | (with_reducible exact Evl.ex_rd (by assumption) (by walk_at "hp"))))
  | walk_at "hpf")
local macro_rules | `(tactic| walk_at "at") => `(tactic| first
  | with_reducible assumption
  | with_reducible rfl
  | (refine atI_of ?va ?vb; (case va => omega); (case vb => assumption))
  | walk_at "atf"
  | rfl)
local macro_rules | `(tactic| walk_at "rv") => `(tactic| first
  | with_reducible exact rv_add | with_reducible exact rv_sub | with_reducible exact rv_eqI | with_reducible exact rv_neI | with_reducible exact rv_lt | with_reducible exact rv_le | with_reducible exact rv_gt | with_reducible exact rv_ge
  | with_reducible exact rv_eqB | with_reducible exact rv_neB | with_reducible exact rv_isB | with_reducible exact rv_notB
  | ((with_reducible refine rv_mod ?_); (first | assumption | omega))
  | ((with_reducible refine rv_mul ?_); (first | exact Or.inl ⟨by omega, by omega⟩ | exact Or.inr ⟨by omega, by omega⟩))
  | ((with_reducible refine rv_div ?_); exact ⟨by omega, by omega⟩))
local macro_rules | `(tactic| walk_at "ty") => `(tactic| first
  | with_reducible exact fun _ _ => .base (.int _) | with_reducible exact fun _ _ => .base (.bl _) | with_reducible exact fun _ _ => .base .non | with_reducible exact fun _ _ => .base (.str _)
  | ((with_reducible apply ty_tup); walk_at "hp")
  | ((with_reducible apply ty_lst); walk_at "hp")
  | walk_at "tyf")
local macro_rules | `(tactic| walk_at "ev") => `(tactic| repeat' (first
  | with_reducible exact Evl.ev_c
  | ((with_reducible apply Evl.ev_var); rfl)
  | with_reducible apply ev_neg
  | with_reducible apply ev_ixU
  | walk_at "evf"
  | ((with_reducible apply ev_lenI); (· walk_at "ev"); (· walk_at "hp"))
  | ((with_reducible apply ev_lenT); (· walk_at "ev"); (· walk_at "hp"))
  | ((with_reducible apply ev_lenU); (· walk_at "ev"))
  | with_reducible apply ev_lenSet
  | with_reducible apply ev_chain
  | with_reducible apply ev_isiTy
  | with_reducible apply Evl.ev_andV
  | with_reducible apply Evl.ev_orV
  | with_reducible apply Evl.ev_notV
  | ((with_reducible apply ev_ixI); (· walk_at "ev"); (· walk_at "ev"); (· walk_at "hp"); (· walk_at "at"))
  | with_reducible apply Evl.ev_op
  | ((with_reducible apply evi_of); (· (with_reducible apply Evl.ev_var); rfl); (· walk_at "hp"))
  | with_reducible apply ei_ix
  | with_reducible apply ei_tup
  | with_reducible exact eai_nil
  | with_reducible apply eai_cons
  | with_reducible exact Evl.ea_nil
  | with_reducible apply Evl.ea_cons
  | with_reducible apply Evl.et_test
  | with_reducible apply Evl.et_and
  | with_reducible apply Evl.et_or
  | with_reducible apply Evl.et_not
  | with_reducible apply Evl.et_B
  | walk_at "rv"
  | ((with_reducible show L2.kitB _ _ = _); rfl)
  | ((with_reducible show L2.atI _ _ = _); walk_at "at")
  | ((with_reducible show (_ : Nat) ≤ _); (first | omega | (simp; done) | (simp; omega)))
  | ((with_reducible show _ = true → _); intro _)
  | ((with_reducible show _ = false → _); intro _)
  | ((with_reducible show TupI _ _ _ _); walk_at "hp")
  | ((with_reducible show LT _ _ _ _); walk_at "hp")
  | ((with_reducible show LI _ _ _ _); walk_at "hp")
  | ((with_reducible show SqL _ _ _ _); walk_at "hp")
  | ((with_reducible show SqT _ _ _ _); walk_at "hp")
  | ((with_reducible show Rd _ _ _); walk_at "hp")
  | ((with_reducible show _ = some (_ : HO)); walk_at "hp")
  | walk_at "hpg"
  | walk_at "ty"))

local macro_rules | `(tactic| walk_at "hpf") => `(tactic| ((with_reducible show WebAt _ _ _ _ _ _); (with_reducible exact WebAt.mono (by assumption) (by walk_at "hp"))))
local macro_rules | `(tactic| walk_at "hpg") => `(tactic| ((with_reducible show WebAt _ _ _ _ _ _); walk_at "hp"))
local macro_rules | `(tactic| walk_at "evf") => `(tactic| with_reducible apply ev_points)
local macro_rules | `(tactic| walk_at "evf") => `(tactic| with_reducible apply ev_turn)
local macro_rules | `(tactic| walk_at "evf") => `(tactic| with_reducible apply ev_lenB)
local macro_rules | `(tactic| walk_at "evf") => `(tactic| with_reducible apply ei_bound)
local macro_rules | `(tactic| walk_at "evf") => `(tactic| with_reducible apply ev_is_whole)
local macro_rules | `(tactic| walk_at "evf") => `(tactic| with_reducible apply ev_is_below)
local macro_rules | `(tactic| walk_at "evf") => `(tactic| with_reducible apply ev_is_tie)
local macro_rules | `(tactic| walk_at "evf") => `(tactic| with_reducible apply ei_stepped)
variable {K : PySem.W.Frag} {σ : L2.St} {H H' H1 : Hp} {ta tb tc te : TE} {t u : TT} {tl : TA} {v x y z : V}
abbrev IM := List (Int × Int)
def kvI (fs : IM) : List (Key × V) := fs.map fun p => (Sum.inl p.1, V.int p.2)
theorem kvI_look {k : Int} : ∀ fs : IM, valV (kvI fs) (Sum.inl k) = (fs.lookup k).map V.int
  | [] => rfl
  | (j, c) :: fs => by
    by_cases hj : k = j
    · subst hj
      rw [show kvI ((k, c) :: fs) = (Sum.inl k, V.int c) :: kvI fs from rfl, valV_pos rfl]
      simp
    · have hb : (k == j) = false := by simpa using hj
      have hv : valV ((Sum.inl j, V.int c) :: kvI fs : List (Key × V)) (Sum.inl k) = valV (kvI fs) (Sum.inl k) := valV_neg (fun z => hj (Sum.inl.inj z).symm)
      rw [show kvI ((j, c) :: fs) = (Sum.inl j, V.int c) :: kvI fs from rfl, hv, kvI_look fs]
      simp only [List.lookup, hb]
theorem ev_dgetI {a : Addr} {fs : IM} {i c : Int} (ha : Ev ta σ H (.ref a)) (hb : Ev tb σ H (.int i)) (h : Rd H a (.dK (kvI fs))) (hi : fs.lookup i = some c) : Ev (tDGet ta tb) σ H (.int c) := ev_dget ha hb h (by rw [kvI_look, hi]; rfl)
theorem kvI_some {i : Int} {fs : IM} : (valV (kvI fs) (Sum.inl i)).isSome = decide (i ∈ fs.map (·.1)) := by
  rw [kvI_look, Bool.eq_iff_iff, decide_eq_true_iff, ← look_mem]
  cases fs.lookup i <;> simp
theorem ev_dnotinI {a : Addr} {fs : IM} {i : Int} (ha : Ev ta σ H (.int i)) (hb : Ev tb σ H (.ref a)) (h : Rd H a (.dK (kvI fs))) : Ev (tDNotIn ta tb) σ H (.bl (!decide (i ∈ fs.map (·.1)))) := by
  have e := ev_dnotin ha hb h
  rwa [kvI_some] at e
theorem ev_dinI {a : Addr} {fs : IM} {i : Int} (ha : Ev ta σ H (.int i)) (hb : Ev tb σ H (.ref a)) (h : Rd H a (.dK (kvI fs))) : Ev (tDIn ta tb) σ H (.bl (decide (i ∈ fs.map (·.1)))) := by
  have e := ev_din ha hb h
  rwa [kvI_some] at e
/-- a for over the keys of a dict that is known by P alone -/
theorem f_keysP {D : Ends} {tu : TS} {g : TG} {P : Addr → List (Key × V) → Hp → Prop} (h : EvP te σ H (fun v H2 => ∃ d kvs, v = .ref d ∧ H2 d = some (.dK kvs) ∧ P d kvs H2)) (k : ∀ d kvs H1, Ex H H1 → H1 d = some (.dK kvs) → P d kvs H1 → tFor (iKeys (tFrz (tC (.ref d)))) g tu D σ H1) : tFor (iKeys (tFrz te)) g tu D σ H :=
  h H (Ex.refl H) _ fun v H1 e ⟨d, kvs, ev, hd, p⟩ => by
    subst ev
    exact k d kvs H1 e hd p

/-! ### sets of points that no tie of some kind leaves -/
def Shut (ok : OkT) (ts : List Tie) (S : Int → Prop) : Prop := ∀ (i : Nat) (t : Tie), ts[i]? = some t → ok i t = true → (S t.1 ↔ S t.2.1)
theorem tree_shut {ok : OkT} {ts : List Tie} {n start : Int} {cs : List (Int × List Int)} {S : Int → Prop} (hv : Valid n ts) (h0 : 0 ≤ start ∧ start < n) (hS : Shut ok ts S) (h : Tree ts (rowsUp ok n ts ts.length) start cs) : ∀ k ∈ keys cs, (S k ↔ S start) := by
  have g := rows_good (ok := ok) hv
  induction h with
  | root =>
    intro k hk
    simp [keys] at hk
    subst hk
    exact Iff.rfl
  | grow h ha hs hn ih =>
    rename_i cs a s
    intro k hk
    simp only [keys, List.map_append, List.mem_append] at hk
    rcases hk with hk | hk
    · exact ih k hk
    · simp at hk
      subst hk
      obtain ⟨b, sb⟩ := rows_step hv (h.range g h0 a ha).1 hs
      rw [sb.to]
      obtain ⟨i, t, h1, h2, h3, h4⟩ := sb.tie
      have q := hS i t h1 h2
      rcases h4 with ⟨_, e1, e2⟩ | ⟨_, e1, e2⟩
      · rw [e1, e2] at q
        exact q.symm.trans (ih a ha)
      · rw [e1, e2] at q
        exact q.trans (ih a ha)
theorem reach_shut {ok : OkT} {ts : List Tie} {n start : Int} {cs : List (Int × List Int)} (hv : Valid n ts) (h : Reach ts (rowsUp ok n ts ts.length) start cs) : Shut ok ts (· ∈ keys cs) := fun i t h1 h2 => reach_side hv h h1 h2
/-- the groups found: a number for each point so far -/
structure Grp (ok : OkT) (ts : List Tie) (n : Int) (i : Nat) (fs : IM) : Prop where
  nd : (fs.map (·.1)).Nodup
  rng : ∀ k ∈ fs.map (·.1), 0 ≤ k ∧ k < n
  shut : ∀ (j : Nat) (t : Tie), ts[j]? = some t → ok j t = true → fs.lookup t.1 = fs.lookup t.2.1
  conn : ∀ k c, fs.lookup k = some c → ∀ S, Shut ok ts S → (S k ↔ S c)
  done : ∀ p : Int, 0 ≤ p → p < i → p ∈ fs.map (·.1)
theorem Grp.len {ok : OkT} {ts : List Tie} {n : Int} {i : Nat} {fs : IM} (h : Grp ok ts n i fs) : fs.length ≤ n.toNat := by
  have := nodup_leI h.nd h.rng
  rwa [List.length_map] at this
theorem grp_nil {ok : OkT} {ts : List Tie} {n : Int} : Grp ok ts n 0 [] := ⟨by simp, by simp, fun _ _ _ _ => rfl, fun _ _ h => by simp at h, fun p h1 h2 => by omega⟩
theorem Grp.skip {ok : OkT} {ts : List Tie} {n : Int} {i : Nat} {fs : IM} (h : Grp ok ts n i fs) (hp : (i : Int) ∈ fs.map (·.1)) : Grp ok ts n (i + 1) fs := ⟨h.nd, h.rng, h.shut, h.conn, fun p h1 h2 => by
  by_cases e : p = (i : Int)
  · rw [e]; exact hp
  · exact h.done p h1 (by omega)⟩
theorem Grp.apart {ok : OkT} {ts : List Tie} {n : Int} {i : Nat} {fs : IM} (hv : Valid n ts) (h : Grp ok ts n i fs) {p : Int} (h0 : 0 ≤ p ∧ p < n) (hp : p ∉ fs.map (·.1)) {cs : List (Int × List Int)} (hR : Reach ts (rowsUp ok n ts ts.length) p cs) : ∀ k ∈ keys cs, k ∉ fs.map (·.1) := fun k hk hf => by
  have hS : Shut ok ts (fun k => k ∈ fs.map (·.1)) := fun j t h1 h2 => by
    show t.1 ∈ fs.map (·.1) ↔ t.2.1 ∈ fs.map (·.1)
    rw [← look_mem, ← look_mem, h.shut j t h1 h2]
  exact hp ((tree_shut hv h0 hS hR.1 k hk).mp hf)
abbrev mark (ks : List Int) (p : Int) : IM := ks.map fun k => (k, p)
theorem mark_look {p k : Int} : ∀ {ks : List Int}, (mark ks p).lookup k = if k ∈ ks then some p else none
  | [] => by simp
  | j :: ks => by
    by_cases e : k = j
    · subst e
      simp
    · have hb : (k == j) = false := by simpa using e
      show (match k == j with | true => some p | false => (mark ks p).lookup k) = _
      rw [hb]
      show (mark ks p).lookup k = _
      rw [mark_look]
      simp [e]
theorem mark_keys {p : Int} : ∀ {ks : List Int}, (mark ks p).map (·.1) = ks
  | [] => rfl
  | k :: ks => congrArg (k :: ·) (mark_keys (ks := ks))
theorem Grp.grow {ok : OkT} {ts : List Tie} {n : Int} {i : Nat} {fs : IM} (hv : Valid n ts) (h : Grp ok ts n i fs) (h0 : (i : Int) < n) (hp : (i : Int) ∉ fs.map (·.1)) {cs : List (Int × List Int)} (hR : Reach ts (rowsUp ok n ts ts.length) (i : Int) cs) : Grp ok ts n (i + 1) (fs ++ mark (keys cs) (i : Int)) := by
  have ap := h.apart hv ⟨by omega, h0⟩ hp hR
  have nl : ∀ k ∈ keys cs, fs.lookup k = none := fun k hk => look_none.mpr (ap k hk)
  refine ⟨?_, ?_, ?_, ?_, ?_⟩
  · rw [List.map_append, mark_keys, List.nodup_append]
    exact ⟨h.nd, hR.1.nodup, fun a ha b hb e => ap b hb (e ▸ ha)⟩
  · intro k hk
    rw [List.map_append, mark_keys] at hk
    rcases List.mem_append.mp hk with hk | hk
    · exact h.rng k hk
    · exact hR.1.range (rows_good hv) ⟨by omega, h0⟩ k hk
  · intro j t h1 h2
    rw [look_app, look_app, h.shut j t h1 h2, mark_look, mark_look]
    have q := reach_shut hv hR j t h1 h2
    by_cases c : t.1 ∈ keys cs
    · rw [if_pos c, if_pos (q.mp c)]
    · rw [if_neg c, if_neg (fun z => c (q.mpr z))]
  · intro k c hk S hS
    rw [look_app] at hk
    cases e : fs.lookup k with
    | some d =>
      rw [e] at hk
      simp at hk
      subst hk
      exact h.conn k d e S hS
    | none =>
      rw [e] at hk
      simp only [Option.isSome_none, Bool.false_eq_true, if_false] at hk
      rw [mark_look] at hk
      split at hk
      · rename_i hm
        cases hk
        exact tree_shut hv ⟨by omega, h0⟩ hS hR.1 k hm
      · cases hk
  · intro p h1 h2
    rw [List.map_append, mark_keys]
    by_cases e : p = (i : Int)
    · rw [e]
      exact List.mem_append.mpr (.inr (start_in hR.1))
    · exact List.mem_append.mpr (.inl (h.done p h1 (by omega)))
end G

/-! The law's own defs: the cell, the draw, the web. -/
namespace G
open PySem PySem.Spec PyProof.Rows L2
open Evl (Ex Ev EvL EvU EvT EvA RV RetV)
local macro_rules | `(tactic| walk_at "hp") => `(tactic| first
  | with_reducible assumption
  | ((with_reducible show _ = some (_ : HO)); (with_reducible exact ex_app (by assumption) (by walk_at "hp")))
  | ((with_reducible show TupI _ _ _ _); (with_reducible exact TupI.mono (by assumption) (by walk_at "hp")))
  | ((with_reducible show LT _ _ _ _); (with_reducible exact LT.mono (by assumption) (by walk_at "hp")))
  | ((with_reducible show LI _ _ _ _); (first | (with_reducible exact li_of (by walk_at "hp")) | (with_reducible exact LI.mono (by assumption) (by walk_at "hp"))))
  | ((with_reducible show SqL _ _ _ _); (first | (with_reducible exact SqL.of (by walk_at "hp")) | (with_reducible exact Evl.ex_l (by assumption) (by walk_at "hp"))))
  | ((with_reducible show SqT _ _ _ _); (first | (with_reducible exact SqT.of (by walk_at "hp")) | (with_reducible exact Evl.ex_t (by assumption) (by walk_at "hp"))))
  | ((with_reducible show Rd _ _ _); (first | (with_reducible exact Rd.of (by walk_at "hp")) | (with_reducible exact Evl.ex_rd (by assumption) (by walk_at "hp"))))
  | walk_at "hpf")
local macro_rules | `(tactic| walk_at "at") => `(tactic| first
  | with_reducible assumption
  | with_reducible rfl
  | (refine atI_of ?va ?vb; (case va => omega); (case vb => assumption))
  | walk_at "atf"
  | rfl)
local macro_rules | `(tactic| walk_at "rv") => `(tactic| first
  | with_reducible exact rv_add | with_reducible exact rv_sub | with_reducible exact rv_eqI | with_reducible exact rv_neI | with_reducible exact rv_lt | with_reducible exact rv_le | with_reducible exact rv_gt | with_reducible exact rv_ge
  | with_reducible exact rv_eqB | with_reducible exact rv_neB | with_reducible exact rv_isB | with_reducible exact rv_notB
  | ((with_reducible refine rv_mod ?_); (first | assumption | omega))
  | ((with_reducible refine rv_mul ?_); (first | exact Or.inl ⟨by omega, by omega⟩ | exact Or.inr ⟨by omega, by omega⟩))
  | ((with_reducible refine rv_div ?_); exact ⟨by omega, by omega⟩))
local macro_rules | `(tactic| walk_at "ty") => `(tactic| first
  | with_reducible exact fun _ _ => .base (.int _) | with_reducible exact fun _ _ => .base (.bl _) | with_reducible exact fun _ _ => .base .non | with_reducible exact fun _ _ => .base (.str _)
  | ((with_reducible apply ty_tup); walk_at "hp")
  | ((with_reducible apply ty_lst); walk_at "hp")
  | walk_at "tyf")
local macro_rules | `(tactic| walk_at "ev") => `(tactic| repeat' (first
  | with_reducible exact Evl.ev_c
  | ((with_reducible apply Evl.ev_var); rfl)
  | with_reducible apply ev_neg
  | with_reducible apply ev_ixU
  | walk_at "evf"
  | ((with_reducible apply ev_lenI); (· walk_at "ev"); (· walk_at "hp"))
  | ((with_reducible apply ev_lenT); (· walk_at "ev"); (· walk_at "hp"))
  | ((with_reducible apply ev_lenU); (· walk_at "ev"))
  | with_reducible apply ev_lenSet
  | with_reducible apply ev_chain
  | with_reducible apply ev_isiTy
  | with_reducible apply Evl.ev_andV
  | with_reducible apply Evl.ev_orV
  | with_reducible apply Evl.ev_notV
  | ((with_reducible apply ev_ixI); (· walk_at "ev"); (· walk_at "ev"); (· walk_at "hp"); (· walk_at "at"))
  | with_reducible apply Evl.ev_op
  | ((with_reducible apply evi_of); (· (with_reducible apply Evl.ev_var); rfl); (· walk_at "hp"))
  | with_reducible apply ei_ix
  | with_reducible apply ei_tup
  | with_reducible exact eai_nil
  | with_reducible apply eai_cons
  | with_reducible exact Evl.ea_nil
  | with_reducible apply Evl.ea_cons
  | with_reducible apply Evl.et_test
  | with_reducible apply Evl.et_and
  | with_reducible apply Evl.et_or
  | with_reducible apply Evl.et_not
  | with_reducible apply Evl.et_B
  | walk_at "rv"
  | ((with_reducible show L2.kitB _ _ = _); rfl)
  | ((with_reducible show L2.atI _ _ = _); walk_at "at")
  | ((with_reducible show (_ : Nat) ≤ _); (first | omega | (simp; done) | (simp; omega)))
  | ((with_reducible show _ = true → _); intro _)
  | ((with_reducible show _ = false → _); intro _)
  | ((with_reducible show TupI _ _ _ _); walk_at "hp")
  | ((with_reducible show LT _ _ _ _); walk_at "hp")
  | ((with_reducible show LI _ _ _ _); walk_at "hp")
  | ((with_reducible show SqL _ _ _ _); walk_at "hp")
  | ((with_reducible show SqT _ _ _ _); walk_at "hp")
  | ((with_reducible show Rd _ _ _); walk_at "hp")
  | ((with_reducible show _ = some (_ : HO)); walk_at "hp")
  | walk_at "hpg"
  | walk_at "ty"))

local macro_rules | `(tactic| walk_at "hpf") => `(tactic| ((with_reducible show WebAt _ _ _ _ _ _); (with_reducible exact WebAt.mono (by assumption) (by walk_at "hp"))))
local macro_rules | `(tactic| walk_at "hpg") => `(tactic| ((with_reducible show WebAt _ _ _ _ _ _); walk_at "hp"))
local macro_rules | `(tactic| walk_at "evf") => `(tactic| with_reducible apply ev_points)
local macro_rules | `(tactic| walk_at "evf") => `(tactic| with_reducible apply ev_turn)
local macro_rules | `(tactic| walk_at "evf") => `(tactic| with_reducible apply ev_lenB)
local macro_rules | `(tactic| walk_at "evf") => `(tactic| with_reducible apply ei_bound)
local macro_rules | `(tactic| walk_at "evf") => `(tactic| with_reducible apply ev_is_whole)
local macro_rules | `(tactic| walk_at "evf") => `(tactic| with_reducible apply ev_is_below)
local macro_rules | `(tactic| walk_at "evf") => `(tactic| with_reducible apply ev_is_tie)
local macro_rules | `(tactic| walk_at "evf") => `(tactic| with_reducible apply ei_stepped)
variable {K : PySem.W.Frag} {σ : L2.St} {H H' H1 : Hp} {ta tb tc te : TE} {t u : TT} {tl : TA} {v x y z : V}

/-! ### the cell and the draw -/
def cellF (ns : List Int) (k : Int) : Int := (atI ns k).getD 0
def sp__law_cell_at (K : PySem.W.Frag) : Sp := fun vs H Q _ => ∃ (a : Addr) (ns : List Int) (k : Int), vs = [.ref a, .int k] ∧ LI K H a ns ∧ 0 ≤ k ∧ RetV (.int (cellF ns k)) H Q
theorem ev_cell {a : Addr} {ns : List Int} {k : Int} (h : EvA tl σ H [.ref a, .int k]) (hn : LI K H a ns) (hk : 0 ≤ k) : Ev (tCall (sp__law_cell_at K) [] E0 tl) σ H (.int (cellF ns k)) := ev_call h fun _ _ e c => ⟨a, ns, k, rfl, hn.mono e, hk, c⟩
def prL : List Int := [1000003, 1000033, 1000037, 1000039, 1000081, 1000099, 1000117, 1000121, 1000133, 1000151, 1000159, 1000171, 1000183, 1000187, 1000193, 1000199]
def prF (k : Int) : Int := (atI prL (k % 16)).getD 1
theorem pr_at (k : Int) : atI prL (k % 16) = some (prF k) := by
  have h0 : 0 ≤ k % 16 := Int.emod_nonneg _ (by decide)
  have h1 : k % 16 < 16 := Int.emod_lt_of_pos _ (by decide)
  unfold prF
  rw [atI_pos h0, List.getElem?_eq_getElem (by show (k % 16).toNat < 16; omega)]
  rfl
theorem pr_pos (k : Int) : 0 < prF k := by
  have h0 : 0 ≤ k % 16 := Int.emod_nonneg _ (by decide)
  have h := pr_at k
  rw [atI_pos h0] at h
  have hm := List.mem_of_getElem? h
  have all : ∀ p ∈ prL, (0 : Int) < p := by decide
  exact all _ hm
def drawF (c k m : Int) : Int := (c * 48271 + k * 69621) % prF k % m
theorem draw_lt (c k : Int) {m : Int} (h : 0 < m) : drawF c k m < m := Int.emod_lt_of_pos _ h
theorem draw_ge (c k : Int) {m : Int} (h : 0 < m) : 0 ≤ drawF c k m := Int.emod_nonneg _ (by omega)
def sp__law_draw (K : PySem.W.Frag) : Sp := fun vs H Q _ => ∃ (c k m : Int), vs = [.int c, .int k, .int m] ∧ 0 < m ∧ RetV (.int (drawF c k m)) H Q
theorem ev_draw {c k m : Int} (h : EvA tl σ H [.int c, .int k, .int m]) (hm : 0 < m) : Ev (tCall (sp__law_draw K) [] E0 tl) σ H (.int (drawF c k m)) := ev_call h fun _ _ e q => ⟨c, k, m, rfl, hm, q⟩
theorem cell_lt {ns : List Int} {k : Int} (h0 : 0 ≤ k) (h : k < ns.length) : atI ns k = some (cellF ns k) := by
  unfold cellF
  rw [atI_pos h0, List.getElem?_eq_getElem (by omega)]
  rfl
theorem cell_ge {ns : List Int} {k : Int} (h0 : 0 ≤ k) (h : ¬ k < ns.length) : cellF ns k = 0 := by
  unfold cellF
  rw [atI_pos h0, List.getElem?_eq_none_iff.mpr (by omega)]
  rfl
def t__law_cell_at (K : PySem.W.Frag) : TS :=
 (tSeq (tIfS (tTest (tOp rLtI (tVar 1) (tCB (rLenS K) (tCons (tVar 0) tNil)))) (tRet (tOp (rIxL K) (tVar 0) (tVar 1))) tNext)
 (tRet (tC (.int 0))))
def t__law_draw (K : PySem.W.Frag) : TS :=
 (tSeq (tAsg (tTup (tCons (tC (.int 1000003)) (tCons (tC (.int 1000033)) (tCons (tC (.int 1000037)) (tCons (tC (.int 1000039)) (tCons (tC (.int 1000081)) (tCons (tC (.int 1000099)) (tCons (tC (.int 1000117)) (tCons (tC (.int 1000121)) (tCons (tC (.int 1000133)) (tCons (tC (.int 1000151)) (tCons (tC (.int 1000159)) (tCons (tC (.int 1000171)) (tCons (tC (.int 1000183)) (tCons (tC (.int 1000187)) (tCons (tC (.int 1000193)) (tCons (tC (.int 1000199)) tNil))))))))))))))))) (gName 3))
 (tRet (tOp rModI (tOp rModI (tOp rAddI (tOp rMulI (tVar 0) (tC (.int 48271))) (tOp rMulI (tVar 1) (tC (.int 69621)))) (tOp (rIxT K) (tVar 3) (tOp rModI (tVar 1) (tC (.int 16))))) (tVar 2))))
def t__law_web (K : PySem.W.Frag) : TS :=
 (tSeq (tAsg (tOp rDivI (tOp rMulI (tCB (rLenS K) (tCons (tVar 0) tNil)) (tOp (rIxT K) (tTup (tCons (tC (.int 1)) (tCons (tC (.int 2)) (tCons (tC (.int 3)) tNil)))) (tCall (sp__law_draw K) [] E0 (tCons (tCall (sp__law_cell_at K) [] E0 (tCons (tVar 0) (tCons (tC (.int 1)) tNil))) (tCons (tC (.int 2)) (tCons (tC (.int 3)) tNil)))))) (tC (.int 3))) (gName 1))
 (tSeq (tAsg (tOp rAddI (tC (.int 2)) (tCall (sp__law_draw K) [] E0 (tCons (tCall (sp__law_cell_at K) [] E0 (tCons (tVar 0) (tCons (tC (.int 0)) tNil))) (tCons (tC (.int 1)) (tCons (tOp rAddI (tC (.int 2)) (tVar 1)) tNil))))) (gName 2))
 (tSeq (tAsg (tOp (rIxT K) (tTup (tCons (tC (.int 0)) (tCons (tC (.int 0)) (tCons (tC (.int 2)) (tCons (tC (.int 3)) (tCons (tC (.int 12)) (tCons (tC (.int 1)) (tCons (tC (.int 1000000)) tNil)))))))) (tCall (sp__law_draw K) [] E0 (tCons (tCall (sp__law_cell_at K) [] E0 (tCons (tVar 0) (tCons (tC (.int 2)) tNil))) (tCons (tC (.int 3)) (tCons (tC (.int 7)) tNil))))) (gName 3))
 (tSeq (tAsg (tOp (rIxT K) (tTup (tCons (tC (.int 2)) (tCons (tC (.int 3)) (tCons (tC (.int 40)) (tCons (tC (.int 400000)) tNil))))) (tCall (sp__law_draw K) [] E0 (tCons (tCall (sp__law_cell_at K) [] E0 (tCons (tVar 0) (tCons (tC (.int 0)) tNil))) (tCons (tC (.int 4)) (tCons (tC (.int 4)) tNil))))) (gName 4))
 (tSeq (tAsg (tOp (rIxT K) (tTup (tCons (tC (.int 0)) (tCons (tC (.int 0)) (tCons (tC (.int 5)) (tCons (tC (.int 30)) tNil))))) (tCall (sp__law_draw K) [] E0 (tCons (tCall (sp__law_cell_at K) [] E0 (tCons (tVar 0) (tCons (tC (.int 1)) tNil))) (tCons (tC (.int 5)) (tCons (tC (.int 4)) tNil))))) (gName 5))
 (tSeq (tAsg (tAndV (tOp rGtI (tVar 2) (tC (.int 3))) (tOp rEq (tCall (sp__law_draw K) [] E0 (tCons (tCall (sp__law_cell_at K) [] E0 (tCons (tVar 0) (tCons (tC (.int 2)) tNil))) (tCons (tC (.int 8)) (tCons (tC (.int 4)) tNil)))) (tC (.int 0)))) (gName 6))
 (tSeq (tAsg (tLst tNil) (gName 7))
 (tSeq (tFor (iRng1 (tCons (tCB (rLenS K) (tCons (tVar 0) tNil)) tNil)) (gName 8) (tSeq (tAsg (tCall (sp__law_draw K) [] E0 (tCons (tOp (rIxL K) (tVar 0) (tVar 8)) (tCons (tOp rAddI (tOp rModI (tVar 8) (tC (.int 5))) (tC (.int 1))) (tCons (tVar 2) tNil)))) (gName 9))
 (tSeq (tAsg (tOp rModI (tOp rAddI (tOp rAddI (tVar 9) (tC (.int 1))) (tCall (sp__law_draw K) [] E0 (tCons (tOp (rIxL K) (tVar 0) (tVar 8)) (tCons (tOp rAddI (tOp rModI (tVar 8) (tC (.int 7))) (tC (.int 2))) (tCons (tOp rSubI (tVar 2) (tC (.int 1))) tNil))))) (tVar 2)) (gName 10))
 (tSeq (tIfS (tB (tVar 6)) (tSeq (tAsg (tIf (tTest (tOp rLtI (tVar 9) (tOp rDivI (tVar 2) (tC (.int 2))))) (tC (.int 0)) (tOp rDivI (tVar 2) (tC (.int 2)))) (gName 11))
 (tSeq (tAsg (tIf (tTest (tOp rEq (tVar 11) (tC (.int 0)))) (tOp rDivI (tVar 2) (tC (.int 2))) (tOp rSubI (tVar 2) (tVar 11))) (gName 12))
 (tSeq (tAsg (tOp rAddI (tC (.int 1)) (tCall (sp__law_draw K) [] E0 (tCons (tOp (rIxL K) (tVar 0) (tVar 8)) (tCons (tOp rAddI (tOp rModI (tVar 8) (tC (.int 7))) (tC (.int 2))) (tCons (tOp rSubI (tVar 12) (tC (.int 1))) tNil))))) (gName 13))
 (tAsg (tOp rAddI (tVar 11) (tOp rModI (tOp rAddI (tOp rSubI (tVar 9) (tVar 11)) (tVar 13)) (tVar 12))) (gName 10))))) tNext)
 (tSeq (tAsg (tOp rSubI (tCall (sp__law_draw K) [] E0 (tCons (tOp rMulI (tVar 10) (tC (.int 7919))) (tCons (tC (.int 6)) (tCons (tVar 4) tNil)))) (tCall (sp__law_draw K) [] E0 (tCons (tOp rMulI (tVar 9) (tC (.int 7919))) (tCons (tC (.int 6)) (tCons (tVar 4) tNil))))) (gName 14))
 (tSeq (tIfS (tAnd (tTest (tOp rGtI (tVar 5) (tC (.int 0)))) (tTest (tOp rEq (tCall (sp__law_draw K) [] E0 (tCons (tOp (rIxL K) (tVar 0) (tVar 8)) (tCons (tOp rAddI (tOp rModI (tVar 8) (tC (.int 3))) (tC (.int 9))) (tCons (tVar 5) tNil)))) (tC (.int 0))))) (tAsg (tOp rAddI (tVar 14) (tC (.int 1))) (gName 14)) tNext)
 (tSeq (tIfS (tAnd (tTest (tOp rGtI (tVar 3) (tC (.int 0)))) (tAnd (tTest (tOp rEq (tCall (sp__law_draw K) [] E0 (tCons (tOp (rIxL K) (tVar 0) (tVar 8)) (tCons (tC (.int 12)) (tCons (tC (.int 3)) tNil)))) (tC (.int 0)))) (tTest (tOp rLtI (tOp rAddI (tCB rAbs (tCons (tVar 14) tNil)) (tVar 3)) (tC (.int 1000000)))))) (tAsg (tOp rSubI (tVar 14) (tVar 3)) (gName 14)) tNext)
 (tDrop (tBM K "list" rAppend (tVar 7) (tCons (tTup (tCons (tVar 9) (tCons (tVar 10) (tCons (tVar 14) tNil)))) tNil))))))))))
 (tRet (tTup (tCons (tVar 2) (tCons (tVar 7) (tCons (tVar 3) tNil)))))))))))))
theorem rd__law_cell_at (vs : List V) (H : Hp) (Q : VK) (E : XK) (h : sp__law_cell_at K vs H Q E) : goal (t__law_cell_at K) ["_law_script", "_law_k"] vs H Q := by
  obtain ⟨a, ns, k, rfl, hn, hk, q⟩ := h
  refine Evl.q_when (b := decide (k < (ns.length : Int))) (by walk_at "ev") (fun hb H1 e1 => ?_) fun hb H1 e1 => ?_
  · have hat := cell_lt hk (of_decide_eq_true hb)
    exact Evl.s_ret (v := .int (cellF ns k)) (by walk_at "ev") fun H2 e2 => q H2 (e1.trans e2)
  · rw [cell_ge hk (of_decide_eq_false hb)] at q
    exact Evl.s_ret Evl.ev_c fun H2 e2 => q H2 (e1.trans e2)
theorem rd__law_draw (vs : List V) (H : Hp) (Q : VK) (E : XK) (h : sp__law_draw K vs H Q E) : goal (t__law_draw K) ["_law_cell", "_law_k", "_law_many", "_law_primes"] vs H Q := by
  obtain ⟨c, k, m, rfl, hm, q⟩ := h
  refine q_asgP (P := fun v H2 => TupI K H2 v prL) (ei_tup (by unfold prL; walk_at "ev") (by show 16 ≤ 100000; decide)) fun v H1 e1 hv => ?_
  have hat := pr_at k
  have hpp := pr_pos k
  refine Evl.s_ret (v := .int (drawF c k m)) ?_ fun H2 e2 => q H2 (e1.trans e2)
  have hix : Ev (tOp (rIxT K) (tVar 3) (tOp rModI (tVar 1) (tC (.int 16)))) ((start ["_law_cell", "_law_k", "_law_many", "_law_primes"] [V.int c, V.int k, V.int m]).set 3 (some v)) H1 (.int (prF k)) :=
    ev_ixU (evi_of (Evl.ev_var rfl) hv) (by walk_at "ev") hat
  exact Evl.ev_op (Evl.ev_op (by walk_at "ev") hix (rv_mod hpp)) (by walk_at "ev") (rv_mod hm)

/-! ### the law's web -/
structure LawWeb (n turn : Int) (ts : List Tie) : Prop where
  n2 : 2 ≤ n
  n66 : n ≤ 66
  t0 : 0 ≤ turn
  t1 : turn ≤ 1000000
  len : ts.length ≤ 63
  ok : ∀ t ∈ ts, okTie n t = true
def LawWebV (K : PySem.W.Frag) (H : Hp) (len : Nat) (v : V) (H2 : Hp) : Prop := ∃ (p l : Addr) (n turn : Int) (ts : List Tie), v = .ref p ∧ SqT K H2 p [.int n, .ref l, .int turn] ∧ H l = none ∧ (∃ vs, H2 l = some (.lst vs) ∧ TupL K H2 vs (ts.map tieL)) ∧ LawWeb n turn ts ∧ ts.length = len
def sp__law_web (K : PySem.W.Frag) : Sp := fun vs H Q _ => ∃ (a : Addr) (ns : List Int), vs = [.ref a] ∧ LI K H a ns ∧ ns.length ≤ 63 ∧ RetP (LawWebV K H ns.length) H Q
theorem ep_law_web {a : Addr} {ns : List Int} (h : EvA tl σ H [.ref a]) (hn : LI K H a ns) (hl : ns.length ≤ 63) : EvP (tCall (sp__law_web K) [] E0 tl) σ H (LawWebV K H ns.length) :=
  ep_call h fun H1 Q e k => ⟨a, ns, rfl, hn.mono e, hl, fun v H2 e2 ⟨p, l, n, turn, ts, a1, a2, a3, a4⟩ => k v H2 e2 ⟨p, l, n, turn, ts, a1, a2, Evl.fresh_back e a3, a4⟩⟩
theorem atI_pick {xs : List Int} {i : Int} (h0 : 0 ≤ i) (h1 : i < xs.length) {P : Int → Prop} (h : ∀ x ∈ xs, P x) : ∃ x, atI xs i = some x ∧ P x := by
  refine ⟨xs[i.toNat]'(by omega), by rw [atI_pos h0, List.getElem?_eq_getElem (by omega)], h _ (List.getElem_mem _)⟩
theorem other_ne {a b m : Int} (h0 : 0 ≤ a) (h1 : a < m) (h2 : 1 ≤ b) (h3 : b < m) : 0 ≤ (a + b) % m ∧ (a + b) % m < m ∧ (a + b) % m ≠ a := by
  refine ⟨Int.emod_nonneg _ (by omega), Int.emod_lt_of_pos _ (by omega), ?_⟩
  by_cases h : a + b < m
  · rw [Int.emod_eq_of_lt (by omega) h]
    omega
  · have e : (a + b) % m = (a + b - m) % m := (Int.sub_emod_right (a + b) m).symm
    rw [e, Int.emod_eq_of_lt (by omega) (by omega)]
    omega
local macro_rules | `(tactic| walk_at "evf") => `(tactic| ((with_reducible apply ev_cell); (· walk_at "ev"); (· walk_at "hp"); (· omega)))
local macro_rules | `(tactic| walk_at "evf") => `(tactic| ((with_reducible apply ev_draw); (· walk_at "ev"); (· omega)))
theorem ev_absI {i : Int} (h : Ev ta σ H (.int i)) : Ev (tCB rAbs (tCons ta tNil)) σ H (.int (if i < 0 then -i else i)) := fun H1 e Q q => h H1 e _ fun H2 e2 => ⟨i, rfl, q H2 e2⟩
local macro_rules | `(tactic| walk_at "evf") => `(tactic| with_reducible apply ev_absI)
/-- an if whose ways meet again: what is known where they meet -/
theorem q_meet {α : Type} {D : Ends} {tu tz : TS} {b : Bool} (st : α → L2.St) (J : α → Hp → Prop) (hT : EvT t σ H b) (h1 : b = true → ∀ H1, Ex H H1 → (∀ x H2, J x H2 → tz D (st x) H2) → tu { D with nx := tz D } σ H1)
    (h2 : b = false → ∀ H1, Ex H H1 → ∃ x, σ = st x ∧ J x H1) (k : ∀ x H2, J x H2 → tz D (st x) H2) : tSeq (tIfS t tu tNext) tz D σ H :=
  Evl.q_when hT (fun hb H1 e => h1 hb H1 e k) fun hb H1 e => by
    obtain ⟨x, ex, i⟩ := h2 hb H1 e
    rw [ex]
    exact k x H1 i
theorem okTie_of {n a b c : Int} (h1 : 0 ≤ a) (h2 : a < n) (h3 : 0 ≤ b) (h4 : b < n) (h5 : b ≠ a) (h6 : -1000000 ≤ c) (h7 : c ≤ 1000000) : okTie n (a, b, c) = true := by
  unfold okTie
  exact decide_eq_true ⟨⟨h1, h2⟩, ⟨h3, h4⟩, fun z => h5 z.symm, h6, h7⟩
theorem rd__law_web (vs : List V) (H : Hp) (Q : VK) (E : XK) (h : sp__law_web K vs H Q E) : goal (t__law_web K) ["_law_script", "_law_few", "_law_points", "_law_turn", "_law_most", "_law_wrong", "_law_halves", "_law_ties", "_law_k", "_law_one", "_law_other", "_law_low", "_law_many", "_law_by", "_law_number"] vs H Q := by
  obtain ⟨a, ns, rfl, hn, hl, q⟩ := h
  obtain ⟨x, hx, x1, x2⟩ := atI_pick (xs := [1, 2, 3]) (i := drawF (cellF ns 1) 2 3) (draw_ge _ _ (by decide)) (draw_lt _ _ (by decide)) (P := fun x => 1 ≤ x ∧ x ≤ 3) (by decide)
  have hm : 0 ≤ (ns.length : Int) * x ∧ (ns.length : Int) * x ≤ 189 := by
    have : x = 1 ∨ x = 2 ∨ x = 3 := by omega
    rcases this with rfl | rfl | rfl <;> omega
  refine Evl.q_asg (v := .int ((ns.length : Int) * x / 3)) (by walk_at "ev") fun H1 e1 => ?_
  generalize hf : (ns.length : Int) * x / 3 = few
  have f0 : 0 ≤ few ∧ few ≤ 63 := by omega
  refine Evl.q_asg (v := .int (2 + drawF (cellF ns 0) 1 (2 + few))) (by walk_at "ev") fun H2 e2 => ?_
  have d1 := draw_ge (cellF ns 0) 1 (m := 2 + few) (by omega)
  have d2 := draw_lt (cellF ns 0) 1 (m := 2 + few) (by omega)
  generalize hn0 : 2 + drawF (cellF ns 0) 1 (2 + few) = n
  have hn1 : 2 ≤ n ∧ n ≤ 66 := by omega
  obtain ⟨turn, ht, ht0, ht1⟩ := atI_pick (xs := [0, 0, 2, 3, 12, 1, 1000000]) (i := drawF (cellF ns 2) 3 7) (draw_ge _ _ (by decide)) (draw_lt _ _ (by decide)) (P := fun x => 0 ≤ x ∧ x ≤ 1000000) (by decide)
  refine Evl.q_asg (v := .int turn) (by walk_at "ev") fun H3 e3 => ?_
  obtain ⟨most, hmo, hmo0, hmo1⟩ := atI_pick (xs := [2, 3, 40, 400000]) (i := drawF (cellF ns 0) 4 4) (draw_ge _ _ (by decide)) (draw_lt _ _ (by decide)) (P := fun x => 2 ≤ x ∧ x ≤ 400000) (by decide)
  refine Evl.q_asg (v := .int most) (by walk_at "ev") fun H4 e4 => ?_
  obtain ⟨wrong, hwr, hwr0⟩ := atI_pick (xs := [0, 0, 5, 30]) (i := drawF (cellF ns 1) 5 4) (draw_ge _ _ (by decide)) (draw_lt _ _ (by decide)) (P := fun x => 0 ≤ x) (by decide)
  refine Evl.q_asg (v := .int wrong) (by walk_at "ev") fun H5 e5 => ?_
  refine Evl.q_asg (v := .bl (decide (3 < n) && decide (drawF (cellF ns 2) 8 4 = 0))) (by walk_at "ev") fun H6 e6 => ?_
  generalize hhv : (decide (3 < n) && decide (drawF (cellF ns 2) 8 4 = 0)) = halves
  have hh : halves = true → 3 < n := fun z => by
    rw [← hhv, Bool.and_eq_true] at z
    exact of_decide_eq_true z.1
  refine Evl.q_asgL (xs := []) (Evl.el_lst (by walk_at "ev") (by decide)) fun l H7 hfr e7 h7 => ?_
  have e06 : Ex H H6 := e1.trans (e2.trans (e3.trans (e4.trans (e5.trans e6))))
  have hfr0 : H l = none := Evl.fresh_back e06 hfr
  refine q_seq (f_range (n := (ns.length : Int)) (by walk_at "ev") ⟨by omega, by omega⟩
    (fun i σ' H' => ∃ (us : List V) (ts : List Tie) (o8 o9 o10 o11 o12 o13 o14 : Option V), σ' = [some (.ref a), some (.int few), some (.int n), some (.int turn), some (.int most), some (.int wrong), some (.bl halves), some (.ref l), o8, o9, o10, o11, o12, o13, o14] ∧ Ex H H' ∧ H' l = some (.lst us) ∧ TupL K H' us (ts.map tieL) ∧ ts.length = i ∧ ∀ t ∈ ts, okTie n t = true)
    (fun H8 e8 => ⟨[], [], _, _, _, _, _, _, _, rfl, e06.trans (e7.trans e8), e8 _ _ h7, .nil, rfl, fun t ht => by cases ht⟩) ?_ ?_)
  · rintro i σ' H' hi ⟨us, ts, o8, o9, o10, o11, o12, o13, o14, rfl, e, hll, hT, hlen, hok⟩
    have hn' : LI K H' a ns := hn.mono e
    have hci := cell_lt (ns := ns) (k := (i : Int)) (by omega) hi
    generalize hcc : cellF ns (i : Int) = c at hci
    have r5 : 0 ≤ (i : Int) % 5 := by omega
    have r7 : 0 ≤ (i : Int) % 7 := by omega
    have r3 : 0 ≤ (i : Int) % 3 := by omega
    dsimp only
    refine Evl.q_asg (v := .int (drawF c ((i : Int) % 5 + 1) n)) (by walk_at "ev") fun H8 e8 => ?_
    have g1 := draw_ge c ((i : Int) % 5 + 1) (m := n) (by omega)
    have g2 := draw_lt c ((i : Int) % 5 + 1) (m := n) (by omega)
    generalize drawF c ((i : Int) % 5 + 1) n = one at g1 g2
    refine Evl.q_asg (v := .int ((one + 1 + drawF c ((i : Int) % 7 + 2) (n - 1)) % n)) (by walk_at "ev") fun H9 e9 => ?_
    have g3 := draw_ge c ((i : Int) % 7 + 2) (m := n - 1) (by omega)
    have g4 := draw_lt c ((i : Int) % 7 + 2) (m := n - 1) (by omega)
    have g5 := other_ne (a := one) (b := 1 + drawF c ((i : Int) % 7 + 2) (n - 1)) (m := n) g1 g2 (by omega) (by omega)
    rw [← Int.add_assoc] at g5
    generalize (one + 1 + drawF c ((i : Int) % 7 + 2) (n - 1)) % n = other at g5
    have hn9 : LI K H9 a ns := hn'.mono (e8.trans e9)
    refine q_meet (α := Int × Option V × Option V × Option V) (fun z => [some (.ref a), some (.int few), some (.int n), some (.int turn), some (.int most), some (.int wrong), some (.bl halves), some (.ref l), some (.int (i : Int)), some (.int one), some (.int z.1), z.2.1, z.2.2.1, z.2.2.2, o14])
      (fun z H2 => Ex H' H2 ∧ 0 ≤ z.1 ∧ z.1 < n ∧ z.1 ≠ one) (b := halves) (Evl.et_B (by walk_at "ev")) (fun hb H10 e10 kk => ?_) (fun hb H10 e10 => ⟨(other, o11, o12, o13), rfl, e8.trans (e9.trans e10), g5.1, g5.2.1, g5.2.2⟩) ?_
    · have hn3 := hh hb
      have e8' : Ex H' H10 := e8.trans (e9.trans e10)
      have hn10 : LI K H10 a ns := hn'.mono e8'
      refine Evl.q_asg (v := .int (if decide (one < n / 2) = true then 0 else n / 2)) (Evl.ev_if (by walk_at "ev") (fun hc => by rw [if_pos hc]; exact Evl.ev_c) fun hc => by rw [if_neg (by rw [hc]; decide)]; walk_at "ev") fun H11 e11 => ?_
      generalize hlow : (if decide (one < n / 2) = true then 0 else n / 2) = low
      have low1 : (one < n / 2 ∧ low = 0) ∨ (¬ one < n / 2 ∧ low = n / 2) := by
        by_cases c : one < n / 2
        · rw [if_pos (decide_eq_true c)] at hlow
          exact .inl ⟨c, hlow.symm⟩
        · rw [if_neg (by rw [decide_eq_false c]; decide)] at hlow
          exact .inr ⟨c, hlow.symm⟩
      refine Evl.q_asg (v := .int (if decide (low = 0) = true then n / 2 else n - low)) (Evl.ev_if (by walk_at "ev") (fun hc => by rw [if_pos hc]; walk_at "ev") fun hc => by rw [if_neg (by rw [hc]; decide)]; walk_at "ev") fun H12 e12 => ?_
      generalize hmany : (if decide (low = 0) = true then n / 2 else n - low) = many
      have many1 : 2 ≤ many ∧ low ≤ one ∧ one < low + many ∧ low + many ≤ n ∧ 0 ≤ low := by
        by_cases c : low = 0
        · rw [if_pos (decide_eq_true c)] at hmany
          omega
        · rw [if_neg (by rw [decide_eq_false c]; decide)] at hmany
          omega
      refine Evl.q_asg (v := .int (1 + drawF c ((i : Int) % 7 + 2) (many - 1))) (by walk_at "ev") fun H13 e13 => ?_
      have g6 := draw_ge c ((i : Int) % 7 + 2) (m := many - 1) (by omega)
      have g7 := draw_lt c ((i : Int) % 7 + 2) (m := many - 1) (by omega)
      have g8 := other_ne (a := one - low) (b := 1 + drawF c ((i : Int) % 7 + 2) (many - 1)) (m := many) (by omega) (by omega) (by omega) (by omega)
      refine Evl.s_asg (v := .int (low + (one - low + (1 + drawF c ((i : Int) % 7 + 2) (many - 1))) % many)) (by walk_at "ev") fun H14 e14 => ?_
      generalize (one - low + (1 + drawF c ((i : Int) % 7 + 2) (many - 1))) % many = z at g8
      exact kk (low + z, _, _, _) H14 ⟨e8'.trans (e11.trans (e12.trans (e13.trans e14))), by omega, by omega, by omega⟩
    rintro ⟨other2, p11, p12, p13⟩ H10 ⟨e10, k1, k2, k3⟩
    dsimp only at k1 k2 k3 ⊢
    have hn10 : LI K H10 a ns := hn'.mono e10
    have q1 := draw_ge (other2 * 7919) 6 (m := most) (by omega)
    have q2 := draw_lt (other2 * 7919) 6 (m := most) (by omega)
    have q3 := draw_ge (one * 7919) 6 (m := most) (by omega)
    have q4 := draw_lt (one * 7919) 6 (m := most) (by omega)
    refine Evl.q_asg (v := .int (drawF (other2 * 7919) 6 most - drawF (one * 7919) 6 most)) (by walk_at "ev") fun H11 e11 => ?_
    have nb : -399999 ≤ drawF (other2 * 7919) 6 most - drawF (one * 7919) 6 most ∧ drawF (other2 * 7919) 6 most - drawF (one * 7919) 6 most ≤ 399999 := by omega
    generalize drawF (other2 * 7919) 6 most - drawF (one * 7919) 6 most = num at nb
    obtain ⟨nb1, nb2⟩ := nb
    have hn11 : LI K H11 a ns := hn10.mono e11
    refine q_meet (α := Int) (fun z => [some (.ref a), some (.int few), some (.int n), some (.int turn), some (.int most), some (.int wrong), some (.bl halves), some (.ref l), some (.int (i : Int)), some (.int one), some (.int other2), p11, p12, p13, some (.int z)])
      (fun z H2 => Ex H' H2 ∧ -400000 ≤ z ∧ z ≤ 400000) (b := decide (0 < wrong) && decide (drawF c ((i : Int) % 3 + 9) wrong = 0)) (Evl.et_and (by walk_at "ev") fun hc => ?_) (fun hb H12 e12 kk => ?_) (fun hb H12 e12 => ⟨num, rfl, e10.trans (e11.trans e12), by omega, by omega⟩) ?_
    · have hw := of_decide_eq_true hc
      walk_at "ev"
    · refine Evl.s_asg (v := .int (num + 1)) (by walk_at "ev") fun H13 e13 => kk (num + 1) H13 ⟨e10.trans (e11.trans (e12.trans e13)), by omega, by omega⟩
    rintro num2 H12 ⟨e12, m1, m2⟩
    have hn12 : LI K H12 a ns := hn'.mono e12
    refine q_meet (α := Int) (fun z => [some (.ref a), some (.int few), some (.int n), some (.int turn), some (.int most), some (.int wrong), some (.bl halves), some (.ref l), some (.int (i : Int)), some (.int one), some (.int other2), p11, p12, p13, some (.int z)])
      (fun z H2 => Ex H' H2 ∧ -1000000 ≤ z ∧ z ≤ 1000000) (b := decide (0 < turn) && (decide (drawF c 12 3 = 0) && decide ((if num2 < 0 then -num2 else num2) + turn < 1000000))) (Evl.et_and (by walk_at "ev") fun hc => Evl.et_and (by walk_at "ev") fun hc => by walk_at "ev") (fun hb H13 e13 kk => ?_) (fun hb H13 e13 => ⟨num2, rfl, e12.trans e13, by omega, by omega⟩) ?_
    · rw [Bool.and_eq_true, Bool.and_eq_true] at hb
      have hlt := of_decide_eq_true hb.2.2
      have bd : -1000000 ≤ num2 - turn ∧ num2 - turn ≤ 1000000 := by
        split at hlt <;> omega
      refine Evl.s_asg (v := .int (num2 - turn)) (by walk_at "ev") fun H14 e14 => kk (num2 - turn) H14 ⟨e12.trans (e13.trans e14), bd.1, bd.2⟩
    rintro num3 H13 ⟨e13, m3, m4⟩
    refine s_appP (l := l) (xs := us) (P := fun v H2 => TupI K H2 v (tieL (one, other2, num3))) (e13 _ _ hll) (by walk_at "ev") (by walk_at "ev") (by rw [hT.length, List.length_map]; omega) fun v H14 e14 hv => ?_
    have hl14 := e14 _ _ (e13 _ _ hll)
    refine ⟨us ++ [v], ts ++ [(one, other2, num3)], _, _, _, _, _, _, _, rfl, ((e.trans e13).trans e14).mut hfr0, upd_same, ?_, by simp [hlen], ?_⟩
    · rw [List.map_append]
      exact (TupL.snoc (hT.mono (e13.trans e14)) hv).updL hl14
    · intro t ht
      rcases List.mem_append.mp ht with ht | ht
      · exact hok t ht
      · rw [List.mem_singleton.mp ht]
        exact okTie_of g1 g2 k1 k2 k3 m3 m4
  · rintro σ' H' ⟨us, ts, o8, o9, o10, o11, o12, o13, o14, rfl, e, hll, hT, hlen, hok⟩
    dsimp only
    refine s_retP (P := LawWebV K H ns.length) (fun H8 e8 Q8 q8 => ?_) fun v H8 e8 hv => q v H8 (e.trans e8) hv
    have ev : EvA (tCons (tVar 2) (tCons (tVar 7) (tCons (tVar 3) tNil))) [some (.ref a), some (.int few), some (.int n), some (.int turn), some (.int most), some (.int wrong), some (.bl halves), some (.ref l), o8, o9, o10, o11, o12, o13, o14] H' [.int n, .ref l, .int turn] := by walk_at "ev"
    refine Evl.eu_tup ev (by show 3 ≤ 100000; decide) H8 e8 _ fun p H9 hp e9 h9 => q8 _ H9 e9 ⟨p, l, n, turn, ts, rfl, .inl (.inl h9), hfr0, ⟨us, e9 _ _ (e8 _ _ hll), hT.mono (e8.trans e9)⟩, ⟨hn1.1, hn1.2, ht0, ht1, by omega, hok⟩, by omega⟩
end G

/-! The law's own defs: the walk, straight, closed, numbers. -/
namespace G
open PySem PySem.Spec PyProof.Rows L2
open Evl (Ex Ev EvL EvU EvT EvA RV RetV)
local macro_rules | `(tactic| walk_at "hp") => `(tactic| first
  | with_reducible assumption
  | ((with_reducible show _ = some (_ : HO)); (with_reducible exact ex_app (by assumption) (by walk_at "hp")))
  | ((with_reducible show TupI _ _ _ _); (with_reducible exact TupI.mono (by assumption) (by walk_at "hp")))
  | ((with_reducible show LT _ _ _ _); (with_reducible exact LT.mono (by assumption) (by walk_at "hp")))
  | ((with_reducible show LI _ _ _ _); (first | (with_reducible exact li_of (by walk_at "hp")) | (with_reducible exact LI.mono (by assumption) (by walk_at "hp"))))
  | ((with_reducible show SqL _ _ _ _); (first | (with_reducible exact SqL.of (by walk_at "hp")) | (with_reducible exact Evl.ex_l (by assumption) (by walk_at "hp"))))
  | ((with_reducible show SqT _ _ _ _); (first | (with_reducible exact SqT.of (by walk_at "hp")) | (with_reducible exact Evl.ex_t (by assumption) (by walk_at "hp"))))
  | ((with_reducible show Rd _ _ _); (first | (with_reducible exact Rd.of (by walk_at "hp")) | (with_reducible exact Evl.ex_rd (by assumption) (by walk_at "hp"))))
  | walk_at "hpf")
local macro_rules | `(tactic| walk_at "at") => `(tactic| first
  | with_reducible assumption
  | with_reducible rfl
  | (refine atI_of ?va ?vb; (case va => omega); (case vb => assumption))
  | walk_at "atf"
  | rfl)
local macro_rules | `(tactic| walk_at "rv") => `(tactic| first
  | with_reducible exact rv_add | with_reducible exact rv_sub | with_reducible exact rv_eqI | with_reducible exact rv_neI | with_reducible exact rv_lt | with_reducible exact rv_le | with_reducible exact rv_gt | with_reducible exact rv_ge
  | with_reducible exact rv_eqB | with_reducible exact rv_neB | with_reducible exact rv_isB | with_reducible exact rv_notB
  | ((with_reducible refine rv_mod ?_); (first | assumption | omega))
  | ((with_reducible refine rv_mul ?_); (first | exact Or.inl ⟨by omega, by omega⟩ | exact Or.inr ⟨by omega, by omega⟩))
  | ((with_reducible refine rv_div ?_); exact ⟨by omega, by omega⟩))
local macro_rules | `(tactic| walk_at "ty") => `(tactic| first
  | with_reducible exact fun _ _ => .base (.int _) | with_reducible exact fun _ _ => .base (.bl _) | with_reducible exact fun _ _ => .base .non | with_reducible exact fun _ _ => .base (.str _)
  | ((with_reducible apply ty_tup); walk_at "hp")
  | ((with_reducible apply ty_lst); walk_at "hp")
  | walk_at "tyf")
local macro_rules | `(tactic| walk_at "ev") => `(tactic| repeat' (first
  | with_reducible exact Evl.ev_c
  | ((with_reducible apply Evl.ev_var); rfl)
  | with_reducible apply ev_neg
  | with_reducible apply ev_ixU
  | walk_at "evf"
  | ((with_reducible apply ev_lenI); (· walk_at "ev"); (· walk_at "hp"))
  | ((with_reducible apply ev_lenT); (· walk_at "ev"); (· walk_at "hp"))
  | ((with_reducible apply ev_lenU); (· walk_at "ev"))
  | with_reducible apply ev_lenSet
  | with_reducible apply ev_chain
  | with_reducible apply ev_isiTy
  | with_reducible apply Evl.ev_andV
  | with_reducible apply Evl.ev_orV
  | with_reducible apply Evl.ev_notV
  | ((with_reducible apply ev_ixI); (· walk_at "ev"); (· walk_at "ev"); (· walk_at "hp"); (· walk_at "at"))
  | with_reducible apply Evl.ev_op
  | ((with_reducible apply evi_of); (· (with_reducible apply Evl.ev_var); rfl); (· walk_at "hp"))
  | with_reducible apply ei_ix
  | with_reducible apply ei_tup
  | with_reducible exact eai_nil
  | with_reducible apply eai_cons
  | with_reducible exact Evl.ea_nil
  | with_reducible apply Evl.ea_cons
  | with_reducible apply Evl.et_test
  | with_reducible apply Evl.et_and
  | with_reducible apply Evl.et_or
  | with_reducible apply Evl.et_not
  | with_reducible apply Evl.et_B
  | walk_at "rv"
  | ((with_reducible show L2.kitB _ _ = _); rfl)
  | ((with_reducible show L2.atI _ _ = _); walk_at "at")
  | ((with_reducible show (_ : Nat) ≤ _); (first | omega | (simp; done) | (simp; omega)))
  | ((with_reducible show _ = true → _); intro _)
  | ((with_reducible show _ = false → _); intro _)
  | ((with_reducible show TupI _ _ _ _); walk_at "hp")
  | ((with_reducible show LT _ _ _ _); walk_at "hp")
  | ((with_reducible show LI _ _ _ _); walk_at "hp")
  | ((with_reducible show SqL _ _ _ _); walk_at "hp")
  | ((with_reducible show SqT _ _ _ _); walk_at "hp")
  | ((with_reducible show Rd _ _ _); walk_at "hp")
  | ((with_reducible show _ = some (_ : HO)); walk_at "hp")
  | walk_at "hpg"
  | walk_at "ty"))

local macro_rules | `(tactic| walk_at "hpf") => `(tactic| ((with_reducible show WebAt _ _ _ _ _ _); (with_reducible exact WebAt.mono (by assumption) (by walk_at "hp"))))
local macro_rules | `(tactic| walk_at "hpg") => `(tactic| ((with_reducible show WebAt _ _ _ _ _ _); walk_at "hp"))
local macro_rules | `(tactic| walk_at "evf") => `(tactic| with_reducible apply ev_points)
local macro_rules | `(tactic| walk_at "evf") => `(tactic| with_reducible apply ev_turn)
local macro_rules | `(tactic| walk_at "evf") => `(tactic| with_reducible apply ev_lenB)
local macro_rules | `(tactic| walk_at "evf") => `(tactic| with_reducible apply ei_bound)
local macro_rules | `(tactic| walk_at "evf") => `(tactic| with_reducible apply ev_is_whole)
local macro_rules | `(tactic| walk_at "evf") => `(tactic| with_reducible apply ev_is_below)
local macro_rules | `(tactic| walk_at "evf") => `(tactic| with_reducible apply ev_is_tie)
local macro_rules | `(tactic| walk_at "evf") => `(tactic| with_reducible apply ei_stepped)
variable {K : PySem.W.Frag} {σ : L2.St} {H H' H1 : Hp} {ta tb tc te : TE} {t u : TT} {tl : TA} {v x y z : V}

theorem ev_niI {xs : List Int} {i : Int} (ha : Ev ta σ H (.int i)) (hb : EvI K tb σ H xs) : Ev (tOp (rIn K true) ta tb) σ H (.bl (!decide (i ∈ xs))) := fun H1 e Q q =>
  ha H1 e _ fun H2 e2 => hb H2 (e.trans e2) _ fun v H3 e3 ⟨p, ev, hp⟩ => ⟨p, xs.map V.int, ev, .inr hp, rfl, flat_ints xs, by
    show Q (.bl (!inV (.int i) (xs.map V.int))) H3
    rw [inV_int]
    exact q H3 (e2.trans e3)⟩
/-- t[:2] -/
theorem ei_cut2 {a b c : Int} (h : EvI K te σ H [a, b, c]) : EvI K (tSl (rSlT K) te tNoPart (tPart (tC (.int 2)))) σ H [a, b] := fun H1 e Q q =>
  h H1 e _ fun v H2 e2 ⟨p, ev, hp⟩ => ⟨2, rfl, p, _, ev, hp, by show ¬ (HT.sIx 3 0 none = 0 ∧ HT.sIx 3 3 (some 2) = 3); decide, fun r hr => q _ _ (e2.trans (Ex.new hr)) ⟨r, rfl, .inl (.inl (by rw [upd_same]; rfl))⟩⟩
/-- t[1::-1] -/
theorem ei_swap {a b c : Int} (h : EvI K te σ H [a, b, c]) : EvI K (tSwapT K te) σ H [b, a] := fun H1 e Q q =>
  h H1 e _ fun v H2 e2 ⟨p, ev, hp⟩ => ⟨p, .int a, .int b, .int c, ev, hp, fun r hr => q _ _ (e2.trans (Ex.new hr)) ⟨r, rfl, .inl (.inl (by rw [upd_same]; rfl))⟩⟩
theorem ei_if {b : Bool} {xs : List Int} (h : EvT t σ H b) (h1 : b = true → EvI K ta σ H xs) (h2 : b = false → EvI K tb σ H xs) : EvI K (tIf t ta tb) σ H xs := fun H1 e Q q => h H1 e _ fun H2 e2 => by
  cases b with
  | true =>
    show ta σ H2 Q
    exact h1 rfl H2 (e.trans e2) Q fun v H3 e3 p => q v H3 (e2.trans e3) p
  | false =>
    show tb σ H2 Q
    exact h2 rfl H2 (e.trans e2) Q fun v H3 e3 p => q v H3 (e2.trans e3) p
/-- a, b = [x], 0 -/
theorem q_parL {D : Ends} {tz : TS} {i j : Nat} {xs : List V} (h : EvL te σ H xs) (hb : ∀ H1, Ex H H1 → Ev tb σ H1 y) (k : ∀ p H1, H p = none → Ex H H1 → H1 p = some (.lst xs) → tz D ((σ.set i (some (.ref p))).set j (some y)) H1) :
    tSeq (tPar i j (tCons te (tCons tb tNil))) tz D σ H :=
  h H (Ex.refl H) _ fun p H1 hp e1 h1 => hb H1 e1 H1 (Ex.refl H1) _ fun H2 e2 => ⟨_, _, rfl, k p H2 hp (e1.trans e2) (e2 _ _ h1)⟩

/-! ### the walk -/
def Pos (ts : List Tie) : Prop := ∀ t ∈ ts, 0 ≤ t.1 ∧ 0 ≤ t.2.1
def sp__law_walk (K : PySem.W.Frag) : Sp := fun vs H Q _ => ∃ (tl l : Addr) (p : Int) (ss : List Step) (ts : List Tie), vs = [.ref tl, .int p, .ref l] ∧ LTie K H tl ts ∧ Pos ts ∧ LStep K H l ss ∧ ss.length ≤ 3000 ∧ RetP (WalkV K H (walkR ts p ss)) H Q
theorem ep_law_walk {tl' l : Addr} {p : Int} {ss : List Step} {ts : List Tie} (h : EvA tl σ H [.ref tl', .int p, .ref l]) (hw : LTie K H tl' ts) (hp : Pos ts) (hs : LStep K H l ss) (hl : ss.length ≤ 3000) : EvP (tCall (sp__law_walk K) [] E0 tl) σ H (WalkV K H (walkR ts p ss)) :=
  ep_call h fun H1 Q e k => ⟨tl', l, p, ss, ts, rfl, hw.mono e, hp, hs.mono e, hl, fun v H2 e2 ⟨t, l, a, b, c, d⟩ => k v H2 e2 ⟨t, l, a, b, Evl.fresh_back e c, d⟩⟩
def t__law_walk (K : PySem.W.Frag) : TS :=
 (tSeq (tPar 3 4 (tCons (tLst (tCons (tVar 1) tNil)) (tCons (tC (.int 0)) tNil)))
 (tSeq (tFor (iList K (tVar 2)) (gName 5) (tSeq (tIfS (tOr (tNot (tB (tCB (rIsi K) (tCons (tVar 5) (tCons (tC (.ty "tuple")) tNil))))) (tTest (tOp rNe (tCB (rLenS K) (tCons (tVar 5) tNil)) (tC (.int 2))))) (tRet (tTup (tCons (tLst tNil) (tCons (tC (.int 0)) tNil)))) tNext)
 (tSeq (tAsg (tVar 5) (gTup K 2 (gCons (gName 6) (gCons (gName 7) gNil))))
 (tSeq (tIfS (tOr (tB (tCB (rIsi K) (tCons (tVar 6) (tCons (tC (.ty "bool")) tNil)))) (tOr (tNot (tB (tCB (rIsi K) (tCons (tVar 6) (tCons (tC (.ty "int")) tNil))))) (tOr (tNot (tTest (tChain rLeI rLtI (tC (.int 0)) (tVar 6) (tCB (rLenS K) (tCons (tVar 0) tNil))))) (tTest (tOp (rIn K true) (tVar 7) (tTup (tCons (tC (.int 1)) (tCons (tUn rNegI (tC (.int 1))) tNil)))))))) (tRet (tTup (tCons (tLst tNil) (tCons (tC (.int 0)) tNil)))) tNext)
 (tSeq (tAsg (tIf (tTest (tOp rEq (tVar 7) (tC (.int 1)))) (tSl (rSlT K) (tOp (rIxL K) (tVar 0) (tVar 6)) tNoPart (tPart (tC (.int 2)))) (tSwapT K (tOp (rIxL K) (tVar 0) (tVar 6)))) (gName 8))
 (tSeq (tIfS (tTest (tOp rNe (tOp (rIxL K) (tVar 3) (tUn rNegI (tC (.int 1)))) (tOp (rIxT K) (tVar 8) (tC (.int 0))))) (tRet (tTup (tCons (tLst tNil) (tCons (tC (.int 0)) tNil)))) tNext)
 (tSeq (tDrop (tBM K "list" rAppend (tVar 3) (tCons (tOp (rIxT K) (tVar 8) (tC (.int 1))) tNil)))
 (tAsg (tOp rAddI (tVar 4) (tOp rMulI (tVar 7) (tOp (rIxT K) (tOp (rIxL K) (tVar 0) (tVar 6)) (tC (.int 2))))) (gName 4)))))))))
 (tRet (tTup (tCons (tVar 3) (tCons (tVar 4) tNil))))))
def t__law_straight (K : PySem.W.Frag) : TS :=
 (tSeq (tAsg (tOp (rIxT K) (tCall (sp__law_walk K) [] E0 (tCons (tVar 0) (tCons (tVar 1) (tCons (tVar 2) tNil)))) (tC (.int 0))) (gName 4))
 (tRet (tAndV (tOp (rNeD K) (tVar 4) (tLst tNil)) (tAndV (tOp rEq (tOp (rIxL K) (tVar 4) (tUn rNegI (tC (.int 1)))) (tVar 3)) (tOp rEq (tLenSetD K (tVar 4)) (tCB (rLenS K) (tCons (tVar 4) tNil)))))))
def t__law_closed (K : PySem.W.Frag) : TS :=
 (tSeq (tIfS (tOr (tTest (tOp (rNeD K) (tVar 2) (tSortSet K (tVar 2)))) (tB (tCB (rAny K) (tCons (tLc (iList K (tVar 2)) (gName 5) tYes (tNotV (tChain rLeI rLtI (tC (.int 0)) (tVar 5) (tVar 0))) [5]) tNil)))) (tRet (tC (.bl false))) tNext)
 (tSeq (tFor (iRng1 (tCons (tCB (rLenS K) (tCons (tVar 1) tNil)) tNil)) (gName 4) (tIfS (tAnd (tTest (tOp rNe (tVar 4) (tVar 3))) (tTest (tOp rNe (tOp (rIn K false) (tOp (rIxT K) (tOp (rIxL K) (tVar 1) (tVar 4)) (tC (.int 0))) (tVar 2)) (tOp (rIn K false) (tOp (rIxT K) (tOp (rIxL K) (tVar 1) (tVar 4)) (tC (.int 1))) (tVar 2))))) (tRet (tC (.bl false))) tNext))
 (tRet (tC (.bl true)))))
def t__law_numbers (K : PySem.W.Frag) : TS :=
 (tSeq (tIfS (tNot (tB (tCB (rIsi K) (tCons (tVar 0) (tCons (tC (.ty "list")) tNil))))) (tRet (tC (.bl false))) tNext)
 (tRet (tNotV (tCB (rAny K) (tCons (tLc (iList K (tVar 0)) (gName 1) tYes (tOrV (tCB (rIsi K) (tCons (tVar 1) (tCons (tC (.ty "bool")) tNil))) (tNotV (tCB (rIsi K) (tCons (tVar 1) (tCons (tC (.ty "int")) tNil))))) [1]) tNil)))))
theorem walk_nil : EvP (tTup (tCons (tLst tNil) (tCons (tC (.int 0)) tNil))) σ H (WalkV K H ([], 0)) := fun H5 e5 Q' q' => by
  refine ⟨Nat.zero_le _, fun l2 hl2 => ?_⟩
  refine ⟨by show 2 ≤ sizeLine; decide, fun t2 ht2 => ?_⟩
  refine q' _ _ ((Ex.new hl2).trans (Ex.new ht2)) ⟨t2, l2, rfl, .inl (.inl upd_same), Evl.fresh_back e5 hl2, ?_⟩
  have n2 : l2 ≠ t2 := fun z => by rw [z, upd_same] at ht2; cases ht2
  rw [upd_ne n2, upd_same]
  rfl
theorem WalkV.back {r : List Int × Int} {H2 : Hp} (e : Ex H H1) (h : WalkV K H1 r v H2) : WalkV K H r v H2 := by
  obtain ⟨t, l, a, b, c, d⟩ := h
  exact ⟨t, l, a, b, Evl.fresh_back e c, d⟩
theorem rd__law_walk (vs : List V) (H : Hp) (Q : VK) (E : XK) (h : sp__law_walk K vs H Q E) : goal (t__law_walk K) ["_law_ties", "_law_start", "_law_steps", "_law_points", "_law_total", "_law_step", "_law_at", "_law_way", "_law_ends"] vs H Q := by
  obtain ⟨tl', l, p, ss, ts, rfl, hw, hpos, hs, hl, k⟩ := h
  refine q_parL (xs := [.int p]) (y := .int 0) (Evl.el_lst (by walk_at "ev") (by show 1 ≤ 100000; decide)) (fun H1 e1 => Evl.ev_c) fun a H1 hfr e1 h1 => ?_
  obtain ⟨us, hq, hT⟩ := id hs
  have hul : us.length = ss.length := by rw [hT.length, List.length_map]
  refine q_seq (f_list (a := l) (xs := us) (by walk_at "ev") (by walk_at "hp")
    (fun i σ' H' => ∃ (pre : List Int) (q c : Int) (o5 o6 o7 o8 : Option V), σ' = [some (.ref tl'), some (.int p), some (.ref l), some (.ref a), some (.int c), o5, o6, o7, o8] ∧ Ex H H' ∧ H' a = some (.lst ((pre ++ [q]).map V.int)) ∧ pre.length ≤ i ∧ walkF ts p ss = walkA ts pre q c (ss.drop i))
    (fun H3 e3 => ⟨[], p, 0, _, _, _, _, rfl, e1.trans e3, e3 _ _ h1, Nat.le_refl _, rfl⟩) (fun i σ' H' _ ⟨_, _, _, _, _, _, _, _, e, _⟩ => Evl.ex_l e hq) ?_ ?_)
  · rintro i x σ' H' hx ⟨pre, q, c, o5, o6, o7, o8, rfl, e, ha, hi, hv⟩
    obtain ⟨z, hz, tz⟩ := (hT.mono e).getV hx
    rw [List.getElem?_map] at hz
    cases hsi : ss[i]? with
    | none => rw [hsi] at hz; cases hz
    | some s =>
      rw [hsi] at hz
      cases hz
      have hil : i < us.length := (List.getElem?_eq_some_iff.mp hx).1
      have hlast : atI (pre ++ [q]) (-1) = some q := atI_last pre q
      have hdr : ss.drop i = s :: ss.drop (i + 1) := by
        obtain ⟨hlt, hg⟩ := List.getElem?_eq_some_iff.mp hsi
        rw [List.drop_eq_getElem_cons hlt, hg]
      rw [hdr] at hv
      unfold walkA at hv
      obtain ⟨sa, sb⟩ := s
      -- the answer where the step is no step
      have no : ∀ {σ2 : L2.St} {H2 : Hp} {nx ct bk : L2.St → Hp → Prop}, Ex H' H2 → (stepF ts q (sa, sb)).1 < 0 → (tRet (tTup (tCons (tLst tNil) (tCons (tC (.int 0)) tNil)))) { nx := nx, rt := Q, ct := ct, bk := bk } σ2 H2 := fun e2 hneg => by
        rw [if_pos hneg] at hv
        exact s_retP walk_nil fun v H5 e5 hq5 => k v H5 (e.trans (e2.trans e5)) (by unfold walkR; rw [hv]; exact hq5.back (e.trans e2))
      have hw' := hw.mono e
      refine Evl.q_when (b := false) (Evl.et_is (by walk_at "ev") (by rfl)) (fun hb _ _ => by cases hb) fun _ H2 e2 => ?_
      refine q_un2 (a := sa) (b := sb) (by walk_at "ev") fun H3 e3 => ?_
      have hw3 := hw'.mono (e2.trans e3)
      refine Evl.q_when (b := !decide (0 ≤ sa ∧ sa < (ts.length : Int)) || !decide (sb ∈ [1, -1])) (Evl.et_is (Evl.et_or (a := false) (Evl.et_is (by walk_at "ev") (by rfl)) fun _ => Evl.et_or (a := false) (Evl.et_is (by walk_at "ev") (by rfl)) fun _ => Evl.et_or (by walk_at "ev") fun _ => Evl.et_test (ev_niI (xs := [1, -1]) (by walk_at "ev") (by walk_at "ev"))) (by simp)) (fun hb H4 e4 => ?_) fun hb H4 e4 => ?_
      · refine no (e2.trans (e3.trans e4)) ?_
        unfold stepF
        by_cases hr : 0 ≤ sa ∧ sa < (ts.length : Int)
        · rw [if_pos hr]
          rw [decide_eq_true hr] at hb
          have hnm : sb ∉ [1, -1] := by simpa using hb
          split
          · rw [if_neg (fun z => hnm (by rw [show sb = 1 from z.1]; decide)), if_neg (fun z => hnm (by rw [show sb = -1 from z.1]; decide))]
            decide
          · decide
        · rw [if_neg hr]
          decide
      rw [Bool.or_eq_false_iff] at hb
      have hin : 0 ≤ sa ∧ sa < (ts.length : Int) := by simpa using hb.1
      have hway : sb ∈ [1, -1] := by
        have h2 := hb.2
        cases hd : decide (sb ∈ [1, -1]) with
        | true => exact of_decide_eq_true hd
        | false => rw [hd] at h2; cases h2
      have hway2 : sb = 1 ∨ sb = -1 := by simpa using hway
      obtain ⟨tt, ht⟩ : ∃ tt, ts[sa.toNat]? = some tt := ⟨ts[sa.toNat]'(by omega), List.getElem?_eq_getElem (by omega)⟩
      have hat : atI ts sa = some tt := atI_of hin.1 ht
      have hat2 : atI (ts.map tieL) sa = some [tt.1, tt.2.1, tt.2.2] := by rw [atI_map, hat]; rfl
      obtain ⟨pp1, pp2⟩ := hpos tt (List.mem_of_getElem? ht)
      have hsf : stepF ts q (sa, sb) = if sb = 1 ∧ q = tt.1 then (tt.2.1, tt.2.2) else if sb = -1 ∧ q = tt.2.1 then (tt.1, -tt.2.2) else (-1, 0) := by
        unfold stepF
        rw [if_pos hin]
        simp only [ht]
      have e14 := e2.trans (e3.trans e4)
      have hw4 := hw'.mono e14
      obtain ⟨x1, x2, hxx, hends⟩ : ∃ x1 x2, (x1, x2) = (if sb = 1 then (tt.1, tt.2.1) else (tt.2.1, tt.1)) ∧ EvI K (tIf (tTest (tOp rEq (tVar 7) (tC (.int 1)))) (tSl (rSlT K) (tOp (rIxL K) (tVar 0) (tVar 6)) tNoPart (tPart (tC (.int 2)))) (tSwapT K (tOp (rIxL K) (tVar 0) (tVar 6)))) [some (.ref tl'), some (.int p), some (.ref l), some (.ref a), some (.int c), some x, some (.int sa), some (.int sb), o8] H4 [x1, x2] := by
        rcases hway2 with rfl | rfl
        · exact ⟨tt.1, tt.2.1, rfl, ei_if (b := true) (Evl.et_is (by walk_at "ev") (by rfl)) (fun _ => ei_cut2 (c := tt.2.2) (ei_ix (by walk_at "ev") (by walk_at "ev") hw4 hat2)) fun z => by cases z⟩
        · exact ⟨tt.2.1, tt.1, rfl, ei_if (b := false) (Evl.et_is (by walk_at "ev") (by rfl)) (fun z => by cases z) fun _ => ei_swap (c := tt.2.2) (ei_ix (by walk_at "ev") (by walk_at "ev") hw4 hat2)⟩
      have hends2 := hends
      refine q_asgP hends2 fun v H5 e5 hv5 => ?_
      have e15 := e14.trans e5
      refine Evl.q_when (b := !decide (q = x1)) (by walk_at "ev") (fun hb5 H6 e6 => ?_) fun hb5 H6 e6 => ?_
      · refine no (e15.trans e6) ?_
        have hne : q ≠ x1 := by simpa using hb5
        rw [hsf]
        rcases hway2 with rfl | rfl
        · have : x1 = tt.1 := (Prod.mk.inj hxx).1
          rw [if_neg (fun z => hne (z.2.trans this.symm)), if_neg (fun z => by cases z.1)]
          decide
        · have : x1 = tt.2.1 := (Prod.mk.inj hxx).1
          rw [if_neg (fun z => by cases z.1), if_neg (fun z => hne (z.2.trans this.symm))]
          decide
      have heq : q = x1 := by simpa using hb5
      have hst : stepF ts q (sa, sb) = (x2, sb * tt.2.2) := by
        rw [hsf]
        rcases hway2 with rfl | rfl
        · have h1 := (Prod.mk.inj hxx)
          rw [if_pos ⟨rfl, heq.trans h1.1⟩, h1.2, Int.one_mul]
        · have h1 := (Prod.mk.inj hxx)
          rw [if_neg (fun z => by cases z.1), if_pos ⟨rfl, heq.trans h1.1⟩, h1.2, Int.neg_mul, Int.one_mul]
      have hx2 : ¬ x2 < 0 := by
        rcases hway2 with rfl | rfl
        · have h1 := (Prod.mk.inj hxx).2; omega
        · have h1 := (Prod.mk.inj hxx).2; omega
      rw [hst, if_neg hx2] at hv
      have e16 := e15.trans e6
      have ha6 : H6 a = some (.lst ((pre ++ [q]).map V.int)) := e16 _ _ ha
      have hw6 := hw'.mono e16
      refine Evl.q_app (l := a) (xs := (pre ++ [q]).map V.int) (v := .int x2) ha6 (by walk_at "ev") (ev_ixU (evi_of (Evl.ev_var rfl) (hv5.mono e6)) Evl.ev_c rfl) (by simp; omega) fun H7 e7 => ?_
      have ha7 : H7 a = some (.lst ((pre ++ [q]).map V.int)) := e7 _ _ ha6
      have hw8 : LTie K (upd H7 a (.lst ((pre ++ [q]).map V.int ++ [.int x2]))) tl' ts := hw.mono ((e.trans (e16.trans e7)).mut hfr)
      refine Evl.s_asg (v := .int (c + sb * tt.2.2)) (Evl.ev_op (Evl.ev_var rfl) (Evl.ev_op (Evl.ev_var rfl) (ev_ixU (ei_ix (Evl.ev_var rfl) (Evl.ev_var rfl) hw8 hat2) Evl.ev_c rfl) (rv_mul (.inl ?_))) rv_add) fun H8 e8 => ?_
      · rcases hway2 with rfl | rfl <;> exact ⟨by decide, by decide⟩
      refine ⟨pre ++ [q], x2, c + sb * tt.2.2, _, _, _, _, rfl, ((e.trans (e16.trans e7)).mut hfr).trans e8, ?_, by simp; omega, hv⟩
      refine e8 _ _ ?_
      rw [upd_same]
      simp
  · rintro σ' H' ⟨pre, q, c, o5, o6, o7, o8, rfl, e, ha, hi, hv⟩
    have hd : ss.drop us.length = [] := List.drop_of_length_le (by omega)
    rw [hd] at hv
    unfold walkA at hv
    dsimp only
    refine s_retP (P := WalkV K H (pre ++ [q], c)) ?_ fun v H5 e5 hq5 => ?_
    rotate_left
    · exact k v H5 (e.trans e5) (by unfold walkR; rw [hv]; exact hq5)
    intro H5 e5 Q' q'
    have ev : EvA (tCons (tVar 3) (tCons (tVar 4) tNil)) [some (.ref tl'), some (.int p), some (.ref l), some (.ref a), some (.int c), o5, o6, o7, o8] H' [.ref a, .int c] := by walk_at "ev"
    refine ev H5 e5 _ fun H6 e6 => ⟨by show 2 ≤ sizeLine; decide, fun t2 ht2 => q' _ _ (e6.trans (Ex.new ht2)) ⟨t2, a, rfl, .inl (.inl upd_same), hfr, ?_⟩⟩
    have n2 : a ≠ t2 := ne_of_none (e6 _ _ (e5 _ _ ha)) ht2
    rw [upd_ne n2]
    exact e6 _ _ (e5 _ _ ha)

/-! ### straight -/
def sp__law_straight (K : PySem.W.Frag) : Sp := fun vs H Q _ => ∃ (tl l : Addr) (p q : Int) (ss : List Step) (ts : List Tie), vs = [.ref tl, .int p, .ref l, .int q] ∧ LTie K H tl ts ∧ Pos ts ∧ LStep K H l ss ∧ ss.length ≤ 3000 ∧ RetV (.bl (straightF ts p ss q)) H Q
theorem ev_law_straight {tl' l : Addr} {p q : Int} {ss : List Step} {ts : List Tie} (h : EvA tl σ H [.ref tl', .int p, .ref l, .int q]) (hw : LTie K H tl' ts) (hp : Pos ts) (hs : LStep K H l ss) (hl : ss.length ≤ 3000) : Ev (tCall (sp__law_straight K) [] E0 tl) σ H (.bl (straightF ts p ss q)) :=
  ev_call h fun H1 Q e k => ⟨tl', l, p, q, ss, ts, rfl, hw.mono e, hp, hs.mono e, hl, k⟩
theorem rd__law_straight (vs : List V) (H : Hp) (Q : VK) (E : XK) (h : sp__law_straight K vs H Q E) : goal (t__law_straight K) ["_law_ties", "_law_start", "_law_steps", "_law_end", "_law_points"] vs H Q := by
  obtain ⟨tl', l, p, q, ss, ts, rfl, hw, hp, hs, hl, k⟩ := h
  refine q_asgP (ep_fst (ep_law_walk (tl' := tl') (l := l) (p := p) (by walk_at "ev") hw hp hs hl)) fun v H1 e1 hv => ?_
  obtain ⟨a, rfl, fr, h1⟩ := hv
  refine Evl.s_ret (v := .bl (straightF ts p ss q)) ?_ fun H2 e2 => k H2 (e1.trans e2)
  have nl : ∀ {σ2 : L2.St} {H2 : Hp}, EvLI K (tLst tNil) σ2 H2 [] := fun H3 e3 Q3 q3 => ⟨Nat.zero_le _, fun l2 hl2 => q3 _ _ (Ex.new hl2) ⟨l2, rfl, li_of upd_same⟩⟩
  unfold straightF
  unfold walkR at h1
  cases hc : walkF ts p ss with
  | none =>
    rw [hc] at h1
    have h1' : LI K H1 a [] := li_of h1
    exact Evl.ev_is (Evl.ev_andV (a := false) (b := true) (ev_neLI (xs := []) (ys := []) (Ev.toP (Evl.ev_var rfl) fun H2 e => ⟨a, rfl, h1'.mono e⟩) nl) fun z => by cases z) (by rfl)
  | some r =>
    rw [hc] at h1
    obtain ⟨ps, c⟩ := r
    have h1' : LI K H1 a ps := li_of h1
    have hlen : ps.length = ss.length + 1 := by
      have := walkA_len hc
      simpa using this
    have hne : ps ≠ [] := fun z => by rw [z] at hlen; simp at hlen
    obtain ⟨m, hm⟩ : ∃ m, ps.getLast? = some m := ⟨ps.getLast hne, List.getLast?_eq_some_getLast hne⟩
    have hat : atI ps (-1) = some m := atI_lastOf hm
    refine Evl.ev_is (Evl.ev_andV (ev_neLI (xs := ps) (ys := []) (Ev.toP (Evl.ev_var rfl) fun H2 e => ⟨a, rfl, h1'.mono e⟩) nl) fun _ => Evl.ev_andV (by walk_at "ev") fun _ => Evl.ev_op (ev_lenSet (Evl.ev_var rfl) h1' (by omega)) (ev_lenI (Evl.ev_var rfl) h1') rv_eqI) ?_
    refine congrArg V.bl (Bool.eq_iff_iff.mpr ?_)
    simp [hm, hne]
    intro _
    omega
/-! ### numbers -/
def sp__law_numbers (K : PySem.W.Frag) : Sp := fun vs H Q _ => ∃ (l : Addr) (ns : List Int), vs = [.ref l] ∧ LI K H l ns ∧ ns.length ≤ 5000 ∧ RetV (.bl true) H Q
theorem ev_law_numbers {l : Addr} {ns : List Int} (h : EvA tl σ H [.ref l]) (hn : LI K H l ns) (hl : ns.length ≤ 5000) : Ev (tCall (sp__law_numbers K) [] E0 tl) σ H (.bl true) := ev_call h fun H1 Q e k => ⟨l, ns, rfl, hn.mono e, hl, k⟩
theorem rd__law_numbers (vs : List V) (H : Hp) (Q : VK) (E : XK) (h : sp__law_numbers K vs H Q E) : goal (t__law_numbers K) ["_law_found", "_law_one"] vs H Q := by
  obtain ⟨l, ns, rfl, hn, hl, k⟩ := h
  refine Evl.q_when (b := false) (Evl.et_is (Evl.et_not (Evl.et_B (ev_isiTy (a := "list") (b := "list") (bb := true) (Evl.ev_var rfl) (ty_lst hn) rfl))) (by rfl)) (fun hb _ _ => by cases hb) fun _ H1 e1 => ?_
  have hn1 := hn.mono e1
  refine Evl.s_ret (v := .bl true) (Evl.ev_is (Evl.ev_notV (ev_any (p := l) (bs := ns.map fun _ => false) ?_)) ?_) fun H2 e2 => k H2 (e1.trans e2)
  · refine (lc_vals (a := l) (xs := ns.map V.int) (ys := (ns.map fun _ => false).map V.bl) (Evl.ev_var rfl) hn1 (by simp; omega) (by simp) (fun _ => rfl) fun i x H3 e3 hx => ?_).imp fun v H3 e3 hh => ?_
    · rw [List.getElem?_map] at hx
      cases hni : ns[i]? with
      | none => rw [hni] at hx; cases hx
      | some n =>
        rw [hni] at hx
        cases hx
        exact ⟨.bl false, by simp [hni], Evl.ev_is (Evl.ev_orV (a := false) (Evl.ev_is (by walk_at "ev") (by rfl)) fun _ => Evl.ev_notV (a := true) (Evl.ev_is (by walk_at "ev") (by rfl))) (by rfl)⟩
    · obtain ⟨q, a, _, b⟩ := hh
      exact ⟨q, a, SqL.of b⟩
  · have : (ns.map fun _ => false).any id = false := by
      rw [List.any_eq_false]
      intro x hx
      obtain ⟨_, _, rfl⟩ := List.mem_map.mp hx
      decide
    rw [this]
    rfl
/-! ### closed -/
theorem rising_iff {n last : Int} : ∀ {ps : List Int}, risingF n last ps = true → ps.Pairwise (· < ·) ∧ (∀ p ∈ ps, 0 ≤ p ∧ p < n) ∧ ∀ p ∈ ps, last < p
  | [], _ => ⟨.nil, by simp, by simp⟩
  | p :: r, h => by
    unfold risingF at h
    rw [Bool.and_eq_true] at h
    obtain ⟨h1, h2⟩ := h
    have h3 := of_decide_eq_true h1
    obtain ⟨a, b, c⟩ := rising_iff h2
    refine ⟨List.pairwise_cons.mpr ⟨c, a⟩, ?_, ?_⟩
    · intro q hq
      rcases List.mem_cons.mp hq with rfl | hq
      · exact h3.1
      · exact b q hq
    · intro q hq
      rcases List.mem_cons.mp hq with rfl | hq
      · exact h3.2
      · have := c q hq; omega
theorem rising_uniq : ∀ {xs ys : List Int}, xs.Pairwise (· < ·) → ys.Pairwise (· < ·) → (∀ k, k ∈ xs ↔ k ∈ ys) → xs = ys
  | [], [], _, _, _ => rfl
  | [], y :: ys, _, _, h => by have := (h y).mpr List.mem_cons_self; cases this
  | x :: xs, [], _, _, h => by have := (h x).mp List.mem_cons_self; cases this
  | x :: xs, y :: ys, hx, hy, h => by
    obtain ⟨a1, a2⟩ := List.pairwise_cons.mp hx
    obtain ⟨b1, b2⟩ := List.pairwise_cons.mp hy
    have e : x = y := by
      rcases List.mem_cons.mp ((h x).mp List.mem_cons_self) with e | hm
      · exact e
      · rcases List.mem_cons.mp ((h y).mpr List.mem_cons_self) with e | hm2
        · exact e.symm
        · have := b1 x hm; have := a1 y hm2; omega
    subst e
    congr 1
    refine rising_uniq a2 b2 fun k => ?_
    constructor
    · intro hk
      rcases List.mem_cons.mp ((h k).mp (List.mem_cons_of_mem _ hk)) with e | hm
      · have := a1 k hk; omega
      · exact hm
    · intro hk
      rcases List.mem_cons.mp ((h k).mpr (List.mem_cons_of_mem _ hk)) with e | hm
      · have := b1 k hk; omega
      · exact hm
theorem rising_law {n : Int} {ps : List Int} : risingF n (-1) ps = !(!decide (ps.Pairwise (· < ·)) || ps.any fun p => !(decide (0 ≤ p) && decide (p < n))) := by
  rw [Bool.eq_iff_iff]
  constructor
  · intro h
    obtain ⟨a, b, c⟩ := rising_iff h
    rw [decide_eq_true a, Bool.not_true, Bool.false_or, Bool.not_eq_true', List.any_eq_false]
    intro p hp
    have := b p hp
    simp [this]
  · intro h
    rw [Bool.not_eq_true', Bool.or_eq_false_iff] at h
    have e : ps.Pairwise (· < ·) := by simpa using h.1
    have h3 := h.2
    rw [List.any_eq_false] at h3
    have hr : ∀ p ∈ ps, 0 ≤ p ∧ p < n := fun p hp => by have := h3 p hp; simp at this; omega
    exact rising_of e hr fun p hp => by have := hr p hp; omega
/-- xs != sorted(set(xs)) -/
theorem ev_neSS {l : Addr} {ns : List Int} (ha : Ev ta σ H (.ref l)) (hn : LI K H l ns) (hl : ns.length ≤ 4000) : Ev (tOp (rNeD K) ta (tSortSet K ta)) σ H (.bl (!decide (ns.Pairwise (· < ·)))) := fun H1 e Q q =>
  ha H1 e _ fun H2 e2 => ha H2 (e.trans e2) _ fun H3 e3 => ⟨l, ns, rfl, hn.mono ((e.trans e2).trans e3), hl, fun ms p h1 h2 hf => by
    have e4 : Ex H3 (upd H3 p (.lst (ms.map V.int))) := Ex.new hf
    have h := ev_neLI (K := K) (ta := tC (.ref l)) (tb := tC (.ref p)) (σ := []) (H := upd H3 p (.lst (ms.map V.int))) (xs := ns) (ys := ms) (Ev.toP Evl.ev_c fun H5 e5 => ⟨l, rfl, hn.mono ((((e.trans e2).trans e3).trans e4).trans e5)⟩) (Ev.toP Evl.ev_c fun H5 e5 => ⟨p, rfl, (li_of (K := K) (show upd H3 p (.lst (ms.map V.int)) p = _ from upd_same)).mono e5⟩)
    have ed : decide (ns = ms) = decide (ns.Pairwise (· < ·)) := by
      rw [Bool.eq_iff_iff, decide_eq_true_iff, decide_eq_true_iff]
      exact ⟨fun z => z ▸ h1, fun z => rising_uniq z h1 fun k => (h2 k).symm⟩
    rw [ed] at h
    exact h _ (Ex.refl _) Q fun H5 e5 => q H5 (((e2.trans e3).trans e4).trans e5)⟩
def sp__law_closed (K : PySem.W.Frag) : Sp := fun vs H Q _ => ∃ (tl l : Addr) (skip n : Int) (ts : List Tie) (pts : List Int), vs = [.int n, .ref tl, .ref l, .int skip] ∧ LTie K H tl ts ∧ ts.length ≤ 90000 ∧ LI K H l pts ∧ pts.length ≤ 3500 ∧ RetV (.bl (closedF n ts pts skip)) H Q
theorem ev_law_closed {tl' l : Addr} {skip n : Int} {ts : List Tie} {pts : List Int} (h : EvA tl σ H [.int n, .ref tl', .ref l, .int skip]) (hw : LTie K H tl' ts) (ht : ts.length ≤ 90000) (hp : LI K H l pts) (hl : pts.length ≤ 3500) : Ev (tCall (sp__law_closed K) [] E0 tl) σ H (.bl (closedF n ts pts skip)) :=
  ev_call h fun H1 Q e k => ⟨tl', l, skip, n, ts, pts, rfl, hw.mono e, ht, hp.mono e, hl, k⟩
theorem rd__law_closed (vs : List V) (H : Hp) (Q : VK) (E : XK) (h : sp__law_closed K vs H Q E) : goal (t__law_closed K) ["_law_points", "_law_ties", "_law_some", "_law_skipped", "_law_at", "_law_point"] vs H Q := by
  obtain ⟨tl', l, skip, n, ts, pts, rfl, hw, htl, hp, hl, k⟩ := h
  refine Evl.q_when (b := !risingF n (-1) pts) ?_ (fun hb H1 e1 => ?_) fun hb H1 e1 => ?_
  · rw [rising_law, Bool.not_not]
    refine Evl.et_or (Evl.et_test (ev_neSS (Evl.ev_var rfl) hp (by omega))) fun _ => Evl.et_B (Evl.ev_is (ev_any (p := l) (bs := pts.map fun p => !(decide (0 ≤ p) && decide (p < n))) ?_) ?_)
    · refine (lc_vals (a := l) (xs := pts.map V.int) (ys := (pts.map fun p => !(decide (0 ≤ p) && decide (p < n))).map V.bl) (Evl.ev_var rfl) hp (by simp; omega) (by simp) (fun _ => rfl) fun i x H3 e3 hx => ?_).imp fun v H3 e3 hh => ?_
      · rw [List.getElem?_map] at hx
        cases hni : pts[i]? with
        | none => rw [hni] at hx; cases hx
        | some p =>
          rw [hni] at hx
          cases hx
          exact ⟨.bl (!(decide (0 ≤ p) && decide (p < n))), by simp [hni], by walk_at "ev"⟩
      · obtain ⟨q, a, _, b⟩ := hh
        exact ⟨q, a, SqL.of b⟩
    · rw [List.any_map]
      rfl
  · have hf : closedF n ts pts skip = false := by
      unfold closedF
      have : risingF n (-1) pts = false := by simpa using hb
      rw [this]
      rfl
    rw [hf] at k
    exact Evl.s_ret Evl.ev_c fun H2 e2 => k H2 (e1.trans e2)
  · have hr : risingF n (-1) pts = true := by simpa using hb
    have hw1 := hw.mono e1
    have hlen : ∀ {σ2 : L2.St}, Ev (tVar 1) σ2 H1 (.ref tl') → Ev (tCB (rLenS K) (tCons (tVar 1) tNil)) σ2 H1 (.int (ts.length : Int)) := fun h => by
      have e := ev_lenT h hw1
      rwa [List.length_map] at e
    refine q_seq (f_range (n := (ts.length : Int)) (Evl.ea_cons (hlen (Evl.ev_var rfl)) Evl.ea_nil) ⟨by omega, by omega⟩
      (fun i σ' H' => ∃ o4 o5 : Option V, σ' = [some (.int n), some (.ref tl'), some (.ref l), some (.int skip), o4, o5] ∧ Ex H H' ∧ closedF n ts pts skip = allT (sideF pts skip) i (ts.drop i))
      (fun H2 e2 => ⟨_, _, rfl, e1.trans e2, by unfold closedF; rw [hr]; rfl⟩) ?_ ?_)
    · rintro i σ' H' hi ⟨o4, o5, rfl, e, hc⟩
      obtain ⟨tt, ht⟩ : ∃ tt, ts[i]? = some tt := ⟨ts[i]'(by omega), List.getElem?_eq_getElem (by omega)⟩
      have hat2 : atI (ts.map tieL) (i : Int) = some (tieL tt) := by rw [atI_map, atI_of (by omega) (w := tt) (by simpa using ht)]; rfl
      rw [allT_drop ht] at hc
      have hw2 := hw.mono e
      have hp2 := hp.mono e
      refine Evl.s_when (b := !sideF pts skip i tt) (Evl.et_is (Evl.et_and (Evl.et_test (Evl.ev_op (Evl.ev_var rfl) (Evl.ev_var rfl) rv_neI)) fun _ => Evl.et_test (Evl.ev_op (ev_inI (ev_ixU (ei_ix (Evl.ev_var rfl) (Evl.ev_var rfl) hw2 hat2) Evl.ev_c rfl) (Evl.ev_var rfl) hp2) (ev_inI (ev_ixU (ei_ix (Evl.ev_var rfl) (Evl.ev_var rfl) hw2 hat2) Evl.ev_c rfl) (Evl.ev_var rfl) hp2) rv_neB)) ?_) (fun hb2 H3 e3 => ?_) fun hb2 H3 e3 => ?_
      · unfold sideF
        by_cases c : (i : Int) = skip <;> simp [c]
      · have : sideF pts skip i tt = false := by simpa using hb2
        rw [this] at hc
        rw [hc] at k
        exact Evl.s_ret Evl.ev_c fun H4 e4 => k H4 (e.trans (e3.trans e4))
      · have : sideF pts skip i tt = true := by simpa using hb2
        rw [this, Bool.true_and] at hc
        exact ⟨_, _, rfl, e.trans e3, hc⟩
    · rintro σ' H' ⟨o4, o5, rfl, e, hc⟩
      have hd : ts.drop (ts.length : Int).toNat = [] := List.drop_of_length_le (by omega)
      rw [hd] at hc
      rw [hc] at k
      dsimp only
      exact Evl.s_ret Evl.ev_c fun H4 e4 => k H4 (e.trans e4)
end G

/-! What a law asks of an answer: its class, one of two classes. -/
namespace G
open PySem PySem.Spec PyProof.Rows L2
open Evl (Ex Ev EvL EvU EvT EvA RV RetV)
local macro_rules | `(tactic| walk_at "hp") => `(tactic| first
  | with_reducible assumption
  | ((with_reducible show _ = some (_ : HO)); (with_reducible exact ex_app (by assumption) (by walk_at "hp")))
  | ((with_reducible show TupI _ _ _ _); (with_reducible exact TupI.mono (by assumption) (by walk_at "hp")))
  | ((with_reducible show LT _ _ _ _); (with_reducible exact LT.mono (by assumption) (by walk_at "hp")))
  | ((with_reducible show LI _ _ _ _); (first | (with_reducible exact li_of (by walk_at "hp")) | (with_reducible exact LI.mono (by assumption) (by walk_at "hp"))))
  | ((with_reducible show SqL _ _ _ _); (first | (with_reducible exact SqL.of (by walk_at "hp")) | (with_reducible exact Evl.ex_l (by assumption) (by walk_at "hp"))))
  | ((with_reducible show SqT _ _ _ _); (first | (with_reducible exact SqT.of (by walk_at "hp")) | (with_reducible exact Evl.ex_t (by assumption) (by walk_at "hp"))))
  | ((with_reducible show Rd _ _ _); (first | (with_reducible exact Rd.of (by walk_at "hp")) | (with_reducible exact Evl.ex_rd (by assumption) (by walk_at "hp"))))
  | walk_at "hpf")
local macro_rules | `(tactic| walk_at "at") => `(tactic| first
  | with_reducible assumption
  | with_reducible rfl
  | (refine atI_of ?va ?vb; (case va => omega); (case vb => assumption))
  | walk_at "atf"
  | rfl)
local macro_rules | `(tactic| walk_at "rv") => `(tactic| first
  | with_reducible exact rv_add | with_reducible exact rv_sub | with_reducible exact rv_eqI | with_reducible exact rv_neI | with_reducible exact rv_lt | with_reducible exact rv_le | with_reducible exact rv_gt | with_reducible exact rv_ge
  | with_reducible exact rv_eqB | with_reducible exact rv_neB | with_reducible exact rv_isB | with_reducible exact rv_notB
  | ((with_reducible refine rv_mod ?_); (first | assumption | omega))
  | ((with_reducible refine rv_mul ?_); (first | exact Or.inl ⟨by omega, by omega⟩ | exact Or.inr ⟨by omega, by omega⟩))
  | ((with_reducible refine rv_div ?_); exact ⟨by omega, by omega⟩))
local macro_rules | `(tactic| walk_at "ty") => `(tactic| first
  | with_reducible exact fun _ _ => .base (.int _) | with_reducible exact fun _ _ => .base (.bl _) | with_reducible exact fun _ _ => .base .non | with_reducible exact fun _ _ => .base (.str _)
  | ((with_reducible apply ty_tup); walk_at "hp")
  | ((with_reducible apply ty_lst); walk_at "hp")
  | walk_at "tyf")
local macro_rules | `(tactic| walk_at "ev") => `(tactic| repeat' (first
  | with_reducible exact Evl.ev_c
  | ((with_reducible apply Evl.ev_var); rfl)
  | with_reducible apply ev_neg
  | with_reducible apply ev_ixU
  | walk_at "evf"
  | ((with_reducible apply ev_lenI); (· walk_at "ev"); (· walk_at "hp"))
  | ((with_reducible apply ev_lenT); (· walk_at "ev"); (· walk_at "hp"))
  | ((with_reducible apply ev_lenU); (· walk_at "ev"))
  | with_reducible apply ev_lenSet
  | with_reducible apply ev_chain
  | with_reducible apply ev_isiTy
  | with_reducible apply Evl.ev_andV
  | with_reducible apply Evl.ev_orV
  | with_reducible apply Evl.ev_notV
  | ((with_reducible apply ev_ixI); (· walk_at "ev"); (· walk_at "ev"); (· walk_at "hp"); (· walk_at "at"))
  | with_reducible apply Evl.ev_op
  | ((with_reducible apply evi_of); (· (with_reducible apply Evl.ev_var); rfl); (· walk_at "hp"))
  | with_reducible apply ei_ix
  | with_reducible apply ei_tup
  | with_reducible exact eai_nil
  | with_reducible apply eai_cons
  | with_reducible exact Evl.ea_nil
  | with_reducible apply Evl.ea_cons
  | with_reducible apply Evl.et_test
  | with_reducible apply Evl.et_and
  | with_reducible apply Evl.et_or
  | with_reducible apply Evl.et_not
  | with_reducible apply Evl.et_B
  | walk_at "rv"
  | ((with_reducible show L2.kitB _ _ = _); rfl)
  | ((with_reducible show L2.atI _ _ = _); walk_at "at")
  | ((with_reducible show (_ : Nat) ≤ _); (first | omega | (simp; done) | (simp; omega)))
  | ((with_reducible show _ = true → _); intro _)
  | ((with_reducible show _ = false → _); intro _)
  | ((with_reducible show TupI _ _ _ _); walk_at "hp")
  | ((with_reducible show LT _ _ _ _); walk_at "hp")
  | ((with_reducible show LI _ _ _ _); walk_at "hp")
  | ((with_reducible show SqL _ _ _ _); walk_at "hp")
  | ((with_reducible show SqT _ _ _ _); walk_at "hp")
  | ((with_reducible show Rd _ _ _); walk_at "hp")
  | ((with_reducible show _ = some (_ : HO)); walk_at "hp")
  | walk_at "hpg"
  | walk_at "ty"))

local macro_rules | `(tactic| walk_at "hpf") => `(tactic| ((with_reducible show WebAt _ _ _ _ _ _); (with_reducible exact WebAt.mono (by assumption) (by walk_at "hp"))))
local macro_rules | `(tactic| walk_at "hpg") => `(tactic| ((with_reducible show WebAt _ _ _ _ _ _); walk_at "hp"))
local macro_rules | `(tactic| walk_at "evf") => `(tactic| with_reducible apply ev_points)
local macro_rules | `(tactic| walk_at "evf") => `(tactic| with_reducible apply ev_turn)
local macro_rules | `(tactic| walk_at "evf") => `(tactic| with_reducible apply ev_lenB)
local macro_rules | `(tactic| walk_at "evf") => `(tactic| with_reducible apply ei_bound)
local macro_rules | `(tactic| walk_at "evf") => `(tactic| with_reducible apply ev_is_whole)
local macro_rules | `(tactic| walk_at "evf") => `(tactic| with_reducible apply ev_is_below)
local macro_rules | `(tactic| walk_at "evf") => `(tactic| with_reducible apply ev_is_tie)
local macro_rules | `(tactic| walk_at "evf") => `(tactic| with_reducible apply ei_stepped)
variable {K : PySem.W.Frag} {σ : L2.St} {H H' H1 : Hp} {ta tb tc te : TE} {t u : TT} {tl : TA} {v x y z : V}

/-! ### one reading or the other -/
def tEither (ta tb : TE) : TE := fun σ H Q => ta σ H Q ∨ tb σ H Q
theorem pe_either {X : Cx} {e : Expr} (h1 : PE X e ta) (h2 : PE X e tb) : PE X e (tEither ta tb) := ⟨fun pins s σ H Q I h => h.elim (h1.run pins s σ H Q I) (h2.run pins s σ H Q I)⟩
theorem ev_left (h : Ev ta σ H v) : Ev (tEither ta tb) σ H v := fun H1 e Q q => .inl (h H1 e Q q)
theorem ev_right (h : Ev tb σ H v) : Ev (tEither ta tb) σ H v := fun H1 e Q q => .inr (h H1 e Q q)

/-! ### classes of answers -/
def kinds : List Str := ["Answer", "Heights", "Ring", "Way", "Apart", "Around", "Held", "Fewest", "Camps", "Quarrel"]
/-- the class C is the j-th of these -/
structure Knd (K : PySem.W.Frag) (C : Str) (j : Nat) : Prop where
  cl : Cls K (ga K C)
  ha : PySem.W.findIn K (.ref (ga K C)) "__class__" = some (some (.builtin "object.__class__"))
  hn : PySem.W.specialIn K (.builtin "object.__class__") "__get__" = some (some (.builtin "getset_descriptor.__get__"))
  htk : PySem.W.takesIn K (.builtin "object.__class__") = some true
  hm : PySem.W.mroIn K (ga K C) (.type "object") = some true
  is : ∀ (i : Nat) (D : Str), kinds[i]? = some D → PySem.W.kitOne K (.ref (ga K C)) (.ref (ga K D)) = some (decide (i = 0 ∨ i = j))
theorem ev_isiO {a dx : Addr} {fs : List (Str × V)} {C D : Str} {j : Nat} (i : Nat) (k : Knd K C j) (ha : Ev ta σ H (.ref a)) (h : H a = some (.ins (ga K C) dx fs)) (hD : kinds[i]? = some D) :
    Ev (tCB (rIsi K) (tCons ta (tCons (tC (.ref (ga K D))) tNil))) σ H (.bl (decide (i = 0 ∨ i = j))) :=
  ev_isi ha Evl.ev_c (.own _) (fun H2 e => .base (.ins (e _ _ h) k.cl k.ha k.hn k.htk k.hm)) (k.is i D hD)

/-! ### an answer that holds one list -/
abbrev Fnd := List Step ⊕ List Int
def FAt (K : PySem.W.Frag) (H : Hp) (C1 C2 : Str) (a l : Addr) : Fnd → Prop
  | .inl ss => One K H C1 "steps" a l ∧ HasS K H l ss ∧ ss.length ≤ 3000
  | .inr ps => One K H C2 "points" a l ∧ HasI H l ps ∧ ps.length ≤ 3000
theorem FAt.mono {C1 C2 : Str} {a l : Addr} {f : Fnd} (e : Ex H H') (h : FAt K H C1 C2 a l f) : FAt K H' C1 C2 a l f := by
  cases f with
  | inl ss => exact ⟨h.1.mono e, h.2.1.mono e, h.2.2⟩
  | inr ps => exact ⟨h.1.mono e, h.2.1.mono e, h.2.2⟩
def Fnd.j (j1 j2 : Nat) : Fnd → Nat
  | .inl _ => j1
  | .inr _ => j2
theorem ev_isiF {C1 C2 D : Str} {a l : Addr} {j1 j2 : Nat} {f : Fnd} (i : Nat) (k1 : Knd K C1 j1) (k2 : Knd K C2 j2) (h : FAt K H C1 C2 a l f) (ha : Ev ta σ H (.ref a)) (hD : kinds[i]? = some D) :
    Ev (tCB (rIsi K) (tCons ta (tCons (tC (.ref (ga K D))) tNil))) σ H (.bl (decide (i = 0 ∨ i = f.j j1 j2))) := by
  cases f with
  | inl ss =>
    obtain ⟨dx, g⟩ := h.1.ins
    exact ev_isiO i k1 ha g hD
  | inr ps =>
    obtain ⟨dx, g⟩ := h.1.ins
    exact ev_isiO i k2 ha g hD
/-- a, b, c = e, any tuple -/
theorem q_unV3 {D : Ends} {tz : TS} {i j l : Nat} {P : V → V → V → Hp → Prop} (h : EvP te σ H (fun v H2 => ∃ p a b c, v = .ref p ∧ SqT K H2 p [a, b, c] ∧ P a b c H2)) (k : ∀ a b c H1, Ex H H1 → P a b c H1 → tz D (((σ.set i (some a)).set j (some b)).set l (some c)) H1) :
    tSeq (tAsg te (gTup K 3 (gCons (gName i) (gCons (gName j) (gCons (gName l) gNil))))) tz D σ H :=
  h H (Ex.refl H) _ fun v H1 e ⟨p, a, b, c, ev, hp, pp⟩ => ⟨p, [a, b, c], ev, hp, rfl, a, [b, c], rfl, b, [c], rfl, c, [], rfl, rfl, k a b c H1 e pp⟩
/-- one value after the other -/
def EvP2 (te tu : TE) (σ : L2.St) (H : Hp) (P : V → V → Hp → Prop) : Prop := ∀ H1, Ex H H1 → ∀ Q : V → V → Hp → Prop, (∀ v w H2, Ex H1 H2 → P v w H2 → Q v w H2) → te σ H1 fun v H2 => tu σ H2 fun w H3 => Q v w H3
theorem ep_pair {P : V → Hp → Prop} {tu : TE} {w : V} (h1 : EvP te σ H P) (h2 : Ev tu σ H w) (hm : ∀ v H1 H2, Ex H1 H2 → P v H1 → P v H2) : EvP (tTup (tCons te (tCons tu tNil))) σ H (fun v H2 => ∃ p a, v = .ref p ∧ SqT K H2 p [a, w] ∧ P a H2) := fun H1 e Q q =>
  h1 H1 e _ fun a H2 e2 pa => h2 H2 (e.trans e2) _ fun H3 e3 => ⟨by show 2 ≤ sizeLine; decide, fun p hp => q _ _ ((e2.trans e3).trans (Ex.new hp)) ⟨p, a, rfl, .inl (.inl upd_same), hm _ _ _ (e3.trans (Ex.new hp)) pa⟩⟩
theorem LawWeb.pos {n turn : Int} {ts : List Tie} (h : LawWeb n turn ts) : Pos ts := fun t ht => by
  have := of_decide_eq_true (show decide _ = true from h.ok t ht)
  exact ⟨this.1.1, this.2.1.1⟩
theorem LawWeb.okW {n turn : Int} {ts : List Tie} (h : LawWeb n turn ts) : okWeb n ts turn := ⟨by have := h.n2; omega, by have := h.n66; omega, h.t0, h.t1, h.ok, by have := h.len; omega⟩
theorem LawWeb.web {n turn : Int} {ts : List Tie} (h : LawWeb n turn ts) : WebOk n turn ts := ⟨by have := h.n2; omega, by have := h.n66; omega, h.t0, by have := h.len; omega, fun t ht => by
  have := of_decide_eq_true (show decide _ = true from h.ok t ht)
  exact ⟨this.1, this.2.1, this.2.2.1⟩⟩
/-- -1 is no point -/
theorem rising_no {n : Int} : ∀ {ps : List Int} {last : Int}, risingF n last (ps ++ [-1]) = false
  | [], last => by simp [risingF]
  | p :: r, last => by
    show (_ && risingF n p (r ++ [-1])) = false
    rw [rising_no, Bool.and_false]
/-- what is known stays, where the list at l grows -/
theorem FAt.grow {C1 C2 : Str} {a l : Addr} {f : Fnd} (h : FAt K H C1 C2 a l f) : ∃ xs, H l = some (.lst xs) ∧ xs.length ≤ 3000 := by
  cases f with
  | inl ss =>
    obtain ⟨vs, b, c⟩ := h.2.1
    exact ⟨vs, b, by rw [c.length, List.length_map]; exact h.2.2⟩
  | inr ps => exact ⟨_, h.2.1, by rw [List.length_map]; exact h.2.2⟩

/-- a for over a list that is known by P alone -/
theorem f_listP {D : Ends} {tu : TS} {g : TG} {P : List V → Prop} (h : EvP te σ H (fun v H2 => ∃ a xs, v = .ref a ∧ SqL K H2 a xs ∧ P xs)) (k : ∀ a xs H1, Ex H H1 → SqL K H1 a xs → P xs → tFor (iList K (tC (.ref a))) g tu D σ H1) : tFor (iList K te) g tu D σ H :=
  h H (Ex.refl H) _ fun v H1 e ⟨a, xs, ev, hx, p⟩ => by
    subst ev
    exact k a xs H1 e hx p
/-- a for over a tuple of ints -/
theorem f_tupP {D : Ends} {tu : TS} {g : TG} {ns : List Int} (h : EvI K te σ H ns) (k : ∀ p H1, Ex H H1 → SqT K H1 p (ns.map V.int) → tFor (iTup K (tC (.ref p))) g tu D σ H1) : tFor (iTup K te) g tu D σ H :=
  h H (Ex.refl H) _ fun v H1 e ⟨p, ev, hp⟩ => by
    subst ev
    exact k p H1 e hp
/-- [e for j in range(n)], each an int -/
theorem lc_rng {n : Nat} {j : Nat} {ys : List V} (h : EvA tl σ H [.int (n : Int)]) (hn : n ≤ 90000) (hy : ys.length = n) (hw : ∀ x, wipe ((wipe σ [j]).set j (some x)) [j] = wipe σ [j])
    (he : ∀ (i : Nat) H1, Ex H H1 → i < n → ∃ y, ys[i]? = some y ∧ Ev te ((wipe σ [j]).set j (some (.int (i : Int)))) H1 y) :
    EvP (tLc (iRng1 tl) (gName j) tYes te [j]) σ H (fun v H2 => ∃ p, v = .ref p ∧ H p = none ∧ H2 p = some (.lst ys)) := by
  refine (lc_gen (J := Itr 0 n) (G := fun _ => True) (n := n) (fun H1 e R q => h H1 e _ fun H2 e2 => ⟨(n : Int), rfl, by omega, by omega, by rw [Int.toNat_natCast]; exact q H2 e2⟩) walk_range hn (fun _ i acc _ => acc = ys.take i) (fun _ _ _ _ _ _ b _ => b) (fun _ _ _ _ => by simp) (fun H1 e => trivial) fun Dl i x H1 H2 acc Q hi e fr hD b y q => ?_).imp fun v H2 e hp => ?_
  · obtain ⟨rfl, rfl⟩ := y
    obtain ⟨w, hw2, ev⟩ := he i H2 e hi
    show gName j (V.int ((0 : Int) + (i : Int))) _ _ _
    rw [show (0 : Int) + (i : Int) = (i : Int) from Int.zero_add _]
    exact turn1 (hw _) (Ev.toP (P := fun v _ => v = w) ev fun _ _ => rfl) fun v H3 e3 hv => q v H3 e3 (by rw [hv, b, List.take_add_one, hw2]; rfl)
  · obtain ⟨p, acc, rfl, fr, h2, hl, b⟩ := hp
    rw [b, List.take_of_length_le (by omega)] at h2
    exact ⟨p, rfl, fr, h2⟩
theorem ev_niLI {ns : List Int} {i : Int} (ha : Ev ta σ H (.int i)) (hb : EvLI K tb σ H ns) : Ev (tOp (rIn K true) ta tb) σ H (.bl (!decide (i ∈ ns))) := fun H1 e Q q =>
  ha H1 e _ fun H2 e2 => hb H2 (e.trans e2) _ fun v H3 e3 ⟨p, ev, hp⟩ => ⟨p, ns.map V.int, ev, .inl hp, rfl, flat_ints ns, by
    show Q (.bl (!inV (.int i) (ns.map V.int))) H3
    rw [inV_int]
    exact q H3 (e2.trans e3)⟩
end G

/-! Lists of tuples of ints of which each keeps P. -/
namespace G
open PySem PySem.Spec PyProof.Rows L2
open Evl (Ex Ev EvL EvU EvT EvA RV RetV)
local macro_rules | `(tactic| walk_at "hp") => `(tactic| first
  | with_reducible assumption
  | ((with_reducible show _ = some (_ : HO)); (with_reducible exact ex_app (by assumption) (by walk_at "hp")))
  | ((with_reducible show TupI _ _ _ _); (with_reducible exact TupI.mono (by assumption) (by walk_at "hp")))
  | ((with_reducible show LT _ _ _ _); (with_reducible exact LT.mono (by assumption) (by walk_at "hp")))
  | ((with_reducible show LI _ _ _ _); (first | (with_reducible exact li_of (by walk_at "hp")) | (with_reducible exact LI.mono (by assumption) (by walk_at "hp"))))
  | ((with_reducible show SqL _ _ _ _); (first | (with_reducible exact SqL.of (by walk_at "hp")) | (with_reducible exact Evl.ex_l (by assumption) (by walk_at "hp"))))
  | ((with_reducible show SqT _ _ _ _); (first | (with_reducible exact SqT.of (by walk_at "hp")) | (with_reducible exact Evl.ex_t (by assumption) (by walk_at "hp"))))
  | ((with_reducible show Rd _ _ _); (first | (with_reducible exact Rd.of (by walk_at "hp")) | (with_reducible exact Evl.ex_rd (by assumption) (by walk_at "hp"))))
  | walk_at "hpf")
local macro_rules | `(tactic| walk_at "at") => `(tactic| first
  | with_reducible assumption
  | with_reducible rfl
  | (refine atI_of ?va ?vb; (case va => omega); (case vb => assumption))
  | walk_at "atf"
  | rfl)
local macro_rules | `(tactic| walk_at "rv") => `(tactic| first
  | with_reducible exact rv_add | with_reducible exact rv_sub | with_reducible exact rv_eqI | with_reducible exact rv_neI | with_reducible exact rv_lt | with_reducible exact rv_le | with_reducible exact rv_gt | with_reducible exact rv_ge
  | with_reducible exact rv_eqB | with_reducible exact rv_neB | with_reducible exact rv_isB | with_reducible exact rv_notB
  | ((with_reducible refine rv_mod ?_); (first | assumption | omega))
  | ((with_reducible refine rv_mul ?_); (first | exact Or.inl ⟨by omega, by omega⟩ | exact Or.inr ⟨by omega, by omega⟩))
  | ((with_reducible refine rv_div ?_); exact ⟨by omega, by omega⟩))
local macro_rules | `(tactic| walk_at "ty") => `(tactic| first
  | with_reducible exact fun _ _ => .base (.int _) | with_reducible exact fun _ _ => .base (.bl _) | with_reducible exact fun _ _ => .base .non | with_reducible exact fun _ _ => .base (.str _)
  | ((with_reducible apply ty_tup); walk_at "hp")
  | ((with_reducible apply ty_lst); walk_at "hp")
  | walk_at "tyf")
local macro_rules | `(tactic| walk_at "ev") => `(tactic| repeat' (first
  | with_reducible exact Evl.ev_c
  | ((with_reducible apply Evl.ev_var); rfl)
  | with_reducible apply ev_neg
  | with_reducible apply ev_ixU
  | walk_at "evf"
  | ((with_reducible apply ev_lenI); (· walk_at "ev"); (· walk_at "hp"))
  | ((with_reducible apply ev_lenT); (· walk_at "ev"); (· walk_at "hp"))
  | ((with_reducible apply ev_lenU); (· walk_at "ev"))
  | with_reducible apply ev_lenSet
  | with_reducible apply ev_chain
  | with_reducible apply ev_isiTy
  | with_reducible apply Evl.ev_andV
  | with_reducible apply Evl.ev_orV
  | with_reducible apply Evl.ev_notV
  | ((with_reducible apply ev_ixI); (· walk_at "ev"); (· walk_at "ev"); (· walk_at "hp"); (· walk_at "at"))
  | with_reducible apply Evl.ev_op
  | ((with_reducible apply evi_of); (· (with_reducible apply Evl.ev_var); rfl); (· walk_at "hp"))
  | with_reducible apply ei_ix
  | with_reducible apply ei_tup
  | with_reducible exact eai_nil
  | with_reducible apply eai_cons
  | with_reducible exact Evl.ea_nil
  | with_reducible apply Evl.ea_cons
  | with_reducible apply Evl.et_test
  | with_reducible apply Evl.et_and
  | with_reducible apply Evl.et_or
  | with_reducible apply Evl.et_not
  | with_reducible apply Evl.et_B
  | walk_at "rv"
  | ((with_reducible show L2.kitB _ _ = _); rfl)
  | ((with_reducible show L2.atI _ _ = _); walk_at "at")
  | ((with_reducible show (_ : Nat) ≤ _); (first | omega | (simp; done) | (simp; omega)))
  | ((with_reducible show _ = true → _); intro _)
  | ((with_reducible show _ = false → _); intro _)
  | ((with_reducible show TupI _ _ _ _); walk_at "hp")
  | ((with_reducible show LT _ _ _ _); walk_at "hp")
  | ((with_reducible show LI _ _ _ _); walk_at "hp")
  | ((with_reducible show SqL _ _ _ _); walk_at "hp")
  | ((with_reducible show SqT _ _ _ _); walk_at "hp")
  | ((with_reducible show Rd _ _ _); walk_at "hp")
  | ((with_reducible show _ = some (_ : HO)); walk_at "hp")
  | walk_at "hpg"
  | walk_at "ty"))

local macro_rules | `(tactic| walk_at "hpf") => `(tactic| ((with_reducible show WebAt _ _ _ _ _ _); (with_reducible exact WebAt.mono (by assumption) (by walk_at "hp"))))
local macro_rules | `(tactic| walk_at "hpg") => `(tactic| ((with_reducible show WebAt _ _ _ _ _ _); walk_at "hp"))
local macro_rules | `(tactic| walk_at "evf") => `(tactic| with_reducible apply ev_points)
local macro_rules | `(tactic| walk_at "evf") => `(tactic| with_reducible apply ev_turn)
local macro_rules | `(tactic| walk_at "evf") => `(tactic| with_reducible apply ev_lenB)
local macro_rules | `(tactic| walk_at "evf") => `(tactic| with_reducible apply ei_bound)
local macro_rules | `(tactic| walk_at "evf") => `(tactic| with_reducible apply ev_is_whole)
local macro_rules | `(tactic| walk_at "evf") => `(tactic| with_reducible apply ev_is_below)
local macro_rules | `(tactic| walk_at "evf") => `(tactic| with_reducible apply ev_is_tie)
local macro_rules | `(tactic| walk_at "evf") => `(tactic| with_reducible apply ei_stepped)
variable {K : PySem.W.Frag} {σ : L2.St} {H H' H1 : Hp} {ta tb tc te : TE} {t u : TT} {tl : TA} {v x y z : V}
def AllP (K : PySem.W.Frag) (H : Hp) (vs : List V) (P : List Int → Prop) : Prop := ∀ v ∈ vs, ∃ xs, TupI K H v xs ∧ P xs
theorem AllP.mono {vs : List V} {P : List Int → Prop} (e : Ex H H') (h : AllP K H vs P) : AllP K H' vs P := fun v hv => by
  obtain ⟨xs, a, b⟩ := h v hv
  exact ⟨xs, a.mono e, b⟩
theorem AllP.updL {vs : List V} {P : List Int → Prop} {l : Addr} {ys zs : List V} (h : AllP K H vs P) (hl : H l = some (.lst ys)) : AllP K (upd H l (.lst zs)) vs P := fun v hv => by
  obtain ⟨xs, a, b⟩ := h v hv
  exact ⟨xs, a.updL hl, b⟩
theorem AllP.append {vs ws : List V} {P : List Int → Prop} (h : AllP K H vs P) (g : AllP K H ws P) : AllP K H (vs ++ ws) P := fun v hv => by
  rcases List.mem_append.mp hv with hv | hv
  · exact h v hv
  · exact g v hv
theorem AllP.one {w : V} {xs : List Int} {P : List Int → Prop} (h : TupI K H w xs) (p : P xs) : AllP K H [w] P := fun v hv => by
  rw [List.mem_singleton.mp hv]
  exact ⟨xs, h, p⟩
theorem AllP.sub {vs ws : List V} {P : List Int → Prop} (h : AllP K H vs P) (s : ∀ v ∈ ws, v ∈ vs) : AllP K H ws P := fun v hv => h v (s v hv)
theorem TupL.allP {vs : List V} {xss : List (List Int)} {P : List Int → Prop} (h : TupL K H vs xss) (p : ∀ xs ∈ xss, P xs) : AllP K H vs P := fun v hv => by
  obtain ⟨i, hi⟩ := List.mem_iff_getElem?.mp hv
  obtain ⟨xs, a, b⟩ := h.getV hi
  exact ⟨xs, b, p xs (List.mem_of_getElem? a)⟩
/-- a list at l of at most m tuples, each keeps P -/
def HasP (K : PySem.W.Frag) (H : Hp) (m : Nat) (P : List Int → Prop) (v : V) : Prop := ∃ l vs, v = .ref l ∧ H l = some (.lst vs) ∧ vs.length ≤ m ∧ AllP K H vs P
/-- xs + ys -/
theorem ep_catP {m1 m2 : Nat} {P : List Int → Prop} (ha : EvP ta σ H (fun v H2 => HasP K H2 m1 P v)) (hb : EvP tb σ H (fun v H2 => HasP K H2 m2 P v)) (hm : m1 + m2 ≤ 100000) : EvP (tOp rCat ta tb) σ H (fun v H2 => HasP K H2 (m1 + m2) P v) := fun H1 e Q q =>
  ha H1 e _ fun v H2 e2 ⟨l, vs, ev, h1, h2, h3⟩ => hb H2 (e.trans e2) _ fun w H3 e3 ⟨l', ws, ew, g1, g2, g3⟩ =>
    ⟨l, l', vs, ws, ev, ew, e3 _ _ h1, g1, Nat.le_trans (Nat.le_trans (Nat.add_le_add h2 g2) hm) (by decide), fun r hr => q _ _ ((e2.trans e3).trans (Ex.new hr)) ⟨r, vs ++ ws, rfl, upd_same, by rw [List.length_append]; omega, (((h3.mono e3).append g3).mono (Ex.new hr))⟩⟩
/-- a comprehension over a list that is known by P alone -/
theorem lc_listP {g : TG} {tt : TT} {js : List Nat} {P : Hp → List V → Prop} {R : V → Hp → Prop} {tu : TE} (h : EvP te σ H (fun v H2 => ∃ a xs, v = .ref a ∧ SqL K H2 a xs ∧ P H2 xs)) (k : ∀ a xs H1, Ex H H1 → SqL K H1 a xs → P H1 xs → EvP (tLc (iList K (tC (.ref a))) g tt tu js) σ H1 R) : EvP (tLc (iList K te) g tt tu js) σ H R := fun H1 e Q q =>
  h H1 e _ fun v H2 e2 ⟨a, xs, ev, hx, p⟩ => by
    subst ev
    exact k a xs H2 (e.trans e2) hx p H2 (Ex.refl _) Q fun v H3 e3 r => q v H3 (e2.trans e3) r
/-- [a tuple of x for x in xs] -/
theorem lc_tupP {a : Addr} {xs : List V} {j : Nat} {P R : List Int → Prop} (h : Ev ta σ H (.ref a)) (hx : SqL K H a xs) (hz : xs.length ≤ 90000) (hP : AllP K H xs P) (hw : ∀ x, wipe ((wipe σ [j]).set j (some x)) [j] = wipe σ [j])
    (he : ∀ (x : V) (ns : List Int) H1, Ex H H1 → TupI K H1 x ns → P ns → EvP te ((wipe σ [j]).set j (some x)) H1 (fun v H2 => ∃ ms, TupI K H2 v ms ∧ R ms)) :
    EvP (tLc (iList K ta) (gName j) tYes te [j]) σ H (fun v H2 => HasP K H2 xs.length R v) := by
  refine (lc_gen (G := fun H => SqL K H a xs) (n := xs.length) (fun H1 e R q => h H1 e _ fun H2 e2 => ⟨a, rfl, ⟨xs, Evl.ex_l (e.trans e2) hx⟩, q H2 e2⟩) walk_list hz (fun _ i acc H => AllP K H acc R) (fun _ _ _ _ _ _ b c => b.updL c) (fun _ _ _ _ v hv => by cases hv) (fun H1 e => Evl.ex_l e hx) fun Dl i x H1 H2 acc Q hi e fr hD b y q => ?_).imp fun v H2 e hp => ?_
  · obtain ⟨rfl, hxi⟩ := y
    obtain ⟨ns, t1, t2⟩ := hP x (List.mem_of_getElem? hxi)
    refine turn1 (hw x) (he x ns H2 e (t1.mono e) t2) fun v H3 e3 hv => q v H3 e3 ?_
    obtain ⟨ms, m1, m2⟩ := hv
    exact (b.mono e3).append (.one m1 m2)
  · obtain ⟨p, acc, rfl, fr, h2, hl, b⟩ := hp
    exact ⟨p, acc, rfl, h2, by omega, b⟩
/-- a slice of a list of tuples -/
theorem ep_slP {th tk : TO} {a : Addr} {xs : List V} {lo hi : Option Int} {P : List Int → Prop} (h : Ev te σ H (.ref a)) (h1 : Evl.EvO th σ H lo) (h2 : Evl.EvO tk σ H hi) (hs : SqL K H a xs) (hP : AllP K H xs P) : EvP (tSl (rSlL K) te th tk) σ H (fun v H2 => ∃ a ys, v = .ref a ∧ SqL K H2 a ys ∧ (ys.length ≤ xs.length ∧ AllP K H2 ys P)) := fun H1 e Q q =>
  Evl.el_sl h h1 h2 hs H1 e _ fun p H2 hp e2 h3 => q _ H2 e2 ⟨p, _, rfl, SqL.of h3, cutV_length _ _ _, (hP.mono (e.trans e2)).sub fun v hv => List.mem_of_mem_drop (List.mem_of_mem_take hv)⟩

/-- arguments that are tuples, each keeps P -/
theorem eap_nil {P : List Int → Prop} : EvAP tNil σ H (fun vs H2 => vs.length = 0 ∧ AllP K H2 vs P) := fun H1 e Q q => q [] H1 (Ex.refl H1) ⟨rfl, fun v hv => by cases hv⟩
theorem eap_cons {P : List Int → Prop} {xs : List Int} {m : Nat} (h : EvI K te σ H xs) (p : P xs) (hr : EvAP tl σ H (fun vs H2 => vs.length = m ∧ AllP K H2 vs P)) : EvAP (tCons te tl) σ H (fun vs H2 => vs.length = m + 1 ∧ AllP K H2 vs P) := fun H1 e Q q =>
  h H1 e _ fun v H2 e2 hv => hr H2 (e.trans e2) _ fun vs H3 e3 hvs => q (v :: vs) H3 (e2.trans e3) ⟨by rw [List.length_cons, hvs.1], fun w hw => by
    rcases List.mem_cons.mp hw with rfl | hw
    · exact ⟨xs, hv.mono e3, p⟩
    · exact hvs.2 w hw⟩
/-- [t1, t2, ..]: a new list of tuples -/
theorem ep_lstP {P : List Int → Prop} {m : Nat} (h : EvAP tl σ H (fun vs H2 => vs.length = m ∧ AllP K H2 vs P)) (hm : m ≤ 100000) : EvP (tLst tl) σ H (fun v H2 => ∃ l vs, v = .ref l ∧ H l = none ∧ H2 l = some (.lst vs) ∧ vs.length = m ∧ AllP K H2 vs P) := fun H1 e Q q =>
  h H1 e _ fun vs H2 e2 hvs => ⟨by rw [hvs.1]; exact Nat.le_trans hm (by decide), fun p hp => q _ _ (e2.trans (Ex.new hp)) ⟨p, vs, rfl, Evl.fresh_back (e.trans e2) hp, upd_same, hvs.1, hvs.2.mono (Ex.new hp)⟩⟩
/-- a, b of a tuple, in a for -/
theorem g_tup2 {i j : Nat} {a b : Int} {k : L2.St → Hp → Prop} (hx : TupI K H x [a, b]) (h : k ((σ.set i (some (.int a))).set j (some (.int b))) H) : gTup K 2 (gCons (gName i) (gCons (gName j) gNil)) x σ H k := by
  obtain ⟨p, rfl, hp⟩ := hx
  exact ⟨p, _, rfl, hp, rfl, _, _, rfl, _, _, rfl, rfl, h⟩
end G

/-! More of what laws do: arguments that are new, comprehensions of tuples. -/
namespace G
open PySem PySem.Spec PyProof.Rows L2
open Evl (Ex Ev EvL EvU EvT EvA RV RetV)
local macro_rules | `(tactic| walk_at "hp") => `(tactic| first
  | with_reducible assumption
  | ((with_reducible show _ = some (_ : HO)); (with_reducible exact ex_app (by assumption) (by walk_at "hp")))
  | ((with_reducible show TupI _ _ _ _); (with_reducible exact TupI.mono (by assumption) (by walk_at "hp")))
  | ((with_reducible show LT _ _ _ _); (with_reducible exact LT.mono (by assumption) (by walk_at "hp")))
  | ((with_reducible show LI _ _ _ _); (first | (with_reducible exact li_of (by walk_at "hp")) | (with_reducible exact LI.mono (by assumption) (by walk_at "hp"))))
  | ((with_reducible show SqL _ _ _ _); (first | (with_reducible exact SqL.of (by walk_at "hp")) | (with_reducible exact Evl.ex_l (by assumption) (by walk_at "hp"))))
  | ((with_reducible show SqT _ _ _ _); (first | (with_reducible exact SqT.of (by walk_at "hp")) | (with_reducible exact Evl.ex_t (by assumption) (by walk_at "hp"))))
  | ((with_reducible show Rd _ _ _); (first | (with_reducible exact Rd.of (by walk_at "hp")) | (with_reducible exact Evl.ex_rd (by assumption) (by walk_at "hp"))))
  | walk_at "hpf")
local macro_rules | `(tactic| walk_at "at") => `(tactic| first
  | with_reducible assumption
  | with_reducible rfl
  | (refine atI_of ?va ?vb; (case va => omega); (case vb => assumption))
  | walk_at "atf"
  | rfl)
local macro_rules | `(tactic| walk_at "rv") => `(tactic| first
  | with_reducible exact rv_add | with_reducible exact rv_sub | with_reducible exact rv_eqI | with_reducible exact rv_neI | with_reducible exact rv_lt | with_reducible exact rv_le | with_reducible exact rv_gt | with_reducible exact rv_ge
  | with_reducible exact rv_eqB | with_reducible exact rv_neB | with_reducible exact rv_isB | with_reducible exact rv_notB
  | ((with_reducible refine rv_mod ?_); (first | assumption | omega))
  | ((with_reducible refine rv_mul ?_); (first | exact Or.inl ⟨by omega, by omega⟩ | exact Or.inr ⟨by omega, by omega⟩))
  | ((with_reducible refine rv_div ?_); exact ⟨by omega, by omega⟩))
local macro_rules | `(tactic| walk_at "ty") => `(tactic| first
  | with_reducible exact fun _ _ => .base (.int _) | with_reducible exact fun _ _ => .base (.bl _) | with_reducible exact fun _ _ => .base .non | with_reducible exact fun _ _ => .base (.str _)
  | ((with_reducible apply ty_tup); walk_at "hp")
  | ((with_reducible apply ty_lst); walk_at "hp")
  | walk_at "tyf")
local macro_rules | `(tactic| walk_at "ev") => `(tactic| repeat' (first
  | with_reducible exact Evl.ev_c
  | ((with_reducible apply Evl.ev_var); rfl)
  | with_reducible apply ev_neg
  | with_reducible apply ev_ixU
  | walk_at "evf"
  | ((with_reducible apply ev_lenI); (· walk_at "ev"); (· walk_at "hp"))
  | ((with_reducible apply ev_lenT); (· walk_at "ev"); (· walk_at "hp"))
  | ((with_reducible apply ev_lenU); (· walk_at "ev"))
  | with_reducible apply ev_lenSet
  | with_reducible apply ev_chain
  | with_reducible apply ev_isiTy
  | with_reducible apply Evl.ev_andV
  | with_reducible apply Evl.ev_orV
  | with_reducible apply Evl.ev_notV
  | ((with_reducible apply ev_ixI); (· walk_at "ev"); (· walk_at "ev"); (· walk_at "hp"); (· walk_at "at"))
  | with_reducible apply Evl.ev_op
  | ((with_reducible apply evi_of); (· (with_reducible apply Evl.ev_var); rfl); (· walk_at "hp"))
  | with_reducible apply ei_ix
  | with_reducible apply ei_tup
  | with_reducible exact eai_nil
  | with_reducible apply eai_cons
  | with_reducible exact Evl.ea_nil
  | with_reducible apply Evl.ea_cons
  | with_reducible apply Evl.et_test
  | with_reducible apply Evl.et_and
  | with_reducible apply Evl.et_or
  | with_reducible apply Evl.et_not
  | with_reducible apply Evl.et_B
  | walk_at "rv"
  | ((with_reducible show L2.kitB _ _ = _); rfl)
  | ((with_reducible show L2.atI _ _ = _); walk_at "at")
  | ((with_reducible show (_ : Nat) ≤ _); (first | omega | (simp; done) | (simp; omega)))
  | ((with_reducible show _ = true → _); intro _)
  | ((with_reducible show _ = false → _); intro _)
  | ((with_reducible show TupI _ _ _ _); walk_at "hp")
  | ((with_reducible show LT _ _ _ _); walk_at "hp")
  | ((with_reducible show LI _ _ _ _); walk_at "hp")
  | ((with_reducible show SqL _ _ _ _); walk_at "hp")
  | ((with_reducible show SqT _ _ _ _); walk_at "hp")
  | ((with_reducible show Rd _ _ _); walk_at "hp")
  | ((with_reducible show _ = some (_ : HO)); walk_at "hp")
  | walk_at "hpg"
  | walk_at "ty"))

local macro_rules | `(tactic| walk_at "hpf") => `(tactic| ((with_reducible show WebAt _ _ _ _ _ _); (with_reducible exact WebAt.mono (by assumption) (by walk_at "hp"))))
local macro_rules | `(tactic| walk_at "hpg") => `(tactic| ((with_reducible show WebAt _ _ _ _ _ _); walk_at "hp"))
local macro_rules | `(tactic| walk_at "evf") => `(tactic| with_reducible apply ev_points)
local macro_rules | `(tactic| walk_at "evf") => `(tactic| with_reducible apply ev_turn)
local macro_rules | `(tactic| walk_at "evf") => `(tactic| with_reducible apply ev_lenB)
local macro_rules | `(tactic| walk_at "evf") => `(tactic| with_reducible apply ei_bound)
local macro_rules | `(tactic| walk_at "evf") => `(tactic| with_reducible apply ev_is_whole)
local macro_rules | `(tactic| walk_at "evf") => `(tactic| with_reducible apply ev_is_below)
local macro_rules | `(tactic| walk_at "evf") => `(tactic| with_reducible apply ev_is_tie)
local macro_rules | `(tactic| walk_at "evf") => `(tactic| with_reducible apply ei_stepped)
variable {K : PySem.W.Frag} {σ : L2.St} {H H' H1 : Hp} {ta tb tc te : TE} {t u : TT} {tl : TA} {v x y z : V}
/-- an if with two ways that meet again: what the heap keeps there -/
theorem q_join {D : Ends} {tu tw tz : TS} {b : Bool} (J : Hp → Prop) (hT : EvT t σ H b) (h1 : b = true → ∀ H1, Ex H H1 → (∀ H2, J H2 → tz D σ H2) → tu { D with nx := tz D } σ H1)
    (h2 : b = false → ∀ H1, Ex H H1 → (∀ H2, J H2 → tz D σ H2) → tw { D with nx := tz D } σ H1) (k : ∀ H2, J H2 → tz D σ H2) : tSeq (tIfS t tu tw) tz D σ H :=
  Evl.q_if hT (fun hb H1 e => h1 hb H1 e k) fun hb H1 e => h2 hb H1 e k
theorem ep_if {b : Bool} {P : V → Hp → Prop} (h : EvT t σ H b) (h1 : b = true → EvP ta σ H P) (h2 : b = false → EvP tb σ H P) : EvP (tIf t ta tb) σ H P := fun H1 e Q q => h H1 e _ fun H2 e2 => by
  cases b with
  | true =>
    show ta σ H2 Q
    exact h1 rfl H2 (e.trans e2) Q fun v H3 e3 p => q v H3 (e2.trans e3) p
  | false =>
    show tb σ H2 Q
    exact h2 rfl H2 (e.trans e2) Q fun v H3 e3 p => q v H3 (e2.trans e3) p
theorem ev_law_numbersP (h : EvP te σ H (fun v H2 => ∃ l ns, v = .ref l ∧ LI K H2 l ns ∧ ns.length ≤ 5000)) : Ev (tCall (sp__law_numbers K) [] E0 (tCons te tNil)) σ H (.bl true) := fun H1 e Q q =>
  h H1 e _ fun v H2 e2 ⟨l, ns, ev, hl, hn⟩ => ⟨l, ns, by rw [ev]; rfl, hl, hn, fun H3 e3 => q H3 (e2.trans e3)⟩
/-- [x], [x, y] of ints: a new list -/
theorem ep_lstI {ns : List Int} (h : EvA tl σ H (ns.map V.int)) (hl : ns.length ≤ 100000) : EvP (tLst tl) σ H (fun v H2 => ∃ l, v = .ref l ∧ H l = none ∧ HasI H2 l ns) := fun H1 e Q q =>
  Evl.el_lst h (by rw [List.length_map]; exact hl) H1 e _ fun p H2 hp e2 h2 => q _ H2 e2 ⟨p, rfl, Evl.fresh_back e hp, h2⟩
/-- Web(n, an expression, turn) -/
theorem ep_WebP {n turn : Int} {ts : List Tie} (T : WebTop K) (ha : Ev ta σ H (.int n)) (hb : EvP te σ H (fun v H2 => ∃ l, v = .ref l ∧ LTie K H2 l ts)) (hc : ∀ H1, Ex H H1 → Ev tc σ H1 (.int turn)) (ok : okWeb n ts turn) :
    EvP (tMake (ga K "Web") (sp_Web_init K) [] E0 (tCons ta (tCons te (tCons tc tNil)))) σ H (fun v H2 => ∃ p, v = .ref p ∧ H p = none ∧ WebAt K H2 p n ts turn) := fun H1 e Q q =>
  ha H1 e _ fun H2 e2 => hb H2 (e.trans e2) _ fun v H3 e3 ⟨l, ev, hl⟩ => hc H3 ((e.trans e2).trans e3) H3 (Ex.refl H3) _ fun H4 e4 => by
    subst ev
    have mk := ep_Web (K := K) (tl := tCons (tC (.int n)) (tCons (tC (.ref l)) (tCons (tC (.int turn)) tNil))) (σ := []) (H := H4) (l := l) T (Evl.ea_cons Evl.ev_c (Evl.ea_cons Evl.ev_c (Evl.ea_cons Evl.ev_c Evl.ea_nil))) (hl.mono e4) ok
    exact mk H4 (Ex.refl H4) Q fun v5 H5 e5 ⟨p, a1, a2, a3⟩ => q v5 H5 (((e2.trans e3).trans e4).trans e5) ⟨p, a1, Evl.fresh_back (((e.trans e2).trans e3).trans e4) a2, a3⟩
theorem cutV_tail (us : List V) : cutV us (some 1) none = us.drop 1 := by
  cases us with
  | nil => rfl
  | cons a r =>
    unfold cutV
    have h1 : HT.sIx (a :: r).length 0 (some 1) = 1 := by
      show (if (1 : Int) < 0 then ((1 : Int) + ((a :: r).length : Int)).toNat else min (1 : Int).toNat (a :: r).length) = 1
      rw [if_neg (by decide)]
      show min 1 (r.length + 1) = 1
      omega
    have h2 : HT.sIx (a :: r).length (a :: r).length none = (a :: r).length := rfl
    rw [h1, h2]
    show r.take (r.length + 1 - 1) = r
    rw [Nat.add_sub_cancel, List.take_length]
/-- ties[1:] -/
theorem ep_tail {a : Addr} {ts : List Tie} (h : Ev te σ H (.ref a)) (hs : LTie K H a ts) : EvP (tSl (rSlL K) te (tPart (tC (.int 1))) tNoPart) σ H (fun v H2 => ∃ l, v = .ref l ∧ LTie K H2 l (ts.drop 1)) := fun H1 e Q q => by
  obtain ⟨us, h1, h2⟩ := hs
  refine Evl.el_sl h (Evl.eo_some Evl.ev_c) Evl.eo_none h1 H1 e _ fun p H2 hp e2 h3 => q _ H2 e2 ⟨p, rfl, us.drop 1, SqL.of (by rw [← cutV_tail]; exact h3), ?_⟩
  rw [List.map_drop]
  exact TupL.drop 1 (h2.mono (e.trans e2))
theorem LawWeb.drop {n turn : Int} {ts : List Tie} (h : LawWeb n turn ts) : LawWeb n turn (ts.drop 1) := ⟨h.n2, h.n66, h.t0, h.t1, by have := h.len; rw [List.length_drop]; omega, fun t ht => h.ok t (List.mem_of_mem_drop ht)⟩
/-- each element a flat value: over a list of pairs of ints by two names -/
theorem lc_vals2 {a : Addr} {xss : List (List Int)} {ys : List V} {i1 i2 : Nat} {vs : List Nat} (h : Ev ta σ H (.ref a)) (hx : LT K H a xss) (hz : xss.length ≤ 90000) (hy : ys.length = xss.length)
    (hw : ∀ x y, wipe (((wipe σ vs).set i1 (some x)).set i2 (some y)) vs = wipe σ vs)
    (he : ∀ (i : Nat) (x : List Int) H1, Ex H H1 → xss[i]? = some x → ∃ a b y, x = [a, b] ∧ ys[i]? = some y ∧ Ev te (((wipe σ vs).set i1 (some (.int a))).set i2 (some (.int b))) H1 y) :
    EvP (tLc (iList K ta) (gTup K 2 (gCons (gName i1) (gCons (gName i2) gNil))) tYes te vs) σ H (fun v H2 => ∃ p, v = .ref p ∧ H p = none ∧ H2 p = some (.lst ys)) := by
  obtain ⟨us, hx, hT⟩ := hx
  have hul := hT.length
  refine (lc_gen (G := fun H => SqL K H a us) (n := us.length) (fun H1 e R q => h H1 e _ fun H2 e2 => ⟨a, rfl, ⟨us, Evl.ex_l (e.trans e2) hx⟩, q H2 e2⟩) walk_list (by omega) (fun _ i acc _ => acc = ys.take i) (fun _ _ _ _ _ _ b _ => b) (fun _ _ _ _ => by simp) (fun H1 e => Evl.ex_l e hx) fun Dl i x H1 H2 acc Q hi e fr hD b y q => ?_).imp fun v H2 e hp => ?_
  · obtain ⟨rfl, hxi⟩ := y
    obtain ⟨u, hu, tu⟩ := (hT.mono e).getV hxi
    obtain ⟨a1, b1, w, rfl, hw2, ev⟩ := he i u H2 e hu
    exact turn2 tu (hw _ _) (Ev.toP (P := fun v _ => v = w) ev fun _ _ => rfl) fun v H3 e3 hv => q v H3 e3 (by rw [hv, b, List.take_add_one, hw2]; rfl)
  · obtain ⟨p, acc, rfl, fr, h2, hl, b⟩ := hp
    rw [b, List.take_of_length_le (by omega)] at h2
    exact ⟨p, rfl, fr, h2⟩
/-- each element a new tuple of ints: over a list of 3-tuples by three names -/
theorem lc_tup3 {a : Addr} {xss yss : List (List Int)} {i1 i2 i3 : Nat} {vs : List Nat} (h : Ev ta σ H (.ref a)) (hx : LT K H a xss) (hz : xss.length ≤ 90000) (hy : yss.length = xss.length)
    (hw : ∀ x y z, wipe ((((wipe σ vs).set i1 (some x)).set i2 (some y)).set i3 (some z)) vs = wipe σ vs)
    (he : ∀ (i : Nat) (x : List Int) H1, Ex H H1 → xss[i]? = some x → ∃ a b c y, x = [a, b, c] ∧ yss[i]? = some y ∧ EvI K te ((((wipe σ vs).set i1 (some (.int a))).set i2 (some (.int b))).set i3 (some (.int c))) H1 y) :
    EvP (tLc (iList K ta) (gTup K 3 (gCons (gName i1) (gCons (gName i2) (gCons (gName i3) gNil)))) tYes te vs) σ H (NewLT K H yss) := by
  obtain ⟨us, hx, hT⟩ := hx
  have hul := hT.length
  refine (lc_gen (G := fun H => SqL K H a us) (n := us.length) (fun H1 e R q => h H1 e _ fun H2 e2 => ⟨a, rfl, ⟨us, Evl.ex_l (e.trans e2) hx⟩, q H2 e2⟩) walk_list (by omega) (fun _ i acc H => TupL K H acc (yss.take i)) (fun _ _ _ _ _ _ b c => b.updL c) (fun _ _ _ _ => by simp; exact .nil) (fun H1 e => Evl.ex_l e hx) fun Dl i x H1 H2 acc Q hi e fr hD b y q => ?_).imp fun v H2 e hp => ?_
  · obtain ⟨rfl, hxi⟩ := y
    obtain ⟨u, hu, tu⟩ := (hT.mono e).getV hxi
    obtain ⟨a1, b1, c1, w, rfl, hw2, ev⟩ := he i u H2 e hu
    refine turn3 tu (hw _ _ _) ev fun v H3 e3 hv => q v H3 e3 ?_
    rw [List.take_add_one, hw2]
    exact (b.mono e3).snoc hv
  · obtain ⟨p, acc, rfl, fr, h2, hl, b⟩ := hp
    rw [List.take_of_length_le (by omega)] at b
    exact ⟨p, acc, rfl, fr, h2, b⟩
/-- [a tuple of ints for j in range(n)] -/
theorem lc_tupR {n : Nat} {j : Nat} {yss : List (List Int)} (h : EvA tl σ H [.int (n : Int)]) (hn : n ≤ 90000) (hy : yss.length = n) (hw : ∀ x, wipe ((wipe σ [j]).set j (some x)) [j] = wipe σ [j])
    (he : ∀ (i : Nat) H1, Ex H H1 → i < n → ∃ y, yss[i]? = some y ∧ EvI K te ((wipe σ [j]).set j (some (.int (i : Int)))) H1 y) :
    EvP (tLc (iRng1 tl) (gName j) tYes te [j]) σ H (NewLT K H yss) := by
  refine (lc_gen (J := Itr 0 n) (G := fun _ => True) (n := n) (fun H1 e R q => h H1 e _ fun H2 e2 => ⟨(n : Int), rfl, by omega, by omega, by rw [Int.toNat_natCast]; exact q H2 e2⟩) walk_range hn (fun _ i acc H => TupL K H acc (yss.take i)) (fun _ _ _ _ _ _ b c => b.updL c) (fun _ _ _ _ => by simp; exact .nil) (fun H1 e => trivial) fun Dl i x H1 H2 acc Q hi e fr hD b y q => ?_).imp fun v H2 e hp => ?_
  · obtain ⟨rfl, rfl⟩ := y
    obtain ⟨w, hw2, ev⟩ := he i H2 e hi
    show gName j (V.int ((0 : Int) + (i : Int))) _ _ _
    rw [show (0 : Int) + (i : Int) = (i : Int) from Int.zero_add _]
    refine turn1 (hw _) ev fun v H3 e3 hv => q v H3 e3 ?_
    rw [List.take_add_one, hw2]
    exact (b.mono e3).snoc hv
  · obtain ⟨p, acc, rfl, fr, h2, hl, b⟩ := hp
    rw [List.take_of_length_le (by omega)] at b
    exact ⟨p, acc, rfl, fr, h2, b⟩
theorem ev_intB {b : Bool} (h : Ev ta σ H (.bl b)) : Ev (tCB rInt1 (tCons ta tNil)) σ H (.int (if b then 1 else 0)) := fun H1 e Q q => h H1 e _ fun H2 e2 => .inr ⟨b, rfl, q H2 e2⟩
/-- xs.pop() -/
theorem s_pop {D : Ends} {l : Addr} {xs : List V} {w : V} (hl : H l = some (.lst xs)) (ha : Ev ta σ H (.ref l)) (hw : xs[xs.length - 1]? = some w) (k : ∀ H1, Ex H H1 → D.nx σ (upd H1 l (.lst xs.dropLast))) : tDrop (tBM0 K "list" rPop ta) D σ H :=
  ha H (Ex.refl H) _ fun H1 e1 => ⟨Or.inl ⟨rfl, xs, Evl.sq_of (e1 l _ hl)⟩, l, xs, w, rfl, rfl, e1 _ _ hl, hw, k H1 e1⟩
/-- nought as the law reckons it -/
def sp__law_nought (K : PySem.W.Frag) : Sp := fun vs H Q _ => ∃ (n turn : Int), vs = [.int n, .int turn] ∧ 0 ≤ turn ∧ RetV (.bl (noughtF turn n)) H Q
theorem ev_law_nought {n turn : Int} (h : EvA tl σ H [.int n, .int turn]) (h0 : 0 ≤ turn) : Ev (tCall (sp__law_nought K) [] E0 tl) σ H (.bl (noughtF turn n)) := ev_call h fun _ _ _ k => ⟨n, turn, rfl, h0, k⟩
def t__law_nought (K : PySem.W.Frag) : TS :=
 (tRet (tIf (tTest (tOp rEq (tVar 1) (tC (.int 0)))) (tOp rEq (tVar 0) (tC (.int 0))) (tOp rEq (tOp rModI (tVar 0) (tVar 1)) (tC (.int 0)))))
theorem rd__law_nought (vs : List V) (H : Hp) (Q : VK) (E : XK) (h : sp__law_nought K vs H Q E) : goal (t__law_nought K) ["_law_number", "_law_turn"] vs H Q := by
  obtain ⟨n, turn, rfl, h0, k⟩ := h
  refine Evl.s_ret (v := .bl (noughtF turn n)) (Evl.ev_if (b := decide (turn = 0)) (Evl.et_test (Evl.ev_op (Evl.ev_var rfl) Evl.ev_c rv_eqI)) (fun hb => ?_) fun hb => ?_) fun H2 e2 => k H2 e2
  · have : turn = 0 := of_decide_eq_true hb
    refine Evl.ev_is (Evl.ev_op (Evl.ev_var rfl) Evl.ev_c rv_eqI) ?_
    simp [noughtF, this]
  · have : turn ≠ 0 := of_decide_eq_false hb
    refine Evl.ev_is (Evl.ev_op (Evl.ev_op (Evl.ev_var rfl) (Evl.ev_var rfl) (rv_mod (by omega))) Evl.ev_c rv_eqI) ?_
    simp [noughtF, this]

/-- a for over a new list, what it holds known by P -/
theorem f_listH {D : Ends} {tu : TS} {g : TG} {P : List V → Hp → Prop} (h : EvP te σ H (fun v H2 => ∃ a xs, v = .ref a ∧ SqL K H2 a xs ∧ P xs H2)) (k : ∀ a xs H1, Ex H H1 → SqL K H1 a xs → P xs H1 → tFor (iList K (tC (.ref a))) g tu D σ H1) : tFor (iList K te) g tu D σ H :=
  h H (Ex.refl H) _ fun v H1 e ⟨a, xs, ev, hx, p⟩ => by
    subst ev
    exact k a xs H1 e hx p
/-- pairs of a list of ties and a turn -/
def WebsP (K : PySem.W.Frag) (n : Int) (xs : List V) (H : Hp) : Prop := ∀ v ∈ xs, ∃ (p l : Addr) (turn : Int) (ts : List Tie), v = .ref p ∧ SqT K H p [.ref l, .int turn] ∧ LTie K H l ts ∧ LawWeb n turn ts
theorem WebsP.mono {n : Int} {xs : List V} (e : Ex H H') (h : WebsP K n xs H) : WebsP K n xs H' := fun v hv => by
  obtain ⟨p, l, turn, ts, a, b, c, d⟩ := h v hv
  exact ⟨p, l, turn, ts, a, Evl.ex_t e b, c.mono e, d⟩
theorem ews_nil {n : Int} : EvAP tNil σ H (fun vs H2 => vs.length ≤ 0 ∧ WebsP K n vs H2) := fun H1 e Q q => q [] H1 (Ex.refl H1) ⟨Nat.le_refl _, fun v hv => by cases hv⟩
theorem ews_cons {n turn : Int} {l : Addr} {ts : List Tie} {m : Nat} (h1 : Ev ta σ H (.ref l)) (h2 : Ev tb σ H (.int turn)) (hl : LTie K H l ts) (LW : LawWeb n turn ts) (hr : EvAP tl σ H (fun vs H2 => vs.length ≤ m ∧ WebsP K n vs H2)) :
    EvAP (tCons (tTup (tCons ta (tCons tb tNil))) tl) σ H (fun vs H2 => vs.length ≤ m + 1 ∧ WebsP K n vs H2) := fun H1 e Q q =>
  Evl.eu_tup (Evl.ea_cons h1 (Evl.ea_cons h2 Evl.ea_nil)) (by show 2 ≤ 100000; decide) H1 e _ fun p H2 hp e2 h3 => hr H2 (e.trans e2) _ fun vs H3 e3 hvs => q (.ref p :: vs) H3 (e2.trans e3) ⟨by rw [List.length_cons]; have := hvs.1; omega, fun w hw => by
    rcases List.mem_cons.mp hw with rfl | hw
    · exact ⟨p, l, turn, ts, rfl, .inl (.inl (e3 _ _ h3)), hl.mono ((e.trans e2).trans e3), LW⟩
    · exact hvs.2 w hw⟩
theorem ep_lstW {n : Int} {m : Nat} (h : EvAP tl σ H (fun vs H2 => vs.length ≤ m ∧ WebsP K n vs H2)) (hm : m ≤ 100000) : EvP (tLst tl) σ H (fun v H2 => ∃ a xs, v = .ref a ∧ SqL K H2 a xs ∧ WebsP K n xs H2) := fun H1 e Q q =>
  h H1 e _ fun vs H2 e2 hvs => ⟨Nat.le_trans (Nat.le_trans hvs.1 hm) (by decide), fun p hp => q _ _ (e2.trans (Ex.new hp)) ⟨p, vs, rfl, SqL.of upd_same, hvs.2.mono (Ex.new hp)⟩⟩
end G

/-! camps; Camps, Quarrel. -/
namespace G
open PySem PySem.Spec PyProof.Rows L2
open Evl (Ex Ev EvL EvU EvT EvA RV RetV)
local macro_rules | `(tactic| walk_at "hp") => `(tactic| first
  | with_reducible assumption
  | ((with_reducible show _ = some (_ : HO)); (with_reducible exact ex_app (by assumption) (by walk_at "hp")))
  | ((with_reducible show TupI _ _ _ _); (with_reducible exact TupI.mono (by assumption) (by walk_at "hp")))
  | ((with_reducible show LT _ _ _ _); (with_reducible exact LT.mono (by assumption) (by walk_at "hp")))
  | ((with_reducible show LI _ _ _ _); (first | (with_reducible exact li_of (by walk_at "hp")) | (with_reducible exact LI.mono (by assumption) (by walk_at "hp"))))
  | ((with_reducible show SqL _ _ _ _); (first | (with_reducible exact SqL.of (by walk_at "hp")) | (with_reducible exact Evl.ex_l (by assumption) (by walk_at "hp"))))
  | ((with_reducible show SqT _ _ _ _); (first | (with_reducible exact SqT.of (by walk_at "hp")) | (with_reducible exact Evl.ex_t (by assumption) (by walk_at "hp"))))
  | ((with_reducible show Rd _ _ _); (first | (with_reducible exact Rd.of (by walk_at "hp")) | (with_reducible exact Evl.ex_rd (by assumption) (by walk_at "hp"))))
  | walk_at "hpf")
local macro_rules | `(tactic| walk_at "at") => `(tactic| first
  | with_reducible assumption
  | with_reducible rfl
  | (refine atI_of ?va ?vb; (case va => omega); (case vb => assumption))
  | walk_at "atf"
  | rfl)
local macro_rules | `(tactic| walk_at "rv") => `(tactic| first
  | with_reducible exact rv_add | with_reducible exact rv_sub | with_reducible exact rv_eqI | with_reducible exact rv_neI | with_reducible exact rv_lt | with_reducible exact rv_le | with_reducible exact rv_gt | with_reducible exact rv_ge
  | with_reducible exact rv_eqB | with_reducible exact rv_neB | with_reducible exact rv_isB | with_reducible exact rv_notB
  | ((with_reducible refine rv_mod ?_); (first | assumption | omega))
  | ((with_reducible refine rv_mul ?_); (first | exact Or.inl ⟨by omega, by omega⟩ | exact Or.inr ⟨by omega, by omega⟩))
  | ((with_reducible refine rv_div ?_); exact ⟨by omega, by omega⟩))
local macro_rules | `(tactic| walk_at "ty") => `(tactic| first
  | with_reducible exact fun _ _ => .base (.int _) | with_reducible exact fun _ _ => .base (.bl _) | with_reducible exact fun _ _ => .base .non | with_reducible exact fun _ _ => .base (.str _)
  | ((with_reducible apply ty_tup); walk_at "hp")
  | ((with_reducible apply ty_lst); walk_at "hp")
  | walk_at "tyf")
local macro_rules | `(tactic| walk_at "ev") => `(tactic| repeat' (first
  | with_reducible exact Evl.ev_c
  | ((with_reducible apply Evl.ev_var); rfl)
  | with_reducible apply ev_neg
  | with_reducible apply ev_ixU
  | walk_at "evf"
  | ((with_reducible apply ev_lenI); (· walk_at "ev"); (· walk_at "hp"))
  | ((with_reducible apply ev_lenT); (· walk_at "ev"); (· walk_at "hp"))
  | ((with_reducible apply ev_lenU); (· walk_at "ev"))
  | with_reducible apply ev_lenSet
  | with_reducible apply ev_chain
  | with_reducible apply ev_isiTy
  | with_reducible apply Evl.ev_andV
  | with_reducible apply Evl.ev_orV
  | with_reducible apply Evl.ev_notV
  | ((with_reducible apply ev_ixI); (· walk_at "ev"); (· walk_at "ev"); (· walk_at "hp"); (· walk_at "at"))
  | with_reducible apply Evl.ev_op
  | ((with_reducible apply evi_of); (· (with_reducible apply Evl.ev_var); rfl); (· walk_at "hp"))
  | with_reducible apply ei_ix
  | with_reducible apply ei_tup
  | with_reducible exact eai_nil
  | with_reducible apply eai_cons
  | with_reducible exact Evl.ea_nil
  | with_reducible apply Evl.ea_cons
  | with_reducible apply Evl.et_test
  | with_reducible apply Evl.et_and
  | with_reducible apply Evl.et_or
  | with_reducible apply Evl.et_not
  | with_reducible apply Evl.et_B
  | walk_at "rv"
  | ((with_reducible show L2.kitB _ _ = _); rfl)
  | ((with_reducible show L2.atI _ _ = _); walk_at "at")
  | ((with_reducible show (_ : Nat) ≤ _); (first | omega | (simp; done) | (simp; omega)))
  | ((with_reducible show _ = true → _); intro _)
  | ((with_reducible show _ = false → _); intro _)
  | ((with_reducible show TupI _ _ _ _); walk_at "hp")
  | ((with_reducible show LT _ _ _ _); walk_at "hp")
  | ((with_reducible show LI _ _ _ _); walk_at "hp")
  | ((with_reducible show SqL _ _ _ _); walk_at "hp")
  | ((with_reducible show SqT _ _ _ _); walk_at "hp")
  | ((with_reducible show Rd _ _ _); walk_at "hp")
  | ((with_reducible show _ = some (_ : HO)); walk_at "hp")
  | walk_at "hpg"
  | walk_at "ty"))

local macro_rules | `(tactic| walk_at "hpf") => `(tactic| ((with_reducible show WebAt _ _ _ _ _ _); (with_reducible exact WebAt.mono (by assumption) (by walk_at "hp"))))
local macro_rules | `(tactic| walk_at "hpg") => `(tactic| ((with_reducible show WebAt _ _ _ _ _ _); walk_at "hp"))
local macro_rules | `(tactic| walk_at "evf") => `(tactic| with_reducible apply ev_points)
local macro_rules | `(tactic| walk_at "evf") => `(tactic| with_reducible apply ev_turn)
local macro_rules | `(tactic| walk_at "evf") => `(tactic| with_reducible apply ev_lenB)
local macro_rules | `(tactic| walk_at "evf") => `(tactic| with_reducible apply ei_bound)
local macro_rules | `(tactic| walk_at "evf") => `(tactic| with_reducible apply ev_is_whole)
local macro_rules | `(tactic| walk_at "evf") => `(tactic| with_reducible apply ev_is_below)
local macro_rules | `(tactic| walk_at "evf") => `(tactic| with_reducible apply ev_is_tie)
local macro_rules | `(tactic| walk_at "evf") => `(tactic| with_reducible apply ei_stepped)
variable {K : PySem.W.Frag} {σ : L2.St} {H H' H1 : Hp} {ta tb tc te : TE} {t u : TT} {tl : TA} {v x y z : V}

/-! ### what the two tell -/
def cAt (cs : List Int) (i : Int) : Int := (atI cs i).getD 0
def campsF (n : Int) (ts : List Tie) (turn : Int) (cs : List Int) : Bool := decide ((cs.length : Int) = n) && ts.all fun t => decide (cAt cs t.1 = cAt cs t.2.1) == noughtF turn t.2.2
def numAt (ts : List Tie) (i : Int) : Int := match atI ts i with
  | some t => t.2.2
  | none => 0
def quarrelF (ts : List Tie) (turn tie : Int) (ss : List Step) : Bool := if 0 ≤ tie ∧ tie < ts.length then
    (match ts[tie.toNat]? with
    | some t => !(noughtF turn t.2.2 || !straightF ts t.1 ss t.2.1) && ss.all fun s => noughtF turn (numAt ts s.1)
    | none => false)
  else false
theorem cAt_some {cs : List Int} {i : Int} (h0 : 0 ≤ i) (h1 : i < cs.length) : atI cs i = some (cAt cs i) := by
  unfold cAt
  rw [atI_pos h0, List.getElem?_eq_getElem (by omega)]
  rfl
theorem stepF_in {ts : List Tie} {p : Int} {s : Step} (h : 0 ≤ (stepF ts p s).1) : 0 ≤ s.1 ∧ s.1 < ts.length := by
  unfold stepF at h
  split at h
  · assumption
  · exact absurd h (by decide)
theorem walkA_in {ts : List Tie} : ∀ {ss : List Step} {pre : List Int} {p c : Int} {r : List Int × Int}, walkA ts pre p c ss = some r → ∀ s ∈ ss, 0 ≤ s.1 ∧ s.1 < ts.length
  | [], _, _, _, _, _, s, hs => by cases hs
  | a :: ss, pre, p, c, r, h, s, hs => by
    unfold walkA at h
    split at h
    · cases h
    · rename_i hn
      rcases List.mem_cons.mp hs with rfl | hs
      · exact stepF_in (p := p) (by omega)
      · exact walkA_in h s hs
theorem straight_in {ts : List Tie} {p q : Int} {ss : List Step} (h : straightF ts p ss q = true) : ∀ s ∈ ss, 0 ≤ s.1 ∧ s.1 < ts.length := by
  unfold straightF at h
  cases hc : walkF ts p ss with
  | none => rw [hc] at h; cases h
  | some r => exact walkA_in hc

/-! ### Camps -/
abbrev sp_Camps_init := sp_one_init "Camps" "camps"
def sp_Camps_shows (K : PySem.W.Frag) : Sp := fun vs H Q _ => ∃ (a l w : Addr) (n turn : Int) (ts : List Tie) (cs : List Int), vs = [.ref a, .ref w] ∧ One K H "Camps" "camps" a l ∧ HasI H l cs ∧ WebAt K H w n ts turn ∧ 0 ≤ turn ∧ ts.length ≤ 5000 ∧ Valid n ts ∧ RetV (.bl (campsF n ts turn cs)) H Q
def t_Camps_shows (K : PySem.W.Frag) : TS :=
 (tSeq (tIfS (tTest (tOp rNe (tCB (rLenS K) (tCons (tFld K (tVar 0) "camps") tNil)) (tFld K (tVar 1) "points"))) (tRet (tC (.bl false))) tNext)
 (tSeq (tAsg (tFld K (tVar 0) "camps") (gName 2))
 (tRet (tCB (rAll K) (tCons (tLc (iList K (tFld K (tVar 1) "bound")) (gTup K 3 (gCons (gName 3) (gCons (gName 4) (gCons (gName 5) gNil)))) tYes (tOp rEq (tOp rEq (tOp (rIxL K) (tVar 2) (tVar 3)) (tOp (rIxL K) (tVar 2) (tVar 4))) (tMeth (ga K "Web") "is_nought" (sp_Web_is_nought K) [] E0 (tVar 1) (tCons (tVar 5) tNil))) [3, 4, 5]) tNil)))))
def t_Quarrel_init (K : PySem.W.Frag) : TS :=
 (tSeq (sFld K (tVar 0) (tVar 1) "tie")
 (sFld K (tVar 0) (tCB (rListS K) (tCons (tVar 2) tNil)) "steps"))
def t_Quarrel_shows (K : PySem.W.Frag) : TS :=
 (tSeq (tIfS (tNot (tB (tCall (sp_is_below K) [] E0 (tCons (tFld K (tVar 0) "tie") (tCons (tCB (rLenS K) (tCons (tFld K (tVar 1) "bound") tNil)) tNil))))) (tRet (tC (.bl false))) tNext)
 (tSeq (tAsg (tOp (rIxL K) (tFld K (tVar 1) "bound") (tFld K (tVar 0) "tie")) (gTup K 3 (gCons (gName 2) (gCons (gName 3) (gCons (gName 4) gNil)))))
 (tSeq (tIfS (tOr (tB (tMeth (ga K "Web") "is_nought" (sp_Web_is_nought K) [] E0 (tVar 1) (tCons (tVar 4) tNil))) (tNot (tB (tCall (sp_is_straight K) [] E0 (tCons (tVar 1) (tCons (tVar 2) (tCons (tFld K (tVar 0) "steps") (tCons (tVar 3) tNil)))))))) (tRet (tC (.bl false))) tNext)
 (tRet (tCB (rAll K) (tCons (tLc (iList K (tFld K (tVar 0) "steps")) (gName 5) tYes (tMeth (ga K "Web") "is_nought" (sp_Web_is_nought K) [] E0 (tVar 1) (tCons (tOp (rIxT K) (tOp (rIxL K) (tFld K (tVar 1) "bound") (tOp (rIxT K) (tVar 5) (tC (.int 0)))) (tC (.int 2))) tNil)) [5]) tNil))))))
theorem rd_Camps_shows (vs : List V) (H : Hp) (Q : VK) (E : XK) (h : sp_Camps_shows K vs H Q E) : goal (t_Camps_shows K) ["self", "web", "camps", "one", "other", "number"] vs H Q := by
  obtain ⟨a, l, w, n, turn, ts, cs, rfl, h1, hc, hw, h0, hl, hv, k⟩ := h
  have hi := hc.li (K := K)
  refine Evl.q_when (b := !decide ((cs.length : Int) = n)) (Evl.et_test (Evl.ev_op (ev_lenI (ev_one (Evl.ev_var rfl) h1) hi) (ev_points (Evl.ev_var rfl) hw) rv_neI)) (fun hb H1 e1 => ?_) fun hb H1 e1 => ?_
  · have : campsF n ts turn cs = false := by
      unfold campsF
      have hd : decide ((cs.length : Int) = n) = false := by simpa using hb
      rw [hd]
      rfl
    rw [this] at k
    exact Evl.s_ret Evl.ev_c fun H2 e2 => k H2 (e1.trans e2)
  · have hn : (cs.length : Int) = n := by simpa using hb
    refine Evl.q_asg (ev_one (Evl.ev_var rfl) (h1.mono e1)) fun H2 e2 => ?_
    have e12 := e1.trans e2
    have hi2 := hi.mono e12
    have hw2 := hw.mono e12
    obtain ⟨bl, hbl, hbe⟩ := hw2.bound
    refine Evl.s_ret (v := .bl (campsF n ts turn cs)) (Evl.ev_is (ev_all (p := l) (bs := ts.map fun t => decide (cAt cs t.1 = cAt cs t.2.1) == noughtF turn t.2.2) ?_) ?_) fun H3 e3 => k H3 (e12.trans e3)
    · refine (lc_vals3 (a := bl) (xss := ts.map tieL) (ys := (ts.map fun t => decide (cAt cs t.1 = cAt cs t.2.1) == noughtF turn t.2.2).map V.bl) (hbe (Evl.ev_var rfl)) hbl (by simp; omega) (by simp) (fun _ _ _ => rfl) fun i x H3 e3 hx => ?_).imp fun v H3 e3 hh => ?_
      · rw [List.getElem?_map] at hx
        cases hti : ts[i]? with
        | none => rw [hti] at hx; cases hx
        | some t =>
          rw [hti] at hx
          cases hx
          obtain ⟨v1, v2, v3⟩ := hv t (List.mem_of_getElem? hti)
          have c1 := cAt_some (cs := cs) v1.1 (by omega)
          have c2 := cAt_some (cs := cs) v2.1 (by omega)
          have hi3 := hi2.mono e3
          exact ⟨t.1, t.2.1, t.2.2, .bl (decide (cAt cs t.1 = cAt cs t.2.1) == noughtF turn t.2.2), rfl, by simp [hti], Evl.ev_op (Evl.ev_op (ev_ixI (Evl.ev_var rfl) (Evl.ev_var rfl) hi3 c1) (ev_ixI (Evl.ev_var rfl) (Evl.ev_var rfl) hi3 c2) rv_eqI) (ev_nought (hw2.mono e3) h0 (Evl.ev_var rfl) (Evl.ea_cons (Evl.ev_var rfl) Evl.ea_nil)) rv_eqB⟩
      · obtain ⟨q, a, _, b⟩ := hh
        exact ⟨q, a, SqL.of b⟩
    · unfold campsF
      rw [decide_eq_true hn, Bool.true_and, List.all_map]
      rfl

/-! ### Quarrel -/
structure QTop (K : PySem.W.Frag) : Prop where
  cl : Cls K (ga K "Quarrel")
  nT : NoAttr K (ga K "Quarrel") "tie"
  nS : NoAttr K (ga K "Quarrel") "steps"
def quF (tie : Int) (l : Addr) : List (Str × V) := putF "steps" (.ref l) (putF "tie" (.int tie) [])
theorem neTS : ¬ (("tie" : Str) = "steps") := by decide +kernel
theorem quF_tie (tie : Int) (l : Addr) : (quF tie l).lookup ("tie" : Str) = some (.int tie) := by
  unfold quF
  rw [lookup_putF, if_neg neTS, lookup_putF, if_pos rfl]
theorem quF_steps (tie : Int) (l : Addr) : (quF tie l).lookup ("steps" : Str) = some (.ref l) := by
  unfold quF
  rw [lookup_putF, if_pos rfl]
theorem quF_no (tie : Int) (l : Addr) {m : Str} (h1 : ¬ m = "tie") (h2 : ¬ m = "steps") : (quF tie l).lookup m = none := by
  unfold quF
  rw [lookup_putF, if_neg h2, lookup_putF, if_neg h1]
  rfl
def QAt (K : PySem.W.Frag) (H : Hp) (p l : Addr) (tie : Int) : Prop := QTop K ∧ ∃ dx, H p = some (.ins (ga K "Quarrel") dx (quF tie l))
theorem QAt.mono {p l : Addr} {tie : Int} (e : Ex H H') (h : QAt K H p l tie) : QAt K H' p l tie := by
  obtain ⟨T, dx, a⟩ := h
  exact ⟨T, dx, e _ _ a⟩
theorem ev_qtie {p l : Addr} {tie : Int} (ha : Ev ta σ H (.ref p)) (h : QAt K H p l tie) : Ev (tFld K ta "tie") σ H (.int tie) := by
  obtain ⟨T, dx, a⟩ := h
  exact ev_fld ha a T.cl T.nT (quF_tie ..)
theorem ev_qsteps {p l : Addr} {tie : Int} (ha : Ev ta σ H (.ref p)) (h : QAt K H p l tie) : Ev (tFld K ta "steps") σ H (.ref l) := by
  obtain ⟨T, dx, a⟩ := h
  exact ev_fld ha a T.cl T.nS (quF_steps ..)
def sp_Quarrel_init (K : PySem.W.Frag) : Sp := fun vs H Q _ => ∃ (p l dx : Addr) (tie : Int) (xs : List V), vs = [.ref p, .int tie, .ref l] ∧ QTop K ∧ H p = some (.ins (ga K "Quarrel") dx []) ∧ SqL K H l xs ∧
  ∀ l2 H', ExBut p H H' → H l2 = none → l2 ≠ p → H' p = some (.ins (ga K "Quarrel") dx (quF tie l2)) → H' l2 = some (.lst xs) → Q .non H'
theorem rd_Quarrel_init (vs : List V) (H : Hp) (Q : VK) (E : XK) (h : sp_Quarrel_init K vs H Q E) : goal (t_Quarrel_init K) ["self", "tie", "steps"] vs H Q := by
  obtain ⟨p, l, dx, tie, xs, rfl, T, hp, hl, k⟩ := h
  refine q_fld (Evl.ev_var rfl) (Evl.ev_var rfl) hp T.cl T.nT (by show 0 < 1000; decide) fun H1 e1 => ?_
  have b1 : ExBut p H (upd H1 p (.ins (ga K "Quarrel") dx (putF "tie" (.int tie) []))) := e1.but.trans upd_but
  refine s_fldP (a := p) (ep_list (Evl.ev_var rfl) (b1.sqL hp hl)) (Evl.ev_var rfl) upd_same T.cl T.nS (putF_lt (m := 999) (by show 0 < 999; decide)) fun v H2 H3 e2 hv e3 => ?_
  obtain ⟨l2, rfl, f2, h2⟩ := hv
  have ne : l2 ≠ p := fun z => by rw [z, upd_same] at f2; cases f2
  have f0 : H l2 = none := by
    cases hh : H l2 with
    | none => rfl
    | some o => rw [b1 _ _ ne hh] at f2; cases f2
  refine k l2 _ (((b1.trans e2.but).trans e3.but).trans upd_but) f0 ne upd_same ?_
  rw [upd_ne ne]
  exact e3 _ _ h2
def AnsQ (K : PySem.W.Frag) (H : Hp) (tie : Int) (ss : List Step) (v : V) (H2 : Hp) : Prop := ∃ a l, v = .ref a ∧ H a = none ∧ H l = none ∧ l ≠ a ∧ QAt K H2 a l tie ∧ HasS K H2 l ss
/-- Quarrel(tie, steps) made -/
theorem ep_qu {tie : Int} {ss : List Step} (T : QTop K) (ha : Ev ta σ H (.int tie)) (h : EvP te σ H (NewLT K H (ss.map stepL))) : EvP (tMake (ga K "Quarrel") (sp_Quarrel_init K) [] E0 (tCons ta (tCons te tNil))) σ H (AnsQ K H tie ss) := fun H1 e Q q => ha H1 e _ fun H1' e1' => h H1' (e.trans e1') _ fun v H2 e2 hv => by
  obtain ⟨l, xs, rfl, _, hl, hB⟩ := hv
  intro x dx hx hdx ne
  have big : Ex H H2 := (e.trans e1').trans e2
  have ex1 : Ex H2 (upd (upd H2 dx (.own x)) x (.ins (ga K "Quarrel") dx [])) := (Ex.new hdx).trans (Ex.new (by rw [upd_ne ne.symm]; exact hx))
  refine ⟨x, l, dx, tie, xs, rfl, T, upd_same, Evl.ex_l ex1 (SqL.of hl), fun l2 H3 eb f2 n2 hp3 hl3 => ⟨rfl, ?_⟩⟩
  have e23 : Ex H2 H3 := fun a o ha => eb a o (fun z => by rw [z, hx] at ha; cases ha) (ex1 a o ha)
  exact q _ H3 ((e1'.trans e2).trans e23) ⟨x, l2, rfl, Evl.fresh_back big hx, Evl.fresh_back big (Evl.fresh_back ex1 f2), n2, ⟨T, dx, hp3⟩, xs, hl3, hB.mono e23⟩
def sp_Quarrel_shows (K : PySem.W.Frag) : Sp := fun vs H Q _ => ∃ (a l w : Addr) (tie n turn : Int) (ts : List Tie) (ss : List Step), vs = [.ref a, .ref w] ∧ QAt K H a l tie ∧ HasS K H l ss ∧ ss.length ≤ 3000 ∧ WebAt K H w n ts turn ∧ 0 ≤ turn ∧ RetV (.bl (quarrelF ts turn tie ss)) H Q
theorem rd_Quarrel_shows (vs : List V) (H : Hp) (Q : VK) (E : XK) (h : sp_Quarrel_shows K vs H Q E) : goal (t_Quarrel_shows K) ["self", "web", "one", "other", "number", "step"] vs H Q := by
  obtain ⟨a, l, w, tie, n, turn, ts, ss, rfl, h1, hs, hl, hw, h0, k⟩ := h
  refine Evl.q_when (b := !decide (0 ≤ tie ∧ tie < (ts.length : Int))) (Evl.et_not (Evl.et_B (ev_is_below (Evl.ea_cons (ev_qtie (Evl.ev_var rfl) h1) (Evl.ea_cons (ev_lenB (Evl.ev_var rfl) hw) Evl.ea_nil))))) (fun hb H1 e1 => ?_) fun hb H1 e1 => ?_
  · have : quarrelF ts turn tie ss = false := by
      unfold quarrelF
      have hd : ¬ (0 ≤ tie ∧ tie < (ts.length : Int)) := by
        intro z
        rw [decide_eq_true z] at hb
        cases hb
      rw [if_neg hd]
    rw [this] at k
    exact Evl.s_ret Evl.ev_c fun H2 e2 => k H2 (e1.trans e2)
  · have hin : 0 ≤ tie ∧ tie < (ts.length : Int) := by simpa using hb
    obtain ⟨tt, ht⟩ : ∃ tt, ts[tie.toNat]? = some tt := ⟨ts[tie.toNat]'(by omega), List.getElem?_eq_getElem (by omega)⟩
    have hq : quarrelF ts turn tie ss = (!(noughtF turn tt.2.2 || !straightF ts tt.1 ss tt.2.1) && ss.all fun s => noughtF turn (numAt ts s.1)) := by
      unfold quarrelF
      rw [if_pos hin, ht]
    rw [hq] at k
    have hat : atI ts tie = some tt := atI_of hin.1 ht
    refine q_un3 (a := tt.1) (b := tt.2.1) (c := tt.2.2) (ei_bound (Evl.ev_var rfl) (hw.mono e1) (ev_qtie (Evl.ev_var rfl) (h1.mono e1)) hat) fun H2 e2 => ?_
    have e12 := e1.trans e2
    have hw2 := hw.mono e12
    have h12 := h1.mono e12
    have hs2 := hs.mono e12
    refine Evl.q_when (b := noughtF turn tt.2.2 || !straightF ts tt.1 ss tt.2.1) (Evl.et_or (Evl.et_B (ev_nought hw2 h0 (Evl.ev_var rfl) (Evl.ea_cons (Evl.ev_var rfl) Evl.ea_nil))) fun _ => Evl.et_not (Evl.et_B (ev_is_straight (w := w) (l := l) (n := n) (turn := turn) (Evl.ea_cons (Evl.ev_var rfl) (Evl.ea_cons (Evl.ev_var rfl) (Evl.ea_cons (ev_qsteps (Evl.ev_var rfl) h12) (Evl.ea_cons (Evl.ev_var rfl) Evl.ea_nil)))) hw2 hs2.lt hl))) (fun hb2 H3 e3 => ?_) fun hb2 H3 e3 => ?_
    · rw [hb2, Bool.not_true, Bool.false_and] at k
      exact Evl.s_ret Evl.ev_c fun H4 e4 => k H4 (e12.trans (e3.trans e4))
    · rw [hb2, Bool.not_false, Bool.true_and] at k
      have hst : straightF ts tt.1 ss tt.2.1 = true := by
        have := (Bool.or_eq_false_iff.mp hb2).2
        simpa using this
      have hsi := straight_in hst
      have hw3 := hw2.mono e3
      have h13 := h12.mono e3
      obtain ⟨us, hq1, hT⟩ := hs2.mono e3
      have hul : us.length = ss.length := by rw [hT.length, List.length_map]
      refine Evl.s_ret (v := .bl (ss.all fun s => noughtF turn (numAt ts s.1))) (Evl.ev_is (ev_all (p := l) (bs := ss.map fun s => noughtF turn (numAt ts s.1)) ?_) ?_) fun H4 e4 => k H4 (e12.trans (e3.trans e4))
      · refine (lc_vals (a := l) (xs := us) (ys := (ss.map fun s => noughtF turn (numAt ts s.1)).map V.bl) (ev_qsteps (Evl.ev_var rfl) h13) (SqL.of hq1) (by omega) (by simp [hul]) (fun _ => rfl) fun i x H4 e4 hx => ?_).imp fun v H4 e4 hh => ?_
        · obtain ⟨z, hz, tz⟩ := hT.getV hx
          rw [List.getElem?_map] at hz
          cases hsi2 : ss[i]? with
          | none => rw [hsi2] at hz; cases hz
          | some s =>
            rw [hsi2] at hz
            cases hz
            obtain ⟨i1, i2⟩ := hsi s (List.mem_of_getElem? hsi2)
            obtain ⟨t2, ht2⟩ : ∃ t2, ts[s.1.toNat]? = some t2 := ⟨ts[s.1.toNat]'(by omega), List.getElem?_eq_getElem (by omega)⟩
            have hat2 : atI ts s.1 = some t2 := atI_of i1 ht2
            have hnum : numAt ts s.1 = t2.2.2 := by unfold numAt; rw [hat2]
            refine ⟨.bl (noughtF turn (numAt ts s.1)), by simp [hsi2], ?_⟩
            rw [hnum]
            exact ev_nought (hw3.mono e4) h0 (Evl.ev_var rfl) (Evl.ea_cons (ev_ixU (ei_bound (Evl.ev_var rfl) (hw3.mono e4) (ev_ixU (evi_of (Evl.ev_var rfl) (tz.mono e4)) Evl.ev_c rfl) hat2) Evl.ev_c rfl) Evl.ea_nil)
        · obtain ⟨q, a, _, b⟩ := hh
          exact ⟨q, a, SqL.of b⟩
      · rw [List.all_map]
        rfl

/-! ### camps -/
structure TopC (K : PySem.W.Frag) : Prop where
  ca : OneTop K "Camps" "camps"
  qu : QTop K
def AnsN (C f : Str) (K : PySem.W.Frag) (H : Hp) (ns : List Int) (v : V) (H2 : Hp) : Prop := ∃ a l, v = .ref a ∧ H a = none ∧ H l = none ∧ l ≠ a ∧ One K H2 C f a l ∧ HasI H2 l ns
theorem ep_ansN {C f : Str} {ns : List Int} (T : OneTop K C f) (h : EvP te σ H (fun v H1 => ∃ l, v = .ref l ∧ LI K H1 l ns)) : EvP (tMake (ga K C) (sp_one_init C f K) [] E0 (tCons te tNil)) σ H (AnsN C f K H ns) :=
  (ep_one (B := fun xs H => xs = ns.map V.int) (fun _ _ _ e h => h) T (h.imp fun v H2 e ⟨l, a, b⟩ => ⟨l, _, a, b, rfl⟩)).imp fun v H2 e ⟨p, l, xs, a, b, c, d, f, g, h⟩ => ⟨p, l, a, b, c, d, f, by rw [h] at g; exact g⟩
theorem AnsN.back {C f : Str} {ns : List Int} {H2 : Hp} (e : Ex H H1) (h : AnsN C f K H1 ns v H2) : AnsN C f K H ns v H2 := by
  obtain ⟨a, l, b1, b2, b3, b4⟩ := h
  exact ⟨a, l, b1, Evl.fresh_back e b2, Evl.fresh_back e b3, b4⟩
theorem AnsQ.back {tie : Int} {ss : List Step} {H2 : Hp} (e : Ex H H1) (h : AnsQ K H1 tie ss v H2) : AnsQ K H tie ss v H2 := by
  obtain ⟨a, l, b1, b2, b3, b4⟩ := h
  exact ⟨a, l, b1, Evl.fresh_back e b2, Evl.fresh_back e b3, b4⟩
def CampV (K : PySem.W.Frag) (H : Hp) (n turn : Int) (ts : List Tie) (v : V) (H2 : Hp) : Prop :=
  (∃ cs, AnsN "Camps" "camps" K H cs v H2 ∧ cs.length ≤ 1000 ∧ campsF n ts turn cs = true) ∨ ∃ tie ss, AnsQ K H tie ss v H2 ∧ ss.length ≤ 1000 ∧ quarrelF ts turn tie ss = true
def sp_camps (K : PySem.W.Frag) : Sp := fun vs H Q _ => ∃ (w : Addr) (n turn : Int) (ts : List Tie), vs = [.ref w] ∧ TopC K ∧ WebAt K H w n ts turn ∧ WebOk n turn ts ∧ RetP (CampV K H n turn ts) H Q
theorem ep_camps {w : Addr} {n turn : Int} {ts : List Tie} (T : TopC K) (h : EvA tl σ H [.ref w]) (hw : WebAt K H w n ts turn) (ok : WebOk n turn ts) : EvP (tCall (sp_camps K) [] E0 tl) σ H (CampV K H n turn ts) :=
  ep_call h fun H1 Q e k => ⟨w, n, turn, ts, rfl, T, hw.mono e, ok, fun v H2 e2 hv => k v H2 e2 (by
    rcases hv with ⟨cs, a, c⟩ | ⟨tie, ss, a, c⟩
    · exact .inl ⟨cs, a.back e, c⟩
    · exact .inr ⟨tie, ss, a.back e, c⟩)⟩
def t_camps (K : PySem.W.Frag) : TS :=
 (tSeq (tAsg tDNewK (gName 1))
 (tSeq (tAsg (tCall (sp_beside K) [] E0 (tCons (tVar 0) (tCons (tUn rNegI (tC (.int 1))) (tCons (tC (.bl true)) tNil)))) (gName 2))
 (tSeq (tFor (iRng1 (tCons (tFld K (tVar 0) "points") tNil)) (gName 3) (tIfS (tB (tDNotIn (tVar 3) (tVar 1))) (tFor (iKeys (tFrz (tCall (sp_reached K) [] E0 (tCons (tVar 0) (tCons (tVar 3) (tCons (tVar 2) tNil)))))) (gName 4) (sDPut (tVar 1) (tVar 4) (tVar 3))) tNext))
 (tSeq (tFor (iEnum K (tCons (tFld K (tVar 0) "bound") tNil)) (gTup K 2 (gCons (gName 5) (gCons (gName 6) gNil))) (tIfS (tAnd (tNot (tB (tMeth (ga K "Web") "is_nought" (sp_Web_is_nought K) [] E0 (tVar 0) (tCons (tOp (rIxT K) (tVar 6) (tC (.int 2))) tNil)))) (tTest (tOp rEq (tDGet (tVar 1) (tOp (rIxT K) (tVar 6) (tC (.int 0)))) (tDGet (tVar 1) (tOp (rIxT K) (tVar 6) (tC (.int 1))))))) (tRet (tMake (ga K "Quarrel") (sp_Quarrel_init K) [] E0 (tCons (tVar 5) (tCons (tCall (sp_way_back K) [] E0 (tCons (tVar 0) (tCons (tCall (sp_reached K) [] E0 (tCons (tVar 0) (tCons (tOp (rIxT K) (tVar 6) (tC (.int 0))) (tCons (tVar 2) tNil)))) (tCons (tOp (rIxT K) (tVar 6) (tC (.int 1))) tNil)))) tNil)))) tNext))
 (tRet (tMake (ga K "Camps") (sp_Camps_init K) [] E0 (tCons (tLc (iRng1 (tCons (tFld K (tVar 0) "points") tNil)) (gName 3) tYes (tDGet (tVar 1) (tVar 3)) [3]) tNil)))))))

theorem NearAt.updD {l f : Addr} {o : HO} {kvs : List (Key × V)} {rows : List (List Step)} (h : NearAt K H l rows) (hf : H f = some (.dK kvs)) : NearAt K (upd H f o) l rows := by
  obtain ⟨ps, a, b⟩ := h
  refine ⟨ps, by rw [upd_ne (ne_of a hf (by intro z; cases z))]; exact a, b.len, b.nd, fun i p row h1 h2 => ?_⟩
  obtain ⟨vs, c, d⟩ := b.at_ i p row h1 h2
  exact ⟨vs, by rw [upd_ne (ne_of c hf (by intro z; cases z))]; exact c, d.updM hf rfl⟩
theorem kvI_app (a b : IM) : kvI (a ++ b) = kvI a ++ kvI b := by unfold kvI; rw [List.map_append]
theorem okF_fr {turn : Int} {i : Nat} {t : Tie} : okF (-1) true turn i t = noughtF turn t.2.2 := by
  have : decide ((i : Int) ≠ -1) = true := decide_eq_true (by omega)
  unfold okF
  rw [this]
  rfl
def lookI (fs : IM) (k : Int) : Int := (fs.lookup k).getD 0
theorem cAt_look {fs : IM} {m : Nat} {k : Int} (h0 : 0 ≤ k) (h1 : k < m) : cAt ((List.range m).map fun i : Nat => lookI fs (i : Int)) k = lookI fs k := by
  unfold cAt
  rw [atI_pos h0, List.getElem?_map, List.getElem?_range (by omega)]
  show lookI fs ((k.toNat : Nat) : Int) = _
  rw [Int.toNat_of_nonneg h0]
theorem rd_camps (vs : List V) (H : Hp) (Q : VK) (E : XK) (h : sp_camps K vs H Q E) : goal (t_camps K) ["web", "found", "near", "point", "other", "at", "tie"] vs H Q := by
  obtain ⟨w, n, turn, ts, rfl, T, hw, ok, k⟩ := h
  have hn0 := ok.n0
  have hn1 := ok.n1
  have hlen := ok.len
  refine q_asgP (P := fun v H2 => ∃ f, v = .ref f ∧ H f = none ∧ H2 f = some (.dK [])) (fun H1 e1 Q' q' => fun p hp => q' _ _ (Ex.new hp) ⟨p, rfl, Evl.fresh_back e1 hp, upd_same⟩) fun v H1 e1 hv => ?_
  obtain ⟨f, rfl, ff, hf1⟩ := hv
  refine q_asgP (ep_beside (w := w) (skip := -1) (n := n) (turn := turn) (fr := true) (ts := ts) (Evl.ea_cons (Evl.ev_var rfl) (Evl.ea_cons (ev_neg Evl.ev_c) (Evl.ea_cons Evl.ev_c Evl.ea_nil))) (hw.mono e1) ⟨by omega, by omega⟩ ok.t0 (by omega) ok.val) fun v H2 e2 hv => ?_
  obtain ⟨l, rfl, hnr⟩ := hv
  have e12 := e1.trans e2
  have hf2 := e2 _ _ hf1
  refine q_seq (f_range (n := n) (Evl.ea_cons (ev_points (Evl.ev_var rfl) (hw.mono e12)) Evl.ea_nil) ⟨by omega, by omega⟩
    (fun i σ' H' => ∃ (fs : IM) (o3 o4 o5 o6 : Option V), σ' = [some (.ref w), some (.ref f), some (.ref l), o3, o4, o5, o6] ∧ Ex H H' ∧ H' f = some (.dK (kvI fs)) ∧ NearAt K H' l (nearF (-1) true n turn ts) ∧ Grp (okF (-1) true turn) ts n i fs)
    (fun H3 e3 => ⟨[], _, _, _, _, rfl, e12.trans e3, e3 _ _ hf2, hnr.mono e3, grp_nil⟩) ?_ ?_)
  · rintro i σ' H' hi ⟨fs, o3, o4, o5, o6, rfl, e, hf, hnr, hG⟩
    refine Evl.s_when (Evl.et_B (ev_dnotinI (Evl.ev_var rfl) (Evl.ev_var rfl) (Rd.of hf))) (fun hb H3 e3 => ?_) fun hb H3 e3 => ?_
    · have hni : (i : Int) ∉ fs.map (·.1) := fun z => by rw [decide_eq_true z] at hb; cases hb
      have hf3 := e3 _ _ hf
      have hnr3 := hnr.mono e3
      have e03 := e.trans e3
      refine f_keysP (P := fun d kvs H4 => ∃ cs, H3 d = none ∧ DTup K H4 kvs cs ∧ Reach ts (nearF (-1) true n turn ts) (i : Int) cs) ?_ fun d kvs H4 e4 hd hP => ?_
      · refine (ep_reached (w := w) (l := l) (start := (i : Int)) (Evl.ea_cons (Evl.ev_var rfl) (Evl.ea_cons (Evl.ev_var rfl) (Evl.ea_cons (Evl.ev_var rfl) Evl.ea_nil))) (hw.mono e03) hnr3 (rows_good ok.val) ⟨by omega, hi⟩ (by omega)).imp fun v H4 e4 hv => ?_
        obtain ⟨d, cs, a1, a2, ⟨kvs, a3, a4⟩, a5⟩ := hv
        exact ⟨d, kvs, a1, a3, cs, a2, a4, a5⟩
      obtain ⟨cs, fd, hcs, hR⟩ := hP
      have hks : kvs.map (·.1) = (keys cs).map Sum.inl := hcs.keys
      have hkl : kvs.length = (keys cs).length := by rw [List.length_map, hcs.length]
      have ndf : d ≠ f := fun z => by rw [z, hf3] at fd; cases fd
      have hG' := hG.grow ok.val hi hni hR
      have hlG := hG'.len
      rw [List.length_append, List.length_map] at hlG
      have ap := hG.apart ok.val ⟨by omega, hi⟩ hni hR
      refine f_keys (d := d) (kvs := kvs) (Ev.toP Evl.ev_c fun H5 e5 => ⟨rfl, e5 _ _ hd⟩)
        (fun od j σ2 H2 => ∃ o4 : Option V, σ2 = [some (.ref w), some (.ref f), some (.ref l), some (.int (i : Int)), o4, o5, o6] ∧ Ex H H2 ∧ H2 d = some (.frz od (.dK kvs)) ∧ H2 f = some (.dK (kvI (fs ++ mark ((keys cs).take j) (i : Int)))) ∧ NearAt K H2 l (nearF (-1) true n turn ts))
        (fun H5 od e5 hd5 => ?_) (fun od j σ2 H2 _ ⟨_, _, _, hd2, _⟩ => hd2) ?_ ?_
      · have hf5 := e5 _ _ (e4 _ _ hf3)
        refine ⟨_, rfl, e03.trans ((e4.trans e5).mut fd), upd_same, ?_, NearAt.updD ((hnr3.mono e4).mono e5) hd5⟩
        rw [upd_ne ndf.symm, hf5]
        simp
      · rintro od j k' w' σ2 H2 hj ⟨o4', rfl, x1, x2, x3, x4⟩
        have hk' : ∃ kk : Int, k' = Sum.inl kk ∧ (keys cs)[j]? = some kk := by
          have q : (kvs.map (·.1))[j]? = some k' := by rw [List.getElem?_map, hj]; rfl
          rw [hks, List.getElem?_map] at q
          cases hc : (keys cs)[j]? with
          | none => rw [hc] at q; cases q
          | some kk =>
            rw [hc] at q
            exact ⟨kk, (Option.some.inj q).symm, rfl⟩
        obtain ⟨kk, rfl, hkk⟩ := hk'
        have hjl : j < (keys cs).length := (List.getElem?_eq_some_iff.mp hkk).1
        have hkm : kk ∈ keys cs := List.mem_of_getElem? hkk
        have htk : (keys cs).take (j + 1) = (keys cs).take j ++ [kk] := by rw [List.take_add_one, hkk]; rfl
        have hnt : kk ∉ (keys cs).take j := by
          have nd := hR.1.nodup
          rw [← List.take_append_drop (j + 1) (keys cs), htk] at nd
          have := (List.nodup_append.mp nd).1
          exact fun z => (List.nodup_append.mp this).2.2 kk z kk (by simp) rfl
        have hnone : valV (kvI (fs ++ mark ((keys cs).take j) (i : Int))) (Sum.inl kk) = none := by
          rw [kvI_look, look_app, look_none.mpr (ap kk hkm), mark_look, if_neg hnt]
          rfl
        refine s_dput (v := .int (i : Int)) (a := f) (i := kk) (Evl.ev_var rfl) (Evl.ev_var rfl) (Evl.ev_var rfl) x3 (by unfold kvI; rw [List.length_map, List.length_append, List.length_map, List.length_take]; rw [List.length_map] at hlG; have hkc : (keys cs).length = cs.length := List.length_map _; omega) fun H6 e6 => ?_
        rw [putK_new _ hnone]
        have x3' := e6 _ _ x3
        refine ⟨_, rfl, (x1.trans e6).mut ff, by rw [upd_ne ndf]; exact e6 _ _ x2, ?_, (x4.mono e6).updD x3'⟩
        rw [upd_same, htk]
        show some (HO.dK _) = some (HO.dK _)
        rw [show mark ((keys cs).take j ++ [kk]) (i : Int) = mark ((keys cs).take j) (i : Int) ++ [(kk, (i : Int))] from List.map_append, ← List.append_assoc, kvI_app (fs ++ mark ((keys cs).take j) (i : Int))]
        rfl
      · rintro od σ2 H2 ⟨o4', rfl, x1, x2, x3, x4⟩
        rw [hkl, List.take_length] at x3
        exact ⟨_, _, _, _, _, rfl, x1, x3, x4, hG'⟩
    · have hmi : (i : Int) ∈ fs.map (·.1) := by simpa using hb
      exact ⟨fs, _, _, _, _, rfl, e.trans e3, e3 _ _ hf, hnr.mono e3, hG.skip hmi⟩
  · rintro σ' H3 ⟨fs, o3, o4, o5, o6, rfl, e3, hf3, hnr3, hG⟩
    dsimp only
    have hw3 := hw.mono e3
    have look_c : ∀ p : Int, 0 ≤ p → p < n → fs.lookup p = some (lookI fs p) := fun p h0 h1 => by
      have hm := hG.done p h0 (by omega)
      rw [← look_mem] at hm
      unfold lookI
      cases hc : fs.lookup p with
      | none => rw [hc] at hm; cases hm
      | some c => rfl
    obtain ⟨bl, ⟨us, hq, hT⟩, hbe⟩ := hw3.bound
    have hul : us.length = ts.length := by rw [hT.length, List.length_map]
    refine q_seq (f_enum (a := bl) (xs := us) (hbe (Evl.ev_var rfl)) hq
      (fun i σ' H' => ∃ (o5 o6 : Option V), σ' = [some (.ref w), some (.ref f), some (.ref l), o3, o4, o5, o6] ∧ Ex H3 H' ∧ ∀ (j : Nat) (t : Tie), j < i → ts[j]? = some t → noughtF turn t.2.2 = false → lookI fs t.1 ≠ lookI fs t.2.1)
      (fun H4 e4 => ⟨_, _, rfl, e4, fun j t hj => by omega⟩) (fun i σ' H' _ ⟨_, _, _, e, _⟩ => Evl.ex_l e hq) ?_ ?_)
    · rintro i x σ' H' H4 hx ⟨o5, o6, rfl, e, hall⟩ e4
      obtain ⟨z, hz, tz⟩ := (hT.mono (e.trans e4)).getV hx
      rw [List.getElem?_map] at hz
      cases hti : ts[i]? with
      | none => rw [hti] at hz; cases hz
      | some tt =>
        rw [hti] at hz
        cases hz
        obtain ⟨v1, v2, v3⟩ := ok.val tt (List.mem_of_getElem? hti)
        have x4 : Ex H3 H4 := e.trans e4
        have hf4 := x4 _ _ hf3
        have hw4 := hw3.mono x4
        have l1 := look_c tt.1 v1.1 v1.2
        have l2 := look_c tt.2.1 v2.1 v2.2
        refine Evl.s_when (b := !noughtF turn tt.2.2 && decide (lookI fs tt.1 = lookI fs tt.2.1)) (Evl.et_and (Evl.et_not (Evl.et_B (ev_nought hw4 ok.t0 (Evl.ev_var rfl) (Evl.ea_cons (ev_ixU (evi_of (Evl.ev_var rfl) tz) Evl.ev_c rfl) Evl.ea_nil)))) fun _ => Evl.et_test (Evl.ev_op (ev_dgetI (Evl.ev_var rfl) (ev_ixU (evi_of (Evl.ev_var rfl) tz) Evl.ev_c rfl) (Rd.of hf4) l1) (ev_dgetI (Evl.ev_var rfl) (ev_ixU (evi_of (Evl.ev_var rfl) tz) Evl.ev_c rfl) (Rd.of hf4) l2) rv_eqI)) (fun hb H5 e5 => ?_) fun hb H5 e5 => ?_
        · rw [Bool.and_eq_true] at hb
          have hnn : noughtF turn tt.2.2 = false := by simpa using hb.1
          have hsame : lookI fs tt.1 = lookI fs tt.2.1 := of_decide_eq_true hb.2
          have x5 := x4.trans e5
          have big := e3.trans x5
          have tz5 := tz.mono e5
          have hw5 := hw4.mono e5
          have hnr5 := hnr3.mono x5
          refine s_retP (P := fun v H6 => ∃ ss : List Step, (ss.length ≤ 1000 ∧ quarrelF ts turn (i : Int) ss = true) ∧ AnsQ K H5 (i : Int) ss v H6) ?_ fun v H6 e6 hv => ?_
          · intro H6 e6 Q6 q6
            have hrc := ep_reached (K := K) (tl := tCons (tVar 0) (tCons (tOp (rIxT K) (tVar 6) (tC (.int 0))) (tCons (tVar 2) tNil))) (σ := [some (.ref w), some (.ref f), some (.ref l), o3, o4, some (.int (i : Int)), some x]) (H := H5) (w := w) (l := l) (start := tt.1) (Evl.ea_cons (Evl.ev_var rfl) (Evl.ea_cons (ev_ixU (evi_of (Evl.ev_var rfl) tz5) Evl.ev_c rfl) (Evl.ea_cons (Evl.ev_var rfl) Evl.ea_nil))) hw5 hnr5 (rows_good ok.val) ⟨v1.1, v1.2⟩ (by omega)
            refine ⟨_, rfl, _, rfl, hrc H6 e6 _ fun v7 H7 e7 hv7 => ?_⟩
            obtain ⟨d, cs, rfl, fd, hD, hR⟩ := hv7
            obtain ⟨kvs, hk1, hk2⟩ := id hD
            have x7 := e6.trans e7
            -- the other end is come to
            have hS := reach_shut ok.val hR
            have m1 : tt.1 ∈ keys cs := start_in hR.1
            have m2 : tt.2.1 ∈ keys cs := (hG.conn _ _ l2 _ hS).mpr (hsame ▸ (hG.conn _ _ l1 _ hS).mp m1)
            obtain ⟨r, ps, c, hp⟩ := tree_path ok.val ⟨v1.1, v1.2⟩ hR.1 tt.2.1 m2
            have hcl : cs.length ≤ n.toNat := hR.1.len (rows_good ok.val) ⟨v1.1, v1.2⟩
            have hrl := hp.len
            have hwb := ep_way_back (K := K) (tl := tCons (tVar 0) (tCons (tC (.ref d)) (tCons (tOp (rIxT K) (tVar 6) (tC (.int 1))) tNil))) (σ := [some (.ref w), some (.ref f), some (.ref l), o3, o4, some (.int (i : Int)), some x]) (H := H7) (w := w) (d := d) (k := tt.2.1) (n := n) (turn := turn) (ts := ts) (kvs := kvs) (cs := cs) (r := r) (Evl.ea_cons (Evl.ev_var rfl) (Evl.ea_cons Evl.ev_c (Evl.ea_cons (ev_ixU (evi_of (Evl.ev_var rfl) (tz5.mono x7)) Evl.ev_c rfl) Evl.ea_nil))) (hw5.mono x7) (Rd.of hk1) hk2 hp.back (by omega)
            have mk := ep_qu (K := K) (ta := tC (.int (i : Int))) (te := tCall (sp_way_back K) [] E0 (tCons (tVar 0) (tCons (tC (.ref d)) (tCons (tOp (rIxT K) (tVar 6) (tC (.int 1))) tNil)))) (σ := [some (.ref w), some (.ref f), some (.ref l), o3, o4, some (.int (i : Int)), some x]) (H := H7) (tie := (i : Int)) (ss := r.reverse) T.qu Evl.ev_c hwb
            have mk2 := mk H7 (Ex.refl H7) Q6 fun v8 H8 e8 hv8 => q6 v8 H8 (e7.trans e8) ⟨r.reverse, ⟨by rw [List.length_reverse]; omega, ?_⟩, hv8.back x7⟩
            · obtain ⟨_, e9, rest⟩ := mk2
              cases e9
              exact rest
            · unfold quarrelF
              have hil : i < ts.length := (List.getElem?_eq_some_iff.mp hti).1
              rw [if_pos ⟨by omega, by omega⟩, show ((i : Int)).toNat = i from Int.toNat_natCast i, hti]
              show (!(noughtF turn tt.2.2 || !straightF ts tt.1 r.reverse tt.2.1) && r.reverse.all fun s => noughtF turn (numAt ts s.1)) = true
              rw [hnn, path_straight hp, Bool.false_or, Bool.not_true, Bool.not_false, Bool.true_and, List.all_eq_true]
              intro s hs
              obtain ⟨i2, t2, g1, g2, g3⟩ := hp.ok_ s (List.mem_reverse.mp hs)
              rw [okF_fr] at g2
              have : numAt ts s.1 = t2.2.2 := by
                unfold numAt
                rw [g3, atI_of (by omega) (w := t2) (by rw [Int.toNat_natCast]; exact g1)]
              rw [this]
              exact g2
          · obtain ⟨ss, ⟨g1, g2⟩, hv⟩ := hv
            exact k v H6 (big.trans e6) (.inr ⟨(i : Int), ss, hv.back big, g1, g2⟩)
        · refine ⟨_, _, rfl, x4.trans e5, fun j t hj htj hno => ?_⟩
          by_cases hji : j = i
          · subst hji
            rw [hti] at htj
            cases htj
            rw [hno, Bool.not_false, Bool.true_and] at hb
            exact of_decide_eq_false hb
          · exact hall j t (by omega) htj hno
    · rintro σ' H4 ⟨o5, o6, rfl, e4, hall⟩
      dsimp only
      have hnn : ((n.toNat : Nat) : Int) = n := Int.toNat_of_nonneg (by omega)
      have hf4 := e4 _ _ hf3
      have hw4 := hw3.mono e4
      have hcs : campsF n ts turn ((List.range n.toNat).map fun i : Nat => lookI fs (i : Int)) = true := by
        unfold campsF
        rw [Bool.and_eq_true]
        refine ⟨decide_eq_true (by simp [hnn]), ?_⟩
        rw [List.all_eq_true]
        intro t ht
        obtain ⟨j, hj⟩ := List.mem_iff_getElem?.mp ht
        have hjl : j < ts.length := (List.getElem?_eq_some_iff.mp hj).1
        obtain ⟨v1, v2, v3⟩ := ok.val t ht
        rw [cAt_look v1.1 (by omega), cAt_look v2.1 (by omega)]
        cases hno : noughtF turn t.2.2 with
        | true =>
          have := hG.shut j t hj (by rw [okF_fr]; exact hno)
          have e : lookI fs t.1 = lookI fs t.2.1 := by unfold lookI; rw [this]
          rw [decide_eq_true e]
          rfl
        | false =>
          rw [decide_eq_false (hall j t (by omega) hj hno)]
          rfl
      refine s_retP (ep_ansN (ns := (List.range n.toNat).map fun i : Nat => lookI fs (i : Int)) T.ca ((lc_rng (n := n.toNat) (j := 3) (ys := ((List.range n.toNat).map fun i : Nat => lookI fs (i : Int)).map V.int) (Evl.ea_cons ?_ Evl.ea_nil) (by omega) (by simp) (fun _ => rfl) fun i H5 e5 hi => ⟨.int (lookI fs (i : Int)), by simp [hi], ?_⟩).imp fun v H5 e5 ⟨p, a1, _, a3⟩ => ⟨p, a1, li_of a3⟩)) fun v H5 e5 hv => k v H5 (e3.trans (e4.trans e5)) (.inl ⟨_, hv.back (e3.trans e4), by simp; omega, hcs⟩)
      · rw [hnn]
        exact ev_points (Evl.ev_var rfl) hw4
      · exact ev_dgetI (Evl.ev_var rfl) (Evl.ev_var rfl) (Rd.of (e5 _ _ hf4)) (look_c _ (by omega) (by omega))
end G

/-! Plain laws: a tie that doesn't fit the heights of a tree makes a ring. -/
namespace G
open PySem L2

/-! ### walks as a relation -/
/-- from p by ss to q: the points behind p, the climb -/
inductive Wk (ts : List Tie) : Int → List Step → List Int → Int → Int → Prop
  | nil {p : Int} : Wk ts p [] [] p 0
  | cons {p q b c d : Int} {s : Step} {ss : List Step} {ps : List Int} : stepF ts p s = (b, d) → 0 ≤ b → Wk ts b ss ps q c → Wk ts p (s :: ss) (b :: ps) q (d + c)
theorem Wk.walkA {ts : List Tie} {p q c : Int} {ss : List Step} {ps : List Int} (h : Wk ts p ss ps q c) : ∀ (pre : List Int) (c0 : Int), walkA ts pre p c0 ss = some (pre ++ p :: ps, c0 + c) := by
  induction h with
  | nil =>
    intro pre c0
    simp [G.walkA]
  | cons h h0 hw ih =>
    intro pre c0
    rename_i p q b c d s ss ps
    show (if (stepF ts p s).1 < 0 then none else G.walkA ts (pre ++ [p]) (stepF ts p s).1 (c0 + (stepF ts p s).2) ss) = _
    rw [h]
    show (if b < 0 then none else G.walkA ts (pre ++ [p]) b (c0 + d) ss) = _
    rw [if_neg (by omega), ih]
    simp
    omega
theorem Wk.walkF {ts : List Tie} {p q c : Int} {ss : List Step} {ps : List Int} (h : Wk ts p ss ps q c) : walkF ts p ss = some (p :: ps, c) := by
  unfold G.walkF
  rw [h.walkA [] 0]
  simp
theorem Wk.last {ts : List Tie} {p q c : Int} {ss : List Step} {ps : List Int} (h : Wk ts p ss ps q c) : (p :: ps).getLast? = some q := by
  induction h with
  | nil => rfl
  | cons h h0 hw ih =>
    rename_i p q b c d s ss ps
    rw [List.getLast?_cons_cons]
    exact ih
theorem Wk.append {ts : List Tie} {p q c : Int} {ss : List Step} {ps : List Int} (h : Wk ts p ss ps q c) {r d : Int} {ss2 : List Step} {ps2 : List Int} (g : Wk ts q ss2 ps2 r d) : Wk ts p (ss ++ ss2) (ps ++ ps2) r (c + d) := by
  induction h with
  | nil =>
    rw [Int.zero_add]
    exact g
  | cons h h0 hw ih =>
    rw [Int.add_assoc]
    exact .cons h h0 (ih g)

/-! ### a way up a tree -/
/-- from k up to q: the steps (the last first), the points below q -/
inductive Seg (ts : List Tie) (cs : List (Int × List Int)) (q : Int) : Int → List Step → List Int → Prop
  | nil : Seg ts cs q q [] []
  | cons {k : Int} {s : Step} {b : List Step} {ps : List Int} : cs.lookup k = some (stepL s) → Seg ts cs q (stepF ts k (s.1, -s.2)).1 b ps → Seg ts cs q k (s :: b) (k :: ps)
/-- what each point but the root knows -/
def UpOk (ok : OkT) (ts : List Tie) (n : Int) (cs : List (Int × List Int)) : Prop := ∀ (k : Int) (s : Step), cs.lookup k = some (stepL s) → 0 ≤ k ∧ StepOf ok ts n (stepF ts k (s.1, -s.2)).1 s k ∧ (stepF ts k (s.1, -s.2)).1 ∈ keys cs ∧ 0 ≤ (stepF ts k (s.1, -s.2)).1
theorem stepL_inj {s s' : Step} (h : stepL s = stepL s') : s = s' := by
  obtain ⟨a, b⟩ := s
  obtain ⟨c, d⟩ := s'
  simp [stepL] at h
  rw [h.1, h.2]
theorem Seg.head {ts : List Tie} {cs : List (Int × List Int)} {q k : Int} {b : List Step} {ps : List Int} (h : Seg ts cs q k b ps) : ∃ r, ps ++ [q] = k :: r := by
  cases h with
  | nil => exact ⟨[], rfl⟩
  | cons h g => exact ⟨_, rfl⟩
theorem Seg.nil_eq {ts : List Tie} {cs : List (Int × List Int)} {q k : Int} {ps : List Int} (h : Seg ts cs q k [] ps) : k = q ∧ ps = [] := by
  cases h
  exact ⟨rfl, rfl⟩
theorem Seg.len {ts : List Tie} {cs : List (Int × List Int)} {q k : Int} {b : List Step} {ps : List Int} (h : Seg ts cs q k b ps) : ps.length = b.length := by
  induction h with
  | nil => rfl
  | cons _ _ ih => exact congrArg Nat.succ ih
/-- heights along the tree -/
def HOk (ts : List Tie) (cs : List (Int × List Int)) (h : Int → Int) : Prop := ∀ (k : Int) (s : Step), cs.lookup k = some (stepL s) → h k = h (stepF ts k (s.1, -s.2)).1 + (stepF ts (stepF ts k (s.1, -s.2)).1 s).2
theorem StepOf.num {ok : OkT} {ts : List Tie} {n a b : Int} {s : Step} (h : StepOf ok ts n a s b) : stepF ts a s = (b, (stepF ts a s).2) := by
  have := h.to
  exact Prod.ext this rfl
theorem StepOf.flip {ok : OkT} {ts : List Tie} {n a b : Int} {s : Step} (h : StepOf ok ts n a s b) : stepF ts b (s.1, -s.2) = (a, -(stepF ts a s).2) := by
  obtain ⟨i, t, h1, h2, h3, h4⟩ := h.tie
  obtain ⟨s1, s2⟩ := s
  simp only at h3 h4
  subst h3
  rcases h4 with ⟨rfl, rfl, rfl⟩ | ⟨rfl, rfl, rfl⟩
  · show stepF ts t.2.1 ((i : Int), -1) = _
    rw [stepF_back h1, stepF_fwd h1]
  · show stepF ts t.1 ((i : Int), - -1) = _
    rw [show (- -1 : Int) = 1 from rfl, stepF_fwd h1, stepF_back h1]
    simp
def flipS (s : Step) : Step := (s.1, -s.2)
theorem Seg.down {ok : OkT} {ts : List Tie} {n q k : Int} {cs : List (Int × List Int)} {b : List Step} {ps : List Int} {h : Int → Int} (U : UpOk ok ts n cs) (hh : HOk ts cs h) (hs : Seg ts cs q k b ps) : Wk ts q b.reverse ps.reverse k (h k - h q) := by
  induction hs with
  | nil =>
    rw [Int.sub_self]
    exact .nil
  | cons hl hg ih =>
    rename_i k s b ps
    obtain ⟨k0, st, _, p0⟩ := U k s hl
    have e := hh k s hl
    rw [List.reverse_cons, List.reverse_cons]
    have w := ih.append (.cons st.num k0 .nil)
    have ec : h (stepF ts k (s.1, -s.2)).1 - h q + ((stepF ts (stepF ts k (s.1, -s.2)).1 s).2 + 0) = h k - h q := by omega
    rw [ec] at w
    exact w
theorem Seg.up {ok : OkT} {ts : List Tie} {n q k : Int} {cs : List (Int × List Int)} {b : List Step} {ps : List Int} {h : Int → Int} (U : UpOk ok ts n cs) (hh : HOk ts cs h) (hs : Seg ts cs q k b ps) : Wk ts k (b.map flipS) (ps ++ [q]).tail q (h q - h k) := by
  induction hs with
  | nil =>
    rw [Int.sub_self]
    exact .nil
  | cons hl hg ih =>
    rename_i k s b ps
    obtain ⟨k0, st, _, p0⟩ := U k s hl
    have e := hh k s hl
    obtain ⟨r, hr⟩ := hg.head
    have w := Wk.cons st.flip p0 ih
    have ec : -(stepF ts (stepF ts k (s.1, -s.2)).1 s).2 + (h q - h (stepF ts k (s.1, -s.2)).1) = h q - h k := by omega
    rw [ec] at w
    rw [hr, List.tail_cons] at w
    show Wk ts k (flipS s :: b.map flipS) (ps ++ [q]) q (h q - h k)
    rw [hr]
    exact w
/-- parting: two ways up that end in the same steps -/
theorem Back.unique {ts : List Tie} {cs : List (Int × List Int)} {k : Int} {r r' : List Step} (h : Back ts cs k r) (g : Back ts cs k r') : r = r' := by
  induction h generalizing r' with
  | stop h =>
    cases g with
    | stop _ => rfl
    | go g _ =>
      rw [h] at g
      exact absurd (Option.some.inj g) (by simp [stepL])
  | go h _ ih =>
    cases g with
    | stop g =>
      rw [h] at g
      exact absurd (Option.some.inj g) (by simp [stepL])
    | go g hb =>
      rw [h] at g
      have e := stepL_inj (Option.some.inj g)
      subst e
      rw [ih hb]
/-- a way up, cut: the part below, the part above -/
theorem Back.cut {ts : List Tie} {cs : List (Int × List Int)} {c : List Step} : ∀ {a : List Step} {k : Int}, Back ts cs k (a ++ c) → ∃ q ps, Seg ts cs q k a ps ∧ Back ts cs q c ∧ ∀ (i : Nat) (x : Int), ps[i]? = some x → i < a.length ∧ Back ts cs x (a.drop i ++ c)
  | [], k, h => ⟨k, [], .nil, h, fun i x hx => by simp at hx⟩
  | s :: a, k, h => by
    cases h with
    | go hl hb =>
      obtain ⟨q, ps, h1, h2, h3⟩ := hb.cut
      refine ⟨q, k :: ps, .cons hl h1, h2, fun i x hx => ?_⟩
      cases i with
      | zero =>
        simp at hx
        subst hx
        exact ⟨by simp, .go hl hb⟩
      | succ i =>
        obtain ⟨g1, g2⟩ := h3 i x (by simpa using hx)
        exact ⟨by simp; omega, by simpa using g2⟩

theorem root_key {ts : List Tie} {rows : List (List Step)} {start : Int} {cs : List (Int × List Int)} (h : Tree ts rows start cs) : ∀ k, cs.lookup k = some [] → k = start := by
  induction h with
  | root =>
    intro k hk
    by_cases e : k = start
    · exact e
    · have hb : (k == start) = false := by simpa using e
      simp [List.lookup, hb] at hk
  | grow h ha hs hn ih =>
    intro k hk
    rw [look_app] at hk
    split at hk
    · exact ih k hk
    · rename_i cs a s _
      have hk2 : (match k == (stepF ts a s).1 with | true => some (stepL s) | false => none) = some ([] : List Int) := hk
      split at hk2
      · exact absurd (Option.some.inj hk2) (by simp [stepL])
      · cases hk2
/-- each point of a tree but the root: its parent, its step -/
theorem tree_up {ok : OkT} {ts : List Tie} {n start : Int} {cs : List (Int × List Int)} (hv : Valid n ts) (h0 : 0 ≤ start ∧ start < n) (h : Tree ts (rowsUp ok n ts ts.length) start cs) : UpOk ok ts n cs := by
  have g := rows_good (ok := ok) hv
  induction h with
  | root =>
    intro k s hk
    have hk2 : (match k == start with | true => some ([] : List Int) | false => none) = some (stepL s) := hk
    split at hk2
    · exact absurd (Option.some.inj hk2).symm (by simp [stepL])
    · cases hk2
  | grow h ha hs hn ih =>
    rename_i cs a s
    intro k s' hk
    have hr := h.range g h0
    rw [look_app] at hk
    split at hk
    · obtain ⟨b1, b2, b3, b4⟩ := ih k s' hk
      exact ⟨b1, b2, by simp only [keys, List.map_append, List.mem_append]; exact .inl b3, b4⟩
    · have hk2 : (match k == (stepF ts a s).1 with | true => some (stepL s) | false => none) = some (stepL s') := hk
      split at hk2
      · rename_i hkk
        have ek : k = (stepF ts a s).1 := by simpa using hkk
        have es : s = s' := stepL_inj (Option.some.inj hk2)
        subst es
        obtain ⟨b, sb⟩ := rows_step hv (hr a ha).1 hs
        rw [sb.to] at ek
        subst ek
        rw [sb.back]
        exact ⟨sb.lo, sb, by simp only [keys, List.map_append, List.mem_append]; exact .inl ha, (hr a ha).1⟩
      · cases hk2
theorem Back.end_ {ok : OkT} {ts : List Tie} {rows : List (List Step)} {n start : Int} {cs : List (Int × List Int)} (U : UpOk ok ts n cs) (hT : Tree ts rows start cs) : ∀ {c : List Step} {k k' : Int}, Back ts cs k c → Back ts cs k' c → k = k'
  | [], k, k', h, g => by
    cases h with
    | stop h =>
      cases g with
      | stop g => rw [root_key hT k h, root_key hT k' g]
  | s :: c, k, k', h, g => by
    cases h with
    | go hl hb =>
      cases g with
      | go gl gb =>
        have e := Back.end_ U hT hb gb
        have t1 := (U k s hl).2.1.to
        have t2 := (U k' s gl).2.1.to
        rw [← t1, ← t2, e]
theorem Seg.zip {ts : List Tie} {cs : List (Int × List Int)} {q k : Int} {b : List Step} {ps : List Int} (h : Seg ts cs q k b ps) : ∃ zs : List (Int × Step), ps = zs.map (·.1) ∧ b = zs.map (·.2) ∧ ∀ z ∈ zs, cs.lookup z.1 = some (stepL z.2) := by
  induction h with
  | nil => exact ⟨[], rfl, rfl, by simp⟩
  | cons hl hg ih =>
    rename_i k s b ps
    obtain ⟨zs, h1, h2, h3⟩ := ih
    refine ⟨(k, s) :: zs, by rw [h1]; rfl, by rw [h2]; rfl, fun z hz => ?_⟩
    rcases List.mem_cons.mp hz with rfl | hz
    · exact hl
    · exact h3 z hz
/-- two points of a tree have not come by the same tie -/
theorem tie_once {ok : OkT} {ts : List Tie} {n : Int} {cs : List (Int × List Int)} (U : UpOk ok ts n cs) (hb : ∀ k ∈ keys cs, ∃ r, Back ts cs k r) {k k' : Int} {s s' : Step} (h : cs.lookup k = some (stepL s)) (h' : cs.lookup k' = some (stepL s')) (hne : k ≠ k') : s.1 ≠ s'.1 := by
  intro e
  obtain ⟨_, st, p1, _⟩ := U k s h
  obtain ⟨_, st', p1', _⟩ := U k' s' h'
  obtain ⟨i, t, g1, g2, g3, g4⟩ := st.tie
  obtain ⟨i', t', g1', g2', g3', g4'⟩ := st'.tie
  have ei : i = i' := by omega
  subst ei
  rw [g1] at g1'
  cases g1'
  have par : (stepF ts k (s.1, -s.2)).1 = k' ∧ (stepF ts k' (s'.1, -s'.2)).1 = k := by
    rcases g4 with ⟨_, x1, x2⟩ | ⟨_, x1, x2⟩ <;> rcases g4' with ⟨_, y1, y2⟩ | ⟨_, y1, y2⟩
    · exact absurd (x2.symm.trans y2) hne
    · exact ⟨by rw [← x1, y2], by rw [← y1, x2]⟩
    · exact ⟨by rw [← x1, y2], by rw [← y1, x2]⟩
    · exact absurd (x2.symm.trans y2) hne
  have hk : k ∈ keys cs := look_mem.mp (by rw [h]; rfl)
  obtain ⟨r, hr⟩ := hb k hk
  cases hr with
  | stop z => rw [h] at z; exact absurd (Option.some.inj z) (by simp [stepL])
  | go z hr2 =>
    rename_i s2 r2
    rw [h] at z
    have := stepL_inj (Option.some.inj z)
    subst this
    rw [par.1] at hr2
    cases hr2 with
    | stop z2 => rw [h'] at z2; exact absurd (Option.some.inj z2) (by simp [stepL])
    | go z2 hr3 =>
      rename_i s3 r3
      rw [h'] at z2
      have := stepL_inj (Option.some.inj z2)
      subst this
      rw [par.2] at hr3
      have := Back.unique (.go h (by rw [par.1]; exact .go h' (by rw [par.2]; exact hr3))) hr3
      have hl := congrArg List.length this
      simp at hl
      omega
theorem ucount_fold (ns : List Int) : ucount ns = (ns.foldl PyProof.Rows.step_dedup []).length := by
  unfold ucount PyProof.Rows.firstMet
  have : (List.range ns.length).map (fun i => ns.getD i 0) = ns := by
    refine List.ext_getElem? fun i => ?_
    rw [List.getElem?_map]
    by_cases h : i < ns.length
    · rw [List.getElem?_range h, List.getElem?_eq_getElem h]
      simp [h]
    · rw [List.getElem?_eq_none_iff.mpr (by simp; omega), List.getElem?_eq_none_iff.mpr (by omega)]
      rfl
  rw [this]
theorem fold_nodup {ns : List Int} (h : ns.Nodup) : ns.foldl PyProof.Rows.step_dedup [] = ns := by
  have h1 := RZ.firstMet_nodup h ns.length (Nat.le_refl _)
  rw [List.take_length] at h1
  unfold PyProof.Rows.firstMet at h1
  have : (List.range ns.length).map (fun i => ns.getD i 0) = ns := by
    refine List.ext_getElem? fun i => ?_
    rw [List.getElem?_map]
    by_cases h : i < ns.length
    · rw [List.getElem?_range h, List.getElem?_eq_getElem h]
      simp [h]
    · rw [List.getElem?_eq_none_iff.mpr (by simp; omega), List.getElem?_eq_none_iff.mpr (by omega)]
      rfl
  rw [this] at h1
  exact h1
theorem ucount_round {ns : List Int} {x : Int} (h : ns.Nodup) (hx : x ∈ ns) : ucount (ns ++ [x]) = ns.length := by
  rw [ucount_fold, List.foldl_append, fold_nodup h]
  show (PyProof.Rows.step_dedup ns x).length = ns.length
  unfold PyProof.Rows.step_dedup
  rw [if_pos (by rw [List.any_eq_true]; exact ⟨x, hx, by simp⟩)]

/-! ### the ring -/
def firstF (ts : List Tie) (s : Step) : Int := if 0 ≤ s.1 ∧ s.1 < ts.length then
    (match ts[s.1.toNat]? with
    | some t => if s.2 = 1 then t.1 else t.2.1
    | none => -1)
  else -1
def ringF (ts : List Tie) (turn : Int) (ss : List Step) : Bool := decide (2 ≤ ss.length) && (match ss with
  | [] => false
  | s :: _ => (match walkF ts (firstF ts s) ss with
    | none => false
    | some r => decide (r.1.getLast? = some (firstF ts s)) && (!noughtF turn r.2 && (decide (ucount (ss.map (·.1)) = ss.length) && decide (ucount r.1 + 1 = r.1.length)))))
theorem nought_neg {turn x : Int} : noughtF turn (-x) = noughtF turn x := by
  unfold noughtF
  split
  · exact decide_eq_decide.mpr (by omega)
  · refine decide_eq_decide.mpr ?_
    rw [← Int.dvd_iff_emod_eq_zero, ← Int.dvd_iff_emod_eq_zero, Int.dvd_neg]
theorem nought_zero {turn : Int} : noughtF turn 0 = true := by unfold noughtF; split <;> simp
theorem firstF_of {ok : OkT} {ts : List Tie} {n a b : Int} {s : Step} (h : StepOf ok ts n a s b) : firstF ts s = a := by
  obtain ⟨i, t, h1, h2, h3, h4⟩ := h.tie
  have hl := (List.getElem?_eq_some_iff.mp h1).1
  unfold firstF
  rw [h3, if_pos ⟨by omega, by omega⟩, Int.toNat_natCast, h1]
  rcases h4 with ⟨e, x1, _⟩ | ⟨e, x1, _⟩
  · show (if s.2 = 1 then t.1 else t.2.1) = a
    rw [if_pos e]
    exact x1
  · show (if s.2 = 1 then t.1 else t.2.1) = a
    rw [if_neg (by omega)]
    exact x1
theorem nodup_at {ps : List Int} (h : ∀ (m m' : Nat) (x : Int), ps[m]? = some x → ps[m']? = some x → m = m') : ps.Nodup := by
  rw [List.nodup_iff_pairwise_ne, List.pairwise_iff_getElem]
  intro i j hi hj hij e
  have := h i j ps[i] (List.getElem?_eq_getElem hi) (by rw [e]; exact List.getElem?_eq_getElem hj)
  omega
theorem ring_of {ok : OkT} {ts : List Tie} {rows : List (List Step)} {n turn start : Int} {cs : List (Int × List Int)} {h : Int → Int} {i : Nat} {tt : Tie} {a b c : List Step} (hv : Valid n ts) (hT : Tree ts rows start cs) (U : UpOk ok ts n cs) (hb : ∀ k ∈ keys cs, ∃ r, Back ts cs k r) (hh : HOk ts cs h)
    (ht : ts[i]? = some tt) (hn : noughtF turn (h tt.2.1 - h tt.1 - tt.2.2) = false) (h1 : Back ts cs tt.1 (a ++ c)) (h2 : Back ts cs tt.2.1 (b ++ c)) (hd : a = [] ∨ b = [] ∨ a.getLast? ≠ b.getLast?) :
    ringF ts turn (a.reverse ++ [((i : Int), 1)] ++ b.map flipS) = true := by
  obtain ⟨v1, v2, v3⟩ := hv tt (List.mem_of_getElem? ht)
  obtain ⟨q, pa, sa, ba, xa⟩ := h1.cut
  obtain ⟨q', pb, sb, bb, xb⟩ := h2.cut
  have eq := Back.end_ U hT bb ba
  subst eq
  obtain ⟨za, ea1, ea2, ea3⟩ := sa.zip
  obtain ⟨zb, eb1, eb2, eb3⟩ := sb.zip
  have la := sa.len
  have lb := sb.len
  -- the points are all different
  have nda : pa.Nodup := by
    refine nodup_at fun m m' x hx hx' => ?_
    obtain ⟨g1, g2⟩ := xa m x hx
    obtain ⟨g3, g4⟩ := xa m' x hx'
    have := congrArg List.length (g2.unique g4)
    rw [List.length_append, List.length_append, List.length_drop, List.length_drop] at this
    omega
  have ndb : pb.Nodup := by
    refine nodup_at fun m m' x hx hx' => ?_
    obtain ⟨g1, g2⟩ := xb m x hx
    obtain ⟨g3, g4⟩ := xb m' x hx'
    have := congrArg List.length (g2.unique g4)
    rw [List.length_append, List.length_append, List.length_drop, List.length_drop] at this
    omega
  have qa : q' ∉ pa := fun z => by
    obtain ⟨m, hm⟩ := List.mem_iff_getElem?.mp z
    obtain ⟨g1, g2⟩ := xa m q' hm
    have := congrArg List.length (g2.unique ba)
    rw [List.length_append, List.length_drop] at this
    omega
  have qb : q' ∉ pb := fun z => by
    obtain ⟨m, hm⟩ := List.mem_iff_getElem?.mp z
    obtain ⟨g1, g2⟩ := xb m q' hm
    have := congrArg List.length (g2.unique ba)
    rw [List.length_append, List.length_drop] at this
    omega
  have dis : ∀ x ∈ pa, x ∉ pb := fun x hx hx' => by
    obtain ⟨m, hm⟩ := List.mem_iff_getElem?.mp hx
    obtain ⟨m', hm'⟩ := List.mem_iff_getElem?.mp hx'
    obtain ⟨g1, g2⟩ := xa m x hm
    obtain ⟨g3, g4⟩ := xb m' x hm'
    have e := List.append_cancel_right (g2.unique g4)
    have l1 : (a.drop m).getLast? = a.getLast? := by rw [List.getLast?_drop, if_neg (by omega)]
    have l2 : (b.drop m').getLast? = b.getLast? := by rw [List.getLast?_drop, if_neg (by omega)]
    rcases hd with hd | hd | hd
    · rw [hd] at g1; simp at g1
    · rw [hd] at g3; simp at g3
    · exact hd (by rw [← l1, ← l2, e])
  have ndp : (q' :: (pa.reverse ++ pb)).Nodup := by
    rw [List.nodup_cons, List.nodup_append, List.mem_append, List.mem_reverse]
    exact ⟨fun z => z.elim qa qb, (List.reverse_perm pa).nodup_iff.mpr nda, ndb, fun x hx y hy e => dis x (List.mem_reverse.mp hx) (e ▸ hy)⟩
  -- the walk
  have w1 := sa.down U hh
  have w2 : Wk ts tt.1 [((i : Int), 1)] [tt.2.1] tt.2.1 (tt.2.2 + 0) := .cons (stepF_fwd ht) v2.1 .nil
  have w3 := sb.up U hh
  have w0 := (w1.append w2).append w3
  obtain ⟨rr, hrr⟩ := sb.head
  rw [hrr, List.tail_cons] at w0
  have w : Wk ts q' (a.reverse ++ [((i : Int), 1)] ++ b.map flipS) (pa.reverse ++ (pb ++ [q'])) q' (h tt.1 - h q' + (tt.2.2 + 0) + (h q' - h tt.2.1)) := by
    rw [hrr]
    have e : pa.reverse ++ tt.2.1 :: rr = pa.reverse ++ [tt.2.1] ++ rr := by simp
    rw [e]
    exact w0
  have hcl : noughtF turn (h tt.1 - h q' + (tt.2.2 + 0) + (h q' - h tt.2.1)) = false := by
    rw [← hn, ← nought_neg]
    congr 1
    omega
  generalize h tt.1 - h q' + (tt.2.2 + 0) + (h q' - h tt.2.1) = climb at w hcl
  -- the ties
  have nt : ∀ (k : Int) (s : Step), cs.lookup k = some (stepL s) → s.1 ≠ (i : Int) := fun k s hk e => by
    obtain ⟨k0, st, _, _⟩ := U k s hk
    have hk2 := hh k s hk
    obtain ⟨j, t, g1, g2, g3, g4⟩ := st.tie
    have ej : j = i := by omega
    subst ej
    rw [ht] at g1
    cases g1
    obtain ⟨s1, s2⟩ := s
    simp only at g3
    subst g3
    have : h tt.2.1 - h tt.1 - tt.2.2 = 0 := by
      rcases g4 with ⟨x0, x1, x2⟩ | ⟨x0, x1, x2⟩
      · simp only at x0
        subst x0
        rw [← x1, stepF_fwd ht] at hk2
        rw [x2, hk2]
        show h tt.1 + tt.2.2 - h tt.1 - tt.2.2 = 0
        omega
      · simp only at x0
        subst x0
        rw [← x1, stepF_back ht] at hk2
        rw [x2, hk2]
        show h tt.2.1 - (h tt.2.1 + -tt.2.2) - tt.2.2 = 0
        omega
    rw [this, nought_zero] at hn
    cases hn
  have hz : ∀ z ∈ za.reverse ++ zb, cs.lookup z.1 = some (stepL z.2) := fun z hz => by
    rcases List.mem_append.mp hz with hz | hz
    · exact ea3 z (List.mem_reverse.mp hz)
    · exact eb3 z hz
  have ndz : ((za.reverse ++ zb).map fun z => z.2.1).Nodup := by
    have hp : ((za.reverse ++ zb).map (·.1)).Nodup := by
      rw [List.map_append, List.map_reverse, ← ea1, ← eb1]
      exact (List.nodup_cons.mp ndp).2
    rw [List.nodup_iff_pairwise_ne, List.pairwise_map] at hp ⊢
    exact hp.imp_of_mem fun {x y} hx hy hxy => tie_once U hb (hz x hx) (hz y hy) hxy
  have ndt : ((a.reverse ++ [((i : Int), (1 : Int))] ++ b.map flipS).map (·.1)).Nodup := by
    have e : ((a.reverse ++ [((i : Int), (1 : Int))] ++ b.map flipS).map (·.1)).Perm ((i : Int) :: (za.reverse ++ zb).map fun z => z.2.1) := by
      have e2 : (a.reverse ++ [((i : Int), (1 : Int))] ++ b.map flipS).map (·.1) = (za.reverse.map fun z => z.2.1) ++ (i : Int) :: (zb.map fun z => z.2.1) := by
        rw [ea2, eb2]
        simp [flipS, Function.comp_def]
      rw [e2, List.map_append]
      exact List.perm_middle
    rw [e.nodup_iff, List.nodup_cons]
    refine ⟨fun z => ?_, ndz⟩
    obtain ⟨x, hx, e⟩ := List.mem_map.mp z
    exact nt x.1 x.2 (hz x hx) e
  -- all together
  have hlen : 2 ≤ (a.reverse ++ [((i : Int), (1 : Int))] ++ b.map flipS).length := by
    rw [List.length_append, List.length_append, List.length_reverse, List.length_map]
    by_cases e : a = []
    · by_cases e2 : b = []
      · subst e e2
        exact absurd (sa.nil_eq.1.trans sb.nil_eq.1.symm) v3
      · have := List.length_pos_iff.mpr e2
        simp
        omega
    · have := List.length_pos_iff.mpr e
      simp
      omega
  have hfirst : ∃ s r, a.reverse ++ [((i : Int), (1 : Int))] ++ b.map flipS = s :: r ∧ firstF ts s = q' := by
    cases hra : a.reverse with
    | nil =>
      have : a = [] := by simpa using hra
      subst this
      have eq1 := sa.nil_eq.1
      refine ⟨_, _, rfl, ?_⟩
      have hl := (List.getElem?_eq_some_iff.mp ht).1
      unfold firstF
      rw [if_pos ⟨by show (0 : Int) ≤ (i : Int); omega, by show (i : Int) < _; omega⟩]
      show (match ts[((i : Int)).toNat]? with | some t => if (1 : Int) = 1 then t.1 else t.2.1 | none => -1) = _
      rw [Int.toNat_natCast, ht]
      exact eq1
    | cons s r =>
      refine ⟨s, r ++ [((i : Int), 1)] ++ b.map flipS, by simp, ?_⟩
      have hl : a.getLast? = some s := by rw [List.getLast?_eq_head?_reverse, hra]; rfl
      have hz2 : za.getLast? ≠ none := by
        intro z
        rw [List.getLast?_eq_none_iff] at z
        rw [ea2, z] at hl
        simp at hl
      -- the topmost step of a starts at q'
      have key : ∀ {k : Int} {b : List Step} {ps : List Int}, Seg ts cs q' k b ps → ∀ s, b.getLast? = some s → firstF ts s = q' := by
        intro k b ps hs
        induction hs with
        | nil => intro s hs; simp at hs
        | cons hl hg ih =>
          rename_i k s0 b ps
          intro s hs
          cases hg with
          | nil =>
            simp at hs
            subst hs
            exact firstF_of (U k s0 hl).2.1
          | cons hl2 hg2 =>
            rw [List.getLast?_cons_cons] at hs
            exact ih s hs
      exact key sa s hl
  obtain ⟨s, r, hsr, hfs⟩ := hfirst
  unfold ringF
  rw [decide_eq_true hlen, Bool.true_and]
  have hwk := w.walkF
  have hls := w.last
  rw [hsr] at hwk ndt ⊢
  show (match walkF ts (firstF ts s) (s :: r) with | none => false | some r_1 => _) = true
  rw [hfs, hwk]
  show (decide ((q' :: (pa.reverse ++ (pb ++ [q']))).getLast? = some q') && (!noughtF turn climb && (decide (ucount ((s :: r).map (·.1)) = (s :: r).length) && decide (ucount (q' :: (pa.reverse ++ (pb ++ [q']))) + 1 = (q' :: (pa.reverse ++ (pb ++ [q']))).length)))) = true
  rw [hls, hcl, ucount_nodup ndt]
  have er : q' :: (pa.reverse ++ (pb ++ [q'])) = (q' :: (pa.reverse ++ pb)) ++ [q'] := by simp
  rw [er, ucount_round ndp List.mem_cons_self]
  simp
  omega
end G

/-! about; Heights, Ring. -/
namespace G
open PySem PySem.Spec PyProof.Rows L2
open Evl (Ex Ev EvL EvU EvT EvA RV RetV)
local macro_rules | `(tactic| walk_at "hp") => `(tactic| first
  | with_reducible assumption
  | ((with_reducible show _ = some (_ : HO)); (with_reducible exact ex_app (by assumption) (by walk_at "hp")))
  | ((with_reducible show TupI _ _ _ _); (with_reducible exact TupI.mono (by assumption) (by walk_at "hp")))
  | ((with_reducible show LT _ _ _ _); (with_reducible exact LT.mono (by assumption) (by walk_at "hp")))
  | ((with_reducible show LI _ _ _ _); (first | (with_reducible exact li_of (by walk_at "hp")) | (with_reducible exact LI.mono (by assumption) (by walk_at "hp"))))
  | ((with_reducible show SqL _ _ _ _); (first | (with_reducible exact SqL.of (by walk_at "hp")) | (with_reducible exact Evl.ex_l (by assumption) (by walk_at "hp"))))
  | ((with_reducible show SqT _ _ _ _); (first | (with_reducible exact SqT.of (by walk_at "hp")) | (with_reducible exact Evl.ex_t (by assumption) (by walk_at "hp"))))
  | ((with_reducible show Rd _ _ _); (first | (with_reducible exact Rd.of (by walk_at "hp")) | (with_reducible exact Evl.ex_rd (by assumption) (by walk_at "hp"))))
  | walk_at "hpf")
local macro_rules | `(tactic| walk_at "at") => `(tactic| first
  | with_reducible assumption
  | with_reducible rfl
  | (refine atI_of ?va ?vb; (case va => omega); (case vb => assumption))
  | walk_at "atf"
  | rfl)
local macro_rules | `(tactic| walk_at "rv") => `(tactic| first
  | with_reducible exact rv_add | with_reducible exact rv_sub | with_reducible exact rv_eqI | with_reducible exact rv_neI | with_reducible exact rv_lt | with_reducible exact rv_le | with_reducible exact rv_gt | with_reducible exact rv_ge
  | with_reducible exact rv_eqB | with_reducible exact rv_neB | with_reducible exact rv_isB | with_reducible exact rv_notB
  | ((with_reducible refine rv_mod ?_); (first | assumption | omega))
  | ((with_reducible refine rv_mul ?_); (first | exact Or.inl ⟨by omega, by omega⟩ | exact Or.inr ⟨by omega, by omega⟩))
  | ((with_reducible refine rv_div ?_); exact ⟨by omega, by omega⟩))
local macro_rules | `(tactic| walk_at "ty") => `(tactic| first
  | with_reducible exact fun _ _ => .base (.int _) | with_reducible exact fun _ _ => .base (.bl _) | with_reducible exact fun _ _ => .base .non | with_reducible exact fun _ _ => .base (.str _)
  | ((with_reducible apply ty_tup); walk_at "hp")
  | ((with_reducible apply ty_lst); walk_at "hp")
  | walk_at "tyf")
local macro_rules | `(tactic| walk_at "ev") => `(tactic| repeat' (first
  | with_reducible exact Evl.ev_c
  | ((with_reducible apply Evl.ev_var); rfl)
  | with_reducible apply ev_neg
  | with_reducible apply ev_ixU
  | walk_at "evf"
  | ((with_reducible apply ev_lenI); (· walk_at "ev"); (· walk_at "hp"))
  | ((with_reducible apply ev_lenT); (· walk_at "ev"); (· walk_at "hp"))
  | ((with_reducible apply ev_lenU); (· walk_at "ev"))
  | with_reducible apply ev_lenSet
  | with_reducible apply ev_chain
  | with_reducible apply ev_isiTy
  | with_reducible apply Evl.ev_andV
  | with_reducible apply Evl.ev_orV
  | with_reducible apply Evl.ev_notV
  | ((with_reducible apply ev_ixI); (· walk_at "ev"); (· walk_at "ev"); (· walk_at "hp"); (· walk_at "at"))
  | with_reducible apply Evl.ev_op
  | ((with_reducible apply evi_of); (· (with_reducible apply Evl.ev_var); rfl); (· walk_at "hp"))
  | with_reducible apply ei_ix
  | with_reducible apply ei_tup
  | with_reducible exact eai_nil
  | with_reducible apply eai_cons
  | with_reducible exact Evl.ea_nil
  | with_reducible apply Evl.ea_cons
  | with_reducible apply Evl.et_test
  | with_reducible apply Evl.et_and
  | with_reducible apply Evl.et_or
  | with_reducible apply Evl.et_not
  | with_reducible apply Evl.et_B
  | walk_at "rv"
  | ((with_reducible show L2.kitB _ _ = _); rfl)
  | ((with_reducible show L2.atI _ _ = _); walk_at "at")
  | ((with_reducible show (_ : Nat) ≤ _); (first | omega | (simp; done) | (simp; omega)))
  | ((with_reducible show _ = true → _); intro _)
  | ((with_reducible show _ = false → _); intro _)
  | ((with_reducible show TupI _ _ _ _); walk_at "hp")
  | ((with_reducible show LT _ _ _ _); walk_at "hp")
  | ((with_reducible show LI _ _ _ _); walk_at "hp")
  | ((with_reducible show SqL _ _ _ _); walk_at "hp")
  | ((with_reducible show SqT _ _ _ _); walk_at "hp")
  | ((with_reducible show Rd _ _ _); walk_at "hp")
  | ((with_reducible show _ = some (_ : HO)); walk_at "hp")
  | walk_at "hpg"
  | walk_at "ty"))

local macro_rules | `(tactic| walk_at "hpf") => `(tactic| ((with_reducible show WebAt _ _ _ _ _ _); (with_reducible exact WebAt.mono (by assumption) (by walk_at "hp"))))
local macro_rules | `(tactic| walk_at "hpg") => `(tactic| ((with_reducible show WebAt _ _ _ _ _ _); walk_at "hp"))
local macro_rules | `(tactic| walk_at "evf") => `(tactic| with_reducible apply ev_points)
local macro_rules | `(tactic| walk_at "evf") => `(tactic| with_reducible apply ev_turn)
local macro_rules | `(tactic| walk_at "evf") => `(tactic| with_reducible apply ev_lenB)
local macro_rules | `(tactic| walk_at "evf") => `(tactic| with_reducible apply ei_bound)
local macro_rules | `(tactic| walk_at "evf") => `(tactic| with_reducible apply ev_is_whole)
local macro_rules | `(tactic| walk_at "evf") => `(tactic| with_reducible apply ev_is_below)
local macro_rules | `(tactic| walk_at "evf") => `(tactic| with_reducible apply ev_is_tie)
local macro_rules | `(tactic| walk_at "evf") => `(tactic| with_reducible apply ei_stepped)
variable {K : PySem.W.Frag} {σ : L2.St} {H H' H1 : Hp} {ta tb tc te : TE} {t u : TT} {tl : TA} {v x y z : V}

/-! ### about -/
def turnT (ts : List Tie) : List Tie := ts.map fun t => (t.2.1, t.1, -t.2.2)
theorem okWeb.turned {n turn : Int} {ts : List Tie} (h : okWeb n ts turn) : okWeb n (turnT ts) turn := ⟨h.1, h.2.1, h.2.2.1, h.2.2.2.1, fun t ht => by
  unfold turnT at ht
  obtain ⟨u, hu, rfl⟩ := List.mem_map.mp ht
  have := of_decide_eq_true (show decide _ = true from h.2.2.2.2.1 u hu)
  exact decide_eq_true ⟨this.2.1, this.1, fun z => this.2.2.1 z.symm, by show -1000000 ≤ -u.2.2; omega, by show -u.2.2 ≤ 1000000; omega⟩, by unfold turnT; rw [List.length_map]; exact h.2.2.2.2.2⟩
def sp_about (K : PySem.W.Frag) : Sp := fun vs H Q _ => ∃ (w : Addr) (n turn : Int) (ts : List Tie), vs = [.ref w] ∧ WebAt K H w n ts turn ∧ okWeb n ts turn ∧ RetP (fun v H2 => ∃ p, v = .ref p ∧ H p = none ∧ WebAt K H2 p n (turnT ts) turn) H Q
theorem ep_about {w : Addr} {n turn : Int} {ts : List Tie} (h : EvA tl σ H [.ref w]) (hw : WebAt K H w n ts turn) (ok : okWeb n ts turn) : EvP (tCall (sp_about K) [] E0 tl) σ H (fun v H2 => ∃ p, v = .ref p ∧ H p = none ∧ WebAt K H2 p n (turnT ts) turn) :=
  ep_call h fun H1 Q e k => ⟨w, n, turn, ts, rfl, hw.mono e, ok, fun v H2 e2 ⟨p, a, b, c⟩ => k v H2 e2 ⟨p, a, Evl.fresh_back e b, c⟩⟩
def sp_first_point (K : PySem.W.Frag) : Sp := fun vs H Q _ => ∃ (w : Addr) (v : V) (s : Step) (n turn : Int) (ts : List Tie), vs = [.ref w, v] ∧ WebAt K H w n ts turn ∧ TupI K H v (stepL s) ∧ RetV (.int (firstF ts s)) H Q
def t_about (K : PySem.W.Frag) : TS :=
 (tRet (tMake (ga K "Web") (sp_Web_init K) [] E0 (tCons (tFld K (tVar 0) "points") (tCons (tLc (iList K (tFld K (tVar 0) "bound")) (gTup K 3 (gCons (gName 1) (gCons (gName 2) (gCons (gName 3) gNil)))) tYes (tTup (tCons (tVar 2) (tCons (tVar 1) (tCons (tUn rNegI (tVar 3)) tNil)))) [1, 2, 3]) (tCons (tFld K (tVar 0) "turn") tNil)))))
def t_Heights_shows (K : PySem.W.Frag) : TS :=
 (tSeq (tIfS (tTest (tOp rNe (tCB (rLenS K) (tCons (tFld K (tVar 0) "heights") tNil)) (tFld K (tVar 1) "points"))) (tRet (tC (.bl false))) tNext)
 (tRet (tCB (rAll K) (tCons (tLc (iList K (tFld K (tVar 1) "bound")) (gTup K 3 (gCons (gName 2) (gCons (gName 3) (gCons (gName 4) gNil)))) tYes (tMeth (ga K "Web") "is_nought" (sp_Web_is_nought K) [] E0 (tVar 1) (tCons (tOp rSubI (tOp rSubI (tOp (rIxL K) (tFld K (tVar 0) "heights") (tVar 3)) (tOp (rIxL K) (tFld K (tVar 0) "heights") (tVar 2))) (tVar 4)) tNil)) [2, 3, 4]) tNil))))
def t_first_point (K : PySem.W.Frag) : TS :=
 (tSeq (tIfS (tOr (tNot (tB (tCB (rIsi K) (tCons (tVar 1) (tCons (tC (.ty "tuple")) tNil))))) (tOr (tTest (tOp rNe (tCB (rLenS K) (tCons (tVar 1) tNil)) (tC (.int 2)))) (tNot (tB (tCall (sp_is_below K) [] E0 (tCons (tOp (rIxT K) (tVar 1) (tC (.int 0))) (tCons (tCB (rLenS K) (tCons (tFld K (tVar 0) "bound") tNil)) tNil))))))) (tRet (tUn rNegI (tC (.int 1)))) tNext)
 (tSeq (tIfS (tTest (tOp rEq (tOp (rIxT K) (tVar 1) (tC (.int 1))) (tC (.int 1)))) (tRet (tOp (rIxT K) (tOp (rIxL K) (tFld K (tVar 0) "bound") (tOp (rIxT K) (tVar 1) (tC (.int 0)))) (tC (.int 0)))) tNext)
 (tRet (tOp (rIxT K) (tOp (rIxL K) (tFld K (tVar 0) "bound") (tOp (rIxT K) (tVar 1) (tC (.int 0)))) (tC (.int 1))))))
def t_Ring_shows (K : PySem.W.Frag) : TS :=
 (tSeq (tIfS (tTest (tOp rLtI (tCB (rLenS K) (tCons (tFld K (tVar 0) "steps") tNil)) (tC (.int 2)))) (tRet (tC (.bl false))) tNext)
 (tSeq (tAsg (tCall (sp_first_point K) [] E0 (tCons (tVar 1) (tCons (tOp (rIxL K) (tFld K (tVar 0) "steps") (tC (.int 0))) tNil))) (gName 2))
 (tSeq (tAsg (tCall (sp_walked K) [] E0 (tCons (tVar 1) (tCons (tVar 2) (tCons (tFld K (tVar 0) "steps") tNil)))) (gTup K 2 (gCons (gName 3) (gCons (gName 4) gNil))))
 (tSeq (tIfS (tOr (tTest (tOp rLtI (tVar 2) (tC (.int 0)))) (tOr (tTest (tOp rEq (tCB (rLenS K) (tCons (tVar 3) tNil)) (tC (.int 0)))) (tOr (tTest (tOp rNe (tOp (rIxL K) (tVar 3) (tUn rNegI (tC (.int 1)))) (tVar 2))) (tB (tMeth (ga K "Web") "is_nought" (sp_Web_is_nought K) [] E0 (tVar 1) (tCons (tVar 4) tNil)))))) (tRet (tC (.bl false))) tNext)
 (tSeq (tAsg (tLc (iList K (tFld K (tVar 0) "steps")) (gTup K 2 (gCons (gName 6) (gCons (gName 7) gNil))) tYes (tVar 6) [6, 7]) (gName 5))
 (tRet (tAndV (tOp rEq (tLenSetD K (tVar 5)) (tCB (rLenS K) (tCons (tVar 5) tNil))) (tOp rEq (tLenSetD K (tVar 3)) (tOp rSubI (tCB (rLenS K) (tCons (tVar 3) tNil)) (tC (.int 1)))))))))))
theorem rd_about (vs : List V) (H : Hp) (Q : VK) (E : XK) (h : sp_about K vs H Q E) : goal (t_about K) ["web", "one", "other", "number"] vs H Q := by
  obtain ⟨w, n, turn, ts, rfl, hw, ok, k⟩ := h
  obtain ⟨T, _⟩ := id hw
  obtain ⟨bl, hbl, hbe⟩ := hw.bound
  have hlt := ok.2.2.2.2.2
  refine s_retP (ep_WebP T (ev_points (Evl.ev_var rfl) hw) ((lc_tup3 (K := K) (a := bl) (xss := ts.map tieL) (yss := (turnT ts).map tieL) (hbe (Evl.ev_var rfl)) hbl (by simp; omega) (by simp [turnT]) (fun _ _ _ => rfl) fun i x H2 e2 hx => ?_).imp fun v H2 e2 ⟨l, vs, a, _, b, c⟩ => ⟨l, a, vs, SqL.of b, c⟩) (fun H1 e1 => ev_turn (Evl.ev_var rfl) (hw.mono e1)) ok.turned) k
  rw [List.getElem?_map] at hx
  cases hti : ts[i]? with
  | none => rw [hti] at hx; cases hx
  | some t =>
    rw [hti] at hx
    cases hx
    exact ⟨t.1, t.2.1, t.2.2, [t.2.1, t.1, -t.2.2], rfl, by simp [turnT, hti, tieL], ei_tup (eai_cons (Evl.ev_var rfl) (eai_cons (Evl.ev_var rfl) (eai_cons (ev_neg (Evl.ev_var rfl)) eai_nil))) (by show 3 ≤ 100000; decide)⟩

/-! ### Heights -/
abbrev sp_Heights_init := sp_one_init "Heights" "heights"
abbrev sp_Ring_init := sp_one_init "Ring" "steps"
def heightsF (n : Int) (ts : List Tie) (turn : Int) (hs : List Int) : Bool := decide ((hs.length : Int) = n) && ts.all fun t => noughtF turn (cAt hs t.2.1 - cAt hs t.1 - t.2.2)
def sp_Heights_shows (K : PySem.W.Frag) : Sp := fun vs H Q _ => ∃ (a l w : Addr) (n turn : Int) (ts : List Tie) (cs : List Int), vs = [.ref a, .ref w] ∧ One K H "Heights" "heights" a l ∧ HasI H l cs ∧ WebAt K H w n ts turn ∧ 0 ≤ turn ∧ ts.length ≤ 5000 ∧ Valid n ts ∧ RetV (.bl (heightsF n ts turn cs)) H Q
theorem rd_Heights_shows (vs : List V) (H : Hp) (Q : VK) (E : XK) (h : sp_Heights_shows K vs H Q E) : goal (t_Heights_shows K) ["self", "web", "one", "other", "more"] vs H Q := by
  obtain ⟨a, l, w, n, turn, ts, cs, rfl, h1, hc, hw, h0, hl, hv, k⟩ := h
  have hi := hc.li (K := K)
  refine Evl.q_when (b := !decide ((cs.length : Int) = n)) (Evl.et_test (Evl.ev_op (ev_lenI (ev_one (Evl.ev_var rfl) h1) hi) (ev_points (Evl.ev_var rfl) hw) rv_neI)) (fun hb H1 e1 => ?_) fun hb H1 e1 => ?_
  · have : heightsF n ts turn cs = false := by
      unfold heightsF
      have hd : decide ((cs.length : Int) = n) = false := by simpa using hb
      rw [hd]
      rfl
    rw [this] at k
    exact Evl.s_ret Evl.ev_c fun H2 e2 => k H2 (e1.trans e2)
  · have hn : (cs.length : Int) = n := by simpa using hb
    have hi2 := hi.mono e1
    have hw2 := hw.mono e1
    have h12 := h1.mono e1
    obtain ⟨bl, hbl, hbe⟩ := hw2.bound
    refine Evl.s_ret (v := .bl (heightsF n ts turn cs)) (Evl.ev_is (ev_all (p := l) (bs := ts.map fun t => noughtF turn (cAt cs t.2.1 - cAt cs t.1 - t.2.2)) ?_) ?_) fun H3 e3 => k H3 (e1.trans e3)
    · refine (lc_vals3 (a := bl) (xss := ts.map tieL) (ys := (ts.map fun t => noughtF turn (cAt cs t.2.1 - cAt cs t.1 - t.2.2)).map V.bl) (hbe (Evl.ev_var rfl)) hbl (by simp; omega) (by simp) (fun _ _ _ => rfl) fun i x H3 e3 hx => ?_).imp fun v H3 e3 hh => ?_
      · rw [List.getElem?_map] at hx
        cases hti : ts[i]? with
        | none => rw [hti] at hx; cases hx
        | some t =>
          rw [hti] at hx
          cases hx
          obtain ⟨v1, v2, v3⟩ := hv t (List.mem_of_getElem? hti)
          have c1 := cAt_some (cs := cs) v1.1 (by omega)
          have c2 := cAt_some (cs := cs) v2.1 (by omega)
          have hi3 := hi2.mono e3
          have h13 := h12.mono e3
          exact ⟨t.1, t.2.1, t.2.2, .bl (noughtF turn (cAt cs t.2.1 - cAt cs t.1 - t.2.2)), rfl, by simp [hti], ev_nought (hw2.mono e3) h0 (Evl.ev_var rfl) (Evl.ea_cons (Evl.ev_op (Evl.ev_op (ev_ixI (ev_one (Evl.ev_var rfl) h13) (Evl.ev_var rfl) hi3 c2) (ev_ixI (ev_one (Evl.ev_var rfl) h13) (Evl.ev_var rfl) hi3 c1) rv_sub) (Evl.ev_var rfl) rv_sub) Evl.ea_nil)⟩
      · obtain ⟨q, a, _, b⟩ := hh
        exact ⟨q, a, SqL.of b⟩
    · unfold heightsF
      rw [decide_eq_true hn, Bool.true_and, List.all_map]
      rfl

/-! ### first_point, Ring -/
theorem ev_first_point {w : Addr} {s : Step} {n turn : Int} {ts : List Tie} (h1 : Ev ta σ H (.ref w)) (h2 : EvI K tb σ H (stepL s)) (hw : WebAt K H w n ts turn) : Ev (tCall (sp_first_point K) [] E0 (tCons ta (tCons tb tNil))) σ H (.int (firstF ts s)) := fun H1 e Q q =>
  h1 H1 e _ fun H2 e2 => h2 H2 (e.trans e2) _ fun v H3 e3 hv => ⟨w, v, s, n, turn, ts, rfl, hw.mono ((e.trans e2).trans e3), hv, fun H4 e4 => q H4 ((e2.trans e3).trans e4)⟩
theorem rd_first_point (vs : List V) (H : Hp) (Q : VK) (E : XK) (h : sp_first_point K vs H Q E) : goal (t_first_point K) ["web", "step"] vs H Q := by
  obtain ⟨w, v, s, n, turn, ts, rfl, hw, hs, k⟩ := h
  obtain ⟨sa, sb⟩ := s
  refine Evl.q_when (b := !decide (0 ≤ sa ∧ sa < (ts.length : Int))) (Evl.et_is (by walk_at "ev") (by simp [stepL])) (fun hb H1 e1 => ?_) fun hb H1 e1 => ?_
  · have : firstF ts (sa, sb) = -1 := by
      unfold firstF
      rw [if_neg (fun z => by rw [decide_eq_true z] at hb; cases hb)]
    rw [this] at k
    exact Evl.s_ret (ev_neg Evl.ev_c) fun H2 e2 => k H2 (e1.trans e2)
  have hin : 0 ≤ sa ∧ sa < (ts.length : Int) := by simp at hb; omega
  obtain ⟨tt, ht⟩ : ∃ tt, ts[sa.toNat]? = some tt := ⟨ts[sa.toNat]'(by omega), List.getElem?_eq_getElem (by omega)⟩
  have ha : atI ts sa = some tt := atI_of hin.1 ht
  have hf : firstF ts (sa, sb) = if sb = 1 then tt.1 else tt.2.1 := by
    unfold firstF
    rw [if_pos hin]
    simp only [ht]
  rw [hf] at k
  have hw1 := hw.mono e1
  have hs1 := hs.mono e1
  refine Evl.q_when (b := decide (sb = 1)) (Evl.et_test (Evl.ev_op (ev_ixU (evi_of (Evl.ev_var rfl) hs1) Evl.ev_c rfl) Evl.ev_c rv_eqI)) (fun hb2 H2 e2 => ?_) fun hb2 H2 e2 => ?_
  · rw [if_pos (of_decide_eq_true hb2)] at k
    exact Evl.s_ret (ev_ixU (ei_bound (Evl.ev_var rfl) (hw1.mono e2) (ev_ixU (evi_of (Evl.ev_var rfl) (hs1.mono e2)) Evl.ev_c rfl) ha) Evl.ev_c rfl) fun H3 e3 => k H3 (e1.trans (e2.trans e3))
  · rw [if_neg (of_decide_eq_false hb2)] at k
    exact Evl.s_ret (ev_ixU (ei_bound (Evl.ev_var rfl) (hw1.mono e2) (ev_ixU (evi_of (Evl.ev_var rfl) (hs1.mono e2)) Evl.ev_c rfl) ha) Evl.ev_c rfl) fun H3 e3 => k H3 (e1.trans (e2.trans e3))
theorem first_pos {ts : List Tie} {s : Step} {ss : List Step} {r : List Int × Int} (hp : Pos ts) (h : walkF ts (firstF ts s) (s :: ss) = some r) : 0 ≤ firstF ts s := by
  have hin := walkA_in h s List.mem_cons_self
  obtain ⟨tt, ht⟩ : ∃ tt, ts[s.1.toNat]? = some tt := ⟨ts[s.1.toNat]'(by omega), List.getElem?_eq_getElem (by omega)⟩
  obtain ⟨p1, p2⟩ := hp tt (List.mem_of_getElem? ht)
  unfold firstF
  rw [if_pos hin, ht]
  show 0 ≤ if s.2 = 1 then tt.1 else tt.2.1
  split <;> assumption
def sp_Ring_shows (K : PySem.W.Frag) : Sp := fun vs H Q _ => ∃ (a l w : Addr) (n turn : Int) (ts : List Tie) (ss : List Step), vs = [.ref a, .ref w] ∧ One K H "Ring" "steps" a l ∧ HasS K H l ss ∧ ss.length ≤ 3000 ∧ WebAt K H w n ts turn ∧ 0 ≤ turn ∧ Pos ts ∧ RetV (.bl (ringF ts turn ss)) H Q
theorem rd_Ring_shows (vs : List V) (H : Hp) (Q : VK) (E : XK) (h : sp_Ring_shows K vs H Q E) : goal (t_Ring_shows K) ["self", "web", "start", "points", "climb", "ties", "tie", "way"] vs H Q := by
  obtain ⟨a, l, w, n, turn, ts, ss, rfl, h1, hs, hl, hw, h0, hp, k⟩ := h
  have hlen : ∀ {σ2 : L2.St} {H2 : Hp}, Ex H H2 → Ev (tVar 0) σ2 H2 (.ref a) → Ev (tCB (rLenS K) (tCons (tFld K (tVar 0) "steps") tNil)) σ2 H2 (.int (ss.length : Int)) := fun e2 h => by
    have e := ev_lenT (ev_one h (h1.mono e2)) (hs.mono e2).lt
    rwa [List.length_map] at e
  refine Evl.q_when (b := decide ((ss.length : Int) < 2)) (Evl.et_test (Evl.ev_op (hlen (Ex.refl _) (Evl.ev_var rfl)) Evl.ev_c rv_lt)) (fun hb H1 e1 => ?_) fun hb H1 e1 => ?_
  · have : ringF ts turn ss = false := by
      unfold ringF
      have := of_decide_eq_true hb
      rw [decide_eq_false (by omega), Bool.false_and]
    rw [this] at k
    exact Evl.s_ret Evl.ev_c fun H2 e2 => k H2 (e1.trans e2)
  have h2 : 2 ≤ ss.length := by have := of_decide_eq_false hb; omega
  obtain ⟨s, r, hsr⟩ : ∃ s r, ss = s :: r := by
    cases ss with
    | nil => simp at h2
    | cons s r => exact ⟨s, r, rfl⟩
  have hat : atI (ss.map stepL) 0 = some (stepL s) := by rw [hsr]; exact atI_of (by decide) rfl
  have h11 := h1.mono e1
  have hs1 := hs.mono e1
  have hw1 := hw.mono e1
  refine Evl.q_asg (ev_first_point (w := w) (s := s) (Evl.ev_var rfl) (ei_ix (ev_one (Evl.ev_var rfl) h11) Evl.ev_c hs1.lt hat) hw1) fun H2 e2 => ?_
  have h12 := h11.mono e2
  have hs2 := hs1.mono e2
  have hw2 := hw1.mono e2
  refine q_unV2 (P := fun x y H3 => ∃ b, x = .ref b ∧ y = .int (walkR ts (firstF ts s) ss).2 ∧ LI K H3 b (walkR ts (firstF ts s) ss).1) ((ep_walked (w := w) (l := l) (p := firstF ts s) (Evl.ea_cons (Evl.ev_var rfl) (Evl.ea_cons (Evl.ev_var rfl) (Evl.ea_cons (ev_one (Evl.ev_var rfl) h12) Evl.ea_nil))) hw2 hs2.lt hl).imp fun v H3 e3 hh => ?_) fun x y H3 e3 hx => ?_
  · obtain ⟨t, b, a1, a2, a3, a4⟩ := hh
    exact ⟨t, _, _, a1, a2, b, rfl, rfl, li_of a4⟩
  obtain ⟨pb, rfl, rfl, hli⟩ := hx
  have hw3 := hw2.mono e3
  have e13 := e1.trans (e2.trans e3)
  cases hc : walkF ts (firstF ts s) ss with
  | none =>
    have hR : walkR ts (firstF ts s) ss = ([], 0) := by unfold walkR; rw [hc]; rfl
    rw [hR] at hli ⊢
    have : ringF ts turn ss = false := by
      unfold ringF
      rw [hsr] at hc ⊢
      show (_ && (match walkF ts (firstF ts s) (s :: r) with | none => false | some _ => _)) = false
      rw [hc, Bool.and_false]
    rw [this] at k
    refine Evl.q_when (b := true) (Evl.et_is (a := decide (firstF ts s < 0) || (true || true)) (Evl.et_or (Evl.et_test (Evl.ev_op (Evl.ev_var rfl) Evl.ev_c rv_lt)) fun _ => Evl.et_or (a := true) (b := true) (Evl.et_is (Evl.et_test (Evl.ev_op (ev_lenI (Evl.ev_var rfl) hli) Evl.ev_c rv_eqI)) (by rfl)) fun z => by cases z) (by simp)) (fun _ H4 e4 => ?_) fun z => by cases z
    exact Evl.s_ret Evl.ev_c fun H5 e5 => k H5 (e13.trans (e4.trans e5))
  | some q =>
    obtain ⟨ps, c⟩ := q
    have hR : walkR ts (firstF ts s) ss = (ps, c) := by unfold walkR; rw [hc]; rfl
    rw [hR] at hli ⊢
    dsimp only at hli ⊢
    have hpl : ps.length = ss.length + 1 := by
      have := walkA_len hc
      simpa using this
    have hne : ps ≠ [] := fun z => by rw [z] at hpl; simp at hpl
    obtain ⟨m, hm⟩ : ∃ m, ps.getLast? = some m := ⟨ps.getLast hne, List.getLast?_eq_some_getLast hne⟩
    have hatm : atI ps (-1) = some m := atI_lastOf hm
    have hf0 : 0 ≤ firstF ts s := first_pos hp (by rw [← hsr]; exact hc)
    have hk : ringF ts turn ss = (!(!decide (m = firstF ts s) || noughtF turn c) && (decide (ucount (ss.map (·.1)) = ss.length) && decide (ucount ps + 1 = ps.length))) := by
      unfold ringF
      rw [decide_eq_true h2, Bool.true_and]
      have hc2 := hc
      rw [hsr] at hc2
      conv => lhs; rw [hsr]
      show (match walkF ts (firstF ts s) (s :: r) with | none => false | some r_1 => _) = _
      rw [hc2, ← hsr]
      show (decide (ps.getLast? = some (firstF ts s)) && (!noughtF turn c && _)) = _
      rw [hm]
      have : decide (some m = some (firstF ts s)) = decide (m = firstF ts s) := by
        rw [Bool.eq_iff_iff]; simp
      rw [this]
      cases decide (m = firstF ts s) <;> cases noughtF turn c <;> rfl
    rw [hk] at k
    refine Evl.q_when (b := !decide (m = firstF ts s) || noughtF turn c) (Evl.et_is (a := decide (firstF ts s < 0) || (decide ((ps.length : Int) = 0) || (!decide (m = firstF ts s) || noughtF turn c))) (Evl.et_or (Evl.et_test (Evl.ev_op (Evl.ev_var rfl) Evl.ev_c rv_lt)) fun _ => Evl.et_or (Evl.et_test (Evl.ev_op (ev_lenI (Evl.ev_var rfl) hli) Evl.ev_c rv_eqI)) fun _ => Evl.et_or (Evl.et_test (Evl.ev_op (ev_ixI (Evl.ev_var rfl) (ev_neg Evl.ev_c) hli hatm) (Evl.ev_var rfl) rv_neI)) fun _ => Evl.et_B (ev_nought hw3 h0 (Evl.ev_var rfl) (Evl.ea_cons (Evl.ev_var rfl) Evl.ea_nil))) ?_) (fun hb2 H4 e4 => ?_) fun hb2 H4 e4 => ?_
    · rw [decide_eq_false (by omega), decide_eq_false (by omega), Bool.false_or, Bool.false_or]
    · rw [hb2, Bool.not_true, Bool.false_and] at k
      exact Evl.s_ret Evl.ev_c fun H5 e5 => k H5 (e13.trans (e4.trans e5))
    · rw [hb2, Bool.not_false, Bool.true_and] at k
      have h14 := h12.mono (e3.trans e4)
      have hs4 := hs2.mono (e3.trans e4)
      refine q_asgP (lc_vals2 (a := l) (xss := ss.map stepL) (ys := (ss.map (·.1)).map V.int) (ev_one (Evl.ev_var rfl) h14) hs4.lt (by simp; omega) (by simp) (fun _ _ => rfl) fun i x H5 e5 hx => ?_) fun v H5 e5 hv => ?_
      · rw [List.getElem?_map] at hx
        cases hsi2 : ss[i]? with
        | none => rw [hsi2] at hx; cases hx
        | some s2 =>
          rw [hsi2] at hx
          cases hx
          exact ⟨s2.1, s2.2, .int s2.1, rfl, by simp [hsi2], Evl.ev_var rfl⟩
      · obtain ⟨tl2, rfl, _, h5⟩ := hv
        have ht5 : LI K H5 tl2 (ss.map (·.1)) := li_of h5
        have hp5 := hli.mono (e4.trans e5)
        refine Evl.s_ret (v := .bl (decide (ucount (ss.map (·.1)) = ss.length) && decide (ucount ps + 1 = ps.length))) (Evl.ev_is (Evl.ev_andV (Evl.ev_op (ev_lenSet (Evl.ev_var rfl) ht5 (by simp; omega)) (ev_lenI (Evl.ev_var rfl) ht5) rv_eqI) fun _ => Evl.ev_op (ev_lenSet (Evl.ev_var rfl) hp5 (by omega)) (Evl.ev_op (ev_lenI (Evl.ev_var rfl) hp5) Evl.ev_c rv_sub) rv_eqI) ?_) fun H6 e6 => k H6 (e13.trans (e4.trans (e5.trans e6)))
        have q1 : decide (((ucount (ss.map (·.1)) : Nat) : Int) = ((ss.map (·.1)).length : Int)) = decide (ucount (ss.map (·.1)) = ss.length) := decide_eq_decide.mpr (by rw [List.length_map]; omega)
        have q2 : decide (((ucount ps : Nat) : Int) = (ps.length : Int) - 1) = decide (ucount ps + 1 = ps.length) := decide_eq_decide.mpr (by omega)
        rw [q1, q2]
end G

/-! ring_by, levels. -/
namespace G
open PySem PySem.Spec PyProof.Rows L2
open Evl (Ex Ev EvL EvU EvT EvA RV RetV)
local macro_rules | `(tactic| walk_at "hp") => `(tactic| first
  | with_reducible assumption
  | ((with_reducible show _ = some (_ : HO)); (with_reducible exact ex_app (by assumption) (by walk_at "hp")))
  | ((with_reducible show TupI _ _ _ _); (with_reducible exact TupI.mono (by assumption) (by walk_at "hp")))
  | ((with_reducible show LT _ _ _ _); (with_reducible exact LT.mono (by assumption) (by walk_at "hp")))
  | ((with_reducible show LI _ _ _ _); (first | (with_reducible exact li_of (by walk_at "hp")) | (with_reducible exact LI.mono (by assumption) (by walk_at "hp"))))
  | ((with_reducible show SqL _ _ _ _); (first | (with_reducible exact SqL.of (by walk_at "hp")) | (with_reducible exact Evl.ex_l (by assumption) (by walk_at "hp"))))
  | ((with_reducible show SqT _ _ _ _); (first | (with_reducible exact SqT.of (by walk_at "hp")) | (with_reducible exact Evl.ex_t (by assumption) (by walk_at "hp"))))
  | ((with_reducible show Rd _ _ _); (first | (with_reducible exact Rd.of (by walk_at "hp")) | (with_reducible exact Evl.ex_rd (by assumption) (by walk_at "hp"))))
  | walk_at "hpf")
local macro_rules | `(tactic| walk_at "at") => `(tactic| first
  | with_reducible assumption
  | with_reducible rfl
  | (refine atI_of ?va ?vb; (case va => omega); (case vb => assumption))
  | walk_at "atf"
  | rfl)
local macro_rules | `(tactic| walk_at "rv") => `(tactic| first
  | with_reducible exact rv_add | with_reducible exact rv_sub | with_reducible exact rv_eqI | with_reducible exact rv_neI | with_reducible exact rv_lt | with_reducible exact rv_le | with_reducible exact rv_gt | with_reducible exact rv_ge
  | with_reducible exact rv_eqB | with_reducible exact rv_neB | with_reducible exact rv_isB | with_reducible exact rv_notB
  | ((with_reducible refine rv_mod ?_); (first | assumption | omega))
  | ((with_reducible refine rv_mul ?_); (first | exact Or.inl ⟨by omega, by omega⟩ | exact Or.inr ⟨by omega, by omega⟩))
  | ((with_reducible refine rv_div ?_); exact ⟨by omega, by omega⟩))
local macro_rules | `(tactic| walk_at "ty") => `(tactic| first
  | with_reducible exact fun _ _ => .base (.int _) | with_reducible exact fun _ _ => .base (.bl _) | with_reducible exact fun _ _ => .base .non | with_reducible exact fun _ _ => .base (.str _)
  | ((with_reducible apply ty_tup); walk_at "hp")
  | ((with_reducible apply ty_lst); walk_at "hp")
  | walk_at "tyf")
local macro_rules | `(tactic| walk_at "ev") => `(tactic| repeat' (first
  | with_reducible exact Evl.ev_c
  | ((with_reducible apply Evl.ev_var); rfl)
  | with_reducible apply ev_neg
  | with_reducible apply ev_ixU
  | walk_at "evf"
  | ((with_reducible apply ev_lenI); (· walk_at "ev"); (· walk_at "hp"))
  | ((with_reducible apply ev_lenT); (· walk_at "ev"); (· walk_at "hp"))
  | ((with_reducible apply ev_lenU); (· walk_at "ev"))
  | with_reducible apply ev_lenSet
  | with_reducible apply ev_chain
  | with_reducible apply ev_isiTy
  | with_reducible apply Evl.ev_andV
  | with_reducible apply Evl.ev_orV
  | with_reducible apply Evl.ev_notV
  | ((with_reducible apply ev_ixI); (· walk_at "ev"); (· walk_at "ev"); (· walk_at "hp"); (· walk_at "at"))
  | with_reducible apply Evl.ev_op
  | ((with_reducible apply evi_of); (· (with_reducible apply Evl.ev_var); rfl); (· walk_at "hp"))
  | with_reducible apply ei_ix
  | with_reducible apply ei_tup
  | with_reducible exact eai_nil
  | with_reducible apply eai_cons
  | with_reducible exact Evl.ea_nil
  | with_reducible apply Evl.ea_cons
  | with_reducible apply Evl.et_test
  | with_reducible apply Evl.et_and
  | with_reducible apply Evl.et_or
  | with_reducible apply Evl.et_not
  | with_reducible apply Evl.et_B
  | walk_at "rv"
  | ((with_reducible show L2.kitB _ _ = _); rfl)
  | ((with_reducible show L2.atI _ _ = _); walk_at "at")
  | ((with_reducible show (_ : Nat) ≤ _); (first | omega | (simp; done) | (simp; omega)))
  | ((with_reducible show _ = true → _); intro _)
  | ((with_reducible show _ = false → _); intro _)
  | ((with_reducible show TupI _ _ _ _); walk_at "hp")
  | ((with_reducible show LT _ _ _ _); walk_at "hp")
  | ((with_reducible show LI _ _ _ _); walk_at "hp")
  | ((with_reducible show SqL _ _ _ _); walk_at "hp")
  | ((with_reducible show SqT _ _ _ _); walk_at "hp")
  | ((with_reducible show Rd _ _ _); walk_at "hp")
  | ((with_reducible show _ = some (_ : HO)); walk_at "hp")
  | walk_at "hpg"
  | walk_at "ty"))

local macro_rules | `(tactic| walk_at "hpf") => `(tactic| ((with_reducible show WebAt _ _ _ _ _ _); (with_reducible exact WebAt.mono (by assumption) (by walk_at "hp"))))
local macro_rules | `(tactic| walk_at "hpg") => `(tactic| ((with_reducible show WebAt _ _ _ _ _ _); walk_at "hp"))
local macro_rules | `(tactic| walk_at "evf") => `(tactic| with_reducible apply ev_points)
local macro_rules | `(tactic| walk_at "evf") => `(tactic| with_reducible apply ev_turn)
local macro_rules | `(tactic| walk_at "evf") => `(tactic| with_reducible apply ev_lenB)
local macro_rules | `(tactic| walk_at "evf") => `(tactic| with_reducible apply ei_bound)
local macro_rules | `(tactic| walk_at "evf") => `(tactic| with_reducible apply ev_is_whole)
local macro_rules | `(tactic| walk_at "evf") => `(tactic| with_reducible apply ev_is_below)
local macro_rules | `(tactic| walk_at "evf") => `(tactic| with_reducible apply ev_is_tie)
local macro_rules | `(tactic| walk_at "evf") => `(tactic| with_reducible apply ei_stepped)
variable {K : PySem.W.Frag} {σ : L2.St} {H H' H1 : Hp} {ta tb tc te : TE} {t u : TT} {tl : TA} {v x y z : V}

/-! ### lists put together -/
/-- each element a new tuple of ints: over a list of pairs by two names -/
theorem lc_tup2 {a : Addr} {xss yss : List (List Int)} {i1 i2 : Nat} {vs : List Nat} (h : Ev ta σ H (.ref a)) (hx : LT K H a xss) (hz : xss.length ≤ 90000) (hy : yss.length = xss.length)
    (hw : ∀ x y, wipe (((wipe σ vs).set i1 (some x)).set i2 (some y)) vs = wipe σ vs)
    (he : ∀ (i : Nat) (x : List Int) H1, Ex H H1 → xss[i]? = some x → ∃ a b y, x = [a, b] ∧ yss[i]? = some y ∧ EvI K te (((wipe σ vs).set i1 (some (.int a))).set i2 (some (.int b))) H1 y) :
    EvP (tLc (iList K ta) (gTup K 2 (gCons (gName i1) (gCons (gName i2) gNil))) tYes te vs) σ H (NewLT K H yss) := by
  obtain ⟨us, hx, hT⟩ := hx
  have hul := hT.length
  refine (lc_gen (G := fun H => SqL K H a us) (n := us.length) (fun H1 e R q => h H1 e _ fun H2 e2 => ⟨a, rfl, ⟨us, Evl.ex_l (e.trans e2) hx⟩, q H2 e2⟩) walk_list (by omega) (fun _ i acc H => TupL K H acc (yss.take i)) (fun _ _ _ _ _ _ b c => b.updL c) (fun _ _ _ _ => by simp; exact .nil) (fun H1 e => Evl.ex_l e hx) fun Dl i x H1 H2 acc Q hi e fr hD b y q => ?_).imp fun v H2 e hp => ?_
  · obtain ⟨rfl, hxi⟩ := y
    obtain ⟨u, hu, tu⟩ := (hT.mono e).getV hxi
    obtain ⟨a1, b1, w, rfl, hw2, ev⟩ := he i u H2 e hu
    refine turn2 tu (hw _ _) ev fun v H3 e3 hv => q v H3 e3 ?_
    rw [List.take_add_one, hw2]
    exact (b.mono e3).snoc hv
  · obtain ⟨p, acc, rfl, fr, h2, hl, b⟩ := hp
    rw [List.take_of_length_le (by omega)] at b
    exact ⟨p, acc, rfl, fr, h2, b⟩
theorem ep_catL {xs ys : List (List Int)} (ha : EvP ta σ H (fun v H2 => ∃ l vs, v = .ref l ∧ H2 l = some (.lst vs) ∧ TupL K H2 vs xs)) (hb : EvP tb σ H (fun v H2 => ∃ l vs, v = .ref l ∧ H2 l = some (.lst vs) ∧ TupL K H2 vs ys)) (hm : xs.length + ys.length ≤ 100000) : EvP (tOp rCat ta tb) σ H (NewLT K H (xs ++ ys)) := fun H1 e Q q =>
  ha H1 e _ fun v H2 e2 ⟨l, vs, ev, h1, h2⟩ => hb H2 (e.trans e2) _ fun w H3 e3 ⟨l', ws, ew, g1, g2⟩ =>
    ⟨l, l', vs, ws, ev, ew, e3 _ _ h1, g1, by rw [h2.length, g2.length]; exact Nat.le_trans hm (by decide), fun r hr => q _ _ ((e2.trans e3).trans (Ex.new hr)) ⟨r, vs ++ ws, rfl, Evl.fresh_back ((e.trans e2).trans e3) hr, upd_same, ((h2.mono e3).append g2).mono (Ex.new hr)⟩⟩
theorem ep_lst1 {xs : List Int} (h : EvI K te σ H xs) : EvP (tLst (tCons te tNil)) σ H (NewLT K H [xs]) := fun H1 e Q q =>
  h H1 e _ fun v H2 e2 hv => ⟨by show 1 ≤ sizeLine; decide, fun p hp => q _ _ (e2.trans (Ex.new hp)) ⟨p, [v], rfl, Evl.fresh_back (e.trans e2) hp, upd_same, .cons (hv.mono (Ex.new hp)) .nil⟩⟩
theorem q_parP {D : Ends} {tz : TS} {i j : Nat} {P1 : V → Hp → Prop} {P2 : Hp → V → Hp → Prop} (h1 : EvP ta σ H P1) (h2 : ∀ H1, Ex H H1 → EvP tb σ H1 (P2 H1)) (k : ∀ v w H1 H2, Ex H H1 → P1 v H1 → Ex H1 H2 → P2 H1 w H2 → tz D ((σ.set i (some v)).set j (some w)) H2) :
    tSeq (tPar i j (tCons ta (tCons tb tNil))) tz D σ H :=
  h1 H (Ex.refl H) _ fun v H1 e1 p1 => h2 H1 e1 H1 (Ex.refl H1) _ fun w H2 e2 p2 => ⟨v, w, rfl, k v w H1 H2 e1 p1 e2 p2⟩
theorem s_pop0 {D : Ends} {l : Addr} {xs : List V} {w : V} (hl : H l = some (.lst (w :: xs))) (ha : Ev ta σ H (.ref l)) (k : ∀ H1, Ex H H1 → D.nx σ (upd H1 l (.lst xs))) : tDrop (tBM K "list" rPopAt ta (tCons (tC (.int 0)) tNil)) D σ H :=
  ha H (Ex.refl H) _ fun H1 e1 => ⟨Or.inl ⟨rfl, _, Evl.sq_of (e1 l _ hl)⟩, l, w :: xs, 0, 0, w, rfl, rfl, e1 _ _ hl, by decide, by decide, by simp [seqIndex?], rfl, k H1 e1⟩
theorem q_pop0 {D : Ends} {tz : TS} {l : Addr} {xs : List V} {w : V} (hl : H l = some (.lst (w :: xs))) (ha : Ev ta σ H (.ref l)) (k : ∀ H1, Ex H H1 → tz D σ (upd H1 l (.lst xs))) : tSeq (tDrop (tBM K "list" rPopAt ta (tCons (tC (.int 0)) tNil))) tz D σ H := s_pop0 (D := { D with nx := tz D }) hl ha k

/-! ### ring_by -/
def sp_ring_by (K : PySem.W.Frag) : Sp := fun vs H Q _ => ∃ (w d : Addr) (i : Nat) (n turn start : Int) (ts : List Tie) (tt : Tie) (kvs : List (Key × V)) (cs : List (Int × List Int)) (h : Int → Int) (ok : OkT), vs = [.ref w, .int (i : Int), .ref d] ∧ OneTop K "Ring" "steps" ∧ WebAt K H w n ts turn ∧ n ≤ 1000 ∧ Valid n ts ∧ (0 ≤ start ∧ start < n) ∧ ts[i]? = some tt ∧
  Rd H d (.dK kvs) ∧ DTup K H kvs cs ∧ Tree ts (rowsUp ok n ts ts.length) start cs ∧ tt.1 ∈ keys cs ∧ tt.2.1 ∈ keys cs ∧ HOk ts cs h ∧ noughtF turn (h tt.2.1 - h tt.1 - tt.2.2) = false ∧ RetP (fun v H2 => ∃ ss, AnsS K H "Ring" ss v H2 ∧ ss.length ≤ 2100 ∧ ringF ts turn ss = true) H Q
def t_ring_by (K : PySem.W.Frag) : TS :=
 (tSeq (tAsg (tOp (rIxL K) (tFld K (tVar 0) "bound") (tVar 1)) (gTup K 3 (gCons (gName 3) (gCons (gName 4) (gCons (gName 5) gNil)))))
 (tSeq (tPar 6 7 (tCons (tCall (sp_way_back K) [] E0 (tCons (tVar 0) (tCons (tVar 2) (tCons (tVar 3) tNil)))) (tCons (tCall (sp_way_back K) [] E0 (tCons (tVar 0) (tCons (tVar 2) (tCons (tVar 4) tNil)))) tNil)))
 (tSeq (tWhile (tAnd (tTest (tOp rGtI (tCB (rLenS K) (tCons (tVar 6) tNil)) (tC (.int 0)))) (tAnd (tTest (tOp rGtI (tCB (rLenS K) (tCons (tVar 7) tNil)) (tC (.int 0)))) (tTest (tOp (rEqD K) (tOp (rIxL K) (tVar 6) (tC (.int 0))) (tOp (rIxL K) (tVar 7) (tC (.int 0))))))) (tSeq (tDrop (tBM K "list" rPopAt (tVar 6) (tCons (tC (.int 0)) tNil)))
 (tDrop (tBM K "list" rPopAt (tVar 7) (tCons (tC (.int 0)) tNil)))))
 (tRet (tMake (ga K "Ring") (sp_Ring_init K) [] E0 (tCons (tOp rCat (tOp rCat (tVar 6) (tLst (tCons (tTup (tCons (tVar 1) (tCons (tC (.int 1)) tNil))) tNil))) (tLc (iList K (tRevL K (tVar 7))) (gTup K 2 (gCons (gName 8) (gCons (gName 9) gNil))) tYes (tTup (tCons (tVar 8) (tCons (tUn rNegI (tVar 9)) tNil))) [8, 9])) tNil))))))
theorem rd_ring_by (vs : List V) (H : Hp) (Q : VK) (E : XK) (h : sp_ring_by K vs H Q E) : goal (t_ring_by K) ["web", "tie", "came", "one", "other", "number", "here", "there", "at", "way"] vs H Q := by
  obtain ⟨w, d, i, n, turn, start, ts, tt, kvs, cs, h, ok, rfl, T, hw, hn1, hv, hst, ht, hd, hcs, hT, m1, m2, hh, hn, k⟩ := h
  have hil : i < ts.length := (List.getElem?_eq_some_iff.mp ht).1
  have hat : atI ts (i : Int) = some tt := atI_of (by omega) (by simpa using ht)
  obtain ⟨r1, ps1, c1, p1⟩ := tree_path hv hst hT tt.1 m1
  obtain ⟨r2, ps2, c2, p2⟩ := tree_path hv hst hT tt.2.1 m2
  have hcl : cs.length ≤ n.toNat := hT.len (rows_good hv) hst
  have l1 := p1.len
  have l2 := p2.len
  refine q_un3 (a := tt.1) (b := tt.2.1) (c := tt.2.2) (ei_bound (Evl.ev_var rfl) hw (Evl.ev_var rfl) hat) fun H1 e1 => ?_
  refine q_parP (P2 := fun H2 => NewLT K H2 (r2.reverse.map stepL)) (ep_way_back (w := w) (d := d) (k := tt.1) (n := n) (turn := turn) (ts := ts) (kvs := kvs) (cs := cs) (r := r1) (Evl.ea_cons (Evl.ev_var rfl) (Evl.ea_cons (Evl.ev_var rfl) (Evl.ea_cons (Evl.ev_var rfl) Evl.ea_nil))) (hw.mono e1) (Evl.ex_rd e1 hd) (hcs.mono e1) p1.back (by omega))
    (fun H2 e2 => ep_way_back (w := w) (d := d) (k := tt.2.1) (n := n) (turn := turn) (ts := ts) (kvs := kvs) (cs := cs) (r := r2) (Evl.ea_cons (Evl.ev_var rfl) (Evl.ea_cons (Evl.ev_var rfl) (Evl.ea_cons (Evl.ev_var rfl) Evl.ea_nil))) (hw.mono (e1.trans e2)) (Evl.ex_rd (e1.trans e2) hd) (hcs.mono (e1.trans e2)) p2.back (by omega)) fun v y H2 H3 e2 hv1 e3 hv2 => ?_
  obtain ⟨a1, us1, rfl, f1, g1, t1⟩ := hv1
  obtain ⟨a2, us2, rfl, f2, g2, t2⟩ := hv2
  have n12 : a1 ≠ a2 := fun z => by rw [← z, g1] at f2; cases f2
  have f2' : H1 a2 = none := Evl.fresh_back e2 f2
  refine q_seq (f_while (fun m σ' H' => ∃ (pre x1 x2 : List Step) (us1 us2 : List V), σ' = [some (.ref w), some (.int (i : Int)), some (.ref d), some (.int tt.1), some (.int tt.2.1), some (.int tt.2.2), some (.ref a1), some (.ref a2), none, none] ∧ Ex H H' ∧ H' a1 = some (.lst us1) ∧ TupL K H' us1 (x1.map stepL) ∧ H' a2 = some (.lst us2) ∧ TupL K H' us2 (x2.map stepL) ∧ r1.reverse = pre ++ x1 ∧ r2.reverse = pre ++ x2 ∧ m = x1.length) r1.reverse.length
    ⟨[], r1.reverse, r2.reverse, us1, us2, rfl, e1.trans (e2.trans e3), e3 _ _ g1, t1.mono e3, g2, t2, rfl, rfl, rfl⟩ ?_)
  have f1H : H a1 = none := Evl.fresh_back e1 f1
  have f2H : H a2 = none := Evl.fresh_back e1 f2'
  rintro m σ' H' ⟨pre, x1, x2, us1, us2, rfl, e, g1, t1, g2, t2, hr1, hr2, rfl⟩
  have lt1 : LT K H' a1 (x1.map stepL) := ⟨us1, SqL.of g1, t1⟩
  have lt2 : LT K H' a2 (x2.map stepL) := ⟨us2, SqL.of g2, t2⟩
  have hl1 : Ev (tCB (rLenS K) (tCons (tVar 6) tNil)) [some (.ref w), some (.int (i : Int)), some (.ref d), some (.int tt.1), some (.int tt.2.1), some (.int tt.2.2), some (.ref a1), some (.ref a2), none, none] H' (.int (x1.length : Int)) := by
    have e := ev_lenT (Evl.ev_var rfl) lt1 (σ := [some (.ref w), some (.int (i : Int)), some (.ref d), some (.int tt.1), some (.int tt.2.1), some (.int tt.2.2), some (.ref a1), some (.ref a2), none, none]) (ta := tVar 6)
    rwa [List.length_map] at e
  have hl2 : Ev (tCB (rLenS K) (tCons (tVar 7) tNil)) [some (.ref w), some (.int (i : Int)), some (.ref d), some (.int tt.1), some (.int tt.2.1), some (.int tt.2.2), some (.ref a1), some (.ref a2), none, none] H' (.int (x2.length : Int)) := by
    have e := ev_lenT (Evl.ev_var rfl) lt2 (σ := [some (.ref w), some (.int (i : Int)), some (.ref d), some (.int tt.1), some (.int tt.2.1), some (.int tt.2.2), some (.ref a1), some (.ref a2), none, none]) (ta := tVar 7)
    rwa [List.length_map] at e
  refine ⟨decide ((0 : Int) < x1.length) && (decide ((0 : Int) < x2.length) && decide (x1.head? = x2.head?)), Evl.et_and (Evl.et_test (Evl.ev_op hl1 Evl.ev_c rv_gt)) fun b1 => Evl.et_and (Evl.et_test (Evl.ev_op hl2 Evl.ev_c rv_gt)) fun b2 => ?_, fun hb H4 e4 => ?_, fun hb H4 e4 => ?_⟩
  · cases x1 with
    | nil => exact absurd b1 (by simp)
    | cons s1 x1 =>
      cases x2 with
      | nil => exact absurd b2 (by simp)
      | cons s2 x2 =>
        refine Evl.et_test (Evl.ev_is (ev_eqTup (xs := stepL s1) (ys := stepL s2) (ei_ix (Evl.ev_var rfl) Evl.ev_c lt1 (atI_of (by decide) rfl)) (ei_ix (Evl.ev_var rfl) Evl.ev_c lt2 (atI_of (by decide) rfl))) ?_)
        refine congrArg V.bl (decide_eq_decide.mpr ?_)
        exact ⟨fun z => by rw [stepL_inj z]; rfl, fun z => by have : s1 = s2 := Option.some.inj z; rw [this]⟩
  · rw [Bool.and_eq_true, Bool.and_eq_true] at hb
    obtain ⟨b1, b2, b3⟩ := hb
    cases x1 with
    | nil => exact absurd b1 (by simp)
    | cons s1 x1 =>
      cases x2 with
      | nil => exact absurd b2 (by simp)
      | cons s2 x2 =>
        have es : s1 = s2 := Option.some.inj (of_decide_eq_true b3)
        subst es
        cases t1 with
        | cons q1 t1 =>
          cases t2 with
          | cons q2 t2 =>
            rename_i u1 us1 u2 us2
            refine ⟨fun σ2 H2 => ∃ (pre y1 y2 : List Step) (us1 us2 : List V), σ2 = [some (.ref w), some (.int (i : Int)), some (.ref d), some (.int tt.1), some (.int tt.2.1), some (.int tt.2.2), some (.ref a1), some (.ref a2), none, none] ∧ Ex H H2 ∧ H2 a1 = some (.lst us1) ∧ TupL K H2 us1 (y1.map stepL) ∧ H2 a2 = some (.lst us2) ∧ TupL K H2 us2 (y2.map stepL) ∧ r1.reverse = pre ++ y1 ∧ r2.reverse = pre ++ y2 ∧ y1.length = x1.length, ?_, ?_⟩
            · rintro σ2 H2 ⟨pre, y1, y2, us1, us2, z0, z1, z2, z3, z4, z5, z6, z7, z8⟩
              exact ⟨x1.length, by simp, pre, y1, y2, us1, us2, z0, z1, z2, z3, z4, z5, z6, z7, z8.symm⟩
            · refine q_pop0 (e4 _ _ g1) (Evl.ev_var rfl) fun H5 e5 => ?_
              have x5 := (e.trans (e4.trans e5)).mut f1H (o := .lst us1)
              have g15 := e5 _ _ (e4 _ _ g1)
              have g25 : (upd H5 a1 (.lst us1)) a2 = some (.lst (u2 :: us2)) := by
                rw [upd_ne n12.symm]
                exact e5 _ _ (e4 _ _ g2)
              refine s_pop0 g25 (Evl.ev_var rfl) fun H6 e6 => ?_
              have g26 := e6 _ _ g25
              have g16 : H6 a1 = some (.lst us1) := e6 _ _ upd_same
              exact ⟨pre ++ [s1], x1, x2, us1, us2, rfl, (x5.trans e6).mut f2H, by rw [upd_ne n12]; exact g16, (((t1.mono (e4.trans e5)).updL g15).mono e6).updL g26, upd_same, (((t2.mono (e4.trans e5)).updL g15).mono e6).updL g26, by rw [hr1]; simp, by rw [hr2]; simp, rfl⟩
  · dsimp only
    have hd3 : x1.reverse = [] ∨ x2.reverse = [] ∨ x1.reverse.getLast? ≠ x2.reverse.getLast? := by
      cases x1 with
      | nil => exact .inl rfl
      | cons s1 x1 =>
        cases x2 with
        | nil => exact .inr (.inl rfl)
        | cons s2 x2 =>
          refine .inr (.inr fun z => ?_)
          have z2 : (s1 :: x1).head? = (s2 :: x2).head? := by
            rw [List.getLast?_reverse, List.getLast?_reverse] at z
            exact z
          rw [decide_eq_true z2] at hb
          simp at hb
    have hring := ring_of (ok := ok) (a := x1.reverse) (b := x2.reverse) (c := pre.reverse) hv hT (tree_up hv hst hT) (fun kk hk => by obtain ⟨r, _, _, q⟩ := tree_path hv hst hT kk hk; exact ⟨r, q.back⟩) hh ht hn
      (by rw [← List.reverse_append, ← hr1, List.reverse_reverse]; exact p1.back) (by rw [← List.reverse_append, ← hr2, List.reverse_reverse]; exact p2.back) hd3
    rw [List.reverse_reverse] at hring
    have hx1 : x1.length ≤ 1000 := by
      have := congrArg List.length hr1
      rw [List.length_reverse, List.length_append] at this
      omega
    have hx2 : x2.length ≤ 1000 := by
      have := congrArg List.length hr2
      rw [List.length_reverse, List.length_append] at this
      omega
    have g14 := e4 _ _ g1
    have g24 := e4 _ _ g2
    have t14 := t1.mono e4
    have t24 := t2.mono e4
    have big := e.trans e4
    refine s_retP (ep_ansS (C := "Ring") (ss := x1 ++ [((i : Int), 1)] ++ x2.reverse.map flipS) T ?_) fun v H5 e5 hv => k v H5 (big.trans e5) ⟨_, hv.back big, by simp; omega, hring⟩
    rw [List.map_append, List.map_append]
    refine ep_catL ((ep_catL (Ev.toP (Evl.ev_var rfl) fun H5 e5 => ⟨a1, us1, rfl, e5 _ _ g14, t14.mono e5⟩) ((ep_lst1 (xs := [(i : Int), 1]) (ei_tup (eai_cons (Evl.ev_var rfl) (eai_cons Evl.ev_c eai_nil)) (by show 2 ≤ 100000; decide))).imp fun v H5 e5 ⟨l, vs, a, _, b, c⟩ => ⟨l, vs, a, b, c⟩) (by simp; omega)).imp fun v H5 e5 ⟨l, vs, a, _, b, c⟩ => ⟨l, vs, a, b, c⟩) ?_ (by simp; omega)
    refine lc_listP (P := fun H2 ys => TupL K H2 ys ((x2.map stepL).reverse)) ((ep_rev (a := a2) (vs := us2) (xss := x2.map stepL) (Evl.ev_var rfl) (SqL.of g24) t24).imp fun v H5 e5 ⟨l, vs, a, _, b, c⟩ => ⟨l, vs, a, SqL.of b, c⟩) fun b xs H5 e5 hx hp => (lc_tup2 (K := K) (yss := (x2.reverse.map flipS).map stepL) Evl.ev_c ⟨xs, hx, hp⟩ (by simp; omega) (by simp) (fun _ _ => rfl) fun j x H6 e6 hx6 => ?_).imp fun v H6 e6 ⟨l, vs, a, _, b, c⟩ => ⟨l, vs, a, b, c⟩
    rw [← List.map_reverse, List.getElem?_map] at hx6
    cases hsj : x2.reverse[j]? with
    | none => rw [hsj] at hx6; cases hx6
    | some s =>
      rw [hsj] at hx6
      cases hx6
      exact ⟨s.1, s.2, [s.1, -s.2], rfl, by rw [List.getElem?_map, List.getElem?_map, hsj]; rfl, ei_tup (eai_cons (Evl.ev_var rfl) (eai_cons (ev_neg (Evl.ev_var rfl)) eai_nil)) (by show 2 ≤ 100000; decide)⟩
end G

/-! levels. -/
namespace G
open PySem PySem.Spec PyProof.Rows L2
open Evl (Ex Ev EvL EvU EvT EvA RV RetV)
local macro_rules | `(tactic| walk_at "hp") => `(tactic| first
  | with_reducible assumption
  | ((with_reducible show _ = some (_ : HO)); (with_reducible exact ex_app (by assumption) (by walk_at "hp")))
  | ((with_reducible show TupI _ _ _ _); (with_reducible exact TupI.mono (by assumption) (by walk_at "hp")))
  | ((with_reducible show LT _ _ _ _); (with_reducible exact LT.mono (by assumption) (by walk_at "hp")))
  | ((with_reducible show LI _ _ _ _); (first | (with_reducible exact li_of (by walk_at "hp")) | (with_reducible exact LI.mono (by assumption) (by walk_at "hp"))))
  | ((with_reducible show SqL _ _ _ _); (first | (with_reducible exact SqL.of (by walk_at "hp")) | (with_reducible exact Evl.ex_l (by assumption) (by walk_at "hp"))))
  | ((with_reducible show SqT _ _ _ _); (first | (with_reducible exact SqT.of (by walk_at "hp")) | (with_reducible exact Evl.ex_t (by assumption) (by walk_at "hp"))))
  | ((with_reducible show Rd _ _ _); (first | (with_reducible exact Rd.of (by walk_at "hp")) | (with_reducible exact Evl.ex_rd (by assumption) (by walk_at "hp"))))
  | walk_at "hpf")
local macro_rules | `(tactic| walk_at "at") => `(tactic| first
  | with_reducible assumption
  | with_reducible rfl
  | (refine atI_of ?va ?vb; (case va => omega); (case vb => assumption))
  | walk_at "atf"
  | rfl)
local macro_rules | `(tactic| walk_at "rv") => `(tactic| first
  | with_reducible exact rv_add | with_reducible exact rv_sub | with_reducible exact rv_eqI | with_reducible exact rv_neI | with_reducible exact rv_lt | with_reducible exact rv_le | with_reducible exact rv_gt | with_reducible exact rv_ge
  | with_reducible exact rv_eqB | with_reducible exact rv_neB | with_reducible exact rv_isB | with_reducible exact rv_notB
  | ((with_reducible refine rv_mod ?_); (first | assumption | omega))
  | ((with_reducible refine rv_mul ?_); (first | exact Or.inl ⟨by omega, by omega⟩ | exact Or.inr ⟨by omega, by omega⟩))
  | ((with_reducible refine rv_div ?_); exact ⟨by omega, by omega⟩))
local macro_rules | `(tactic| walk_at "ty") => `(tactic| first
  | with_reducible exact fun _ _ => .base (.int _) | with_reducible exact fun _ _ => .base (.bl _) | with_reducible exact fun _ _ => .base .non | with_reducible exact fun _ _ => .base (.str _)
  | ((with_reducible apply ty_tup); walk_at "hp")
  | ((with_reducible apply ty_lst); walk_at "hp")
  | walk_at "tyf")
local macro_rules | `(tactic| walk_at "ev") => `(tactic| repeat' (first
  | with_reducible exact Evl.ev_c
  | ((with_reducible apply Evl.ev_var); rfl)
  | with_reducible apply ev_neg
  | with_reducible apply ev_ixU
  | walk_at "evf"
  | ((with_reducible apply ev_lenI); (· walk_at "ev"); (· walk_at "hp"))
  | ((with_reducible apply ev_lenT); (· walk_at "ev"); (· walk_at "hp"))
  | ((with_reducible apply ev_lenU); (· walk_at "ev"))
  | with_reducible apply ev_lenSet
  | with_reducible apply ev_chain
  | with_reducible apply ev_isiTy
  | with_reducible apply Evl.ev_andV
  | with_reducible apply Evl.ev_orV
  | with_reducible apply Evl.ev_notV
  | ((with_reducible apply ev_ixI); (· walk_at "ev"); (· walk_at "ev"); (· walk_at "hp"); (· walk_at "at"))
  | with_reducible apply Evl.ev_op
  | ((with_reducible apply evi_of); (· (with_reducible apply Evl.ev_var); rfl); (· walk_at "hp"))
  | with_reducible apply ei_ix
  | with_reducible apply ei_tup
  | with_reducible exact eai_nil
  | with_reducible apply eai_cons
  | with_reducible exact Evl.ea_nil
  | with_reducible apply Evl.ea_cons
  | with_reducible apply Evl.et_test
  | with_reducible apply Evl.et_and
  | with_reducible apply Evl.et_or
  | with_reducible apply Evl.et_not
  | with_reducible apply Evl.et_B
  | walk_at "rv"
  | ((with_reducible show L2.kitB _ _ = _); rfl)
  | ((with_reducible show L2.atI _ _ = _); walk_at "at")
  | ((with_reducible show (_ : Nat) ≤ _); (first | omega | (simp; done) | (simp; omega)))
  | ((with_reducible show _ = true → _); intro _)
  | ((with_reducible show _ = false → _); intro _)
  | ((with_reducible show TupI _ _ _ _); walk_at "hp")
  | ((with_reducible show LT _ _ _ _); walk_at "hp")
  | ((with_reducible show LI _ _ _ _); walk_at "hp")
  | ((with_reducible show SqL _ _ _ _); walk_at "hp")
  | ((with_reducible show SqT _ _ _ _); walk_at "hp")
  | ((with_reducible show Rd _ _ _); walk_at "hp")
  | ((with_reducible show _ = some (_ : HO)); walk_at "hp")
  | walk_at "hpg"
  | walk_at "ty"))

local macro_rules | `(tactic| walk_at "hpf") => `(tactic| ((with_reducible show WebAt _ _ _ _ _ _); (with_reducible exact WebAt.mono (by assumption) (by walk_at "hp"))))
local macro_rules | `(tactic| walk_at "hpg") => `(tactic| ((with_reducible show WebAt _ _ _ _ _ _); walk_at "hp"))
local macro_rules | `(tactic| walk_at "evf") => `(tactic| with_reducible apply ev_points)
local macro_rules | `(tactic| walk_at "evf") => `(tactic| with_reducible apply ev_turn)
local macro_rules | `(tactic| walk_at "evf") => `(tactic| with_reducible apply ev_lenB)
local macro_rules | `(tactic| walk_at "evf") => `(tactic| with_reducible apply ei_bound)
local macro_rules | `(tactic| walk_at "evf") => `(tactic| with_reducible apply ev_is_whole)
local macro_rules | `(tactic| walk_at "evf") => `(tactic| with_reducible apply ev_is_below)
local macro_rules | `(tactic| walk_at "evf") => `(tactic| with_reducible apply ev_is_tie)
local macro_rules | `(tactic| walk_at "evf") => `(tactic| with_reducible apply ei_stepped)
variable {K : PySem.W.Frag} {σ : L2.St} {H H' H1 : Hp} {ta tb tc te : TE} {t u : TT} {tl : TA} {v x y z : V}

/-! ### dicts from ints to objects -/
abbrev RM := List (Int × Addr)
def kvR (tr : RM) : List (Key × V) := tr.map fun p => (Sum.inl p.1, V.ref p.2)
theorem kvR_look {k : Int} : ∀ tr : RM, valV (kvR tr) (Sum.inl k) = (tr.lookup k).map V.ref
  | [] => rfl
  | (j, c) :: fs => by
    by_cases hj : k = j
    · subst hj
      rw [show kvR ((k, c) :: fs) = (Sum.inl k, V.ref c) :: kvR fs from rfl, valV_pos rfl]
      simp
    · have hb : (k == j) = false := by simpa using hj
      have hv : valV ((Sum.inl j, V.ref c) :: kvR fs : List (Key × V)) (Sum.inl k) = valV (kvR fs) (Sum.inl k) := valV_neg (fun z => hj (Sum.inl.inj z).symm)
      rw [show kvR ((j, c) :: fs) = (Sum.inl j, V.ref c) :: kvR fs from rfl, hv, kvR_look fs]
      simp only [List.lookup, hb]
theorem kvR_app (a b : RM) : kvR (a ++ b) = kvR a ++ kvR b := by unfold kvR; rw [List.map_append]
/-- the last entry set anew -/
theorem putK_last {k : Key} {x y : V} {kvs : List (Key × V)} (h : valV kvs k = none) : putK (kvs ++ [(k, x)]) k y = kvs ++ [(k, y)] := by
  have hn : ∀ kv ∈ kvs, ¬ kv.1 = k := fun kv hkv e => by
    have q : (valV kvs k).isSome = true := by
      rw [← valV_any, List.any_eq_true]
      exact ⟨kv, hkv, decide_eq_true e⟩
    rw [h] at q
    cases q
  unfold putK
  rw [if_pos (by rw [List.any_eq_true]; exact ⟨(k, x), by simp, by simp⟩), List.map_append]
  congr 1
  · have e : ∀ l : List (Key × V), (∀ kv ∈ l, ¬ kv.1 = k) → l.map (fun kv => if kv.1 = k then (kv.1, y) else kv) = l := by
      intro l
      induction l with
      | nil => intro _; rfl
      | cons a l ih =>
        intro hl
        rw [List.map_cons, if_neg (hl a List.mem_cons_self), ih fun kv hk => hl kv (List.mem_cons_of_mem _ hk)]
    exact e kvs hn
  · simp
/-! ### a tree's order -/
theorem tree_at {ok : OkT} {ts : List Tie} {n start : Int} {cs : List (Int × List Int)} (hv : Valid n ts) (h0 : 0 ≤ start ∧ start < n) (h : Tree ts (rowsUp ok n ts ts.length) start cs) : ∀ (j : Nat) (k : Int) (x : List Int), cs[j]? = some (k, x) → x = [] ∨ ∃ s, x = stepL s ∧ (stepF ts k (s.1, -s.2)).1 ∈ (keys cs).take j := by
  have g := rows_good (ok := ok) hv
  induction h with
  | root =>
    intro j k x hj
    cases j with
    | zero =>
      simp at hj
      exact .inl hj.2
    | succ j => simp at hj
  | grow h ha hs hn ih =>
    rename_i cs a s
    intro j k x hj
    have hr := h.range g h0
    have hkl : (keys cs).length = cs.length := List.length_map _
    by_cases hlt : j < cs.length
    · rw [List.getElem?_append_left hlt] at hj
      rcases ih j k x hj with e | ⟨s', e, m⟩
      · exact .inl e
      · refine .inr ⟨s', e, ?_⟩
        rw [show keys (cs ++ [((stepF ts a s).1, stepL s)]) = keys cs ++ [(stepF ts a s).1] from List.map_append, List.take_append_of_le_length (by omega)]
        exact m
    · rw [List.getElem?_append_right (by omega)] at hj
      have hj0 : j = cs.length := by
        have := (List.getElem?_eq_some_iff.mp hj).1
        simp at this
        omega
      subst hj0
      rw [Nat.sub_self] at hj
      have hj2 : ((stepF ts a s).1, stepL s) = (k, x) := Option.some.inj hj
      obtain ⟨ek, ex⟩ := Prod.mk.inj hj2
      obtain ⟨b, sb⟩ := rows_step hv (hr a ha).1 hs
      refine .inr ⟨s, ex.symm, ?_⟩
      rw [← ek, sb.to, sb.back, show keys (cs ++ [(b, stepL s)]) = keys cs ++ [b] from List.map_append, List.take_append_of_le_length (by omega), List.take_of_length_le (by omega)]
      exact ha
theorem look_at {α : Type} {k : Int} {x : α} : ∀ {cs : List (Int × α)} {j : Nat}, (cs.map (·.1)).Nodup → cs[j]? = some (k, x) → cs.lookup k = some x
  | [], j, _, h => by simp at h
  | (k', x') :: cs, 0, _, h => by
    simp at h
    obtain ⟨rfl, rfl⟩ := h
    simp
  | (k', x') :: cs, j + 1, nd, h => by
    have h2 : cs[j]? = some (k, x) := by simpa using h
    have nd2 := List.nodup_cons.mp (show (k' :: cs.map (·.1)).Nodup from nd)
    have hne : k ≠ k' := fun e => nd2.1 (List.mem_map.mpr ⟨(k, x), List.mem_of_getElem? h2, e⟩)
    have hb : (k == k') = false := by simpa using hne
    simp only [List.lookup, hb]
    exact look_at nd2.2 h2
theorem at_look {α : Type} {k : Int} {x : α} : ∀ {cs : List (Int × α)}, cs.lookup k = some x → ∃ j : Nat, cs[j]? = some (k, x)
  | [], h => by simp at h
  | (k', x') :: cs, h => by
    by_cases e : k = k'
    · subst e
      simp at h
      subst h
      exact ⟨0, rfl⟩
    · have hb : (k == k') = false := by simpa using e
      simp only [List.lookup, hb] at h
      obtain ⟨j, hj⟩ := at_look h
      exact ⟨j + 1, by simpa using hj⟩
theorem okF_all {turn : Int} {i : Nat} {t : Tie} : okF (-1) false turn i t = true := okF_true.mpr (by omega)
theorem lookI_app {fs gs : IM} {k : Int} (h : k ∈ fs.map (·.1)) : lookI (fs ++ gs) k = lookI fs k := by
  unfold lookI
  rw [look_app, if_pos (look_mem.mpr h)]
theorem lookI_some {fs : IM} {k : Int} (h : k ∈ fs.map (·.1)) : fs.lookup k = some (lookI fs k) := by
  rw [← look_mem] at h
  unfold lookI
  cases hc : fs.lookup k with
  | none => rw [hc] at h; cases h
  | some c => rfl
/-- what is known of the tree that stands behind a point -/
def CmOk (K : PySem.W.Frag) (H : Hp) (ts : List Tie) (n turn : Int) (fs : IM) (k : Int) (d : Addr) : Prop := ∃ (od : Obj) (kvs : List (Key × V)) (cs : List (Int × List Int)) (start : Int), H d = some (.frz od (.dK kvs)) ∧ DTup K H kvs cs ∧ Reach ts (nearF (-1) false n turn ts) start cs ∧ (0 ≤ start ∧ start < n) ∧ k ∈ keys cs ∧ HOk ts cs (lookI fs) ∧ ∀ j ∈ keys cs, j ∈ fs.map (·.1)
theorem CmOk.mono {ts : List Tie} {n turn k : Int} {fs : IM} {d : Addr} (e : Ex H H') (h : CmOk K H ts n turn fs k d) : CmOk K H' ts n turn fs k d := by
  obtain ⟨od, kvs, cs, start, a, b, c⟩ := h
  exact ⟨od, kvs, cs, start, e _ _ a, b.mono e, c⟩
theorem CmOk.upd {ts : List Tie} {n turn k : Int} {fs : IM} {d f : Addr} {o : HO} {kvs' : List (Key × V)} (hf : H f = some (.dK kvs')) (h : CmOk K H ts n turn fs k d) : CmOk K (upd H f o) ts n turn fs k d := by
  obtain ⟨od, kvs, cs, start, a, b, c⟩ := h
  exact ⟨od, kvs, cs, start, by rw [upd_ne (ne_of a hf (by intro z; cases z))]; exact a, b.updM hf rfl, c⟩
theorem HOk.ext {ok : OkT} {ts : List Tie} {n : Int} {cs : List (Int × List Int)} {h g : Int → Int} (U : UpOk ok ts n cs) (e : ∀ k ∈ keys cs, g k = h k) (a : HOk ts cs h) : HOk ts cs g := fun k s hk => by
  have hm : k ∈ keys cs := look_mem.mp (by rw [hk]; rfl)
  rw [e k hm, e _ (U k s hk).2.2.1]
  exact a k s hk
theorem CmOk.grow {ts : List Tie} {n turn k : Int} {fs gs : IM} {d : Addr} (hv : Valid n ts) (h : CmOk K H ts n turn fs k d) : CmOk K H ts n turn (fs ++ gs) k d := by
  obtain ⟨od, kvs, cs, start, a, b, c, e, m, hh, hs⟩ := h
  refine ⟨od, kvs, cs, start, a, b, c, e, m, HOk.ext (tree_up hv e c.1) (fun j hj => lookI_app (hs j hj)) hh, fun j hj => by rw [List.map_append]; exact List.mem_append_left _ (hs j hj)⟩
structure Lv (K : PySem.W.Frag) (H : Hp) (ts : List Tie) (n turn : Int) (i : Nat) (fs : IM) (tr : RM) : Prop where
  nd : (fs.map (·.1)).Nodup
  rng : ∀ k ∈ fs.map (·.1), 0 ≤ k ∧ k < n
  kt : tr.map (·.1) = fs.map (·.1)
  done : ∀ p : Int, 0 ≤ p → p < i → p ∈ fs.map (·.1)
  cm : ∀ k ∈ fs.map (·.1), ∃ d, tr.lookup k = some d ∧ CmOk K H ts n turn fs k d
theorem Lv.len {ts : List Tie} {n turn : Int} {i : Nat} {fs : IM} {tr : RM} (h : Lv K H ts n turn i fs tr) : fs.length ≤ n.toNat := by
  have := nodup_leI h.nd h.rng
  rwa [List.length_map] at this
theorem Lv.mono {ts : List Tie} {n turn : Int} {i : Nat} {fs : IM} {tr : RM} (e : Ex H H') (h : Lv K H ts n turn i fs tr) : Lv K H' ts n turn i fs tr := ⟨h.nd, h.rng, h.kt, h.done, fun k hk => by
  obtain ⟨d, a, b⟩ := h.cm k hk
  exact ⟨d, a, b.mono e⟩⟩
theorem Lv.shut {ts : List Tie} {n turn : Int} {i : Nat} {fs : IM} {tr : RM} (hv : Valid n ts) (h : Lv K H ts n turn i fs tr) : Shut (okF (-1) false turn) ts (fun k => k ∈ fs.map (·.1)) := fun j t h1 h2 => by
  have key : ∀ k, k ∈ fs.map (·.1) → ∀ cs start, Reach ts (nearF (-1) false n turn ts) start cs → k ∈ keys cs → (t.1 ∈ keys cs ↔ t.2.1 ∈ keys cs) := fun k _ cs start hR _ => reach_side hv hR h1 h2
  constructor
  · intro m
    obtain ⟨d, _, od, kvs, cs, start, _, _, hR, _, m2, _, hs⟩ := h.cm _ m
    exact hs _ ((key _ m cs start hR m2).mp m2)
  · intro m
    obtain ⟨d, _, od, kvs, cs, start, _, _, hR, _, m2, _, hs⟩ := h.cm _ m
    exact hs _ ((key _ m cs start hR m2).mpr m2)
theorem lv_nil {ts : List Tie} {n turn : Int} : Lv K H ts n turn 0 [] [] := ⟨by simp, by simp, rfl, fun p h1 h2 => by omega, by simp⟩
theorem Lv.updD {ts : List Tie} {n turn : Int} {i : Nat} {fs : IM} {tr : RM} {f : Addr} {o : HO} {kvs' : List (Key × V)} (hf : H f = some (.dK kvs')) (h : Lv K H ts n turn i fs tr) : Lv K (upd H f o) ts n turn i fs tr := ⟨h.nd, h.rng, h.kt, h.done, fun k hk => by
  obtain ⟨d, a, b⟩ := h.cm k hk
  exact ⟨d, a, b.upd hf⟩⟩
/-- the heap while a tree is gone through -/
structure LvH (K : PySem.W.Frag) (H0 : Hp) (d f g l : Addr) (od : Obj) (kvs : List (Key × V)) (cs : List (Int × List Int)) (ts : List Tie) (n turn : Int) (i : Nat) (fs : IM) (tr : RM) (F G : List (Key × V)) (H : Hp) : Prop where
  ex : Ex H0 H
  fz : H d = some (.frz od (.dK kvs))
  dt : DTup K H kvs cs
  hf : H f = some (.dK F)
  hg : H g = some (.dK G)
  nr : NearAt K H l (nearF (-1) false n turn ts)
  lv : Lv K H ts n turn i fs tr
section
variable {H0 : Hp} {d f g l : Addr} {od : Obj} {kvs : List (Key × V)} {cs : List (Int × List Int)} {ts : List Tie} {n turn : Int} {i : Nat} {fs : IM} {tr : RM} {F G F' : List (Key × V)}
theorem LvH.mono (e : Ex H H') (h : LvH K H0 d f g l od kvs cs ts n turn i fs tr F G H) : LvH K H0 d f g l od kvs cs ts n turn i fs tr F G H' := ⟨h.ex.trans e, e _ _ h.fz, h.dt.mono e, e _ _ h.hf, e _ _ h.hg, h.nr.mono e, h.lv.mono e⟩
theorem LvH.putF (ff : H0 f = none) (nfg : f ≠ g) (h : LvH K H0 d f g l od kvs cs ts n turn i fs tr F G H) : LvH K H0 d f g l od kvs cs ts n turn i fs tr F' G (upd H f (.dK F')) :=
  ⟨h.ex.mut ff, by rw [upd_ne (ne_of h.fz h.hf (by intro z; cases z))]; exact h.fz, h.dt.updM h.hf rfl, upd_same, by rw [upd_ne nfg.symm]; exact h.hg, h.nr.updD h.hf, h.lv.updD h.hf⟩
theorem LvH.putG (fg : H0 g = none) (nfg : f ≠ g) (h : LvH K H0 d f g l od kvs cs ts n turn i fs tr F G H) : LvH K H0 d f g l od kvs cs ts n turn i fs tr F F' (upd H g (.dK F')) :=
  ⟨h.ex.mut fg, by rw [upd_ne (ne_of h.fz h.hg (by intro z; cases z))]; exact h.fz, h.dt.updM h.hg rfl, by rw [upd_ne nfg]; exact h.hf, upd_same, h.nr.updD h.hg, h.lv.updD h.hg⟩
end
abbrev markR (ks : List Int) (d : Addr) : RM := ks.map fun k => (k, d)
theorem markR_keys {d : Addr} : ∀ {ks : List Int}, (markR ks d).map (·.1) = ks
  | [] => rfl
  | k :: ks => congrArg (k :: ·) (markR_keys (ks := ks))
theorem markR_look {d : Addr} {k : Int} : ∀ {ks : List Int}, k ∈ ks → (markR ks d).lookup k = some d
  | j :: ks, h => by
    by_cases e : k = j
    · subst e
      simp
    · have hb : (k == j) = false := by simpa using e
      show (match k == j with | true => some d | false => (markR ks d).lookup k) = _
      rw [hb]
      exact markR_look ((List.mem_cons.mp h).resolve_left e)
structure TopH (K : PySem.W.Frag) : Prop where
  he : OneTop K "Heights" "heights"
  ri : OneTop K "Ring" "steps"
def LevV (K : PySem.W.Frag) (H : Hp) (n turn : Int) (ts : List Tie) (v : V) (H2 : Hp) : Prop :=
  (∃ hs, AnsN "Heights" "heights" K H hs v H2 ∧ hs.length ≤ 1000 ∧ heightsF n ts turn hs = true) ∨ ∃ ss, AnsS K H "Ring" ss v H2 ∧ ss.length ≤ 2100 ∧ ringF ts turn ss = true
def sp_levels (K : PySem.W.Frag) : Sp := fun vs H Q _ => ∃ (w : Addr) (n turn : Int) (ts : List Tie), vs = [.ref w] ∧ TopH K ∧ WebAt K H w n ts turn ∧ WebOk n turn ts ∧ RetP (LevV K H n turn ts) H Q
theorem ep_levels {w : Addr} {n turn : Int} {ts : List Tie} (T : TopH K) (h : EvA tl σ H [.ref w]) (hw : WebAt K H w n ts turn) (ok : WebOk n turn ts) : EvP (tCall (sp_levels K) [] E0 tl) σ H (LevV K H n turn ts) :=
  ep_call h fun H1 Q e k => ⟨w, n, turn, ts, rfl, T, hw.mono e, ok, fun v H2 e2 hv => k v H2 e2 (by
    rcases hv with ⟨cs, a, c⟩ | ⟨ss, a, c⟩
    · exact .inl ⟨cs, a.back e, c⟩
    · exact .inr ⟨ss, a.back e, c⟩)⟩
def t_levels (K : PySem.W.Frag) : TS :=
 (tSeq (tAsg tDNewK (gName 1))
 (tSeq (tAsg tDNewK (gName 2))
 (tSeq (tAsg (tCall (sp_beside K) [] E0 (tCons (tVar 0) (tCons (tUn rNegI (tC (.int 1))) (tCons (tC (.bl false)) tNil)))) (gName 3))
 (tSeq (tFor (iRng1 (tCons (tFld K (tVar 0) "points") tNil)) (gName 4) (tIfS (tB (tDNotIn (tVar 4) (tVar 1))) (tSeq (tAsg (tCall (sp_reached K) [] E0 (tCons (tVar 0) (tCons (tVar 4) (tCons (tVar 3) tNil)))) (gName 5))
 (tFor (iKeys (tFrz (tVar 5))) (gName 6) (tSeq (sDPut (tVar 1) (tVar 6) (tC (.int 0)))
 (tSeq (sDPut (tVar 2) (tVar 6) (tVar 5))
 (tIfS (tTest (tOp (rNeD K) (tDGet (tVar 5) (tVar 6)) (tTup tNil))) (tSeq (tAsg (tDGet (tVar 5) (tVar 6)) (gTup K 2 (gCons (gName 7) (gCons (gName 8) gNil))))
 (tSeq (tAsg (tOp (rIxT K) (tCall (sp_stepped K) [] E0 (tCons (tVar 0) (tCons (tVar 6) (tCons (tTup (tCons (tVar 7) (tCons (tUn rNegI (tVar 8)) tNil))) tNil)))) (tC (.int 0))) (gName 9))
 (sDPut (tVar 1) (tVar 6) (tOp rAddI (tDGet (tVar 1) (tVar 9)) (tOp rMulI (tVar 8) (tOp (rIxT K) (tOp (rIxL K) (tFld K (tVar 0) "bound") (tVar 7)) (tC (.int 2)))))))) tNext))))) tNext))
 (tSeq (tFor (iEnum K (tCons (tFld K (tVar 0) "bound") tNil)) (gTup K 2 (gCons (gName 10) (gCons (gName 7) gNil))) (tIfS (tNot (tB (tMeth (ga K "Web") "is_nought" (sp_Web_is_nought K) [] E0 (tVar 0) (tCons (tOp rSubI (tOp rSubI (tDGet (tVar 1) (tOp (rIxT K) (tVar 7) (tC (.int 1)))) (tDGet (tVar 1) (tOp (rIxT K) (tVar 7) (tC (.int 0))))) (tOp (rIxT K) (tVar 7) (tC (.int 2)))) tNil)))) (tRet (tCall (sp_ring_by K) [] E0 (tCons (tVar 0) (tCons (tVar 10) (tCons (tDGet (tVar 2) (tOp (rIxT K) (tVar 7) (tC (.int 0)))) tNil))))) tNext))
 (tRet (tMake (ga K "Heights") (sp_Heights_init K) [] E0 (tCons (tLc (iRng1 (tCons (tFld K (tVar 0) "points") tNil)) (gName 4) tYes (tDGet (tVar 1) (tVar 4)) [4]) tNil))))))))
theorem ep_ring_by {w d : Addr} {i : Nat} {n turn start : Int} {ts : List Tie} {tt : Tie} {kvs : List (Key × V)} {cs : List (Int × List Int)} {h : Int → Int} {ok : OkT} (ha : EvA tl σ H [.ref w, .int (i : Int), .ref d]) (T : OneTop K "Ring" "steps") (hw : WebAt K H w n ts turn) (hn : n ≤ 1000) (hv : Valid n ts) (hst : 0 ≤ start ∧ start < n) (ht : ts[i]? = some tt)
    (hd : Rd H d (.dK kvs)) (hc : DTup K H kvs cs) (hT : Tree ts (rowsUp ok n ts ts.length) start cs) (m1 : tt.1 ∈ keys cs) (m2 : tt.2.1 ∈ keys cs) (hh : HOk ts cs h) (hno : noughtF turn (h tt.2.1 - h tt.1 - tt.2.2) = false) :
    EvP (tCall (sp_ring_by K) [] E0 tl) σ H (fun v H2 => ∃ ss, AnsS K H "Ring" ss v H2 ∧ ss.length ≤ 2100 ∧ ringF ts turn ss = true) :=
  ep_call ha fun H1 Q e k => ⟨w, d, i, n, turn, start, ts, tt, kvs, cs, h, ok, rfl, T, hw.mono e, hn, hv, hst, ht, Evl.ex_rd e hd, hc.mono e, hT, m1, m2, hh, hno, fun v H2 e2 ⟨ss, a, b⟩ => k v H2 e2 ⟨ss, a.back e, b⟩⟩
theorem rd_levels (vs : List V) (H : Hp) (Q : VK) (E : XK) (h : sp_levels K vs H Q E) : goal (t_levels K) ["web", "heights", "trees", "near", "point", "came", "other", "tie", "way", "ahead", "at"] vs H Q := by
  obtain ⟨w, n, turn, ts, rfl, T, hw, ok, k⟩ := h
  have hn0 := ok.n0
  have hn1 := ok.n1
  have hlen := ok.len
  refine q_asgP (P := fun v H2 => ∃ f, v = .ref f ∧ H f = none ∧ H2 f = some (.dK [])) (fun H1 e1 Q' q' => fun p hp => q' _ _ (Ex.new hp) ⟨p, rfl, Evl.fresh_back e1 hp, upd_same⟩) fun v H1 e1 hv => ?_
  obtain ⟨f, rfl, ff, hf1⟩ := hv
  refine q_asgP (P := fun v H3 => ∃ g, v = .ref g ∧ H1 g = none ∧ H3 g = some (.dK [])) (fun H2 e2 Q' q' => fun p hp => q' _ _ (Ex.new hp) ⟨p, rfl, Evl.fresh_back e2 hp, upd_same⟩) fun v H2 e2 hv => ?_
  obtain ⟨g, rfl, fg1, hg2⟩ := hv
  have nfg : f ≠ g := fun z => by rw [← z, hf1] at fg1; cases fg1
  have fg : H g = none := Evl.fresh_back e1 fg1
  refine q_asgP (ep_beside (w := w) (skip := -1) (n := n) (turn := turn) (fr := false) (ts := ts) (Evl.ea_cons (Evl.ev_var rfl) (Evl.ea_cons (ev_neg Evl.ev_c) (Evl.ea_cons Evl.ev_c Evl.ea_nil))) (hw.mono (e1.trans e2)) ⟨by omega, by omega⟩ ok.t0 (by omega) ok.val) fun v H3 e3 hv => ?_
  obtain ⟨l, rfl, hnr⟩ := hv
  have e13 := e1.trans (e2.trans e3)
  have hf3 := e3 _ _ (e2 _ _ hf1)
  have hg3 := e3 _ _ hg2
  refine q_seq (f_range (n := n) (Evl.ea_cons (ev_points (Evl.ev_var rfl) (hw.mono e13)) Evl.ea_nil) ⟨by omega, by omega⟩
    (fun i σ' H' => ∃ (fs : IM) (tr : RM) (o4 o5 o6 o7 o8 o9 o10 : Option V), σ' = [some (.ref w), some (.ref f), some (.ref g), some (.ref l), o4, o5, o6, o7, o8, o9, o10] ∧ Ex H H' ∧ H' f = some (.dK (kvI fs)) ∧ H' g = some (.dK (kvR tr)) ∧ NearAt K H' l (nearF (-1) false n turn ts) ∧ Lv K H' ts n turn i fs tr)
    (fun H4 e4 => ⟨[], [], _, _, _, _, _, _, _, rfl, e13.trans e4, e4 _ _ hf3, e4 _ _ hg3, hnr.mono e4, lv_nil⟩) ?_ ?_)
  · rintro i σ' H' hi ⟨fs, tr, o4, o5, o6, o7, o8, o9, o10, rfl, e, hf, hg, hnr, hL⟩
    refine Evl.s_when (Evl.et_B (ev_dnotinI (Evl.ev_var rfl) (Evl.ev_var rfl) (Rd.of hf))) (fun hb H4 e4 => ?_) fun hb H4 e4 => ?_
    · have hni : (i : Int) ∉ fs.map (·.1) := fun z => by rw [decide_eq_true z] at hb; cases hb
      have hf4 := e4 _ _ hf
      have hg4 := e4 _ _ hg
      have hnr4 := hnr.mono e4
      have hL4 := hL.mono e4
      have e04 := e.trans e4
      refine q_asgP (ep_reached (w := w) (l := l) (start := (i : Int)) (Evl.ea_cons (Evl.ev_var rfl) (Evl.ea_cons (Evl.ev_var rfl) (Evl.ea_cons (Evl.ev_var rfl) Evl.ea_nil))) (hw.mono e04) hnr4 (rows_good ok.val) ⟨by omega, hi⟩ (by omega)) fun v H5 e5 hv => ?_
      obtain ⟨d, cs, rfl, fd, ⟨kvs, hd, hcs⟩, hR⟩ := hv
      have hks : kvs.map (·.1) = (keys cs).map Sum.inl := hcs.keys
      have hkl : kvs.length = (keys cs).length := by rw [List.length_map, hcs.length]
      have hkc : (keys cs).length = cs.length := List.length_map _
      have ndf : d ≠ f := fun z => by rw [z, hf4] at fd; cases fd
      have ndg : d ≠ g := fun z => by rw [z, hg4] at fd; cases fd
      have ap : ∀ kk ∈ keys cs, kk ∉ fs.map (·.1) := fun kk hk hk2 => hni ((tree_shut ok.val ⟨by omega, hi⟩ (hL.shut ok.val) hR.1 kk hk).mp hk2)
      have ndc := hR.1.nodup
      have rgc := hR.1.range (rows_good ok.val) ⟨by omega, hi⟩
      have ndfs : (fs.map (·.1) ++ keys cs).Nodup := List.nodup_append.mpr ⟨hL.nd, ndc, fun a ha b hb e => ap b hb (e ▸ ha)⟩
      have hlG : fs.length + cs.length ≤ n.toNat := by
        have := nodup_leI ndfs (fun x hx => (List.mem_append.mp hx).elim (hL.rng x) (rgc x))
        rw [List.length_append, List.length_map, hkc] at this
        exact this
      have U := tree_up ok.val ⟨by omega, hi⟩ hR.1
      refine f_keys (d := d) (kvs := kvs) (Ev.toP (Evl.ev_var rfl) fun H6 e6 => ⟨rfl, e6 _ _ hd⟩)
        (fun od j σ2 H2 => ∃ (hs : IM) (o6 o7 o8 o9 : Option V), σ2 = [some (.ref w), some (.ref f), some (.ref g), some (.ref l), some (.int (i : Int)), some (.ref d), o6, o7, o8, o9, o10] ∧ hs.map (·.1) = (keys cs).take j ∧ LvH K H d f g l od kvs cs ts n turn i fs tr (kvI (fs ++ hs)) (kvR (tr ++ markR ((keys cs).take j) d)) H2 ∧
          ∀ (m : Nat) (kk : Int) (s : Step), m < j → cs[m]? = some (kk, stepL s) → lookI (fs ++ hs) kk = lookI (fs ++ hs) (stepF ts kk (s.1, -s.2)).1 + (stepF ts (stepF ts kk (s.1, -s.2)).1 s).2)
        (fun H6 od e6 hd6 => ?_) (fun od j σ2 H2 _ ⟨_, _, _, _, _, _, _, hX, _⟩ => hX.fz) ?_ ?_
      · have e56 := e5.trans e6
        have hf6 := e56 _ _ hf4
        have hg6 := e56 _ _ hg4
        refine ⟨[], _, _, _, _, rfl, rfl, ⟨e04.trans (e56.mut fd), upd_same, (hcs.mono e6).updM hd6 rfl, ?_, ?_, (hnr4.mono e56).updD hd6, (hL4.mono e56).updD hd6⟩, fun m kk s hm => by omega⟩
        · rw [upd_ne ndf.symm, hf6, List.append_nil]
        · rw [upd_ne ndg.symm, hg6]
          simp
      · rintro od j k' w' σ2 H2 hj ⟨hs, o6', o7', o8', o9', rfl, hhs, hX, hH⟩
        have hjl : j < cs.length := by
          have := (List.getElem?_eq_some_iff.mp hj).1
          omega
        obtain ⟨⟨kk, x⟩, hcj⟩ : ∃ p, cs[j]? = some p := ⟨cs[j], List.getElem?_eq_getElem hjl⟩
        have hkk : (keys cs)[j]? = some kk := by rw [List.getElem?_map, hcj]; rfl
        have hk' : k' = Sum.inl kk := by
          have q : (kvs.map (·.1))[j]? = some k' := by rw [List.getElem?_map, hj]; rfl
          rw [hks, List.getElem?_map, hkk] at q
          exact (Option.some.inj q).symm
        subst hk'
        have hkm : kk ∈ keys cs := List.mem_of_getElem? hkk
        have htk : (keys cs).take (j + 1) = (keys cs).take j ++ [kk] := by rw [List.take_add_one, hkk]; rfl
        have hnt : kk ∉ (keys cs).take j := by
          have nd := ndc
          rw [← List.take_append_drop (j + 1) (keys cs), htk] at nd
          have := (List.nodup_append.mp nd).1
          exact fun z => (List.nodup_append.mp this).2.2 kk z kk (by simp) rfl
        have hnk : kk ∉ (fs ++ hs).map (·.1) := by
          rw [List.map_append, hhs]
          exact fun z => (List.mem_append.mp z).elim (ap kk hkm) hnt
        have hnone : valV (kvI (fs ++ hs)) (Sum.inl kk) = none := by
          rw [kvI_look, look_none.mpr hnk]
          rfl
        have hnoneR : valV (kvR (tr ++ markR ((keys cs).take j) d)) (Sum.inl kk) = none := by
          rw [kvR_look, look_none.mpr (by rw [List.map_append, markR_keys, hL.kt]; exact fun z => (List.mem_append.mp z).elim (ap kk hkm) hnt)]
          rfl
        have hhl : hs.length ≤ cs.length := by
          have := congrArg List.length hhs
          rw [List.length_map, List.length_take] at this
          omega
        have htl : tr.length = fs.length := by
          have := congrArg List.length hL.kt
          rwa [List.length_map, List.length_map] at this
        refine q_dput (v := .int 0) (a := f) (i := kk) Evl.ev_c (Evl.ev_var rfl) (Evl.ev_var rfl) hX.hf (by unfold kvI; rw [List.length_map, List.length_append]; omega) fun H3' e3' => ?_
        rw [putK_new _ hnone]
        have hX3 : LvH K H d f g l od kvs cs ts n turn i fs tr (kvI (fs ++ hs) ++ [(Sum.inl kk, V.int 0)]) (kvR (tr ++ markR ((keys cs).take j) d)) _ := (hX.mono e3').putF ff nfg
        refine q_dput (v := .ref d) (a := g) (i := kk) (Evl.ev_var rfl) (Evl.ev_var rfl) (Evl.ev_var rfl) hX3.hg (by unfold kvR; rw [List.length_map, List.length_append, List.length_map, List.length_take]; omega) fun H4' e4' => ?_
        rw [putK_new _ hnoneR]
        have hX4 : LvH K H d f g l od kvs cs ts n turn i fs tr (kvI (fs ++ hs) ++ [(Sum.inl kk, V.int 0)]) (kvR (tr ++ markR ((keys cs).take (j + 1)) d)) (upd H4' g (.dK (kvR (tr ++ markR ((keys cs).take j) d) ++ [(Sum.inl kk, V.ref d)]))) := by
          have := (hX3.mono e4').putG (F' := kvR (tr ++ markR ((keys cs).take j) d) ++ [(Sum.inl kk, V.ref d)]) fg nfg
          rw [show kvR (tr ++ markR ((keys cs).take (j + 1)) d) = kvR (tr ++ markR ((keys cs).take j) d) ++ [(Sum.inl kk, V.ref d)] by rw [htk, show markR ((keys cs).take j ++ [kk]) d = markR ((keys cs).take j) d ++ [(kk, d)] from List.map_append, ← List.append_assoc, kvR_app (tr ++ markR ((keys cs).take j) d)]; rfl]
          exact this
        generalize upd H4' g (.dK (kvR (tr ++ markR ((keys cs).take j) d) ++ [(Sum.inl kk, V.ref d)])) = H5' at hX4
        have hcl : cs.lookup kk = some x := look_at ndc hcj
        have pre : ∀ (m : Nat) (q : Int) (s : Step), m < j → cs[m]? = some (q, stepL s) → q ∈ (fs ++ hs).map (·.1) ∧ (stepF ts q (s.1, -s.2)).1 ∈ (fs ++ hs).map (·.1) := fun m q s hm hq => by
          rw [List.map_append, hhs]
          have hq1 : q ∈ (keys cs).take j := by
            rw [List.mem_take_iff_getElem]
            have hml := (List.getElem?_eq_some_iff.mp hq).1
            refine ⟨m, by omega, ?_⟩
            have : (keys cs)[m]? = some q := by rw [List.getElem?_map, hq]; rfl
            exact (List.getElem?_eq_some_iff.mp this).2
          refine ⟨List.mem_append_right _ hq1, List.mem_append_right _ ?_⟩
          rcases tree_at ok.val ⟨by omega, hi⟩ hR.1 m q (stepL s) hq with z | ⟨s', z1, z2⟩
          · exact absurd z (by simp [stepL])
          · rw [← stepL_inj z1] at z2
            exact List.take_subset_take_left _ (by omega) z2
        refine Evl.s_when (b := !decide (x = [])) (Evl.et_test (ev_neTup (ei_dget (i := kk) (Evl.ev_var rfl) (Evl.ev_var rfl) (.inr ⟨od, hX4.fz⟩) hX4.dt hcl) (ei_tup eai_nil (by decide)))) (fun hb2 H6' e6' => ?_) fun hb2 H6' e6' => ?_
        · have hxn : x ≠ [] := by simpa using hb2
          obtain ⟨s, rfl, hpm⟩ := (tree_at ok.val ⟨by omega, hi⟩ hR.1 j kk x hcj).resolve_left hxn
          obtain ⟨k0, st, pm, p0⟩ := U kk s hcl
          have hX6 := hX4.mono e6'
          refine q_un2 (a := s.1) (b := s.2) (ei_dget (i := kk) (Evl.ev_var rfl) (Evl.ev_var rfl) (.inr ⟨od, hX6.fz⟩) hX6.dt hcl) fun H7' e7' => ?_
          have hX7 := hX6.mono e7'
          refine Evl.q_asg (v := .int (stepF ts kk (s.1, -s.2)).1) (ev_ixU (ei_stepped (w := w) (p := kk) (s := (s.1, -s.2)) (Evl.ev_var rfl) (Evl.ev_var rfl) (ei_tup (eai_cons (Evl.ev_var rfl) (eai_cons (ev_neg (Evl.ev_var rfl)) eai_nil)) (by show 2 ≤ 100000; decide)) (hw.mono hX7.ex)) Evl.ev_c rfl) fun H8' e8' => ?_
          have hX8 := hX7.mono e8'
          obtain ⟨i2, t2, g1, g2, g3, g4⟩ := st.tie
          have hat2 : atI ts s.1 = some t2 := atI_of (by omega) (by rw [g3, Int.toNat_natCast]; exact g1)
          have hnum : (stepF ts (stepF ts kk (s.1, -s.2)).1 s).2 = s.2 * t2.2.2 := by
            obtain ⟨s1, s2⟩ := s
            simp only at g3
            subst g3
            rcases g4 with ⟨y0, y1, y2⟩ | ⟨y0, y1, y2⟩
            · simp only at y0
              subst y0
              rw [← y1, stepF_fwd g1]
              show t2.2.2 = 1 * t2.2.2
              omega
            · simp only at y0
              subst y0
              rw [← y1, stepF_back g1]
              show -t2.2.2 = -1 * t2.2.2
              omega
          have hpk : (stepF ts kk (s.1, -s.2)).1 ∈ (fs ++ hs).map (·.1) := by rw [List.map_append, hhs]; exact List.mem_append_right _ hpm
          have hfx : kvI (fs ++ hs) ++ [(Sum.inl kk, V.int 0)] = kvI ((fs ++ hs) ++ [(kk, 0)]) := by rw [kvI_app (fs ++ hs)]; rfl
          have hlp : ((fs ++ hs) ++ [(kk, (0 : Int))]).lookup (stepF ts kk (s.1, -s.2)).1 = some (lookI (fs ++ hs) (stepF ts kk (s.1, -s.2)).1) := by
            rw [look_app, if_pos (look_mem.mpr hpk)]
            exact lookI_some hpk
          refine s_dput (v := .int (lookI (fs ++ hs) (stepF ts kk (s.1, -s.2)).1 + s.2 * t2.2.2)) (a := f) (i := kk) (Evl.ev_op (ev_dgetI (fs := (fs ++ hs) ++ [(kk, 0)]) (Evl.ev_var rfl) (Evl.ev_var rfl) (Rd.of (by rw [← hfx]; exact hX8.hf)) hlp) (Evl.ev_op (Evl.ev_var rfl) (ev_ixU (ei_bound (Evl.ev_var rfl) (hw.mono hX8.ex) (Evl.ev_var rfl) hat2) Evl.ev_c rfl) (rv_mul (.inl ?_))) rv_add) (Evl.ev_var rfl) (Evl.ev_var rfl) hX8.hf (by unfold kvI; rw [List.length_append, List.length_map, List.length_append]; show fs.length + hs.length + 1 < 100000; omega) fun H9' e9' => ?_
          · rcases g4 with ⟨y0, _⟩ | ⟨y0, _⟩ <;> rw [y0] <;> exact ⟨by decide, by decide⟩
          · rw [putK_last hnone]
            have hX9 : LvH K H d f g l od kvs cs ts n turn i fs tr (kvI (fs ++ hs) ++ [(Sum.inl kk, V.int (lookI (fs ++ hs) (stepF ts kk (s.1, -s.2)).1 + s.2 * t2.2.2))]) _ _ := (hX8.mono e9').putF ff nfg
            refine ⟨hs ++ [(kk, lookI (fs ++ hs) (stepF ts kk (s.1, -s.2)).1 + s.2 * t2.2.2)], _, _, _, _, rfl, by rw [List.map_append, hhs, htk]; rfl, ?_, fun m q s' hm hq => ?_⟩
            · rw [← List.append_assoc, kvI_app (fs ++ hs)]
              exact hX9
            · rw [← List.append_assoc]
              by_cases hmj : m = j
              · subst hmj
                rw [hcj] at hq
                obtain ⟨eq1, eq2⟩ := Prod.mk.inj (Option.some.inj hq)
                subst eq1
                have es := stepL_inj eq2
                subst es
                rw [lookI_app hpk, hnum]
                unfold lookI
                rw [look_app, look_none.mpr hnk]
                simp
              · obtain ⟨w1, w2⟩ := pre m q s' (by omega) hq
                rw [lookI_app w1, lookI_app w2]
                exact hH m q s' (by omega) hq
        · have hxn : x = [] := by simpa using hb2
          refine ⟨hs ++ [(kk, 0)], _, _, _, _, rfl, by rw [List.map_append, hhs, htk]; rfl, ?_, fun m q s' hm hq => ?_⟩
          · rw [← List.append_assoc, kvI_app (fs ++ hs)]
            exact hX4.mono e6'
          · rw [← List.append_assoc]
            by_cases hmj : m = j
            · subst hmj
              rw [hcj] at hq
              obtain ⟨eq1, eq2⟩ := Prod.mk.inj (Option.some.inj hq)
              rw [hxn] at eq2
              exact absurd eq2.symm (by simp [stepL])
            · obtain ⟨w1, w2⟩ := pre m q s' (by omega) hq
              rw [lookI_app w1, lookI_app w2]
              exact hH m q s' (by omega) hq
      · rintro od σ2 H2 ⟨hs, o6', o7', o8', o9', rfl, hhs, hX, hH⟩
        have htk : (keys cs).take kvs.length = keys cs := by rw [hkl, List.take_length]
        rw [htk] at hhs
        have hG := hX.hg
        rw [htk] at hG
        have hkeys : (fs ++ hs).map (·.1) = fs.map (·.1) ++ keys cs := by rw [List.map_append, hhs]
        have hHOk : HOk ts cs (lookI (fs ++ hs)) := fun q s hq => by
          obtain ⟨m, hm⟩ := at_look hq
          exact hH m q s (by have := (List.getElem?_eq_some_iff.mp hm).1; omega) hm
        refine ⟨fs ++ hs, tr ++ markR (keys cs) d, _, _, _, _, _, _, _, rfl, hX.ex, hX.hf, hG, hX.nr, by rw [hkeys]; exact ndfs, fun q hq => ?_, by rw [hkeys, List.map_append, markR_keys, hL.kt], fun p h1 h2 => ?_, fun q hq => ?_⟩
        · rw [hkeys] at hq
          exact (List.mem_append.mp hq).elim (hL.rng q) (rgc q)
        · rw [hkeys]
          by_cases ep : p = (i : Int)
          · rw [ep]
            exact List.mem_append_right _ (start_in hR.1)
          · exact List.mem_append_left _ (hL.done p h1 (by omega))
        · rw [hkeys] at hq
          rcases List.mem_append.mp hq with hq | hq
          · obtain ⟨d', a1, a2⟩ := hX.lv.cm q hq
            refine ⟨d', ?_, a2.grow ok.val⟩
            rw [look_app, a1]
            rfl
          · refine ⟨d, ?_, od, kvs, cs, (i : Int), hX.fz, hX.dt, hR, ⟨by omega, hi⟩, hq, hHOk, fun q2 hq2 => by rw [hkeys]; exact List.mem_append_right _ hq2⟩
            rw [look_app, look_none.mpr (by rw [hL.kt]; exact ap q hq), markR_look hq]
            rfl
    · have hmi : (i : Int) ∈ fs.map (·.1) := by simpa using hb
      have hL4 := hL.mono e4
      exact ⟨fs, tr, _, _, _, _, _, _, _, rfl, e.trans e4, e4 _ _ hf, e4 _ _ hg, hnr.mono e4, hL4.nd, hL4.rng, hL4.kt, fun p h1 h2 => by
        by_cases ep : p = (i : Int)
        · rw [ep]; exact hmi
        · exact hL4.done p h1 (by omega), hL4.cm⟩
  · rintro σ' H4 ⟨fs, tr, o4, o5, o6, o7, o8, o9, o10, rfl, e4, hf4, hg4, hnr4, hL⟩
    dsimp only
    have hw4 := hw.mono e4
    have hmem : ∀ p : Int, 0 ≤ p → p < n → p ∈ fs.map (·.1) := fun p h0 h1 => hL.done p h0 (by omega)
    obtain ⟨bl, ⟨us, hq, hT⟩, hbe⟩ := hw4.bound
    have hul : us.length = ts.length := by rw [hT.length, List.length_map]
    refine q_seq (f_enum (a := bl) (xs := us) (hbe (Evl.ev_var rfl)) hq
      (fun i σ' H' => ∃ (o7 o10 : Option V), σ' = [some (.ref w), some (.ref f), some (.ref g), some (.ref l), o4, o5, o6, o7, o8, o9, o10] ∧ Ex H4 H' ∧ ∀ (j : Nat) (t : Tie), j < i → ts[j]? = some t → noughtF turn (lookI fs t.2.1 - lookI fs t.1 - t.2.2) = true)
      (fun H5 e5 => ⟨_, _, rfl, e5, fun j t hj => by omega⟩) (fun i σ' H' _ ⟨_, _, _, e, _⟩ => Evl.ex_l e hq) ?_ ?_)
    · rintro i x σ' H' H5 hx ⟨o7, o10, rfl, e, hall⟩ e5
      obtain ⟨z, hz, tz⟩ := (hT.mono (e.trans e5)).getV hx
      rw [List.getElem?_map] at hz
      cases hti : ts[i]? with
      | none => rw [hti] at hz; cases hz
      | some tt =>
        rw [hti] at hz
        cases hz
        obtain ⟨v1, v2, v3⟩ := ok.val tt (List.mem_of_getElem? hti)
        have x5 : Ex H4 H5 := e.trans e5
        have hf5 := x5 _ _ hf4
        have hw5 := hw4.mono x5
        have mm1 := hmem tt.1 v1.1 v1.2
        have mm2 := hmem tt.2.1 v2.1 v2.2
        refine Evl.s_when (b := !noughtF turn (lookI fs tt.2.1 - lookI fs tt.1 - tt.2.2)) (Evl.et_not (Evl.et_B (ev_nought hw5 ok.t0 (Evl.ev_var rfl) (Evl.ea_cons (Evl.ev_op (Evl.ev_op (ev_dgetI (Evl.ev_var rfl) (ev_ixU (evi_of (Evl.ev_var rfl) tz) Evl.ev_c rfl) (Rd.of hf5) (lookI_some mm2)) (ev_dgetI (Evl.ev_var rfl) (ev_ixU (evi_of (Evl.ev_var rfl) tz) Evl.ev_c rfl) (Rd.of hf5) (lookI_some mm1)) rv_sub) (ev_ixU (evi_of (Evl.ev_var rfl) tz) Evl.ev_c rfl) rv_sub) Evl.ea_nil)))) (fun hb H6 e6 => ?_) fun hb H6 e6 => ?_
        · have hno : noughtF turn (lookI fs tt.2.1 - lookI fs tt.1 - tt.2.2) = false := by simpa using hb
          have x6 := x5.trans e6
          have big := e4.trans x6
          obtain ⟨d, a1, od, kvs, cs, start, b1, b2, b3, b4, b5, b6, b7⟩ := hL.cm tt.1 mm1
          have m2 : tt.2.1 ∈ keys cs := (reach_side ok.val b3 hti okF_all).mp b5
          refine s_retP (ep_ring_by (w := w) (d := d) (i := i) (n := n) (turn := turn) (start := start) (ts := ts) (tt := tt) (kvs := kvs) (cs := cs) (h := lookI fs) (Evl.ea_cons (Evl.ev_var rfl) (Evl.ea_cons (Evl.ev_var rfl) (Evl.ea_cons (ev_dget (v := .ref d) (Evl.ev_var rfl) (ev_ixU (evi_of (Evl.ev_var rfl) (tz.mono e6)) Evl.ev_c rfl) (Rd.of (x6 _ _ hg4)) (by rw [kvR_look, a1]; rfl)) Evl.ea_nil))) T.ri (hw5.mono e6) hn1 ok.val b4 hti (.inr ⟨od, x6 _ _ b1⟩) (b2.mono x6) b3.1 b5 m2 b6 hno) fun v H7 e7 hv => ?_
          obtain ⟨ss, c1, c2, c3⟩ := hv
          exact k v H7 (big.trans e7) (.inr ⟨ss, c1.back big, c2, c3⟩)
        · refine ⟨_, _, rfl, x5.trans e6, fun j t hj htj => ?_⟩
          by_cases hji : j = i
          · subst hji
            rw [hti] at htj
            cases htj
            simpa using hb
          · exact hall j t (by omega) htj
    · rintro σ' H5 ⟨o7, o10, rfl, e5, hall⟩
      dsimp only
      have hnn : ((n.toNat : Nat) : Int) = n := Int.toNat_of_nonneg (by omega)
      have hf5 := e5 _ _ hf4
      have hw5 := hw4.mono e5
      have hhs : heightsF n ts turn ((List.range n.toNat).map fun i : Nat => lookI fs (i : Int)) = true := by
        unfold heightsF
        rw [Bool.and_eq_true]
        refine ⟨decide_eq_true (by simp [hnn]), ?_⟩
        rw [List.all_eq_true]
        intro t ht
        obtain ⟨j, hj⟩ := List.mem_iff_getElem?.mp ht
        have hjl : j < ts.length := (List.getElem?_eq_some_iff.mp hj).1
        obtain ⟨v1, v2, v3⟩ := ok.val t ht
        rw [cAt_look v1.1 (by omega), cAt_look v2.1 (by omega)]
        exact hall j t (by omega) hj
      refine s_retP (ep_ansN (ns := (List.range n.toNat).map fun i : Nat => lookI fs (i : Int)) T.he ((lc_rng (n := n.toNat) (j := 4) (ys := ((List.range n.toNat).map fun i : Nat => lookI fs (i : Int)).map V.int) (Evl.ea_cons ?_ Evl.ea_nil) (by omega) (by simp) (fun _ => rfl) fun i H6 e6 hi => ⟨.int (lookI fs (i : Int)), by simp [hi], ?_⟩).imp fun v H6 e6 ⟨p, a1, _, a3⟩ => ⟨p, a1, li_of a3⟩)) fun v H6 e6 hv => k v H6 (e4.trans (e5.trans e6)) (.inl ⟨_, hv.back (e4.trans e5), by simp; omega, hhs⟩)
      · rw [hnn]
        exact ev_points (Evl.ev_var rfl) hw5
      · exact ev_dgetI (Evl.ev_var rfl) (Evl.ev_var rfl) (Rd.of (e6 _ _ hf5)) (lookI_some (hmem _ (by omega) (by omega)))
end G

/-! The engine, part 5: exceptions. -/
namespace G
open PySem PySem.Spec PyProof.Rows L2
open Evl (Ex Ev EvL EvU EvT EvA RV RetV)
open L2H (HotC Hot1)

/-! ### a list walked to its end while an exception is handled -/
section
variable {prog : Program} {w : World} {A : Around} {E : Value → Shared → Prop} {s : Shared}
theorem next_list_end_hot {it l x1 : Addr} {i : Nat} {items : Array Value} {Q : Option Value → Shared → Prop} (hot : HotX.HotAt A x1 s.heap) (hne : x1 ≠ it) (hit : s.heap.IsListIter it l i) (hl : s.heap.IsList l items) (hx : items[i]? = none)
    (hQ : ∀ h', Heap.ExtBut it s.heap h' → Q none { s with heap := h' }) : wpAny (model prog w) A (pyNext (.ref it)) Q E s := by
  obtain ⟨o, hO, _, hD⟩ := id hit; obtain ⟨ol, hOl, _, _, hDl⟩ := hl; obtain ⟨hh, o1, vs1, h1, d1, c1⟩ := hot
  unfold pyNext; refine wpAny_bind (wpAny_attempt (wpAny_callSpecial?_slot (name := Str.ofString "__next__") hit.typeIs slot_listiter_next (wpAny_call_entry slot_listiter_next hit.typeIs entry_listiter_next ?_ (args_listiter_next _)))); show wpAny _ _ (field (.ref it) 0 >>= _) _ _ s
  refine wpAny_bind (wpAny_field hO hD (x := .ref l) rfl ?_); show wpAny _ _ (if (Value.ref l == Value.none) = true then _ else _) _ _ s; rw [if_neg (show ¬ ((Value.ref l == Value.none) = true) from Bool.false_ne_true)]
  show wpAny _ _ (field (.ref it) 1 >>= _) _ _ s; refine wpAny_bind (wpAny_field hO hD (x := .int i 0) rfl ?_); show wpAny _ _ (seqItems? (.ref l) >>= _) _ _ s
  refine wpAny_bind (wpAny_seqItems hOl hDl ?_); simp only [Int.toNat_natCast, hx]; refine wpAny_bind (wpAny_rule (wpAny_bind (wpAny_setField hO hD (by simp) ?_)))
  show wpAny _ _ (newExc (.type "StopIteration") [] >>= _) _ _ _; refine wpAny_bind ?_; simp only [newExc, newTuple]
  refine wpAny_bind (wpAny_newObj_type ?_ (by size_fits)); refine wpAny_bind (m := firstArgMember _ _) (wpAny_of_eq (a := Value.none) (by first | rfl | (simp only [firstArgMember]; rfl)) ?_); refine wpAny_newObj_type ?_ (by size_fits)
  have g1 : (s.heap.update it (Obj.mapFields fun fs => fs.setIfInBounds 0 Value.none)).get? x1 = some o1 := (Heap.get?_update_other _ _ (Ne.symm hne)).trans h1
  refine HotX.raiseNew_hot ⟨hh, o1, vs1, Heap.get?_push_of_some _ (Heap.get?_push_of_some _ g1), d1, c1⟩ (Nat.ne_of_lt (Heap.lt_size (Heap.get?_push_of_some _ g1))) (Heap.get?_push_size _ rfl) rfl (by first | (simp; done) | (simp; omega) | (simp only [Array.size_append]; simp; omega)) ?_
  refine wpAny_bind (wpAny_isInstance (T := "StopIteration") (b := true) ⟨_, Heap.get?_update_self _ (Heap.get?_push_size _ rfl) rfl, rfl⟩ isSubtype_stop (wpAny_pure (hQ _ ?_)))
  refine fun b u hb e => ?_
  refine (Heap.get?_update_other _ _ ?_).trans (Heap.get?_push_of_some _ (Heap.get?_push_of_some _ ((Heap.get?_update_other _ _ (Ne.symm hb)).trans e)))
  exact Nat.ne_of_gt (Heap.lt_size (Heap.get?_push_of_some _ ((Heap.get?_update_other _ _ (Ne.symm hb)).trans e)))
/-- a list's walk there -/
theorem walks_hot {I l x1 : Addr} {o1 : Obj} {vs1 : Array Value} (hh : A.handled = some (.ref x1)) (d1 : o1.data = .fields vs1) (c1 : vs1[2]? = some .none) (hI : x1 ≠ I) (hne : l ≠ I) (items : Array Value) :
    Walks prog w A I [I, l, x1] [I] items.size (fun i v => items[i]? = some v) (fun i h => (h.IsListIter I l i ∧ h.IsList l items) ∧ h.get? x1 = some o1) where
  sub := fun b hb => by
    rcases List.mem_singleton.mp hb with rfl
    exact List.mem_cons_self
  frame := fun _ _ _ st hk => ⟨⟨st.1.1.at fun o e => hk I (by simp) o e, st.1.2.at fun o e => hk l (by simp) o e⟩, hk x1 (by simp) _ st.2⟩
  item := fun i s Q E hi st hQ => by
    refine wpAny_pyNext_list_item st.1.1 st.1.2 (x := items[i]) (by simp [hi]) fun h' hit' hs' => ?_
    refine hQ _ h' s.toks (by simp [hi]) ⟨⟨hit', st.1.2.extBut hs'.extBut hne⟩, hs'.extBut x1 _ hI st.2⟩ fun b o hb e => ?_
    exact hs'.extBut b o (fun h => hb (by rw [h]; exact List.mem_cons_self)) e
  done := fun s Q E st hQ => next_list_end_hot ⟨hh, o1, vs1, st.2, d1, c1⟩ hI st.1.1 st.1.2 (by simp) fun h' he' => hQ h' s.toks fun b o hb e => he' b o (fun h => hb (by rw [h]; exact List.mem_cons_self)) e
  self := fun _ _ _ _ st hQ => wpAny_pyIter_listiter st.1.1 hQ
end
/-- any(xs) in an except suite -/
theorem cr_anyH {X : Cx} (hc : HotC X) : CallR X (.builtin "any") (rAny X.K) := by
  intro pins s σ H vs us Q I r h
  obtain ⟨a, bs, rfl, hs, q⟩ := h
  obtain ⟨its, rv, hl, _⟩ := I.list hs
  obtain ⟨p, ⟨hh, v1, e1, c1⟩, hp⟩ := hc
  have hpin := (I.pin p (List.mem_append_left _ hp)).1
  rw [Vals.ref1 r]
  have hb := rv.bls
  refine call_any_walk (iter_any hl.isList fun s₂ e2 st hne => ?_)
  subst e2
  have hp2 : p.1 ≠ s.heap.objs.size := Nat.ne_of_lt (Heap.lt_size hpin)
  refine ⟨_, _, _, _, _, _, _, rfl, walks_hot (A := X.A.in1) hh e1 c1 hp2 hne its.toArray, ⟨st, Heap.get?_push_of_some _ hpin⟩, truth_bools hb, fun h' tk hk => ⟨.bl _, H, I.kept fun b o eo => hk b o (fun hmem => ?_) (Heap.get?_push_of_some _ eo), ?_, q⟩⟩
  · rcases List.mem_cons.mp hmem with e1 | hmem
    · exact absurd (e1 ▸ Heap.lt_size eo) (Nat.lt_irrefl _)
    · cases hmem
  · show Value.bool _ = Value.bool _
    rw [← L2.any_range, hb, List.size_toArray, List.length_map]
/-- the suite bears its exception -/
theorem hot_suite {X : Cx} {a : Addr} {oe : Obj} {cls : Value} {d : Option Addr} {pn : List (Addr × Obj)} (hz : L2N.Zn cls d oe) (hf : ∃ vs, oe.data = .fields vs) : HotC (X.suite a ((a, oe) :: pn)) := by
  obtain ⟨vs, hv⟩ := hf
  exact ⟨(a, oe), ⟨rfl, vs, hv, hz.2.2 vs hv⟩, List.mem_cons_self⟩
/-- isinstance(e, c) of the exception that is held -/
def rIsX (K : PySem.W.Frag) (a : Addr) (cls : Value) (d : Option Addr) : List V → Hp → VK → Prop := fun xs H Q => ∃ D, cls = .ref D ∧ d = none ∧ ExcC K D ∧ rIsE K D a xs H Q
theorem call_isP {X : Cx} {a D : Addr} {oe : Obj} (C : ExcC X.K D) (hm : (a, oe) ∈ X.pn) (hz : Zc (.ref D) none oe) (hf : ∃ vs, oe.data = .fields vs) : CallR X (.builtin "isinstance") (rIsE X.K D a) := by
  intro pins s σ H xs us Q I r h
  obtain ⟨c, cv, b, rfl, hcv, e, q⟩ := h
  cases r with
  | cons rx rr =>
    cases rr with
    | cons rt rr =>
      cases rr
      cases rx
      have ec := hcv _ rt
      subst ec
      obtain ⟨hget, _⟩ := I.pin (a, oe) (List.mem_append_left _ hm)
      obtain ⟨vs, hv⟩ := hf
      have J : PySem.W.InstAt s.heap a oe D none := by
        obtain ⟨oc, od, oda, osl⟩ := oe
        obtain ⟨h1, h2⟩ := hz
        dsimp only at h1 h2 hv
        subst h1 h2 hv
        exact ⟨hget, rfl, rfl, trivial⟩
      exact PySem.W.kia_one (PySem.W.handS_kitx_exc C.hg C.hk C.hs C.hd C.ha C.hn C.ht C.hm) I.kIn J e (fun z => nomatch z) fun tk => ⟨.bl b, H, I.kept (t' := tk) fun _ _ z => z, rfl, q⟩
theorem call_isX {X : Cx} {a : Addr} {cls : Value} {d : Option Addr} {oe : Obj} {pn : List (Addr × Obj)} (hz : L2N.Zn cls d oe) (hf : ∃ vs, oe.data = .fields vs) : CallR (X.suite a ((a, oe) :: pn)) (.builtin "isinstance") (rIsX X.K a cls d) := by
  intro pins s σ H xs us Q I r h
  obtain ⟨D, rfl, rfl, C, h⟩ := h
  exact call_isP (X := X.suite a ((a, oe) :: pn)) C List.mem_cons_self hz.zc hf pins s σ H xs us Q I r h
section
variable {K : PySem.W.Frag} {σ : L2.St} {H H' H1 : Hp} {ta tb tc te : TE} {t u : TT} {tl : TA} {v x y z : V}
theorem ev_isX {a D C : Addr} {b : Bool} (hE : ExcC K D) (hk : PySem.W.kitOne K (.ref D) (.ref C) = some b) (ha : Ev ta σ H (.ref a)) : Ev (tCB (rIsX K a (.ref D) none) (tCons ta (tCons (tC (.ref C)) tNil))) σ H (.bl b) := fun H1 e Q q =>
  ha H1 e _ fun H2 e2 => ⟨D, rfl, rfl, hE, .ref C, .ref C, b, rfl, fun u h => h, hk, q H2 e2⟩
theorem ev_isXT {a D : Addr} {n : String} {b : Bool} (hE : ExcC K D) (hk : PySem.W.kitOne K (.ref D) (.type n) = some b) (ha : Ev ta σ H (.ref a)) : Ev (tCB (rIsX K a (.ref D) none) (tCons ta (tCons (tC (.ty n)) tNil))) σ H (.bl b) := fun H1 e Q q =>
  ha H1 e _ fun H2 e2 => ⟨D, rfl, rfl, hE, .ty n, .type n, b, rfl, fun u h => h, hk, q H2 e2⟩
/-- raise C('..') -/
def tRaise (C : Addr) (E : XK) : TS := fun _ _ H => E (.ref C) none H
end
theorem takesN0 {X : Cx} : L2N.Takes X (fun _ _ _ _ => False) := fun _ _ x => by
  obtain ⟨_, _, _, _, _, _, _, _, _, _, _, _, _, _, _, _, z⟩ := x
  exact z.elim
/-! ### uses of defs that may raise -/
section
variable {X : Cx} {W : WX} {k m : Nat} {x : Str} {ps : List Str} {sp : Sp} {p pos : PySem.Pos} {e : Expr} {es : List Expr} {t : TA}
theorem pe_useS (U : Use X.prog X.w X.K X.mg X.base (L2N.CX X.prog X.w) k x ps sp) (hr : Room m X.A) (tk : L2N.Takes X W) (ha : PA X (e :: es) t) (hk : k ≤ m := by decide) (hg : Gl X x := by rfl) (hdb : (x == ("__debug__" : Str)) = false := by decide)
    (he : starEach (e :: es) X.env = (false, eval e X.env) :: starEach es X.env := by rfl) (hpl : (backTo pos (starEach es X.env)).any (·.1) = false := by rfl) :
    PE X (.Call (.Name x p) (e :: es) [] pos) (tCallS sp (WE W) t) := by
  obtain ⟨f, fd, hm, kp, hb, F⟩ := U
  exact pe_callS F (hr.mono hk) hg hm kp hb (fun σ => L2N.passAt tk σ) ha hdb he hpl
end
end G

/-! together; climb that may be refused. -/
namespace G
open PySem PySem.Spec PyProof.Rows L2
open Evl (Ex Ev EvL EvU EvT EvA RV RetV)
local macro_rules | `(tactic| walk_at "hp") => `(tactic| first
  | with_reducible assumption
  | ((with_reducible show _ = some (_ : HO)); (with_reducible exact ex_app (by assumption) (by walk_at "hp")))
  | ((with_reducible show TupI _ _ _ _); (with_reducible exact TupI.mono (by assumption) (by walk_at "hp")))
  | ((with_reducible show LT _ _ _ _); (with_reducible exact LT.mono (by assumption) (by walk_at "hp")))
  | ((with_reducible show LI _ _ _ _); (first | (with_reducible exact li_of (by walk_at "hp")) | (with_reducible exact LI.mono (by assumption) (by walk_at "hp"))))
  | ((with_reducible show SqL _ _ _ _); (first | (with_reducible exact SqL.of (by walk_at "hp")) | (with_reducible exact Evl.ex_l (by assumption) (by walk_at "hp"))))
  | ((with_reducible show SqT _ _ _ _); (first | (with_reducible exact SqT.of (by walk_at "hp")) | (with_reducible exact Evl.ex_t (by assumption) (by walk_at "hp"))))
  | ((with_reducible show Rd _ _ _); (first | (with_reducible exact Rd.of (by walk_at "hp")) | (with_reducible exact Evl.ex_rd (by assumption) (by walk_at "hp"))))
  | walk_at "hpf")
local macro_rules | `(tactic| walk_at "at") => `(tactic| first
  | with_reducible assumption
  | with_reducible rfl
  | (refine atI_of ?va ?vb; (case va => omega); (case vb => assumption))
  | walk_at "atf"
  | rfl)
local macro_rules | `(tactic| walk_at "rv") => `(tactic| first
  | with_reducible exact rv_add | with_reducible exact rv_sub | with_reducible exact rv_eqI | with_reducible exact rv_neI | with_reducible exact rv_lt | with_reducible exact rv_le | with_reducible exact rv_gt | with_reducible exact rv_ge
  | with_reducible exact rv_eqB | with_reducible exact rv_neB | with_reducible exact rv_isB | with_reducible exact rv_notB
  | ((with_reducible refine rv_mod ?_); (first | assumption | omega))
  | ((with_reducible refine rv_mul ?_); (first | exact Or.inl ⟨by omega, by omega⟩ | exact Or.inr ⟨by omega, by omega⟩))
  | ((with_reducible refine rv_div ?_); exact ⟨by omega, by omega⟩))
local macro_rules | `(tactic| walk_at "ty") => `(tactic| first
  | with_reducible exact fun _ _ => .base (.int _) | with_reducible exact fun _ _ => .base (.bl _) | with_reducible exact fun _ _ => .base .non | with_reducible exact fun _ _ => .base (.str _)
  | ((with_reducible apply ty_tup); walk_at "hp")
  | ((with_reducible apply ty_lst); walk_at "hp")
  | walk_at "tyf")
local macro_rules | `(tactic| walk_at "ev") => `(tactic| repeat' (first
  | with_reducible exact Evl.ev_c
  | ((with_reducible apply Evl.ev_var); rfl)
  | with_reducible apply ev_neg
  | with_reducible apply ev_ixU
  | walk_at "evf"
  | ((with_reducible apply ev_lenI); (· walk_at "ev"); (· walk_at "hp"))
  | ((with_reducible apply ev_lenT); (· walk_at "ev"); (· walk_at "hp"))
  | ((with_reducible apply ev_lenU); (· walk_at "ev"))
  | with_reducible apply ev_lenSet
  | with_reducible apply ev_chain
  | with_reducible apply ev_isiTy
  | with_reducible apply Evl.ev_andV
  | with_reducible apply Evl.ev_orV
  | with_reducible apply Evl.ev_notV
  | ((with_reducible apply ev_ixI); (· walk_at "ev"); (· walk_at "ev"); (· walk_at "hp"); (· walk_at "at"))
  | with_reducible apply Evl.ev_op
  | ((with_reducible apply evi_of); (· (with_reducible apply Evl.ev_var); rfl); (· walk_at "hp"))
  | with_reducible apply ei_ix
  | with_reducible apply ei_tup
  | with_reducible exact eai_nil
  | with_reducible apply eai_cons
  | with_reducible exact Evl.ea_nil
  | with_reducible apply Evl.ea_cons
  | with_reducible apply Evl.et_test
  | with_reducible apply Evl.et_and
  | with_reducible apply Evl.et_or
  | with_reducible apply Evl.et_not
  | with_reducible apply Evl.et_B
  | walk_at "rv"
  | ((with_reducible show L2.kitB _ _ = _); rfl)
  | ((with_reducible show L2.atI _ _ = _); walk_at "at")
  | ((with_reducible show (_ : Nat) ≤ _); (first | omega | (simp; done) | (simp; omega)))
  | ((with_reducible show _ = true → _); intro _)
  | ((with_reducible show _ = false → _); intro _)
  | ((with_reducible show TupI _ _ _ _); walk_at "hp")
  | ((with_reducible show LT _ _ _ _); walk_at "hp")
  | ((with_reducible show LI _ _ _ _); walk_at "hp")
  | ((with_reducible show SqL _ _ _ _); walk_at "hp")
  | ((with_reducible show SqT _ _ _ _); walk_at "hp")
  | ((with_reducible show Rd _ _ _); walk_at "hp")
  | ((with_reducible show _ = some (_ : HO)); walk_at "hp")
  | walk_at "hpg"
  | walk_at "ty"))

local macro_rules | `(tactic| walk_at "hpf") => `(tactic| ((with_reducible show WebAt _ _ _ _ _ _); (with_reducible exact WebAt.mono (by assumption) (by walk_at "hp"))))
local macro_rules | `(tactic| walk_at "hpg") => `(tactic| ((with_reducible show WebAt _ _ _ _ _ _); walk_at "hp"))
local macro_rules | `(tactic| walk_at "evf") => `(tactic| with_reducible apply ev_points)
local macro_rules | `(tactic| walk_at "evf") => `(tactic| with_reducible apply ev_turn)
local macro_rules | `(tactic| walk_at "evf") => `(tactic| with_reducible apply ev_lenB)
local macro_rules | `(tactic| walk_at "evf") => `(tactic| with_reducible apply ei_bound)
local macro_rules | `(tactic| walk_at "evf") => `(tactic| with_reducible apply ev_is_whole)
local macro_rules | `(tactic| walk_at "evf") => `(tactic| with_reducible apply ev_is_below)
local macro_rules | `(tactic| walk_at "evf") => `(tactic| with_reducible apply ev_is_tie)
local macro_rules | `(tactic| walk_at "evf") => `(tactic| with_reducible apply ei_stepped)
variable {K : PySem.W.Frag} {σ : L2.St} {H H' H1 : Hp} {ta tb tc te : TE} {t u : TT} {tl : TA} {v x y z : V}
/-! ### where a walk comes to -/
def endF (ts : List Tie) (p c : Int) : List Step → Option (Int × Int)
  | [] => some (p, c)
  | s :: r => if (stepF ts p s).1 < 0 then none else endF ts (stepF ts p s).1 (c + (stepF ts p s).2) r
theorem walkA_end {ts : List Tie} : ∀ (ss : List Step) (pre : List Int) (p c : Int), (walkA ts pre p c ss = none ∧ endF ts p c ss = none) ∨ ∃ ps q d, walkA ts pre p c ss = some (ps, d) ∧ ps.getLast? = some q ∧ endF ts p c ss = some (q, d)
  | [], pre, p, c => .inr ⟨pre ++ [p], p, c, rfl, by simp, rfl⟩
  | s :: r, pre, p, c => by
    unfold walkA endF
    by_cases h : (stepF ts p s).1 < 0
    · rw [if_pos h, if_pos h]
      exact .inl ⟨rfl, rfl⟩
    · rw [if_neg h, if_neg h]
      exact walkA_end r _ _ _
theorem endF_cons {ts : List Tie} {s : Step} {r : List Step} {p c : Int} : endF ts p c (s :: r) = if (stepF ts p s).1 < 0 then none else endF ts (stepF ts p s).1 (c + (stepF ts p s).2) r := rfl
theorem endF_app {ts : List Tie} {rr : List Step} : ∀ (ss : List Step) (p c : Int), endF ts p c (ss ++ rr) = (endF ts p c ss).bind fun q => endF ts q.1 q.2 rr
  | [], p, c => rfl
  | s :: r, p, c => by
    rw [List.cons_append, endF_cons, endF_cons]
    by_cases h : (stepF ts p s).1 < 0
    · rw [if_pos h, if_pos h]
      rfl
    · rw [if_neg h, if_neg h]
      exact endF_app r _ _
theorem endF_snoc {ts : List Tie} {ss : List Step} {s : Step} {p c q d : Int} (h : endF ts p c ss = some (q, d)) (h0 : 0 ≤ (stepF ts q s).1) : endF ts p c (ss ++ [s]) = some ((stepF ts q s).1, d + (stepF ts q s).2) := by
  rw [endF_app, h]
  show endF ts q d [s] = _
  rw [endF_cons, if_neg (by omega)]
  rfl
theorem endF_shift {ts : List Tie} {k : Int} : ∀ {ss : List Step} {p c q d : Int}, endF ts p c ss = some (q, d) → endF ts p (c + k) ss = some (q, d + k)
  | [], p, c, q, d, h => by
    unfold endF at h ⊢
    cases h
    rfl
  | s :: r, p, c, q, d, h => by
    unfold endF at h ⊢
    by_cases n : (stepF ts p s).1 < 0
    · rw [if_pos n] at h
      cases h
    · rw [if_neg n] at h ⊢
      rw [show c + k + (stepF ts p s).2 = c + (stepF ts p s).2 + k by omega]
      exact endF_shift h
theorem stepF_cases {ts : List Tie} {p : Int} {s : Step} (h : ¬ (stepF ts p s).1 < 0) : ∃ t, (0 ≤ s.1 ∧ s.1 < ts.length) ∧ ts[s.1.toNat]? = some t ∧ ((s.2 = 1 ∧ p = t.1 ∧ stepF ts p s = (t.2.1, t.2.2)) ∨ (s.2 = -1 ∧ p = t.2.1 ∧ stepF ts p s = (t.1, -t.2.2))) := by
  unfold stepF at h ⊢
  by_cases hin : 0 ≤ s.1 ∧ s.1 < ts.length
  · rw [if_pos hin] at h ⊢
    obtain ⟨t, ht⟩ : ∃ t, ts[s.1.toNat]? = some t := ⟨ts[s.1.toNat]'(by omega), List.getElem?_eq_getElem (by omega)⟩
    rw [ht] at h ⊢
    refine ⟨t, hin, rfl, ?_⟩
    dsimp only at h ⊢
    by_cases c1 : s.2 = 1 ∧ p = t.1
    · rw [if_pos c1]
      exact .inl ⟨c1.1, c1.2, rfl⟩
    · rw [if_neg c1] at h ⊢
      by_cases c2 : s.2 = -1 ∧ p = t.2.1
      · rw [if_pos c2]
        exact .inr ⟨c2.1, c2.2, rfl⟩
      · rw [if_neg c2] at h
        exact absurd (by show (-1 : Int) < 0; decide) h
  · rw [if_neg hin] at h
    exact absurd (by show (-1 : Int) < 0; decide) h
theorem stepF_flip {ts : List Tie} {p : Int} {s : Step} (h : ¬ (stepF ts p s).1 < 0) : stepF ts (stepF ts p s).1 (s.1, -s.2) = (p, -(stepF ts p s).2) := by
  obtain ⟨t, hin, ht, hc⟩ := stepF_cases h
  have e : ((s.1.toNat : Nat) : Int) = s.1 := Int.toNat_of_nonneg hin.1
  rcases hc with ⟨h1, h2, h3⟩ | ⟨h1, h2, h3⟩
  · rw [h3, h1, h2]
    have := stepF_back ht
    rw [e] at this
    exact this
  · rw [h3, h1, h2]
    have := stepF_fwd ht
    rw [e] at this
    show stepF ts t.1 (s.1, 1) = (t.2.1, - -t.2.2)
    rw [this, Int.neg_neg]
def backF (ss : List Step) : List Step := ss.reverse.map fun s => (s.1, -s.2)
theorem endF_back {ts : List Tie} : ∀ {ss : List Step} {p c q d : Int}, 0 ≤ p → endF ts p c ss = some (q, d) → endF ts q d (backF ss) = some (p, c)
  | [], p, c, q, d, _, h => by
    unfold endF at h
    cases h
    rfl
  | s :: r, p, c, q, d, hp, h => by
    unfold endF at h
    by_cases n : (stepF ts p s).1 < 0
    · rw [if_pos n] at h
      cases h
    · rw [if_neg n] at h
      have ih := endF_back (by omega) h
      have e : backF (s :: r) = backF r ++ [(s.1, -s.2)] := by
        unfold backF
        rw [List.reverse_cons, List.map_append]
        rfl
      have f := stepF_flip n
      rw [e, endF_snoc ih (by rw [f]; exact hp), f]
      show some (p, c + (stepF ts p s).2 + -(stepF ts p s).2) = _
      rw [show c + (stepF ts p s).2 + -(stepF ts p s).2 = c by omega]
theorem endF_walk {ts : List Tie} {p : Int} {ss : List Step} : (walkF ts p ss = none ∧ endF ts p 0 ss = none) ∨ ∃ ps q d, walkF ts p ss = some (ps, d) ∧ ps.getLast? = some q ∧ endF ts p 0 ss = some (q, d) := walkA_end ss [] p 0

/-! ### exceptions' facts -/
def excs : List Str := ["WebError", "BadWeb", "BadPoint", "BadTie", "Unlike", "BadText"]
/-- the own exception class D is the j-th -/
structure ExK (K : PySem.W.Frag) (D : Str) (j : Nat) : Prop where
  ec : ExcC K (ga K D)
  em : ∀ i C, excs[i]? = some C → PySem.W.exmOne K (.ref (ga K D)) (.ref (ga K C)) = some (decide (i = 0 ∨ i = j))
  is : ∀ i C, excs[i]? = some C → PySem.W.kitOne K (.ref (ga K D)) (.ref (ga K C)) = some (decide (i = 0 ∨ i = j))
  iv : PySem.W.kitOne K (.ref (ga K D)) (.type "ValueError") = some true
/-- xs + ys of bools -/
theorem ep_catBX {p : Addr} {xs ys : List V} (ha : Ev ta σ H (.ref p)) (hp : H p = some (.lst xs)) (hb : EvL tb σ H ys) (hm : xs.length + ys.length ≤ 100000) : EvL (tOp rCat ta tb) σ H (xs ++ ys) := fun H1 e Q q =>
  ha H1 e _ fun H2 e2 => hb H2 (e.trans e2) _ fun l H3 _ e3 g1 =>
    ⟨p, l, xs, ys, rfl, rfl, ((e.trans e2).trans e3) _ _ hp, g1, Nat.le_trans hm (by decide), fun r hr => q r _ (Evl.fresh_back (e2.trans e3) hr) ((e2.trans e3).trans (Ex.new hr)) upd_same⟩

/-! ### together -/
def sp_together (K : PySem.W.Frag) : Sp := fun vs H Q _ => ∃ (w1 w2 l1 l2 : Addr) (n turn : Int) (ts us : List Tie), vs = [.ref w1, .ref w2] ∧ WebAtL K H w1 n ts turn l1 ∧ WebAtL K H w2 n us turn l2 ∧ okWeb n (ts ++ us) turn ∧ RetP (fun v H2 => ∃ p, v = .ref p ∧ H p = none ∧ WebAt K H2 p n (ts ++ us) turn) H Q
theorem ep_together {w1 w2 l1 l2 : Addr} {n turn : Int} {ts us : List Tie} (h : EvA tl σ H [.ref w1, .ref w2]) (h1 : WebAtL K H w1 n ts turn l1) (h2 : WebAtL K H w2 n us turn l2) (ok : okWeb n (ts ++ us) turn) : EvP (tCall (sp_together K) [] E0 tl) σ H (fun v H2 => ∃ p, v = .ref p ∧ H p = none ∧ WebAt K H2 p n (ts ++ us) turn) :=
  ep_call h fun H1 Q e k => ⟨w1, w2, l1, l2, n, turn, ts, us, rfl, h1.mono e, h2.mono e, ok, fun v H2 e2 ⟨p, a, b, c⟩ => k v H2 e2 ⟨p, a, Evl.fresh_back e b, c⟩⟩
theorem WebAtL.bound {w l : Addr} {n turn : Int} {ts : List Tie} (h : WebAtL K H w n ts turn l) (ha : Ev ta σ H (.ref w)) : EvP (tFld K ta "bound") σ H (fun v H2 => ∃ l vs, v = .ref l ∧ H2 l = some (.lst vs) ∧ TupL K H2 vs (ts.map tieL)) := by
  obtain ⟨T, ⟨dx, a⟩, vs, b, c⟩ := h
  exact Ev.toP (ev_fld ha a T.cl T.nB (webF_bound ..)) fun H2 e => ⟨l, vs, rfl, e _ _ b, c.mono e⟩
def t_together (K : PySem.W.Frag) : TS :=
 (tSeq (tIfS (tOr (tTest (tOp rNe (tFld K (tVar 0) "points") (tFld K (tVar 1) "points"))) (tTest (tOp rNe (tFld K (tVar 0) "turn") (tFld K (tVar 1) "turn")))) tNever tNext)
 (tRet (tMake (ga K "Web") (sp_Web_init K) [] E0 (tCons (tFld K (tVar 0) "points") (tCons (tOp rCat (tFld K (tVar 0) "bound") (tFld K (tVar 1) "bound")) (tCons (tFld K (tVar 0) "turn") tNil))))))
def t_climbX (K : PySem.W.Frag) (E : XK) : TS :=
 (tSeq (tDrop (tCall (sp_check_point K) [] E0 (tCons (tVar 0) (tCons (tVar 1) tNil))))
 (tSeq (tIfS (tNot (tB (tCB (rIsi K) (tCons (tVar 2) (tCons (tC (.ty "list")) tNil))))) tNever tNext)
 (tSeq (tAsg (tCall (sp_walked K) [] E0 (tCons (tVar 0) (tCons (tVar 1) (tCons (tVar 2) tNil)))) (gTup K 2 (gCons (gName 3) (gCons (gName 4) gNil))))
 (tSeq (tIfS (tTest (tOp rEq (tCB (rLenS K) (tCons (tVar 3) tNil)) (tC (.int 0)))) (tRaise (ga K "BadTie") E) tNext)
 (tRet (tTup (tCons (tOp (rIxL K) (tVar 3) (tUn rNegI (tC (.int 1)))) (tCons (tVar 4) tNil))))))))
theorem rd_together (vs : List V) (H : Hp) (Q : VK) (E : XK) (h : sp_together K vs H Q E) : goal (t_together K) ["one", "other"] vs H Q := by
  obtain ⟨w1, w2, l1, l2, n, turn, ts, us, rfl, h1, h2, ok, k⟩ := h
  have T := h1.1
  have v1 := h1.web
  have v2 := h2.web
  have hlen := ok.2.2.2.2.2
  rw [List.length_append] at hlen
  refine q_never (b := false) (Evl.et_is (Evl.et_or (Evl.et_test (Evl.ev_op (ev_points (Evl.ev_var rfl) v1) (ev_points (Evl.ev_var rfl) v2) rv_neI)) fun _ => Evl.et_test (Evl.ev_op (ev_turn (Evl.ev_var rfl) v1) (ev_turn (Evl.ev_var rfl) v2) rv_neI)) (by simp)) rfl fun H1 e1 => ?_
  refine s_retP (ep_WebP T (ev_points (Evl.ev_var rfl) (v1.mono e1)) ((ep_catL ((h1.mono e1).bound (Evl.ev_var rfl)) ((h2.mono e1).bound (Evl.ev_var rfl)) (by rw [List.length_map, List.length_map]; omega)).imp fun v H2 e2 ⟨l, vs, a, _, b, c⟩ => ⟨l, a, vs, SqL.of b, by rw [List.map_append]; exact c⟩) (fun H2 e2 => ev_turn (Evl.ev_var rfl) (v1.mono (e1.trans e2))) ok) fun v H2 e2 ⟨p, a, b, c⟩ => k v H2 (e1.trans e2) ⟨p, a, Evl.fresh_back e1 b, c⟩

/-! ### climb -/
def sp_climbX (K : PySem.W.Frag) : Sp := fun vs H Q E => ∃ (w l : Addr) (p n turn : Int) (ss : List Step) (ts : List Tie), vs = [.ref w, .int p, .ref l] ∧ WebAt K H w n ts turn ∧ (0 ≤ p ∧ p < n) ∧ LStep K H l ss ∧ ss.length ≤ 3000 ∧
  (endF ts p 0 ss = none → ∀ H', Ex H H' → E (.ref (ga K "BadTie")) none H') ∧ ∀ q c, endF ts p 0 ss = some (q, c) → RetP (fun v H2 => TupI K H2 v [q, c]) H Q
theorem rd_climbX (vs : List V) (H : Hp) (Q : VK) (E : XK) (h : sp_climbX K vs H Q E) : goal (t_climbX K E) ["web", "start", "steps", "points", "total"] vs H Q := by
  obtain ⟨w, l, p, n, turn, ss, ts, rfl, hw, hp, hs, hl, kn, k⟩ := h
  refine Evl.q_drop (ev_check_point (w := w) (by walk_at "ev") hw hp) fun H1 e1 => ?_
  obtain ⟨us, hs1, hs2⟩ := hs.mono e1
  refine q_never (b := false) (Evl.et_is (Evl.et_not (Evl.et_B (ev_isiTy (a := "list") (b := "list") (bb := true) (Evl.ev_var rfl) (ty_lst hs1) rfl))) (by rfl)) rfl fun H2 e2 => ?_
  have e12 := e1.trans e2
  refine q_unV2 (P := fun x y H3 => ∃ a, x = .ref a ∧ y = .int (walkR ts p ss).2 ∧ LI K H3 a (walkR ts p ss).1) ((ep_walked (w := w) (l := l) (p := p) (by walk_at "ev") (hw.mono e12) (hs.mono e12) hl).imp fun v H3 e3 ⟨t, a, a1, a2, a3, a4⟩ => ⟨t, _, _, a1, a2, a, rfl, rfl, li_of a4⟩) fun x y H3 e3 hx => ?_
  obtain ⟨a, rfl, rfl, hli⟩ := hx
  rcases endF_walk (ts := ts) (p := p) (ss := ss) with ⟨h1, h2⟩ | ⟨ps, q, d, h1, h2, h3⟩
  · have hv : walkR ts p ss = ([], 0) := by unfold walkR; rw [h1]; rfl
    rw [hv] at hli
    refine Evl.q_when (b := true) (Evl.et_is (Evl.et_test (Evl.ev_op (ev_lenI (Evl.ev_var rfl) hli) Evl.ev_c rv_eqI)) (by rfl)) (fun _ H4 e4 => kn h2 _ (e12.trans (e3.trans e4))) fun z => by cases z
  · have hv : walkR ts p ss = (ps, d) := by unfold walkR; rw [h1]; rfl
    rw [hv] at hli ⊢
    have hlen : ps.length = ss.length + 1 := by
      have := walkA_len h1
      simpa using this
    refine Evl.q_when (b := false) (Evl.et_is (a := decide ((ps.length : Int) = 0)) (Evl.et_test (Evl.ev_op (ev_lenI (Evl.ev_var rfl) hli) Evl.ev_c rv_eqI)) (decide_eq_false (by omega))) (fun z => by cases z) fun _ H4 e4 => ?_
    have hli4 := hli.mono e4
    have hat := atI_lastOf h2
    exact s_retP (P := fun v H2 => TupI K H2 v [q, d]) (ei_tup (eai_cons (ev_ixI (Evl.ev_var rfl) (ev_neg Evl.ev_c) hli4 hat) (eai_cons (Evl.ev_var rfl) eai_nil)) (by show 2 ≤ 100000; decide)) fun v H5 e5 h5 => k q d h3 v H5 (e12.trans (e3.trans (e4.trans e5))) h5

/-! ### _law_climbed -/
def ClimbV (K : PySem.W.Frag) (r : Option (Int × Int)) (v : V) (H2 : Hp) : Prop := match r with
  | none => v = .str "none"
  | some q => TupI K H2 v [q.1, q.2]
def sp__law_climbed (K : PySem.W.Frag) : Sp := fun vs H Q _ => ∃ (w l : Addr) (p n turn : Int) (ss : List Step) (ts : List Tie), vs = [.ref w, .int p, .ref l] ∧ ExK K "BadTie" 3 ∧ WebAt K H w n ts turn ∧ (0 ≤ p ∧ p < n) ∧ LStep K H l ss ∧ ss.length ≤ 3000 ∧ RetP (ClimbV K (endF ts p 0 ss)) H Q
theorem ep_climbed {w : Addr} {p n turn : Int} {ss : List Step} {ts : List Tie} (T : ExK K "BadTie" 3) (ha : Ev ta σ H (.ref w)) (hb : ∀ H1, Ex H H1 → Ev tb σ H1 (.int p)) (hc : EvP tc σ H (fun v H2 => ∃ l, v = .ref l ∧ LStep K H2 l ss)) (hw : WebAt K H w n ts turn) (hp : 0 ≤ p ∧ p < n) (hl : ss.length ≤ 3000) :
    EvP (tCall (sp__law_climbed K) [] E0 (tCons ta (tCons tb (tCons tc tNil)))) σ H (ClimbV K (endF ts p 0 ss)) := fun H1 e Q q =>
  ha H1 e _ fun H2 e2 => hb H2 (e.trans e2) H2 (Ex.refl _) _ fun H3 e3 => hc H3 ((e.trans e2).trans e3) _ fun v H4 e4 ⟨l, ev, hs⟩ =>
    ⟨w, l, p, n, turn, ss, ts, by rw [ev]; rfl, T, hw.mono (((e.trans e2).trans e3).trans e4), hp, hs, hl, fun v H5 e5 hv => q v H5 (((e2.trans e3).trans e4).trans e5) hv⟩
def t__law_climbed (K : PySem.W.Frag) : TS :=
 (fun D σ H => (fun W => (tRet (tCallS (sp_climbX K) (WE W) (tCons (tVar 0) (tCons (tVar 1) (tCons (tVar 2) tNil)))))) (wAs K (.ref (ga K "WebError")) 3 (fun a cls d => (tSeq (tAsg (tLst (tCons (tCB (rIsX K a cls d) (tCons (tVar 3) (tCons (tC (.ref (ga K "BadPoint"))) tNil))) (tCons (tCB (rIsX K a cls d) (tCons (tVar 3) (tCons (tC (.ref (ga K "BadText"))) tNil))) (tCons (tCB (rIsX K a cls d) (tCons (tVar 3) (tCons (tC (.ref (ga K "BadWeb"))) tNil))) tNil)))) (gName 4))
 (tSeq (tAsg (tOp rCat (tVar 4) (tLst (tCons (tCB (rIsX K a cls d) (tCons (tVar 3) (tCons (tC (.ref (ga K "Unlike"))) tNil))) (tCons (tNotV (tCB (rIsX K a cls d) (tCons (tVar 3) (tCons (tC (.ty "ValueError")) tNil)))) tNil)))) (gName 4))
 (tRet (tIf (tAnd (tB (tCB (rIsX K a cls d) (tCons (tVar 3) (tCons (tC (.ref (ga K "BadTie"))) tNil)))) (tNot (tB (tCB (rAny K) (tCons (tVar 4) tNil))))) (tC (.str "none")) (tC (.str "other"))))))) (fun _ _ _ _ => False) D) D σ H)
theorem rd__law_climbed (vs : List V) (H : Hp) (Q : VK) (E : XK) (h : sp__law_climbed K vs H Q E) : goal (t__law_climbed K) ["_law_web_here", "_law_start", "_law_steps", "error", "_law_others"] vs H Q := by
  obtain ⟨w, l, p, n, turn, ss, ts, rfl, T, hw, hp, hs, hl, k⟩ := h
  have ev : EvA (tCons (tVar 0) (tCons (tVar 1) (tCons (tVar 2) tNil))) (L2.start ["_law_web_here", "_law_start", "_law_steps", "error", "_law_others"] [V.ref w, V.int p, V.ref l]) H [.ref w, .int p, .ref l] := Evl.ea_cons (Evl.ev_var rfl) (Evl.ea_cons (Evl.ev_var rfl) (Evl.ea_cons (Evl.ev_var rfl) Evl.ea_nil))
  unfold goal t__law_climbed
  show tCallS (sp_climbX K) (WE _) _ _ H Q
  refine ev H (Ex.refl H) _ fun H1 e1 => ⟨w, l, p, n, turn, ss, ts, rfl, hw.mono e1, hp, hs.mono e1, hl, fun hn H2 e2 => ?_, fun q c hq v H2 e2 hv => k v H2 (e1.trans e2) (by rw [hq]; exact hv)⟩
  refine ⟨true, T.em 0 _ rfl, fun _ a ha => ?_, fun q => Bool.noConfusion q⟩
  refine Evl.q_asgL (xs := [.bl false, .bl false, .bl false]) (Evl.el_lst (Evl.ea_cons (ev_isX T.ec (T.is 2 _ rfl) (Evl.ev_var rfl)) (Evl.ea_cons (ev_isX T.ec (T.is 5 _ rfl) (Evl.ev_var rfl)) (Evl.ea_cons (ev_isX T.ec (T.is 1 _ rfl) (Evl.ev_var rfl)) Evl.ea_nil))) (by decide)) fun ol H3 fo e3 ho => ?_
  refine Evl.q_asgL (xs := [.bl false, .bl false, .bl false] ++ [.bl false, .bl false]) (ep_catBX (Evl.ev_var rfl) ho (Evl.el_lst (Evl.ea_cons (ev_isX T.ec (T.is 4 _ rfl) (Evl.ev_var rfl)) (Evl.ea_cons (Evl.ev_is (Evl.ev_notV (ev_isXT T.ec T.iv (Evl.ev_var rfl))) rfl) Evl.ea_nil)) (by decide)) (by decide)) fun ol2 H4 fo2 e4 ho2 => ?_
  refine Evl.s_ret (v := .str "none") (Evl.ev_if (b := true) (Evl.et_is (Evl.et_and (Evl.et_B (ev_isX T.ec (T.is 3 _ rfl) (Evl.ev_var rfl))) fun _ => Evl.et_not (Evl.et_B (ev_any (K := K) (p := ol2) (bs := [false, false, false, false, false]) (Ev.toP (Evl.ev_var rfl) fun H8 e8 => ⟨ol2, rfl, SqL.of (e8 _ _ ho2)⟩)))) rfl) (fun _ => Evl.ev_c) (fun h => by cases h)) fun H5 e5 => k _ H5 (e1.trans (e2.trans (e3.trans (e4.trans e5)))) (by rw [hn]; rfl)
end G

/-! The law of webs. -/
namespace G
open PySem PySem.Spec PyProof.Rows L2
open Evl (Ex Ev EvL EvU EvT EvA RV RetV)
local macro_rules | `(tactic| walk_at "hp") => `(tactic| first
  | with_reducible assumption
  | ((with_reducible show _ = some (_ : HO)); (with_reducible exact ex_app (by assumption) (by walk_at "hp")))
  | ((with_reducible show TupI _ _ _ _); (with_reducible exact TupI.mono (by assumption) (by walk_at "hp")))
  | ((with_reducible show LT _ _ _ _); (with_reducible exact LT.mono (by assumption) (by walk_at "hp")))
  | ((with_reducible show LI _ _ _ _); (first | (with_reducible exact li_of (by walk_at "hp")) | (with_reducible exact LI.mono (by assumption) (by walk_at "hp"))))
  | ((with_reducible show SqL _ _ _ _); (first | (with_reducible exact SqL.of (by walk_at "hp")) | (with_reducible exact Evl.ex_l (by assumption) (by walk_at "hp"))))
  | ((with_reducible show SqT _ _ _ _); (first | (with_reducible exact SqT.of (by walk_at "hp")) | (with_reducible exact Evl.ex_t (by assumption) (by walk_at "hp"))))
  | ((with_reducible show Rd _ _ _); (first | (with_reducible exact Rd.of (by walk_at "hp")) | (with_reducible exact Evl.ex_rd (by assumption) (by walk_at "hp"))))
  | walk_at "hpf")
local macro_rules | `(tactic| walk_at "at") => `(tactic| first
  | with_reducible assumption
  | with_reducible rfl
  | (refine atI_of ?va ?vb; (case va => omega); (case vb => assumption))
  | walk_at "atf"
  | rfl)
local macro_rules | `(tactic| walk_at "rv") => `(tactic| first
  | with_reducible exact rv_add | with_reducible exact rv_sub | with_reducible exact rv_eqI | with_reducible exact rv_neI | with_reducible exact rv_lt | with_reducible exact rv_le | with_reducible exact rv_gt | with_reducible exact rv_ge
  | with_reducible exact rv_eqB | with_reducible exact rv_neB | with_reducible exact rv_isB | with_reducible exact rv_notB
  | ((with_reducible refine rv_mod ?_); (first | assumption | omega))
  | ((with_reducible refine rv_mul ?_); (first | exact Or.inl ⟨by omega, by omega⟩ | exact Or.inr ⟨by omega, by omega⟩))
  | ((with_reducible refine rv_div ?_); exact ⟨by omega, by omega⟩))
local macro_rules | `(tactic| walk_at "ty") => `(tactic| first
  | with_reducible exact fun _ _ => .base (.int _) | with_reducible exact fun _ _ => .base (.bl _) | with_reducible exact fun _ _ => .base .non | with_reducible exact fun _ _ => .base (.str _)
  | ((with_reducible apply ty_tup); walk_at "hp")
  | ((with_reducible apply ty_lst); walk_at "hp")
  | walk_at "tyf")
local macro_rules | `(tactic| walk_at "ev") => `(tactic| repeat' (first
  | with_reducible exact Evl.ev_c
  | ((with_reducible apply Evl.ev_var); rfl)
  | with_reducible apply ev_neg
  | with_reducible apply ev_ixU
  | walk_at "evf"
  | ((with_reducible apply ev_lenI); (· walk_at "ev"); (· walk_at "hp"))
  | ((with_reducible apply ev_lenT); (· walk_at "ev"); (· walk_at "hp"))
  | ((with_reducible apply ev_lenU); (· walk_at "ev"))
  | with_reducible apply ev_lenSet
  | with_reducible apply ev_chain
  | with_reducible apply ev_isiTy
  | with_reducible apply Evl.ev_andV
  | with_reducible apply Evl.ev_orV
  | with_reducible apply Evl.ev_notV
  | ((with_reducible apply ev_ixI); (· walk_at "ev"); (· walk_at "ev"); (· walk_at "hp"); (· walk_at "at"))
  | with_reducible apply Evl.ev_op
  | ((with_reducible apply evi_of); (· (with_reducible apply Evl.ev_var); rfl); (· walk_at "hp"))
  | with_reducible apply ei_ix
  | with_reducible apply ei_tup
  | with_reducible exact eai_nil
  | with_reducible apply eai_cons
  | with_reducible exact Evl.ea_nil
  | with_reducible apply Evl.ea_cons
  | with_reducible apply Evl.et_test
  | with_reducible apply Evl.et_and
  | with_reducible apply Evl.et_or
  | with_reducible apply Evl.et_not
  | with_reducible apply Evl.et_B
  | walk_at "rv"
  | ((with_reducible show L2.kitB _ _ = _); rfl)
  | ((with_reducible show L2.atI _ _ = _); walk_at "at")
  | ((with_reducible show (_ : Nat) ≤ _); (first | omega | (simp; done) | (simp; omega)))
  | ((with_reducible show _ = true → _); intro _)
  | ((with_reducible show _ = false → _); intro _)
  | ((with_reducible show TupI _ _ _ _); walk_at "hp")
  | ((with_reducible show LT _ _ _ _); walk_at "hp")
  | ((with_reducible show LI _ _ _ _); walk_at "hp")
  | ((with_reducible show SqL _ _ _ _); walk_at "hp")
  | ((with_reducible show SqT _ _ _ _); walk_at "hp")
  | ((with_reducible show Rd _ _ _); walk_at "hp")
  | ((with_reducible show _ = some (_ : HO)); walk_at "hp")
  | walk_at "hpg"
  | walk_at "ty"))

local macro_rules | `(tactic| walk_at "hpf") => `(tactic| ((with_reducible show WebAt _ _ _ _ _ _); (with_reducible exact WebAt.mono (by assumption) (by walk_at "hp"))))
local macro_rules | `(tactic| walk_at "hpg") => `(tactic| ((with_reducible show WebAt _ _ _ _ _ _); walk_at "hp"))
local macro_rules | `(tactic| walk_at "evf") => `(tactic| with_reducible apply ev_points)
local macro_rules | `(tactic| walk_at "evf") => `(tactic| with_reducible apply ev_turn)
local macro_rules | `(tactic| walk_at "evf") => `(tactic| with_reducible apply ev_lenB)
local macro_rules | `(tactic| walk_at "evf") => `(tactic| with_reducible apply ei_bound)
local macro_rules | `(tactic| walk_at "evf") => `(tactic| with_reducible apply ev_is_whole)
local macro_rules | `(tactic| walk_at "evf") => `(tactic| with_reducible apply ev_is_below)
local macro_rules | `(tactic| walk_at "evf") => `(tactic| with_reducible apply ev_is_tie)
local macro_rules | `(tactic| walk_at "evf") => `(tactic| with_reducible apply ei_stepped)
variable {K : PySem.W.Frag} {σ : L2.St} {H H' H1 : Hp} {ta tb tc te : TE} {t u : TT} {tl : TA} {v x y z : V}
/-- an own class C beside one class D -/
structure Kn1 (K : PySem.W.Frag) (C D : Str) (b : Bool) : Prop where
  cl : Cls K (ga K C)
  ha : PySem.W.findIn K (.ref (ga K C)) "__class__" = some (some (.builtin "object.__class__"))
  hn : PySem.W.specialIn K (.builtin "object.__class__") "__get__" = some (some (.builtin "getset_descriptor.__get__"))
  htk : PySem.W.takesIn K (.builtin "object.__class__") = some true
  hm : PySem.W.mroIn K (ga K C) (.type "object") = some true
  is : PySem.W.kitOne K (.ref (ga K C)) (.ref (ga K D)) = some b
theorem ev_isi1 {a dx : Addr} {fs : List (Str × V)} {C D : Str} {b : Bool} (k : Kn1 K C D b) (ha : Ev ta σ H (.ref a)) (h : H a = some (.ins (ga K C) dx fs)) : Ev (tCB (rIsi K) (tCons ta (tCons (tC (.ref (ga K D))) tNil))) σ H (.bl b) :=
  ev_isi ha Evl.ev_c (.own _) (fun H2 e => .base (.ins (e _ _ h) k.cl k.ha k.hn k.htk k.hm)) k.is
structure TopL (K : PySem.W.Frag) : Prop where
  web : WebTop K
  ans : TopH K
  k1 : Kn1 K "Heights" "Heights" true
  k2 : Kn1 K "Ring" "Heights" false
  ex : ExK K "BadTie" 3
/-! ### rules -/
theorem cutV_to {us : List V} {d : Int} (h0 : 0 ≤ d) (h1 : d ≤ us.length) : cutV us none (some d) = us.take d.toNat := by
  unfold cutV
  have e1 : HT.sIx us.length 0 none = 0 := rfl
  have e2 : HT.sIx us.length us.length (some d) = d.toNat := by
    show (if d < 0 then (d + (us.length : Int)).toNat else min d.toNat us.length) = d.toNat
    rw [if_neg (by omega)]
    omega
  rw [e1, e2, List.drop_zero, Nat.sub_zero]
theorem cutV_from {us : List V} {d : Int} (h0 : 0 ≤ d) (h1 : d ≤ us.length) : cutV us (some d) none = us.drop d.toNat := by
  unfold cutV
  have e1 : HT.sIx us.length us.length none = us.length := rfl
  have e2 : HT.sIx us.length 0 (some d) = d.toNat := by
    show (if d < 0 then (d + (us.length : Int)).toNat else min d.toNat us.length) = d.toNat
    rw [if_neg (by omega)]
    omega
  rw [e1, e2]
  exact List.take_of_length_le (by rw [List.length_drop]; omega)
theorem ep_to {a : Addr} {xss : List (List Int)} {d : Int} (h : Ev te σ H (.ref a)) (hs : LT K H a xss) (hd : Ev tb σ H (.int d)) (h0 : 0 ≤ d) (h1 : d ≤ xss.length) : EvP (tSl (rSlL K) te tNoPart (tPart tb)) σ H (NewLT K H (xss.take d.toNat)) := fun H1 e Q q => by
  obtain ⟨us, q1, q2⟩ := hs
  have hul := q2.length
  refine Evl.el_sl h Evl.eo_none (Evl.eo_some hd) q1 H1 e _ fun p H2 hp e2 h3 => q _ H2 e2 ⟨p, us.take d.toNat, rfl, Evl.fresh_back e hp, by rw [← cutV_to h0 (by omega)]; exact h3, (q2.mono (e.trans e2)).take _⟩
theorem ep_from {a : Addr} {xss : List (List Int)} {d : Int} (h : Ev te σ H (.ref a)) (hs : LT K H a xss) (hd : Ev tb σ H (.int d)) (h0 : 0 ≤ d) (h1 : d ≤ xss.length) : EvP (tSl (rSlL K) te (tPart tb) tNoPart) σ H (NewLT K H (xss.drop d.toNat)) := fun H1 e Q q => by
  obtain ⟨us, q1, q2⟩ := hs
  have hul := q2.length
  refine Evl.el_sl h (Evl.eo_some hd) Evl.eo_none q1 H1 e _ fun p H2 hp e2 h3 => q _ H2 e2 ⟨p, us.drop d.toNat, rfl, Evl.fresh_back e hp, by rw [← cutV_from h0 (by omega)]; exact h3, (q2.mono (e.trans e2)).drop _⟩
theorem newLT {xss : List (List Int)} (h : EvP te σ H (NewLT K H xss)) : EvLT K te σ H xss := h.imp fun v H2 e ⟨l, vs, a, _, b, c⟩ => ⟨l, a, vs, SqL.of b, c⟩
theorem newTL {xss : List (List Int)} (h : EvP te σ H (NewLT K H xss)) : EvP te σ H (fun v H2 => ∃ l vs, v = .ref l ∧ H2 l = some (.lst vs) ∧ TupL K H2 vs xss) := h.imp fun v H2 e ⟨l, vs, a, _, b, c⟩ => ⟨l, vs, a, b, c⟩
theorem ev_inTI {xs : List Int} {i : Int} (ha : Ev ta σ H (.int i)) (hb : EvI K tb σ H xs) : Ev (tOp (rIn K false) ta tb) σ H (.bl (decide (i ∈ xs))) := fun H1 e Q q =>
  ha H1 e _ fun H2 e2 => hb H2 (e.trans e2) _ fun v H3 e3 ⟨p, ev, hp⟩ => ⟨p, xs.map V.int, ev, .inr hp, rfl, flat_ints xs, by
    show Q (.bl (inV (.int i) (xs.map V.int))) H3
    rw [inV_int]
    exact q H3 (e2.trans e3)⟩
theorem q_par3N {D : Ends} {tz : TS} {i j l : Nat} (h1 : Ev ta σ H x) (h3 : ∀ H1, Ex H H1 → Ev tc σ H1 y) (k : ∀ p H1, Ex H H1 → H p = none → H1 p = some (.lst []) → tz D (((σ.set i (some x)).set j (some (.ref p))).set l (some y)) H1) :
    tSeq (tPar3 i j l (tCons ta (tCons (tLst tNil) (tCons tc tNil)))) tz D σ H :=
  h1 H (Ex.refl H) _ fun H1 e1 => (Evl.el_lst (vs := []) Evl.ea_nil (by decide) : EvL (tLst tNil) σ H []) H1 e1 _ fun p H2 hp e2 h2 => h3 H2 (e1.trans e2) H2 (Ex.refl _) _ fun H3 e3 => ⟨x, .ref p, y, rfl, k p H3 ((e1.trans e2).trans e3) (Evl.fresh_back e1 hp) (e3 _ _ h2)⟩
theorem ev_lenTie {a : Addr} {ts : List Tie} (ha : Ev ta σ H (.ref a)) (h : LTie K H a ts) : Ev (tCB (rLenS K) (tCons ta tNil)) σ H (.int (ts.length : Int)) := by
  have e := ev_lenT ha h
  rwa [List.length_map] at e
theorem ev_lenStep {a : Addr} {ts : List Step} (ha : Ev ta σ H (.ref a)) (h : LStep K H a ts) : Ev (tCB (rLenS K) (tCons ta tNil)) σ H (.int (ts.length : Int)) := by
  have e := ev_lenT ha h
  rwa [List.length_map] at e
theorem lay_str (s : Str) (h : s.cps.all (fun c => decide (c < 0x110000)) = true) : (PyData.str s).canLay0 = true := by simp only [PyData.canLay0]; exact h
theorem shp_str (s : Str) (h : s.cps.all (fun c => decide (c < 0x110000)) = true) : SeqAt.shaped (.str s) = true := shp (lay_str s h) (by simp only [PyData.depth]; omega)
theorem eqv_str (s : Str) : PyData.eqv (.str s) (.str s) = true := by simp [PyData.eqv]
/-! ### walks -/
theorem way_of {ts : List Tie} {i : Nat} {t : Tie} {pt n : Int} (ht : ts[i]? = some t) (h : pt ∈ [t.1, t.2.1]) (h1 : 0 ≤ t.1 ∧ t.1 < n) (h2 : 0 ≤ t.2.1 ∧ t.2.1 < n) :
    ∃ way np : Int, ((pt = t.1 → way = 1) ∧ (¬ pt = t.1 → way = -1)) ∧ ((way = 1 → np = t.2.1) ∧ (¬ way = 1 → np = t.1)) ∧ stepF ts pt ((i : Int), way) = (np, way * t.2.2) ∧ (0 ≤ np ∧ np < n) ∧ (way = 1 ∨ way = -1) := by
  by_cases c : pt = t.1
  · refine ⟨1, t.2.1, ⟨fun _ => rfl, fun z => absurd c z⟩, ⟨fun _ => rfl, fun z => absurd rfl z⟩, ?_, h2, .inl rfl⟩
    rw [c, stepF_fwd ht, Int.one_mul]
  · have c2 : pt = t.2.1 := by
      rcases List.mem_cons.mp h with z | z
      · exact absurd z c
      · exact List.mem_singleton.mp z
    refine ⟨-1, t.1, ⟨fun z => absurd z c, fun _ => rfl⟩, ⟨fun z => absurd z (by decide), fun _ => rfl⟩, ?_, h1, .inr rfl⟩
    rw [c2, stepF_back ht]
    simp
def sp__law_walks_right (K : PySem.W.Frag) : Sp := fun vs H Q _ => ∃ (w tl a : Addr) (n turn : Int) (ts : List Tie) (ns : List Int), vs = [.ref w, .int n, .ref tl, .ref a] ∧ TopL K ∧ WebAt K H w n ts turn ∧ LTie K H tl ts ∧ LawWeb n turn ts ∧ LI K H a ns ∧ ns.length ≤ 63 ∧ RetV (.bl true) H Q
def t__law_walks_right (K : PySem.W.Frag) : TS :=
 (tSeq (tAsg (tCall (sp__law_draw K) [] E0 (tCons (tCall (sp__law_cell_at K) [] E0 (tCons (tVar 3) (tCons (tC (.int 1)) tNil))) (tCons (tC (.int 3)) (tCons (tVar 1) tNil)))) (gName 4))
 (tSeq (tPar3 5 6 7 (tCons (tVar 4) (tCons (tLst tNil) (tCons (tC (.int 0)) tNil))))
 (tSeq (tFor (iRng1 (tCons (tCB (rLenS K) (tCons (tVar 2) tNil)) tNil)) (gName 8) (tIfS (tTest (tOp (rIn K false) (tVar 4) (tSl (rSlT K) (tOp (rIxL K) (tVar 2) (tVar 8)) tNoPart (tPart (tC (.int 2)))))) (tSeq (tAsg (tIf (tTest (tOp rEq (tVar 4) (tOp (rIxT K) (tOp (rIxL K) (tVar 2) (tVar 8)) (tC (.int 0))))) (tC (.int 1)) (tUn rNegI (tC (.int 1)))) (gName 9))
 (tSeq (tDrop (tBM K "list" rAppend (tVar 6) (tCons (tTup (tCons (tVar 8) (tCons (tVar 9) tNil))) tNil)))
 (tSeq (tAsg (tIf (tTest (tOp rEq (tVar 9) (tC (.int 1)))) (tOp (rIxT K) (tOp (rIxL K) (tVar 2) (tVar 8)) (tC (.int 1))) (tOp (rIxT K) (tOp (rIxL K) (tVar 2) (tVar 8)) (tC (.int 0)))) (gName 4))
 (tAsg (tOp rAddI (tVar 7) (tOp rMulI (tVar 9) (tOp (rIxT K) (tOp (rIxL K) (tVar 2) (tVar 8)) (tC (.int 2))))) (gName 7))))) tNext))
 (tSeq (tAsg (tCB (rListS K) (tCons (tVar 6) tNil)) (gName 10))
 (tSeq (tIfS (tOr (tTest (tOp (rNeD K) (tCall (sp__law_climbed K) [] E0 (tCons (tVar 0) (tCons (tVar 5) (tCons (tVar 10) tNil)))) (tTup (tCons (tVar 4) (tCons (tVar 7) tNil))))) (tTest (tOp (rNeD K) (tVar 10) (tVar 6)))) (tRet (tC (.bl false))) tNext)
 (tSeq (tAsg (tLc (iList K (tRevL K (tVar 6))) (gTup K 2 (gCons (gName 17) (gCons (gName 9) gNil))) tYes (tTup (tCons (tVar 17) (tCons (tUn rNegI (tVar 9)) tNil))) [17, 9]) (gName 11))
 (tSeq (tIfS (tTest (tOp (rNeD K) (tCall (sp__law_climbed K) [] E0 (tCons (tVar 0) (tCons (tVar 5) (tCons (tOp rCat (tVar 6) (tVar 11)) tNil)))) (tTup (tCons (tVar 5) (tCons (tC (.int 0)) tNil))))) (tRet (tC (.bl false))) tNext)
 (tSeq (tIfS (tTest (tOp (rNeD K) (tCall (sp__law_climbed K) [] E0 (tCons (tVar 0) (tCons (tVar 5) (tCons (tOp rCat (tOp rCat (tVar 6) (tVar 11)) (tVar 6)) tNil)))) (tTup (tCons (tVar 4) (tCons (tVar 7) tNil))))) (tRet (tC (.bl false))) tNext)
 (tSeq (tFor (iRng1 (tCons (tC (.int 5)) tNil)) (gName 8) (tSeq (tAsg (tCall (sp__law_cell_at K) [] E0 (tCons (tVar 3) (tCons (tVar 8) tNil))) (gName 12))
 (tSeq (tAsg (tTup (tCons (tOp rSubI (tCall (sp__law_draw K) [] E0 (tCons (tVar 12) (tCons (tC (.int 4)) (tCons (tOp rAddI (tCB (rLenS K) (tCons (tVar 2) tNil)) (tC (.int 2))) tNil)))) (tC (.int 1))) (tCons (tOp (rIxT K) (tTup (tCons (tC (.int 1)) (tCons (tUn rNegI (tC (.int 1))) (tCons (tC (.int 0)) (tCons (tC (.int 2)) tNil))))) (tCall (sp__law_draw K) [] E0 (tCons (tVar 12) (tCons (tC (.int 5)) (tCons (tC (.int 4)) tNil))))) tNil))) (gName 13))
 (tSeq (tAsg (tOp rCat (tSl (rSlL K) (tVar 6) tNoPart (tPart (tCall (sp__law_draw K) [] E0 (tCons (tVar 12) (tCons (tC (.int 6)) (tCons (tOp rAddI (tCB (rLenS K) (tCons (tVar 6) tNil)) (tC (.int 1))) tNil)))))) (tLst (tCons (tVar 13) tNil))) (gName 14))
 (tSeq (tAsg (tCall (sp__law_walk K) [] E0 (tCons (tVar 2) (tCons (tVar 5) (tCons (tVar 14) tNil)))) (gTup K 2 (gCons (gName 15) (gCons (gName 16) gNil))))
 (tIfS (tTest (tOp (rNeD K) (tCall (sp__law_climbed K) [] E0 (tCons (tVar 0) (tCons (tVar 5) (tCons (tVar 14) tNil)))) (tIf (tTest (tOp (rEqD K) (tVar 15) (tLst tNil))) (tC (.str "none")) (tTup (tCons (tOp (rIxL K) (tVar 15) (tUn rNegI (tC (.int 1)))) (tCons (tVar 16) tNil)))))) (tRet (tC (.bl false))) tNext))))))
 (tRet (tC (.bl true))))))))))))
def t_law (K : PySem.W.Frag) : TS :=
 (tSeq (tAsg (tCall (sp__law_web K) [] E0 (tCons (tVar 0) tNil)) (gTup K 3 (gCons (gName 1) (gCons (gName 2) (gCons (gName 3) gNil)))))
 (tSeq (tAsg (tMake (ga K "Web") (sp_Web_init K) [] E0 (tCons (tVar 1) (tCons (tVar 2) (tCons (tVar 3) tNil)))) (gName 4))
 (tSeq (tAsg (tCall (sp_about K) [] E0 (tCons (tVar 4) tNil)) (gName 5))
 (tSeq (tIfS (tOr (tTest (tOp (rNeD K) (tMeth (ga K "Web") "ties" (sp_Web_ties K) [] E0 (tVar 5) tNil) (tLc (iList K (tVar 2)) (gTup K 3 (gCons (gName 11) (gCons (gName 12) (gCons (gName 13) gNil)))) tYes (tTup (tCons (tVar 12) (tCons (tVar 11) (tCons (tUn rNegI (tVar 13)) tNil)))) [11, 12, 13]))) (tTest (tOp (rNeD K) (tTup (tCons (tFld K (tVar 5) "points") (tCons (tFld K (tVar 5) "turn") tNil))) (tTup (tCons (tVar 1) (tCons (tVar 3) tNil)))))) (tRet (tC (.bl false))) tNext)
 (tSeq (tAsg (tCall (sp__law_draw K) [] E0 (tCons (tCall (sp__law_cell_at K) [] E0 (tCons (tVar 0) (tCons (tC (.int 3)) tNil))) (tCons (tC (.int 2)) (tCons (tOp rAddI (tCB (rLenS K) (tCons (tVar 2) tNil)) (tC (.int 1))) tNil)))) (gName 6))
 (tSeq (tPar 7 8 (tCons (tMake (ga K "Web") (sp_Web_init K) [] E0 (tCons (tVar 1) (tCons (tSl (rSlL K) (tVar 2) tNoPart (tPart (tVar 6))) (tCons (tVar 3) tNil)))) (tCons (tMake (ga K "Web") (sp_Web_init K) [] E0 (tCons (tVar 1) (tCons (tSl (rSlL K) (tVar 2) (tPart (tVar 6)) tNoPart) (tCons (tVar 3) tNil)))) tNil)))
 (tSeq (tAsg (tCall (sp_together K) [] E0 (tCons (tVar 7) (tCons (tVar 8) tNil))) (gName 9))
 (tSeq (tIfS (tOr (tTest (tOp (rNeD K) (tMeth (ga K "Web") "ties" (sp_Web_ties K) [] E0 (tVar 9) tNil) (tVar 2))) (tOr (tTest (tOp (rNeD K) (tTup (tCons (tFld K (tVar 9) "points") (tCons (tFld K (tVar 9) "turn") tNil))) (tTup (tCons (tVar 1) (tCons (tVar 3) tNil))))) (tTest (tOp (rNeD K) (tMeth (ga K "Web") "ties" (sp_Web_ties K) [] E0 (tCall (sp_about K) [] E0 (tCons (tVar 5) tNil)) tNil) (tVar 2))))) (tRet (tC (.bl false))) tNext)
 (tSeq (tIfS (tOr (tTest (tOp (rNeD K) (tMeth (ga K "Web") "ties" (sp_Web_ties K) [] E0 (tCall (sp_together K) [] E0 (tCons (tVar 8) (tCons (tVar 7) tNil))) tNil) (tOp rCat (tSl (rSlL K) (tVar 2) (tPart (tVar 6)) tNoPart) (tSl (rSlL K) (tVar 2) tNoPart (tPart (tVar 6)))))) (tOr (tTest (tOp (rNeD K) (tMeth (ga K "Web") "ties" (sp_Web_ties K) [] E0 (tVar 7) tNil) (tSl (rSlL K) (tVar 2) tNoPart (tPart (tVar 6))))) (tTest (tOp (rNeD K) (tMeth (ga K "Web") "ties" (sp_Web_ties K) [] E0 (tVar 8) tNil) (tSl (rSlL K) (tVar 2) (tPart (tVar 6)) tNoPart))))) (tRet (tC (.bl false))) tNext)
 (tSeq (tAsg (tCall (sp_levels K) [] E0 (tCons (tVar 9) tNil)) (gName 10))
 (tSeq (tIfS (tAnd (tB (tCB (rIsi K) (tCons (tVar 10) (tCons (tC (.ref (ga K "Heights"))) tNil)))) (tNot (tAnd (tB (tMeth (ga K "Heights") "shows" (sp_Heights_shows K) [] E0 (tVar 10) (tCons (tVar 7) tNil))) (tB (tMeth (ga K "Heights") "shows" (sp_Heights_shows K) [] E0 (tVar 10) (tCons (tVar 8) tNil)))))) (tRet (tC (.bl false))) tNext)
 (tRet (tAndV (tCall (sp__law_walks_right K) [] E0 (tCons (tVar 4) (tCons (tVar 1) (tCons (tVar 2) (tCons (tVar 0) tNil))))) (tOp (rEqD K) (tMeth (ga K "Web") "ties" (sp_Web_ties K) [] E0 (tVar 4) tNil) (tVar 2)))))))))))))))
theorem rd__law_walks_right (vs : List V) (H : Hp) (Q : VK) (E : XK) (h : sp__law_walks_right K vs H Q E) : goal (t__law_walks_right K) ["_law_web_here", "_law_points", "_law_ties", "_law_script", "_law_point", "_law_start", "_law_steps", "_law_now", "_law_k", "_law_way", "_law_handed", "_law_back", "_law_cell", "_law_step", "_law_some", "_law_came", "_law_total", "_law_at"] vs H Q := by
  obtain ⟨w, tl', a, n, turn, ts, ns, rfl, T, hw, hts, LW, hn, hnl, k⟩ := h
  have n2 := LW.n2
  have hlt := LW.len
  have hv := LW.web.val
  refine Evl.q_asg (ev_draw (Evl.ea_cons (ev_cell (Evl.ea_cons (Evl.ev_var rfl) (Evl.ea_cons Evl.ev_c Evl.ea_nil)) hn (by decide)) (Evl.ea_cons Evl.ev_c (Evl.ea_cons (Evl.ev_var rfl) Evl.ea_nil))) (by omega)) fun H1 e1 => ?_
  have st0 := draw_ge (cellF ns 1) 3 (m := n) (by omega)
  have st1 := draw_lt (cellF ns 1) 3 (m := n) (by omega)
  generalize drawF (cellF ns 1) 3 n = st at st0 st1
  refine q_par3N (Evl.ev_var rfl) (fun H2 e2 => Evl.ev_c) fun sl H2 e2 fsl hsl => ?_
  have e12 := e1.trans e2
  have hts2 := LT.mono e12 hts
  refine q_seq (f_range (n := (ts.length : Int)) (Evl.ea_cons (ev_lenTie (Evl.ev_var rfl) hts2) Evl.ea_nil) ⟨by omega, by omega⟩
    (fun i σ' H' => ∃ (ss : List Step) (pt now : Int) (o8 o9 : Option V), σ' = [some (.ref w), some (.int n), some (.ref tl'), some (.ref a), some (.int pt), some (.int st), some (.ref sl), some (.int now), o8, o9, none, none, none, none, none, none, none, none] ∧ Ex H1 H' ∧ HasS K H' sl ss ∧ endF ts st 0 ss = some (pt, now) ∧ (0 ≤ pt ∧ pt < n) ∧ ss.length ≤ i)
    (fun H3 e3 => ⟨[], st, 0, _, _, rfl, e2.trans e3, ⟨[], e3 _ _ hsl, .nil⟩, rfl, ⟨st0, st1⟩, Nat.le_refl _⟩) ?_ ?_)
  · rintro i σ' H' hi ⟨ss, pt, now, o8, o9, rfl, e, hS, hend, hpt, hsl2⟩
    have hil : i < ts.length := by omega
    obtain ⟨tt, hti⟩ : ∃ tt, ts[i]? = some tt := ⟨ts[i]'hil, List.getElem?_eq_getElem hil⟩
    obtain ⟨v1, v2, v3⟩ := hv tt (List.mem_of_getElem? hti)
    have hat2 : atI (ts.map tieL) (i : Int) = some (tieL tt) := by rw [atI_map, atI_of (by omega) (w := tt) (by simpa using hti)]; rfl
    have hts3 : LTie K H' tl' ts := LT.mono (e1.trans e) hts
    refine Evl.s_when (b := decide (pt ∈ [tt.1, tt.2.1])) (Evl.et_test (ev_inTI (Evl.ev_var rfl) (ei_cut2 (ei_ix (Evl.ev_var rfl) (Evl.ev_var rfl) hts3 hat2)))) (fun hb H3 e3 => ?_) fun hb H3 e3 => ⟨ss, pt, now, _, _, rfl, e.trans e3, hS.mono e3, hend, hpt, by omega⟩
    obtain ⟨way, np, ⟨f1, f2⟩, ⟨f3, f4⟩, f5, f6, f7⟩ := way_of (n := n) hti (of_decide_eq_true hb) v1 v2
    have hts4 : LTie K H3 tl' ts := LT.mono e3 hts3
    refine Evl.q_asg (v := .int way) (Evl.ev_if (b := decide (pt = tt.1)) (Evl.et_test (Evl.ev_op (Evl.ev_var rfl) (ev_ixU (xs := tieL tt) (ei_ix (Evl.ev_var rfl) (Evl.ev_var rfl) hts4 hat2) Evl.ev_c rfl) rv_eqI)) (fun c => Evl.ev_is Evl.ev_c (by rw [f1 (of_decide_eq_true c)])) fun c => Evl.ev_is (ev_neg Evl.ev_c) (by rw [f2 (of_decide_eq_false c)])) fun H4 e4 => ?_
    obtain ⟨us, hu, hT⟩ := hS.mono (e3.trans e4)
    have hul : us.length = ss.length := by rw [hT.length, List.length_map]
    refine q_appP (l := sl) (xs := us) (P := fun v H2 => TupI K H2 v (stepL ((i : Int), way))) hu (Evl.ev_var rfl) (ei_tup (eai_cons (Evl.ev_var rfl) (eai_cons (Evl.ev_var rfl) eai_nil)) (by show 2 ≤ 100000; decide)) (by omega) fun v H5 e5 hv5 => ?_
    have xS : HasS K (upd H5 sl (.lst (us ++ [v]))) sl (ss ++ [((i : Int), way)]) := by
      refine ⟨us ++ [v], upd_same, ?_⟩
      rw [List.map_append]
      exact ((hT.mono e5).snoc hv5).updL (e5 _ _ hu)
    have x5 : Ex H1 (upd H5 sl (.lst (us ++ [v]))) := (e.trans (e3.trans (e4.trans e5))).mut fsl
    have hts6 : LTie K (upd H5 sl (.lst (us ++ [v]))) tl' ts := LT.mono (e1.trans x5) hts
    generalize upd H5 sl (.lst (us ++ [v])) = H6 at xS x5 hts6
    refine Evl.q_asg (v := .int np) (Evl.ev_if (b := decide (way = 1)) (Evl.et_test (Evl.ev_op (Evl.ev_var rfl) Evl.ev_c rv_eqI)) (fun c => Evl.ev_is (ev_ixU (xs := tieL tt) (ei_ix (Evl.ev_var rfl) (Evl.ev_var rfl) hts6 hat2) Evl.ev_c rfl) (by rw [f3 (of_decide_eq_true c)])) fun c => Evl.ev_is (ev_ixU (xs := tieL tt) (ei_ix (Evl.ev_var rfl) (Evl.ev_var rfl) hts6 hat2) Evl.ev_c rfl) (by rw [f4 (of_decide_eq_false c)])) fun H7 e7 => ?_
    refine Evl.s_asg (v := .int (now + way * tt.2.2)) (Evl.ev_op (Evl.ev_var rfl) (Evl.ev_op (Evl.ev_var rfl) (ev_ixU (xs := tieL tt) (ei_ix (Evl.ev_var rfl) (Evl.ev_var rfl) (LT.mono e7 hts6) hat2) Evl.ev_c rfl) (rv_mul (Or.inl (by rcases f7 with z | z <;> rw [z] <;> decide)))) rv_add) fun H8 e8 => ⟨ss ++ [((i : Int), way)], np, now + way * tt.2.2, _, _, rfl, x5.trans (e7.trans e8), xS.mono (e7.trans e8), ?_, f6, by rw [List.length_append, List.length_singleton]; omega⟩
    rw [endF_snoc hend (by rw [f5]; exact f6.1), f5]
  · rintro σ' H3 ⟨ss, pt, now, o8, o9, rfl, e3, hS, hend, hpt, hsl2⟩
    have hssl : ss.length ≤ 63 := by omega
    dsimp only
    have x3 := e1.trans e3
    obtain ⟨us, hu, hT⟩ := id hS
    refine q_asgP (ep_list (Evl.ev_var rfl) (SqL.of hu)) fun v H4 e4 hv4 => ?_
    obtain ⟨hl', rfl, fhl, hh⟩ := hv4
    have hhS : LStep K H4 hl' ss := ⟨us, SqL.of hh, hT.mono e4⟩
    have x4 := x3.trans e4
    have hw4 := hw.mono x4
    have hS4 := (hS.mono e4).lt
    have ctup : ∀ {tc' : TE} {σ2 : L2.St} {H5 : Hp} {ss2 : List Step} {q c : Int}, Ex H H5 → Ev (tVar 0) σ2 H5 (.ref w) → (∀ H6, Ex H5 H6 → Ev (tVar 5) σ2 H6 (.int st)) → EvP tc' σ2 H5 (fun v H2 => ∃ l, v = .ref l ∧ LStep K H2 l ss2) → ss2.length ≤ 3000 → endF ts st 0 ss2 = some (q, c) → EvI K (tCall (sp__law_climbed K) [] E0 (tCons (tVar 0) (tCons (tVar 5) (tCons tc' tNil)))) σ2 H5 [q, c] := fun e5 a1 a2 a3 a4 a5 =>
      (ep_climbed T.ex a1 a2 a3 (hw.mono e5) ⟨st0, st1⟩ a4).imp fun v H6 e6 hv6 => by
        rw [a5] at hv6
        exact hv6
    have tup2 : ∀ {i j : Nat} {σ2 : L2.St} {H5 : Hp} {q c : Int}, Ev (tVar i) σ2 H5 (.int q) → Ev (tVar j) σ2 H5 (.int c) → EvI K (tTup (tCons (tVar i) (tCons (tVar j) tNil))) σ2 H5 [q, c] := fun a1 a2 => ei_tup (eai_cons a1 (eai_cons a2 eai_nil)) (by show 2 ≤ 100000; decide)
    refine Evl.q_when (b := false) (Evl.et_is (Evl.et_or (Evl.et_test (ev_neTup (xs := [pt, now]) (ys := [pt, now]) (ctup x4 (Evl.ev_var rfl) (fun H6 e6 => Evl.ev_var rfl) (Ev.toP (Evl.ev_var rfl) fun H6 e6 => ⟨hl', rfl, LT.mono e6 hhS⟩) (by omega) hend) (tup2 (Evl.ev_var rfl) (Evl.ev_var rfl)))) fun _ => Evl.et_test (ev_neLT (xs := ss.map stepL) (ys := ss.map stepL) (Ev.toP (Evl.ev_var rfl) fun H6 e6 => ⟨hl', rfl, LT.mono e6 hhS⟩) (Ev.toP (Evl.ev_var rfl) fun H6 e6 => ⟨sl, rfl, LT.mono e6 hS4⟩))) (by simp)) (fun hb _ _ => by cases hb) fun _ H5 e5 => ?_
    have hS5 := hS.mono (e4.trans e5)
    obtain ⟨us5, hu5, hT5⟩ := id hS5
    have hbl : (backF ss).length = ss.length := by unfold backF; rw [List.length_map, List.length_reverse]
    refine q_asgP (P := NewLT K H5 ((backF ss).map stepL)) (lc_listP (P := fun H2 ys => TupL K H2 ys ((ss.map stepL).reverse)) ((ep_rev (a := sl) (vs := us5) (xss := ss.map stepL) (Evl.ev_var rfl) (SqL.of hu5) hT5).imp fun v H5 e5 ⟨l, vs, a, _, b, c⟩ => ⟨l, vs, a, SqL.of b, c⟩) fun b xs H6 e6 hx hp => (lc_tup2 (K := K) (yss := (backF ss).map stepL) Evl.ev_c ⟨xs, hx, hp⟩ (by simp; omega) (by simp [hbl]) (fun _ _ => rfl) fun j x H7 e7 hx7 => ?_).imp fun v H7 e7 ⟨l, vs, a, b, c, d⟩ => ⟨l, vs, a, Evl.fresh_back e6 b, c, d⟩) fun v H6 e6 hv6 => ?_
    · rw [← List.map_reverse, List.getElem?_map] at hx7
      cases hsj : ss.reverse[j]? with
      | none => rw [hsj] at hx7; cases hx7
      | some s =>
        rw [hsj] at hx7
        cases hx7
        exact ⟨s.1, s.2, [s.1, -s.2], rfl, by unfold backF; rw [List.getElem?_map, List.getElem?_map, hsj]; rfl, ei_tup (eai_cons (Evl.ev_var rfl) (eai_cons (ev_neg (Evl.ev_var rfl)) eai_nil)) (by show 2 ≤ 100000; decide)⟩
    obtain ⟨bk, bus, rfl, fbk, hbk, hbT⟩ := hv6
    have x6 := x4.trans (e5.trans e6)
    have hS6 := hS5.mono e6
    have srcS : ∀ {σ2 : L2.St} {H7 : Hp}, Ex H6 H7 → Ev (tVar 6) σ2 H7 (.ref sl) → EvP (tVar 6) σ2 H7 (fun v H2 => ∃ l vs, v = .ref l ∧ H2 l = some (.lst vs) ∧ TupL K H2 vs (ss.map stepL)) := fun e7 h => by
      obtain ⟨us, a1, a2⟩ := hS6.mono e7
      exact Ev.toP h fun H8 e8 => ⟨sl, us, rfl, e8 _ _ a1, a2.mono e8⟩
    have srcB : ∀ {σ2 : L2.St} {H7 : Hp}, Ex H6 H7 → Ev (tVar 11) σ2 H7 (.ref bk) → EvP (tVar 11) σ2 H7 (fun v H2 => ∃ l vs, v = .ref l ∧ H2 l = some (.lst vs) ∧ TupL K H2 vs ((backF ss).map stepL)) := fun e7 h =>
      Ev.toP h fun H8 e8 => ⟨bk, bus, rfl, e8 _ _ (e7 _ _ hbk), (hbT.mono e7).mono e8⟩
    have hend2 : endF ts st 0 (ss ++ backF ss) = some (st, 0) := by
      rw [endF_app, hend]
      exact endF_back st0 hend
    have hend3 : endF ts st 0 (ss ++ backF ss ++ ss) = some (pt, now) := by
      rw [endF_app, hend2]
      exact hend
    have catl : ∀ {tx : TE} {σ2 : L2.St} {H7 : Hp} {ss2 : List Step}, EvP tx σ2 H7 (NewLT K H7 (ss2.map stepL)) → EvP tx σ2 H7 (fun v H2 => ∃ l, v = .ref l ∧ LStep K H2 l ss2) := fun h => h.imp fun v H8 e8 ⟨l, vs, a, _, b, c⟩ => ⟨l, a, vs, SqL.of b, c⟩
    refine Evl.q_when (b := false) (Evl.et_is (Evl.et_test (ev_neTup (xs := [st, 0]) (ys := [st, 0]) (ctup x6 (Evl.ev_var rfl) (fun H7 e7 => Evl.ev_var rfl) (catl (by rw [List.map_append]; exact ep_catL (srcS (Ex.refl _) (Evl.ev_var rfl)) (srcB (Ex.refl _) (Evl.ev_var rfl)) (by simp [hbl]; omega))) (by rw [List.length_append, hbl]; omega) hend2) (ei_tup (eai_cons (Evl.ev_var rfl) (eai_cons Evl.ev_c eai_nil)) (by show 2 ≤ 100000; decide)))) (by simp)) (fun hb _ _ => by cases hb) fun _ H7 e7 => ?_
    refine Evl.q_when (b := false) (Evl.et_is (Evl.et_test (ev_neTup (xs := [pt, now]) (ys := [pt, now]) (ctup (x6.trans e7) (Evl.ev_var rfl) (fun H8 e8 => Evl.ev_var rfl) (catl (by rw [List.map_append, List.map_append]; exact ep_catL (newTL (ep_catL (srcS e7 (Evl.ev_var rfl)) (srcB e7 (Evl.ev_var rfl)) (by simp [hbl]; omega))) (srcS e7 (Evl.ev_var rfl)) (by simp [hbl]; omega))) (by rw [List.length_append, List.length_append, hbl]; omega) hend3) (tup2 (Evl.ev_var rfl) (Evl.ev_var rfl)))) (by simp)) (fun hb _ _ => by cases hb) fun _ H8 e8 => ?_
    have x8 := x6.trans (e7.trans e8)
    refine q_seq (f_range (n := 5) (Evl.ea_cons Evl.ev_c Evl.ea_nil) ⟨by decide, by decide⟩
      (fun i σ' H' => ∃ (o8 o12 o13 o14 o15 o16 : Option V), σ' = [some (.ref w), some (.int n), some (.ref tl'), some (.ref a), some (.int pt), some (.int st), some (.ref sl), some (.int now), o8, o9, some (.ref hl'), some (.ref bk), o12, o13, o14, o15, o16, none] ∧ Ex H8 H')
      (fun H9 e9 => ⟨_, _, _, _, _, _, rfl, e9⟩) ?_ ?_)
    · rintro i σ' H' hi ⟨o8, o12, o13, o14, o15, o16, rfl, e⟩
      have xx := x8.trans e
      have hSx := hS6.mono ((e7.trans e8).trans e)
      refine Evl.q_asg (ev_cell (k := (i : Int)) (Evl.ea_cons (Evl.ev_var rfl) (Evl.ea_cons (Evl.ev_var rfl) Evl.ea_nil)) (hn.mono xx) (by omega)) fun H9 e9 => ?_
      have xx9 := xx.trans e9
      have hts9 : LTie K H9 tl' ts := LT.mono xx9 hts
      obtain ⟨wy, hwy, _⟩ := atI_pick (xs := [1, -1, 0, 2]) (i := drawF (cellF ns (i : Int)) 5 4) (draw_ge _ _ (by decide)) (by have := draw_lt (cellF ns (i : Int)) 5 (m := 4) (by decide); simpa using this) (P := fun _ => True) (fun _ _ => trivial)
      have evc : Ev (tVar 12) [some (.ref w), some (.int n), some (.ref tl'), some (.ref a), some (.int pt), some (.int st), some (.ref sl), some (.int now), some (.int (i : Int)), o9, some (.ref hl'), some (.ref bk), some (.int (cellF ns (i : Int))), o13, o14, o15, o16, none] H9 (.int (cellF ns (i : Int))) := Evl.ev_var rfl
      refine q_asgP (P := fun v H2 => TupI K H2 v (stepL (drawF (cellF ns (i : Int)) 4 ((ts.length : Int) + 2) - 1, wy))) (ei_tup (eai_cons (Evl.ev_op (ev_draw (Evl.ea_cons (Evl.ev_var rfl) (Evl.ea_cons Evl.ev_c (Evl.ea_cons (Evl.ev_op (ev_lenTie (Evl.ev_var rfl) hts9) Evl.ev_c rv_add) Evl.ea_nil))) (by omega)) Evl.ev_c rv_sub) (eai_cons (ev_ixU (xs := [1, -1, 0, 2]) (ei_tup (eai_cons Evl.ev_c (eai_cons (ev_neg Evl.ev_c) (eai_cons Evl.ev_c (eai_cons Evl.ev_c eai_nil)))) (by show 4 ≤ 100000; decide)) (ev_draw (Evl.ea_cons (Evl.ev_var rfl) (Evl.ea_cons Evl.ev_c (Evl.ea_cons Evl.ev_c Evl.ea_nil))) (by decide)) hwy) eai_nil)) (by show 2 ≤ 100000; decide)) fun v HA eA hvA => ?_
      generalize (drawF (cellF ns (i : Int)) 4 ((ts.length : Int) + 2) - 1, wy) = stp at hvA
      have hSA := hSx.mono (e9.trans eA)
      have d0 := draw_ge (cellF ns (i : Int)) 6 (m := (ss.length : Int) + 1) (by omega)
      have d1 := draw_lt (cellF ns (i : Int)) 6 (m := (ss.length : Int) + 1) (by omega)
      refine q_asgP (P := NewLT K HA ((ss.take (drawF (cellF ns (i : Int)) 6 ((ss.length : Int) + 1)).toNat ++ [stp]).map stepL)) ?_ fun v2 HB eB hvB => ?_
      · rw [List.map_append, List.map_take]
        refine ep_catL (newTL (ep_to (a := sl) (Evl.ev_var rfl) hSA.lt (ev_draw (Evl.ea_cons (Evl.ev_var rfl) (Evl.ea_cons Evl.ev_c (Evl.ea_cons (Evl.ev_op (ev_lenStep (Evl.ev_var rfl) hSA.lt) Evl.ev_c rv_add) Evl.ea_nil))) (by omega)) d0 (by rw [List.length_map]; omega))) (newTL (ep_lst1 (xs := stepL stp) (evi_of (Evl.ev_var rfl) hvA))) (by rw [List.length_take, List.length_map]; simp; omega)
      generalize hsm : ss.take (drawF (cellF ns (i : Int)) 6 ((ss.length : Int) + 1)).toNat ++ [stp] = sm at hvB
      have hsml : sm.length ≤ 100 := by
        rw [← hsm, List.length_append, List.length_take, List.length_singleton]
        omega
      obtain ⟨ml, mus, rfl, _, hml, hmT⟩ := hvB
      have hmS : LStep K HB ml sm := ⟨mus, SqL.of hml, hmT⟩
      have xxB := xx9.trans (eA.trans eB)
      refine q_unV2 (P := fun x y H3 => ∃ a, x = .ref a ∧ y = .int (walkR ts st sm).2 ∧ LI K H3 a (walkR ts st sm).1) ((ep_law_walk (tl' := tl') (l := ml) (p := st) (Evl.ea_cons (Evl.ev_var rfl) (Evl.ea_cons (Evl.ev_var rfl) (Evl.ea_cons (Evl.ev_var rfl) Evl.ea_nil))) (LT.mono xxB hts) LW.pos hmS (by omega)).imp fun v H3 e3 ⟨t, a, a1, a2, a3, a4⟩ => ⟨t, _, _, a1, a2, a, rfl, rfl, li_of a4⟩) fun x y HC eC hx => ?_
      obtain ⟨ca, rfl, rfl, hli⟩ := hx
      have xxC := xxB.trans eC
      have hmS' : LStep K HC ml sm := LT.mono eC hmS
      have climbE := ep_climbed (ta := tVar 0) (tb := tVar 5) (tc := tVar 14) (σ := [some (.ref w), some (.int n), some (.ref tl'), some (.ref a), some (.int pt), some (.int st), some (.ref sl), some (.int now), some (.int (i : Int)), o9, some (.ref hl'), some (.ref bk), some (.int (cellF ns (i : Int))), some v, some (.ref ml), some (.ref ca), some (.int (walkR ts st sm).2), none]) (H := HC) (n := n) (turn := turn) (ts := ts) (p := st) (ss := sm) (w := w) T.ex (Evl.ev_var rfl) (fun H6 e6 => Evl.ev_var rfl) (Ev.toP (Evl.ev_var rfl) fun H6 e6 => ⟨ml, rfl, LT.mono e6 hmS'⟩) (hw.mono xxC) ⟨st0, st1⟩ (by omega)
      refine Evl.s_when (b := false) (Evl.et_test ?_) (fun hb _ _ => by cases hb) fun _ HD eD => ⟨_, _, _, _, _, _, rfl, e.trans (e9.trans (eA.trans (eB.trans (eC.trans eD))))⟩
      rcases endF_walk (ts := ts) (p := st) (ss := sm) with ⟨h1, h2⟩ | ⟨ps, q, d, h1, h2, h3⟩
      · have hvr : walkR ts st sm = ([], 0) := by unfold walkR; rw [h1]; rfl
        rw [h2] at climbE
        rw [hvr] at hli climbE ⊢
        refine Evl.ev_is (ev_neD (d := .str "none") (e := .str "none") (climbE.imp fun v HD eD hvD => by
          have e : v = .str "none" := hvD
          rw [e]
          exact .str _) (Ev.toP (v := .str "none") (Evl.ev_if (b := true) (Evl.et_is (Evl.et_test (ev_eqLI (xs := []) (ys := []) (Ev.toP (Evl.ev_var rfl) fun HD eD => ⟨ca, rfl, hli.mono eD⟩) ((ep_lstI (ns := []) Evl.ea_nil (by decide)).imp fun v HD eD ⟨l, a, _, b⟩ => ⟨l, a, b.li⟩))) (by rfl)) (fun _ => Evl.ev_c) fun h => by cases h) fun HD eD => .str _) (shp_str _ (by decide +kernel)) (shp_str _ (by decide +kernel))) ?_
        rw [eqv_str]
        rfl
      · have hvr : walkR ts st sm = (ps, d) := by unfold walkR; rw [h1]; rfl
        rw [h3] at climbE
        rw [hvr] at hli climbE ⊢
        have hpne : ps ≠ [] := fun z => by rw [z] at h2; cases h2
        have hat := atI_lastOf h2
        refine Evl.ev_is (ev_neTup (xs := [q, d]) (ys := [q, d]) climbE (ei_if (b := false) (Evl.et_is (Evl.et_test (ev_eqLI (xs := ps) (ys := []) (Ev.toP (Evl.ev_var rfl) fun HD eD => ⟨ca, rfl, hli.mono eD⟩) ((ep_lstI (ns := []) Evl.ea_nil (by decide)).imp fun v HD eD ⟨l, a, _, b⟩ => ⟨l, a, b.li⟩))) (decide_eq_false hpne)) (fun h => by cases h) fun _ => ei_tup (eai_cons (ev_ixI (Evl.ev_var rfl) (ev_neg Evl.ev_c) hli hat) (eai_cons (Evl.ev_var rfl) eai_nil)) (by show 2 ≤ 100000; decide))) (by simp)
    · rintro σ' H' ⟨o8, o12, o13, o14, o15, o16, rfl, e⟩
      dsimp only
      exact Evl.s_ret Evl.ev_c fun H9 e9 => k H9 (x8.trans (e.trans e9))

/-! ### the law -/
theorem LawWeb.take {n turn : Int} {ts : List Tie} (i : Nat) (h : LawWeb n turn ts) : LawWeb n turn (ts.take i) := ⟨h.n2, h.n66, h.t0, h.t1, by have := h.len; rw [List.length_take]; omega, fun t ht => h.ok t (List.mem_of_mem_take ht)⟩
theorem LawWeb.dropN {n turn : Int} {ts : List Tie} (i : Nat) (h : LawWeb n turn ts) : LawWeb n turn (ts.drop i) := ⟨h.n2, h.n66, h.t0, h.t1, by have := h.len; rw [List.length_drop]; omega, fun t ht => h.ok t (List.mem_of_mem_drop ht)⟩
theorem LawWeb.cat {n turn : Int} {ts us : List Tie} (h : LawWeb n turn ts) (g : LawWeb n turn us) : okWeb n (ts ++ us) turn := ⟨h.okW.1, h.okW.2.1, h.okW.2.2.1, h.okW.2.2.2.1, fun t ht => (List.mem_append.mp ht).elim (h.ok t) (g.ok t), by have := h.len; have := g.len; rw [List.length_append]; omega⟩
theorem turn_turn (ts : List Tie) : turnT (turnT ts) = ts := by
  unfold turnT
  rw [List.map_map]
  have e : ((fun t : Tie => (t.2.1, t.1, -t.2.2)) ∘ fun t : Tie => (t.2.1, t.1, -t.2.2)) = id := by
    funext t
    obtain ⟨a, b, c⟩ := t
    show (a, b, - -c) = (a, b, c)
    rw [Int.neg_neg]
  rw [e, List.map_id]
theorem heights_part {n turn : Int} {ts us : List Tie} {hs : List Int} (s : ∀ t ∈ us, t ∈ ts) (h : heightsF n ts turn hs = true) : heightsF n us turn hs = true := by
  unfold heightsF at h ⊢
  rw [Bool.and_eq_true] at h ⊢
  exact ⟨h.1, List.all_eq_true.mpr fun t ht => List.all_eq_true.mp h.2 t (s t ht)⟩
theorem neSHx : ¬ (("shows" : Str) = "heights") := by decide +kernel
/-- heights shown by a web -/
theorem ev_showsH {a l w : Addr} {n turn : Int} {ts : List Tie} {hs : List Int} (g1 : One K H "Heights" "heights" a l) (g2 : HasI H l hs) (LW : LawWeb n turn ts) (h1 : Ev ta σ H (.ref a)) (hw : WebAt K H w n ts turn) (h2 : Ev te σ H (.ref w)) :
    Ev (tMeth (ga K "Heights") "shows" (sp_Heights_shows K) [] E0 ta (tCons te tNil)) σ H (.bl (heightsF n ts turn hs)) := by
  obtain ⟨dx, g⟩ := g1.ins
  refine fun H1 e Q q => h1 H1 e _ fun H2 e2 => ⟨a, dx, _, rfl, (e.trans e2) _ _ g, one_no neSHx, h2 H2 (e.trans e2) _ fun H3 e3 => ?_⟩
  have x3 := (e.trans e2).trans e3
  exact ⟨a, l, w, n, turn, ts, hs, rfl, g1.mono x3, g2.mono x3, hw.mono x3, LW.t0, by have := LW.len; omega, LW.web.val, fun H4 e4 => q H4 ((e2.trans e3).trans e4)⟩
/-- the ties of a web that is made on the way -/
theorem ep_tiesP {n turn : Int} {ts : List Tie} (h : EvP te σ H (fun v H2 => ∃ w, v = .ref w ∧ WebAt K H2 w n ts turn)) : EvLT K (tMeth (ga K "Web") "ties" (sp_Web_ties K) [] E0 te tNil) σ H (ts.map tieL) := fun H1 e Q q =>
  h H1 e _ fun v H2 e2 ⟨w, ev, hw⟩ => by
    subst ev
    exact ep_ties (ta := tC (.ref w)) (σ := σ) (H := H2) hw Evl.ev_c H2 (Ex.refl _) Q fun v H3 e3 ⟨l2, vs, c1, _, c3, c4⟩ => q v H3 (e2.trans e3) ⟨l2, c1, vs, SqL.of c3, c4⟩
/-- Web(n, an expression, turn), the web's own list told -/
theorem ep_WebLP {n turn : Int} {ts : List Tie} (T : WebTop K) (ha : Ev ta σ H (.int n)) (hb : EvP te σ H (fun v H2 => ∃ l, v = .ref l ∧ LTie K H2 l ts)) (hc : ∀ H1, Ex H H1 → Ev tc σ H1 (.int turn)) (ok : okWeb n ts turn) :
    EvP (tMake (ga K "Web") (sp_Web_init K) [] E0 (tCons ta (tCons te (tCons tc tNil)))) σ H (fun v H2 => ∃ p l2, v = .ref p ∧ WebAtL K H2 p n ts turn l2) := fun H1 e Q q =>
  ha H1 e _ fun H2 e2 => hb H2 (e.trans e2) _ fun v H3 e3 ⟨l, ev, hl⟩ => hc H3 ((e.trans e2).trans e3) H3 (Ex.refl H3) _ fun H4 e4 => by
    subst ev
    have mk := ep_WebL (K := K) (tl := tCons (tC (.int n)) (tCons (tC (.ref l)) (tCons (tC (.int turn)) tNil))) (σ := []) (H := H4) (l := l) T (Evl.ea_cons Evl.ev_c (Evl.ea_cons Evl.ev_c (Evl.ea_cons Evl.ev_c Evl.ea_nil))) (hl.mono e4) ok
    exact mk H4 (Ex.refl H4) Q fun v5 H5 e5 ⟨p, l2, a1, a2, a3, a4⟩ => q v5 H5 (((e2.trans e3).trans e4).trans e5) ⟨p, l2, a1, a4⟩
def sp_law (K : PySem.W.Frag) : Sp := fun vs H Q _ => ∃ (a : Addr) (ns : List Int), vs = [.ref a] ∧ LI K H a ns ∧ ns.length ≤ 63 ∧ TopL K ∧ ∀ H', Q (.bl true) H'
theorem rd_law (vs : List V) (H : Hp) (Q : VK) (E : XK) (h : sp_law K vs H Q E) : goal (t_law K) ["_law_script", "_law_points", "_law_ties", "_law_turn", "_law_web_here", "_law_turned", "_law_at", "_law_one", "_law_other", "_law_both", "_law_found", "_law_a", "_law_b", "_law_more"] vs H Q := by
  obtain ⟨a, ns, rfl, hn, hl, T, k⟩ := h
  refine q_unV3 (P := fun x y z H2 => ∃ (l : Addr) (n turn : Int) (ts : List Tie), x = .int n ∧ y = .ref l ∧ z = .int turn ∧ H l = none ∧ LTie K H2 l ts ∧ LawWeb n turn ts ∧ ts.length = ns.length)
    ((ep_law_web (Evl.ea_cons (Evl.ev_var rfl) Evl.ea_nil) hn hl).imp fun v H2 e ⟨p, l, n, turn, ts, a1, a2, a3, ⟨us, a4, a5⟩, a6, a7⟩ => ⟨p, _, _, _, a1, a2, l, n, turn, ts, rfl, rfl, rfl, a3, ⟨us, SqL.of a4, a5⟩, a6, a7⟩) fun x y z H1 e1 hx => ?_
  obtain ⟨l, n, turn, ts, rfl, rfl, rfl, fl, hts, LW, hlen⟩ := hx
  have hlt := LW.len
  refine q_asgP (ep_Web (l := l) T.web (Evl.ea_cons (Evl.ev_var rfl) (Evl.ea_cons (Evl.ev_var rfl) (Evl.ea_cons (Evl.ev_var rfl) Evl.ea_nil))) hts LW.okW) fun v H2 e2 hv2 => ?_
  obtain ⟨w, rfl, fw, hw⟩ := hv2
  refine q_asgP (ep_about (w := w) (Evl.ea_cons (Evl.ev_var rfl) Evl.ea_nil) hw LW.okW) fun v H3 e3 hv3 => ?_
  obtain ⟨tw, rfl, _, htw⟩ := hv3
  have hts3 : LTie K H3 l ts := LT.mono (e2.trans e3) hts
  refine Evl.q_when (b := false) (Evl.et_is (Evl.et_or (Evl.et_test (ev_neLT (xs := (turnT ts).map tieL) (ys := (turnT ts).map tieL) (ep_tiesP (n := n) (turn := turn) (Ev.toP (Evl.ev_var rfl) fun H4 e4 => ⟨tw, rfl, htw.mono e4⟩)) (newLT (lc_tup3 (K := K) (a := l) (xss := ts.map tieL) (yss := (turnT ts).map tieL) (Evl.ev_var rfl) hts3 (by simp; omega) (by simp [turnT]) (fun _ _ _ => rfl) fun i x H2 e2 hx => ?_)))) fun _ => Evl.et_test (ev_neTup (xs := [n, turn]) (ys := [n, turn]) (ei_tup (eai_cons (ev_points (Evl.ev_var rfl) htw) (eai_cons (ev_turn (Evl.ev_var rfl) htw) eai_nil)) (by show 2 ≤ 100000; decide)) (ei_tup (eai_cons (Evl.ev_var rfl) (eai_cons (Evl.ev_var rfl) eai_nil)) (by show 2 ≤ 100000; decide)))) (by simp)) (fun hb _ _ => by cases hb) fun _ H4 e4 => ?_
  · rw [List.getElem?_map] at hx
    cases hti : ts[i]? with
    | none => rw [hti] at hx; cases hx
    | some t =>
      rw [hti] at hx
      cases hx
      exact ⟨t.1, t.2.1, t.2.2, [t.2.1, t.1, -t.2.2], rfl, by simp [turnT, hti, tieL], ei_tup (eai_cons (Evl.ev_var rfl) (eai_cons (Evl.ev_var rfl) (eai_cons (ev_neg (Evl.ev_var rfl)) eai_nil))) (by show 3 ≤ 100000; decide)⟩
  have hts4 : LTie K H4 l ts := LT.mono e4 hts3
  have d0 := draw_ge (cellF ns 3) 2 (m := (ts.length : Int) + 1) (by omega)
  have d1 := draw_lt (cellF ns 3) 2 (m := (ts.length : Int) + 1) (by omega)
  refine Evl.q_asg (v := .int (drawF (cellF ns 3) 2 ((ts.length : Int) + 1))) (ev_draw (Evl.ea_cons (ev_cell (Evl.ea_cons (Evl.ev_var rfl) (Evl.ea_cons Evl.ev_c Evl.ea_nil)) (hn.mono (e1.trans (e2.trans (e3.trans e4)))) (by decide)) (Evl.ea_cons Evl.ev_c (Evl.ea_cons (Evl.ev_op (ev_lenTie (Evl.ev_var rfl) hts4) Evl.ev_c rv_add) Evl.ea_nil))) (by omega)) fun H5 e5 => ?_
  generalize drawF (cellF ns 3) 2 ((ts.length : Int) + 1) = d at d0 d1
  have hts5 : LTie K H5 l ts := LT.mono e5 hts4
  have toL : ∀ {i j : Nat} {σ2 : L2.St} {H6 : Hp}, Ex H5 H6 → Ev (tVar i) σ2 H6 (.ref l) → Ev (tVar j) σ2 H6 (.int d) → EvP (tSl (rSlL K) (tVar i) tNoPart (tPart (tVar j))) σ2 H6 (NewLT K H6 ((ts.take d.toNat).map tieL)) := fun e a1 a2 => by
    rw [List.map_take]
    exact ep_to a1 (LT.mono e hts5) a2 d0 (by rw [List.length_map]; omega)
  have frL : ∀ {i j : Nat} {σ2 : L2.St} {H6 : Hp}, Ex H5 H6 → Ev (tVar i) σ2 H6 (.ref l) → Ev (tVar j) σ2 H6 (.int d) → EvP (tSl (rSlL K) (tVar i) (tPart (tVar j)) tNoPart) σ2 H6 (NewLT K H6 ((ts.drop d.toNat).map tieL)) := fun e a1 a2 => by
    rw [List.map_drop]
    exact ep_from a1 (LT.mono e hts5) a2 d0 (by rw [List.length_map]; omega)
  have L1' := LW.take d.toNat
  have L2' := LW.dropN d.toNat
  have hcl : ((ts.drop d.toNat).map tieL).length + ((ts.take d.toNat).map tieL).length ≤ 100000 := by
    rw [List.length_map, List.length_map, List.length_drop, List.length_take]
    omega
  have hcat : ts.take d.toNat ++ ts.drop d.toNat = ts := List.take_append_drop _ _
  refine q_parP (P1 := fun v H2 => ∃ p l2, v = .ref p ∧ WebAtL K H2 p n (ts.take d.toNat) turn l2) (P2 := fun _ v H2 => ∃ p l2, v = .ref p ∧ WebAtL K H2 p n (ts.drop d.toNat) turn l2)
    (ep_WebLP T.web (Evl.ev_var rfl) (newLT (toL (Ex.refl _) (Evl.ev_var rfl) (Evl.ev_var rfl))) (fun H6 e6 => Evl.ev_var rfl) L1'.okW)
    (fun H6 e6 => ep_WebLP T.web (Evl.ev_var rfl) (newLT (frL e6 (Evl.ev_var rfl) (Evl.ev_var rfl))) (fun H6 e6 => Evl.ev_var rfl) L2'.okW) fun v w' H6 H7 e6 hv6 e7 hw7 => ?_
  obtain ⟨w1, l1, rfl, h1⟩ := hv6
  obtain ⟨w2, l2, rfl, h2⟩ := hw7
  have h1' := h1.mono e7
  refine q_asgP (ep_together (w1 := w1) (w2 := w2) (Evl.ea_cons (Evl.ev_var rfl) (Evl.ea_cons (Evl.ev_var rfl) Evl.ea_nil)) h1' h2 (L1'.cat L2')) fun v H8 e8 hv8 => ?_
  obtain ⟨bw, rfl, _, hbw⟩ := hv8
  rw [hcat] at hbw
  have x58 := e6.trans (e7.trans e8)
  have hts8 : LTie K H8 l ts := LT.mono x58 hts5
  have htw8 := htw.mono (e4.trans (e5.trans x58))
  refine Evl.q_when (b := false) (Evl.et_is (Evl.et_or (Evl.et_test (ev_neLT (xs := ts.map tieL) (ys := ts.map tieL) (ep_tiesP (n := n) (turn := turn) (Ev.toP (Evl.ev_var rfl) fun H9 e9 => ⟨bw, rfl, hbw.mono e9⟩)) (Ev.toP (Evl.ev_var rfl) fun H9 e9 => ⟨l, rfl, LT.mono e9 hts8⟩))) fun _ => Evl.et_or (Evl.et_test (ev_neTup (xs := [n, turn]) (ys := [n, turn]) (ei_tup (eai_cons (ev_points (Evl.ev_var rfl) hbw) (eai_cons (ev_turn (Evl.ev_var rfl) hbw) eai_nil)) (by show 2 ≤ 100000; decide)) (ei_tup (eai_cons (Evl.ev_var rfl) (eai_cons (Evl.ev_var rfl) eai_nil)) (by show 2 ≤ 100000; decide)))) fun _ => Evl.et_test (ev_neLT (xs := ts.map tieL) (ys := ts.map tieL) (ep_tiesP (n := n) (turn := turn) ((ep_about (w := tw) (Evl.ea_cons (Evl.ev_var rfl) Evl.ea_nil) htw8 LW.okW.turned).imp fun v H9 e9 ⟨p, a1, _, a3⟩ => ⟨p, a1, by rw [turn_turn] at a3; exact a3⟩)) (Ev.toP (Evl.ev_var rfl) fun H9 e9 => ⟨l, rfl, LT.mono e9 hts8⟩))) (by simp)) (fun hb _ _ => by cases hb) fun _ H9 e9 => ?_
  have x59 := x58.trans e9
  have h19 := h1'.mono (e8.trans e9)
  have h29 := h2.mono (e8.trans e9)
  have ct : ∀ {σ2 : L2.St} {HX : Hp}, Ex H9 HX → Ev (tVar 8) σ2 HX (.ref w2) → Ev (tVar 7) σ2 HX (.ref w1) → EvLT K (tMeth (ga K "Web") "ties" (sp_Web_ties K) [] E0 (tCall (sp_together K) [] E0 (tCons (tVar 8) (tCons (tVar 7) tNil))) tNil) σ2 HX ((ts.drop d.toNat ++ ts.take d.toNat).map tieL) := fun e a1 a2 =>
    ep_tiesP (n := n) (turn := turn) ((ep_together (w1 := w2) (w2 := w1) (Evl.ea_cons a1 (Evl.ea_cons a2 Evl.ea_nil)) (h29.mono e) (h19.mono e) (L2'.cat L1')).imp fun v HA eA ⟨p, a1, _, a3⟩ => ⟨p, a1, a3⟩)
  have cc : ∀ {σ2 : L2.St} {HX : Hp}, Ex H5 HX → Ev (tVar 2) σ2 HX (.ref l) → Ev (tVar 6) σ2 HX (.int d) → EvLT K (tOp rCat (tSl (rSlL K) (tVar 2) (tPart (tVar 6)) tNoPart) (tSl (rSlL K) (tVar 2) tNoPart (tPart (tVar 6)))) σ2 HX ((ts.drop d.toNat ++ ts.take d.toNat).map tieL) := fun e a1 a2 => by
    rw [List.map_append]
    exact newLT (ep_catL (newTL (frL e a1 a2)) (newTL (toL e a1 a2)) hcl)
  refine Evl.q_when (b := false) (Evl.et_is (Evl.et_or (Evl.et_test (ev_neLT (ct (Ex.refl _) (Evl.ev_var rfl) (Evl.ev_var rfl)) (cc x59 (Evl.ev_var rfl) (Evl.ev_var rfl)))) fun _ => Evl.et_or (Evl.et_test (ev_neLT (xs := (ts.take d.toNat).map tieL) (ys := (ts.take d.toNat).map tieL) (ep_tiesP (n := n) (turn := turn) (Ev.toP (Evl.ev_var rfl) fun HA eA => ⟨w1, rfl, (h19.mono eA).web⟩)) (newLT (toL x59 (Evl.ev_var rfl) (Evl.ev_var rfl))))) fun _ => Evl.et_test (ev_neLT (xs := (ts.drop d.toNat).map tieL) (ys := (ts.drop d.toNat).map tieL) (ep_tiesP (n := n) (turn := turn) (Ev.toP (Evl.ev_var rfl) fun HA eA => ⟨w2, rfl, (h29.mono eA).web⟩)) (newLT (frL x59 (Evl.ev_var rfl) (Evl.ev_var rfl))))) (by simp)) (fun hb _ _ => by cases hb) fun _ HA eA => ?_
  have hbwA := hbw.mono (e9.trans eA)
  refine q_asgP (ep_levels (w := bw) T.ans (Evl.ea_cons (Evl.ev_var rfl) Evl.ea_nil) hbwA LW.web) fun v HB eB hvB => ?_
  have x5B := x59.trans (eA.trans eB)
  have h1B := (h19.mono (eA.trans eB)).web
  have h2B := (h29.mono (eA.trans eB)).web
  have hwB := hw.mono (e3.trans (e4.trans (e5.trans x5B)))
  have htsB : LTie K HB l ts := LT.mono x5B hts5
  have hnB := hn.mono (e1.trans (e2.trans (e3.trans (e4.trans (e5.trans x5B)))))
  have last : ∀ {v : V} {HC : Hp}, Ex HB HC → (tRet (tAndV (tCall (sp__law_walks_right K) [] E0 (tCons (tVar 4) (tCons (tVar 1) (tCons (tVar 2) (tCons (tVar 0) tNil))))) (tOp (rEqD K) (tMeth (ga K "Web") "ties" (sp_Web_ties K) [] E0 (tVar 4) tNil) (tVar 2)))) { nx := fun _ H' => Q .non H', rt := Q } [some (.ref a), some (.int n), some (.ref l), some (.int turn), some (.ref w), some (.ref tw), some (.int d), some (.ref w1), some (.ref w2), some (.ref bw), some v, none, none, none] HC := fun {v HC} eC => by
    have htsC : LTie K HC l ts := LT.mono eC htsB
    refine Evl.s_ret (v := .bl true) (Evl.ev_is (Evl.ev_andV (a := true) (b := true) (ev_call (vs := [.ref w, .int n, .ref l, .ref a]) (Evl.ea_cons (Evl.ev_var rfl) (Evl.ea_cons (Evl.ev_var rfl) (Evl.ea_cons (Evl.ev_var rfl) (Evl.ea_cons (Evl.ev_var rfl) Evl.ea_nil)))) fun HD Q' eD q => ⟨w, l, a, n, turn, ts, ns, rfl, T, hwB.mono (eC.trans eD), LT.mono eD htsC, LW, hnB.mono (eC.trans eD), hl, q⟩) fun _ => Evl.ev_is (ev_eqLT (xs := ts.map tieL) (ys := ts.map tieL) (ep_tiesP (n := n) (turn := turn) (Ev.toP (Evl.ev_var rfl) fun HD eD => ⟨w, rfl, (hwB.mono eC).mono eD⟩)) (Ev.toP (Evl.ev_var rfl) fun HD eD => ⟨l, rfl, LT.mono eD htsC⟩)) (by simp)) rfl) fun HD eD => k HD
  rcases hvB with ⟨hs, ⟨ba, bl, rfl, f1, f2, f3, g1, g2⟩, hsl, hf⟩ | ⟨ss, ⟨ba, bl, rfl, f1, f2, f3, g1, g2⟩, hsl, hf⟩
  · obtain ⟨dx, g⟩ := g1.ins
    refine Evl.q_when (b := false) (Evl.et_is (Evl.et_and (Evl.et_B (ev_isi1 T.k1 (Evl.ev_var rfl) g)) fun _ => Evl.et_not (Evl.et_and (Evl.et_B (ev_showsH g1 g2 L1' (Evl.ev_var rfl) h1B (Evl.ev_var rfl))) fun _ => Evl.et_B (ev_showsH g1 g2 L2' (Evl.ev_var rfl) h2B (Evl.ev_var rfl)))) ?_) (fun hb _ _ => by cases hb) fun _ HC eC => last eC
    rw [heights_part (fun t ht => List.mem_of_mem_take ht) hf, heights_part (fun t ht => List.mem_of_mem_drop ht) hf]
    rfl
  · obtain ⟨dx, g⟩ := g1.ins
    exact Evl.q_when (b := false) (Evl.et_is (a := false && !true) (Evl.et_and (Evl.et_B (ev_isi1 T.k2 (Evl.ev_var rfl) g)) fun hc => absurd hc (by decide)) (by decide)) (fun hb _ _ => by cases hb) fun _ HC eC => last eC
end G

namespace G
open PySem PySem.Spec PyProof.Rows L2
def top (i : Nat) : Stmt := PySem.Challenge.pw_closering_k06_webs.main.body.getD i (.Pass ⟨0, 0, 0, 0⟩)
structure Nm (K : PySem.W.Frag) (mg : Str → Option Value) : Prop where
  n_ValueError : mg "ValueError" = none
  n_abs : mg "abs" = none
  n_all : mg "all" = none
  n_any : mg "any" = none
  n_bool : mg "bool" = none
  n_enumerate : mg "enumerate" = none
  n_int : mg "int" = none
  n_isinstance : mg "isinstance" = none
  n_len : mg "len" = none
  n_list : mg "list" = none
  n_range : mg "range" = none
  n_tuple : mg "tuple" = none
  c_BadPoint : mg "BadPoint" = some (.ref (ga K "BadPoint"))
  c_BadText : mg "BadText" = some (.ref (ga K "BadText"))
  c_BadTie : mg "BadTie" = some (.ref (ga K "BadTie"))
  c_BadWeb : mg "BadWeb" = some (.ref (ga K "BadWeb"))
  c_Heights : mg "Heights" = some (.ref (ga K "Heights"))
  c_Unlike : mg "Unlike" = some (.ref (ga K "Unlike"))
  c_WebError : mg "WebError" = some (.ref (ga K "WebError"))
  g_GREATEST : ∃ t, mg "GREATEST" = some (.int 1000000 t)
  e_BadTie : PySem.W.excIn K (ga K "BadTie") He.veBase "ValueError.__new__" = true ∧ PySem.W.keepIn K (.ref (ga K "BadTie")) = true ∧ PySem.W.subIn K (.ref (ga K "BadTie")) (.type "BaseException") = some true ∧ PySem.W.typeIn K (.ref (ga K "BadTie")) = some (.type "type")
theorem units_of {k : Nat} {A : Around} (r : Room k A) : A.units + 1 < cLine := by have := r.units; omega
variable {P : Program} {w : World} {K : PySem.W.Frag} {mg : Str → Option Value} {base : Heap} {f : Addr} {fd : FuncData}
abbrev s_Web_is_nought : Stmt := inClass (top 12) 2
theorem sc_Web_is_nought : FnScope ["self", "number"] ["self", "number"] (defScope s_Web_is_nought) := ⟨rfl, rfl, rfl, by decide +kernel, rfl, by decide +kernel, by decide +kernel⟩
theorem ok_Web_is_nought (F : FunD K "is_nought" "Web.is_nought" (defArgs s_Web_is_nought) (defBody s_Web_is_nought) (defScope s_Web_is_nought) [] [] f fd) (T : Nm K mg)  : FnOk P w K mg base CX0 1 f fd ["self", "number"] (sp_Web_is_nought K) := by
  refine F.ok sc_Web_is_nought (fun vs H Q E h => by first | (obtain ⟨_, rfl, _⟩ := h; rfl) | (obtain ⟨_, _, rfl, _⟩ := h; rfl) | (obtain ⟨_, _, _, rfl, _⟩ := h; rfl) | (obtain ⟨_, _, _, _, rfl, _⟩ := h; rfl) | (obtain ⟨_, _, _, _, _, rfl, _⟩ := h; rfl) | (obtain ⟨_, _, _, _, _, _, rfl, _⟩ := h; rfl) | (obtain ⟨_, _, _, _, _, _, _, rfl, _⟩ := h; rfl) | (obtain ⟨_, _, _, _, _, _, _, _, rfl, _⟩ := h; rfl) | (obtain ⟨_, _, _, _, _, _, _, _, _, rfl, _⟩ := h; rfl) | (obtain ⟨_, _, _, _, _, _, _, _, _, _, rfl, _⟩ := h; rfl) | (obtain ⟨_, _, _, _, _, _, _, _, _, _, _, rfl, _⟩ := h; rfl) | (obtain ⟨_, _, _, _, _, _, _, _, _, _, _, _, rfl, _⟩ := h; rfl) | (obtain ⟨_, _, _, _, _, _, _, _, _, _, _, _, _, rfl, _⟩ := h; rfl) | (obtain ⟨_, _, _, _, _, _, _, _, _, _, _, _, _, _, rfl, _⟩ := h; rfl) | (obtain ⟨_, _, _, _, _, _, _, _, _, _, _, _, _, _, _, rfl, _⟩ := h; rfl) | (obtain ⟨_, _, _, _, _, _, _, _, _, _, _, _, _, _, _, _, rfl, _⟩ := h; rfl)) (fun cdv A outer s H vs Q E hr h => ⟨t_Web_is_nought K, PSs.nox ?_, rd_Web_is_nought vs H Q E h⟩)
  have hu := units_of hr
  exact (pss_cons (ps_if (pt_cmpR op_eq (pe_fld (pv 0) rfl) pe_int (nomark _)) (pss_one (ps_ret (pe_cmpR op_eq (pv 1) pe_int (nomark _)))) pss_nil)
 (pss_one (ps_ret (pe_cmpR op_eq (pe_op op_mod (pv 1) (pe_fld (pv 0) rfl)) pe_int (nomark _)))))
abbrev s_Heights_shows : Stmt := inClass (top 24) 1
theorem sc_Heights_shows : FnScope ["self", "web", "one", "other", "more"] ["self", "web"] (defScope s_Heights_shows) := ⟨rfl, rfl, rfl, by decide +kernel, rfl, by decide +kernel, by decide +kernel⟩
theorem ok_Heights_shows (F : FunD K "shows" "Heights.shows" (defArgs s_Heights_shows) (defBody s_Heights_shows) (defScope s_Heights_shows) [] [] f fd) (T : Nm K mg) (U_Web_is_nought : UseM P w K mg base CX0 1 (ga K "Web") "is_nought" ["self", "number"] (sp_Web_is_nought K)) : FnOk P w K mg base CX0 2 f fd ["self", "web"] (sp_Heights_shows K) := by
  refine F.ok sc_Heights_shows (fun vs H Q E h => by first | (obtain ⟨_, rfl, _⟩ := h; rfl) | (obtain ⟨_, _, rfl, _⟩ := h; rfl) | (obtain ⟨_, _, _, rfl, _⟩ := h; rfl) | (obtain ⟨_, _, _, _, rfl, _⟩ := h; rfl) | (obtain ⟨_, _, _, _, _, rfl, _⟩ := h; rfl) | (obtain ⟨_, _, _, _, _, _, rfl, _⟩ := h; rfl) | (obtain ⟨_, _, _, _, _, _, _, rfl, _⟩ := h; rfl) | (obtain ⟨_, _, _, _, _, _, _, _, rfl, _⟩ := h; rfl) | (obtain ⟨_, _, _, _, _, _, _, _, _, rfl, _⟩ := h; rfl) | (obtain ⟨_, _, _, _, _, _, _, _, _, _, rfl, _⟩ := h; rfl) | (obtain ⟨_, _, _, _, _, _, _, _, _, _, _, rfl, _⟩ := h; rfl) | (obtain ⟨_, _, _, _, _, _, _, _, _, _, _, _, rfl, _⟩ := h; rfl) | (obtain ⟨_, _, _, _, _, _, _, _, _, _, _, _, _, rfl, _⟩ := h; rfl) | (obtain ⟨_, _, _, _, _, _, _, _, _, _, _, _, _, _, rfl, _⟩ := h; rfl) | (obtain ⟨_, _, _, _, _, _, _, _, _, _, _, _, _, _, _, rfl, _⟩ := h; rfl) | (obtain ⟨_, _, _, _, _, _, _, _, _, _, _, _, _, _, _, _, rfl, _⟩ := h; rfl)) (fun cdv A outer s H vs Q E hr h => ⟨t_Heights_shows K, PSs.nox ?_, rd_Heights_shows vs H Q E h⟩)
  have hu := units_of hr
  exact (pss_cons (ps_if (pt_cmpR op_ne (pe_callB call_len_seq (by rfl) T.n_len PySem.boot_len (pa_cons (pe_fld (pv 0) rfl) pa_nil)) (pe_fld (pv 1) rfl) (nomark _)) (pss_one (ps_ret pe_bl)) pss_nil)
 (pss_one (ps_ret (pe_callB (cr_all rfl) (by rfl) T.n_all (by decide +kernel) (pa_cons (pe_lc (own := [("one", 2), ("other", 3), ("more", 4)]) (g := (gTup K 3 (gCons (gName 2) (gCons (gName 3) (gCons (gName 4) gNil))))) (tt := tYes) rfl sc_Heights_shows.nd (pi_list (pe_fld (pv 1) rfl)) (blkOk_by (own := [("one", 2), ("other", 3), ("more", 4)]) (N := ["self", "web", "one", "other", "more"]) (sc := defScope s_Heights_shows) (by decide +kernel)) (fun _ _ _ _ _ => (pg_tup (by rfl) (pgs_cons (pg_name (i := 2) sc_Heights_shows.nd rfl (Or.inl rfl)) (pgs_cons (pg_name (i := 3) sc_Heights_shows.nd rfl (Or.inl rfl)) (pgs_cons (pg_name (i := 4) sc_Heights_shows.nd rfl (Or.inl rfl)) pgs_nil))))) (fun _ _ _ _ _ => pts_nil) (fun _ _ _ _ _ => (pe_usem U_Web_is_nought hr (pv 1) (pa_cons (pe_op op_sub (pe_op op_sub (pe_ix ix_list (pe_fld (pv 0) rfl) (pv 3) (fun _ _ => rfl)) (pe_ix ix_list (pe_fld (pv 0) rfl) (pv 2) (fun _ _ => rfl))) (pv 4)) pa_nil)))) pa_nil)))))
abbrev s_is_whole : Stmt := top 9
theorem sc_is_whole : FnScope ["thing"] ["thing"] (defScope s_is_whole) := ⟨rfl, rfl, rfl, by decide +kernel, rfl, by decide +kernel, by decide +kernel⟩
theorem ok_is_whole (F : FunD K "is_whole" "is_whole" (defArgs s_is_whole) (defBody s_is_whole) (defScope s_is_whole) [] [] f fd) (T : Nm K mg)  : FnOk P w K mg base CX0 1 f fd ["thing"] (sp_is_whole K) := by
  refine F.ok sc_is_whole (fun vs H Q E h => by first | (obtain ⟨_, rfl, _⟩ := h; rfl) | (obtain ⟨_, _, rfl, _⟩ := h; rfl) | (obtain ⟨_, _, _, rfl, _⟩ := h; rfl) | (obtain ⟨_, _, _, _, rfl, _⟩ := h; rfl) | (obtain ⟨_, _, _, _, _, rfl, _⟩ := h; rfl) | (obtain ⟨_, _, _, _, _, _, rfl, _⟩ := h; rfl) | (obtain ⟨_, _, _, _, _, _, _, rfl, _⟩ := h; rfl) | (obtain ⟨_, _, _, _, _, _, _, _, rfl, _⟩ := h; rfl) | (obtain ⟨_, _, _, _, _, _, _, _, _, rfl, _⟩ := h; rfl) | (obtain ⟨_, _, _, _, _, _, _, _, _, _, rfl, _⟩ := h; rfl) | (obtain ⟨_, _, _, _, _, _, _, _, _, _, _, rfl, _⟩ := h; rfl) | (obtain ⟨_, _, _, _, _, _, _, _, _, _, _, _, rfl, _⟩ := h; rfl) | (obtain ⟨_, _, _, _, _, _, _, _, _, _, _, _, _, rfl, _⟩ := h; rfl) | (obtain ⟨_, _, _, _, _, _, _, _, _, _, _, _, _, _, rfl, _⟩ := h; rfl) | (obtain ⟨_, _, _, _, _, _, _, _, _, _, _, _, _, _, _, rfl, _⟩ := h; rfl) | (obtain ⟨_, _, _, _, _, _, _, _, _, _, _, _, _, _, _, _, rfl, _⟩ := h; rfl)) (fun cdv A outer s H vs Q E hr h => ⟨t_is_whole K, PSs.nox ?_, rd_is_whole vs H Q E h⟩)
  have hu := units_of hr
  exact (pss_one (ps_ret (pe_and (pe_callB call_isi (by rfl) T.n_isinstance (by decide +kernel) (pa_cons (pv 0) (pa_cons (pe_bltn (v := .ty "int") rfl T.n_int (by decide +kernel) rfl) pa_nil))) (pe_one (pe_not (pe_callB call_isi (by rfl) T.n_isinstance (by decide +kernel) (pa_cons (pv 0) (pa_cons (pe_bltn (v := .ty "bool") rfl T.n_bool (by decide +kernel) rfl) pa_nil))))))))
abbrev s_is_below : Stmt := top 10
theorem sc_is_below : FnScope ["thing", "many"] ["thing", "many"] (defScope s_is_below) := ⟨rfl, rfl, rfl, by decide +kernel, rfl, by decide +kernel, by decide +kernel⟩
theorem ok_is_below (F : FunD K "is_below" "is_below" (defArgs s_is_below) (defBody s_is_below) (defScope s_is_below) [] [] f fd) (T : Nm K mg) (U_is_whole : Use P w K mg base CX0 1 "is_whole" ["thing"] (sp_is_whole K)) : FnOk P w K mg base CX0 2 f fd ["thing", "many"] (sp_is_below K) := by
  refine F.ok sc_is_below (fun vs H Q E h => by first | (obtain ⟨_, rfl, _⟩ := h; rfl) | (obtain ⟨_, _, rfl, _⟩ := h; rfl) | (obtain ⟨_, _, _, rfl, _⟩ := h; rfl) | (obtain ⟨_, _, _, _, rfl, _⟩ := h; rfl) | (obtain ⟨_, _, _, _, _, rfl, _⟩ := h; rfl) | (obtain ⟨_, _, _, _, _, _, rfl, _⟩ := h; rfl) | (obtain ⟨_, _, _, _, _, _, _, rfl, _⟩ := h; rfl) | (obtain ⟨_, _, _, _, _, _, _, _, rfl, _⟩ := h; rfl) | (obtain ⟨_, _, _, _, _, _, _, _, _, rfl, _⟩ := h; rfl) | (obtain ⟨_, _, _, _, _, _, _, _, _, _, rfl, _⟩ := h; rfl) | (obtain ⟨_, _, _, _, _, _, _, _, _, _, _, rfl, _⟩ := h; rfl) | (obtain ⟨_, _, _, _, _, _, _, _, _, _, _, _, rfl, _⟩ := h; rfl) | (obtain ⟨_, _, _, _, _, _, _, _, _, _, _, _, _, rfl, _⟩ := h; rfl) | (obtain ⟨_, _, _, _, _, _, _, _, _, _, _, _, _, _, rfl, _⟩ := h; rfl) | (obtain ⟨_, _, _, _, _, _, _, _, _, _, _, _, _, _, _, rfl, _⟩ := h; rfl) | (obtain ⟨_, _, _, _, _, _, _, _, _, _, _, _, _, _, _, _, rfl, _⟩ := h; rfl)) (fun cdv A outer s H vs Q E hr h => ⟨t_is_below K, PSs.nox ?_, rd_is_below vs H Q E h⟩)
  have hu := units_of hr
  exact (pss_one (ps_ret (pe_and (pe_use U_is_whole hr (pa_cons (pv 0) pa_nil)) (pe_one (pe_chain op_le op_lt pe_int (pv 0) (pv 1))))))
abbrev s_is_tie : Stmt := top 11
theorem sc_is_tie : FnScope ["thing", "points"] ["thing", "points"] (defScope s_is_tie) := ⟨rfl, rfl, rfl, by decide +kernel, rfl, by decide +kernel, by decide +kernel⟩
theorem ok_is_tie (F : FunD K "is_tie" "is_tie" (defArgs s_is_tie) (defBody s_is_tie) (defScope s_is_tie) [] [] f fd) (T : Nm K mg) (U_is_below : Use P w K mg base CX0 2 "is_below" ["thing", "many"] (sp_is_below K)) (U_is_whole : Use P w K mg base CX0 1 "is_whole" ["thing"] (sp_is_whole K)) : FnOk P w K mg base CX0 3 f fd ["thing", "points"] (sp_is_tie K) := by
  refine F.ok sc_is_tie (fun vs H Q E h => by first | (obtain ⟨_, rfl, _⟩ := h; rfl) | (obtain ⟨_, _, rfl, _⟩ := h; rfl) | (obtain ⟨_, _, _, rfl, _⟩ := h; rfl) | (obtain ⟨_, _, _, _, rfl, _⟩ := h; rfl) | (obtain ⟨_, _, _, _, _, rfl, _⟩ := h; rfl) | (obtain ⟨_, _, _, _, _, _, rfl, _⟩ := h; rfl) | (obtain ⟨_, _, _, _, _, _, _, rfl, _⟩ := h; rfl) | (obtain ⟨_, _, _, _, _, _, _, _, rfl, _⟩ := h; rfl) | (obtain ⟨_, _, _, _, _, _, _, _, _, rfl, _⟩ := h; rfl) | (obtain ⟨_, _, _, _, _, _, _, _, _, _, rfl, _⟩ := h; rfl) | (obtain ⟨_, _, _, _, _, _, _, _, _, _, _, rfl, _⟩ := h; rfl) | (obtain ⟨_, _, _, _, _, _, _, _, _, _, _, _, rfl, _⟩ := h; rfl) | (obtain ⟨_, _, _, _, _, _, _, _, _, _, _, _, _, rfl, _⟩ := h; rfl) | (obtain ⟨_, _, _, _, _, _, _, _, _, _, _, _, _, _, rfl, _⟩ := h; rfl) | (obtain ⟨_, _, _, _, _, _, _, _, _, _, _, _, _, _, _, rfl, _⟩ := h; rfl) | (obtain ⟨_, _, _, _, _, _, _, _, _, _, _, _, _, _, _, _, rfl, _⟩ := h; rfl)) (fun cdv A outer s H vs Q E hr h => ⟨t_is_tie K, PSs.nox ?_, rd_is_tie vs H Q E h⟩)
  have hu := units_of hr
  exact (pss_cons (ps_if (PW.pt (pw_or (pt_not (pt_val (pe_callB call_isi (by rfl) T.n_isinstance (by decide +kernel) (pa_cons (pv 0) (pa_cons (pe_bltn (v := .ty "tuple") rfl T.n_tuple (by decide +kernel) rfl) pa_nil))))) (pw_or1 (pt_cmpR op_ne (pe_callB call_len_seq (by rfl) T.n_len PySem.boot_len (pa_cons (pv 0) pa_nil)) pe_int (nomark _))))) (pss_one (ps_ret pe_bl)) pss_nil)
 (pss_cons (ps_if (PW.pt (pw_or (pt_not (pt_val (pe_use U_is_below hr (pa_cons (pe_ix ix_tup (pv 0) pe_int (fun _ _ => rfl)) (pa_cons (pv 1) pa_nil))))) (pw_or (pt_not (pt_val (pe_use U_is_below hr (pa_cons (pe_ix ix_tup (pv 0) pe_int (fun _ _ => rfl)) (pa_cons (pv 1) pa_nil))))) (pw_or1 (pt_cmpR op_eq (pe_ix ix_tup (pv 0) pe_int (fun _ _ => rfl)) (pe_ix ix_tup (pv 0) pe_int (fun _ _ => rfl)) (nomark _)))))) (pss_one (ps_ret pe_bl)) pss_nil)
 (pss_one (ps_ret (pe_and (pe_use U_is_whole hr (pa_cons (pe_ix ix_tup (pv 0) pe_int (fun _ _ => rfl)) pa_nil)) (pe_one (pe_chain op_le op_le (pe_un un_neg (pe_glob rfl T.g_GREATEST.choose_spec ⟨_, rfl⟩)) (pe_ix ix_tup (pv 0) pe_int (fun _ _ => rfl)) (pe_glob rfl T.g_GREATEST.choose_spec ⟨_, rfl⟩))))))))
abbrev s_Web_init : Stmt := inClass (top 12) 0
theorem sc_Web_init : FnScope ["self", "points", "ties", "turn", "tie"] ["self", "points", "ties", "turn"] (defScope s_Web_init) := ⟨rfl, rfl, rfl, by decide +kernel, rfl, by decide +kernel, by decide +kernel⟩
theorem ok_Web_init (F : FunD K "__init__" "Web.__init__" (defArgs s_Web_init) (defBody s_Web_init) (defScope s_Web_init) [] [] f fd) (T : Nm K mg) (U_is_below : Use P w K mg base CX0 2 "is_below" ["thing", "many"] (sp_is_below K)) (U_is_tie : Use P w K mg base CX0 3 "is_tie" ["thing", "points"] (sp_is_tie K)) : FnOk P w K mg base CX0 4 f fd ["self", "points", "ties", "turn"] (sp_Web_init K) := by
  refine F.ok sc_Web_init (fun vs H Q E h => by first | (obtain ⟨_, rfl, _⟩ := h; rfl) | (obtain ⟨_, _, rfl, _⟩ := h; rfl) | (obtain ⟨_, _, _, rfl, _⟩ := h; rfl) | (obtain ⟨_, _, _, _, rfl, _⟩ := h; rfl) | (obtain ⟨_, _, _, _, _, rfl, _⟩ := h; rfl) | (obtain ⟨_, _, _, _, _, _, rfl, _⟩ := h; rfl) | (obtain ⟨_, _, _, _, _, _, _, rfl, _⟩ := h; rfl) | (obtain ⟨_, _, _, _, _, _, _, _, rfl, _⟩ := h; rfl) | (obtain ⟨_, _, _, _, _, _, _, _, _, rfl, _⟩ := h; rfl) | (obtain ⟨_, _, _, _, _, _, _, _, _, _, rfl, _⟩ := h; rfl) | (obtain ⟨_, _, _, _, _, _, _, _, _, _, _, rfl, _⟩ := h; rfl) | (obtain ⟨_, _, _, _, _, _, _, _, _, _, _, _, rfl, _⟩ := h; rfl) | (obtain ⟨_, _, _, _, _, _, _, _, _, _, _, _, _, rfl, _⟩ := h; rfl) | (obtain ⟨_, _, _, _, _, _, _, _, _, _, _, _, _, _, rfl, _⟩ := h; rfl) | (obtain ⟨_, _, _, _, _, _, _, _, _, _, _, _, _, _, _, rfl, _⟩ := h; rfl) | (obtain ⟨_, _, _, _, _, _, _, _, _, _, _, _, _, _, _, _, rfl, _⟩ := h; rfl)) (fun cdv A outer s H vs Q E hr h => ⟨t_Web_init K, PSs.nox ?_, rd_Web_init vs H Q E h⟩)
  have hu := units_of hr
  exact (pss_cons (ps_if (PW.pt (pw_or (pt_not (pt_val (pe_use U_is_below hr (pa_cons (pv 1) (pa_cons (pe_op op_add (pe_glob rfl T.g_GREATEST.choose_spec ⟨_, rfl⟩) pe_int) pa_nil))))) (pw_or (pt_cmpR op_lt (pv 1) pe_int (nomark _)) (pw_or1 (pt_not (pt_val (pe_use U_is_below hr (pa_cons (pv 3) (pa_cons (pe_op op_add (pe_glob rfl T.g_GREATEST.choose_spec ⟨_, rfl⟩) pe_int) pa_nil))))))))) (pss_one ps_never) pss_nil)
 (pss_cons (ps_if (PW.pt (pw_or (pt_not (pt_val (pe_callB call_isi (by rfl) T.n_isinstance (by decide +kernel) (pa_cons (pv 2) (pa_cons (pe_bltn (v := .ty "list") rfl T.n_list (by decide +kernel) rfl) pa_nil))))) (pw_or1 (pt_not (pt_val (pe_callB (cr_all rfl) (by rfl) T.n_all (by decide +kernel) (pa_cons (pe_lc (own := [("tie", 4)]) (g := (gName 4)) (tt := tYes) rfl sc_Web_init.nd (pi_list (pv 2)) (blkOk_by (own := [("tie", 4)]) (N := ["self", "points", "ties", "turn", "tie"]) (sc := defScope s_Web_init) (by decide +kernel)) (fun _ _ _ _ _ => (pg_name (i := 4) sc_Web_init.nd rfl (Or.inl rfl))) (fun _ _ _ _ _ => pts_nil) (fun _ _ _ _ _ => (pe_use U_is_tie hr (pa_cons (pv 4) (pa_cons (pv 1) pa_nil))))) pa_nil))))))) (pss_one ps_never) pss_nil)
 (pss_cons (ps_fld (pv 0) (pv 1) rfl)
 (pss_cons (ps_fld (pv 0) (pv 3) rfl)
 (pss_one (ps_fld (pv 0) (pe_callTy call_list_of (by rfl) T.n_list (by decide +kernel) (pa_cons (pv 2) pa_nil)) rfl))))))
abbrev s_Web_ties : Stmt := inClass (top 12) 1
theorem sc_Web_ties : FnScope ["self"] ["self"] (defScope s_Web_ties) := ⟨rfl, rfl, rfl, by decide +kernel, rfl, by decide +kernel, by decide +kernel⟩
theorem ok_Web_ties (F : FunD K "ties" "Web.ties" (defArgs s_Web_ties) (defBody s_Web_ties) (defScope s_Web_ties) [] [] f fd) (T : Nm K mg)  : FnOk P w K mg base CX0 1 f fd ["self"] (sp_Web_ties K) := by
  refine F.ok sc_Web_ties (fun vs H Q E h => by first | (obtain ⟨_, rfl, _⟩ := h; rfl) | (obtain ⟨_, _, rfl, _⟩ := h; rfl) | (obtain ⟨_, _, _, rfl, _⟩ := h; rfl) | (obtain ⟨_, _, _, _, rfl, _⟩ := h; rfl) | (obtain ⟨_, _, _, _, _, rfl, _⟩ := h; rfl) | (obtain ⟨_, _, _, _, _, _, rfl, _⟩ := h; rfl) | (obtain ⟨_, _, _, _, _, _, _, rfl, _⟩ := h; rfl) | (obtain ⟨_, _, _, _, _, _, _, _, rfl, _⟩ := h; rfl) | (obtain ⟨_, _, _, _, _, _, _, _, _, rfl, _⟩ := h; rfl) | (obtain ⟨_, _, _, _, _, _, _, _, _, _, rfl, _⟩ := h; rfl) | (obtain ⟨_, _, _, _, _, _, _, _, _, _, _, rfl, _⟩ := h; rfl) | (obtain ⟨_, _, _, _, _, _, _, _, _, _, _, _, rfl, _⟩ := h; rfl) | (obtain ⟨_, _, _, _, _, _, _, _, _, _, _, _, _, rfl, _⟩ := h; rfl) | (obtain ⟨_, _, _, _, _, _, _, _, _, _, _, _, _, _, rfl, _⟩ := h; rfl) | (obtain ⟨_, _, _, _, _, _, _, _, _, _, _, _, _, _, _, rfl, _⟩ := h; rfl) | (obtain ⟨_, _, _, _, _, _, _, _, _, _, _, _, _, _, _, _, rfl, _⟩ := h; rfl)) (fun cdv A outer s H vs Q E hr h => ⟨t_Web_ties K, PSs.nox ?_, rd_Web_ties vs H Q E h⟩)
  have hu := units_of hr
  exact (pss_one (ps_ret (pe_callTy call_list_of (by rfl) T.n_list (by decide +kernel) (pa_cons (pe_fld (pv 0) rfl) pa_nil))))
abbrev s__law_cell_at : Stmt := top 33
theorem sc__law_cell_at : FnScope ["_law_script", "_law_k"] ["_law_script", "_law_k"] (defScope s__law_cell_at) := ⟨rfl, rfl, rfl, by decide +kernel, rfl, by decide +kernel, by decide +kernel⟩
theorem ok__law_cell_at (F : FunD K "_law_cell_at" "_law_cell_at" (defArgs s__law_cell_at) (defBody s__law_cell_at) (defScope s__law_cell_at) [] [] f fd) (T : Nm K mg)  : FnOk P w K mg base CX0 1 f fd ["_law_script", "_law_k"] (sp__law_cell_at K) := by
  refine F.ok sc__law_cell_at (fun vs H Q E h => by first | (obtain ⟨_, rfl, _⟩ := h; rfl) | (obtain ⟨_, _, rfl, _⟩ := h; rfl) | (obtain ⟨_, _, _, rfl, _⟩ := h; rfl) | (obtain ⟨_, _, _, _, rfl, _⟩ := h; rfl) | (obtain ⟨_, _, _, _, _, rfl, _⟩ := h; rfl) | (obtain ⟨_, _, _, _, _, _, rfl, _⟩ := h; rfl) | (obtain ⟨_, _, _, _, _, _, _, rfl, _⟩ := h; rfl) | (obtain ⟨_, _, _, _, _, _, _, _, rfl, _⟩ := h; rfl) | (obtain ⟨_, _, _, _, _, _, _, _, _, rfl, _⟩ := h; rfl) | (obtain ⟨_, _, _, _, _, _, _, _, _, _, rfl, _⟩ := h; rfl) | (obtain ⟨_, _, _, _, _, _, _, _, _, _, _, rfl, _⟩ := h; rfl) | (obtain ⟨_, _, _, _, _, _, _, _, _, _, _, _, rfl, _⟩ := h; rfl) | (obtain ⟨_, _, _, _, _, _, _, _, _, _, _, _, _, rfl, _⟩ := h; rfl) | (obtain ⟨_, _, _, _, _, _, _, _, _, _, _, _, _, _, rfl, _⟩ := h; rfl) | (obtain ⟨_, _, _, _, _, _, _, _, _, _, _, _, _, _, _, rfl, _⟩ := h; rfl) | (obtain ⟨_, _, _, _, _, _, _, _, _, _, _, _, _, _, _, _, rfl, _⟩ := h; rfl)) (fun cdv A outer s H vs Q E hr h => ⟨t__law_cell_at K, PSs.nox ?_, rd__law_cell_at vs H Q E h⟩)
  have hu := units_of hr
  exact (pss_cons (ps_if (pt_cmpR op_lt (pv 1) (pe_callB call_len_seq (by rfl) T.n_len PySem.boot_len (pa_cons (pv 0) pa_nil)) (nomark _)) (pss_one (ps_ret (pe_ix ix_list (pv 0) (pv 1) (fun _ _ => rfl)))) pss_nil)
 (pss_one (ps_ret pe_int)))
abbrev s__law_draw : Stmt := top 34
theorem sc__law_draw : FnScope ["_law_cell", "_law_k", "_law_many", "_law_primes"] ["_law_cell", "_law_k", "_law_many"] (defScope s__law_draw) := ⟨rfl, rfl, rfl, by decide +kernel, rfl, by decide +kernel, by decide +kernel⟩
theorem ok__law_draw (F : FunD K "_law_draw" "_law_draw" (defArgs s__law_draw) (defBody s__law_draw) (defScope s__law_draw) [] [] f fd) (T : Nm K mg)  : FnOk P w K mg base CX0 1 f fd ["_law_cell", "_law_k", "_law_many"] (sp__law_draw K) := by
  refine F.ok sc__law_draw (fun vs H Q E h => by first | (obtain ⟨_, rfl, _⟩ := h; rfl) | (obtain ⟨_, _, rfl, _⟩ := h; rfl) | (obtain ⟨_, _, _, rfl, _⟩ := h; rfl) | (obtain ⟨_, _, _, _, rfl, _⟩ := h; rfl) | (obtain ⟨_, _, _, _, _, rfl, _⟩ := h; rfl) | (obtain ⟨_, _, _, _, _, _, rfl, _⟩ := h; rfl) | (obtain ⟨_, _, _, _, _, _, _, rfl, _⟩ := h; rfl) | (obtain ⟨_, _, _, _, _, _, _, _, rfl, _⟩ := h; rfl) | (obtain ⟨_, _, _, _, _, _, _, _, _, rfl, _⟩ := h; rfl) | (obtain ⟨_, _, _, _, _, _, _, _, _, _, rfl, _⟩ := h; rfl) | (obtain ⟨_, _, _, _, _, _, _, _, _, _, _, rfl, _⟩ := h; rfl) | (obtain ⟨_, _, _, _, _, _, _, _, _, _, _, _, rfl, _⟩ := h; rfl) | (obtain ⟨_, _, _, _, _, _, _, _, _, _, _, _, _, rfl, _⟩ := h; rfl) | (obtain ⟨_, _, _, _, _, _, _, _, _, _, _, _, _, _, rfl, _⟩ := h; rfl) | (obtain ⟨_, _, _, _, _, _, _, _, _, _, _, _, _, _, _, rfl, _⟩ := h; rfl) | (obtain ⟨_, _, _, _, _, _, _, _, _, _, _, _, _, _, _, _, rfl, _⟩ := h; rfl)) (fun cdv A outer s H vs Q E hr h => ⟨t__law_draw K, PSs.nox ?_, rd__law_draw vs H Q E h⟩)
  have hu := units_of hr
  exact (pss_cons (ps_set (i := 3) sc__law_draw.nd rfl (Or.inl rfl) (pe_tup (pa_cons pe_int (pa_cons pe_int (pa_cons pe_int (pa_cons pe_int (pa_cons pe_int (pa_cons pe_int (pa_cons pe_int (pa_cons pe_int (pa_cons pe_int (pa_cons pe_int (pa_cons pe_int (pa_cons pe_int (pa_cons pe_int (pa_cons pe_int (pa_cons pe_int (pa_cons pe_int pa_nil))))))))))))))))))
 (pss_one (ps_ret (pe_op op_mod (pe_op op_mod (pe_op op_add (pe_op op_mul (pv 0) pe_int) (pe_op op_mul (pv 1) pe_int)) (pe_ix ix_tup (pv 3) (pe_op op_mod (pv 1) pe_int) (fun _ _ => rfl))) (pv 2)))))
abbrev s_check_point : Stmt := top 13
theorem sc_check_point : FnScope ["web", "point"] ["web", "point"] (defScope s_check_point) := ⟨rfl, rfl, rfl, by decide +kernel, rfl, by decide +kernel, by decide +kernel⟩
theorem ok_check_point (F : FunD K "check_point" "check_point" (defArgs s_check_point) (defBody s_check_point) (defScope s_check_point) [] [] f fd) (T : Nm K mg) (U_is_below : Use P w K mg base CX0 2 "is_below" ["thing", "many"] (sp_is_below K)) : FnOk P w K mg base CX0 3 f fd ["web", "point"] (sp_check_point K) := by
  refine F.ok sc_check_point (fun vs H Q E h => by first | (obtain ⟨_, rfl, _⟩ := h; rfl) | (obtain ⟨_, _, rfl, _⟩ := h; rfl) | (obtain ⟨_, _, _, rfl, _⟩ := h; rfl) | (obtain ⟨_, _, _, _, rfl, _⟩ := h; rfl) | (obtain ⟨_, _, _, _, _, rfl, _⟩ := h; rfl) | (obtain ⟨_, _, _, _, _, _, rfl, _⟩ := h; rfl) | (obtain ⟨_, _, _, _, _, _, _, rfl, _⟩ := h; rfl) | (obtain ⟨_, _, _, _, _, _, _, _, rfl, _⟩ := h; rfl) | (obtain ⟨_, _, _, _, _, _, _, _, _, rfl, _⟩ := h; rfl) | (obtain ⟨_, _, _, _, _, _, _, _, _, _, rfl, _⟩ := h; rfl) | (obtain ⟨_, _, _, _, _, _, _, _, _, _, _, rfl, _⟩ := h; rfl) | (obtain ⟨_, _, _, _, _, _, _, _, _, _, _, _, rfl, _⟩ := h; rfl) | (obtain ⟨_, _, _, _, _, _, _, _, _, _, _, _, _, rfl, _⟩ := h; rfl) | (obtain ⟨_, _, _, _, _, _, _, _, _, _, _, _, _, _, rfl, _⟩ := h; rfl) | (obtain ⟨_, _, _, _, _, _, _, _, _, _, _, _, _, _, _, rfl, _⟩ := h; rfl) | (obtain ⟨_, _, _, _, _, _, _, _, _, _, _, _, _, _, _, _, rfl, _⟩ := h; rfl)) (fun cdv A outer s H vs Q E hr h => ⟨t_check_point K, PSs.nox ?_, rd_check_point vs H Q E h⟩)
  have hu := units_of hr
  exact (pss_one (ps_if (pt_not (pt_val (pe_use U_is_below hr (pa_cons (pv 1) (pa_cons (pe_fld (pv 0) rfl) pa_nil))))) (pss_one ps_never) pss_nil))
abbrev s_stepped : Stmt := top 17
theorem sc_stepped : FnScope ["web", "point", "step", "one", "other", "number"] ["web", "point", "step"] (defScope s_stepped) := ⟨rfl, rfl, rfl, by decide +kernel, rfl, by decide +kernel, by decide +kernel⟩
theorem ok_stepped (F : FunD K "stepped" "stepped" (defArgs s_stepped) (defBody s_stepped) (defScope s_stepped) [] [] f fd) (T : Nm K mg) (U_is_below : Use P w K mg base CX0 2 "is_below" ["thing", "many"] (sp_is_below K)) (U_is_whole : Use P w K mg base CX0 1 "is_whole" ["thing"] (sp_is_whole K)) : FnOk P w K mg base CX0 3 f fd ["web", "point", "step"] (sp_stepped K) := by
  refine F.ok sc_stepped (fun vs H Q E h => by first | (obtain ⟨_, rfl, _⟩ := h; rfl) | (obtain ⟨_, _, rfl, _⟩ := h; rfl) | (obtain ⟨_, _, _, rfl, _⟩ := h; rfl) | (obtain ⟨_, _, _, _, rfl, _⟩ := h; rfl) | (obtain ⟨_, _, _, _, _, rfl, _⟩ := h; rfl) | (obtain ⟨_, _, _, _, _, _, rfl, _⟩ := h; rfl) | (obtain ⟨_, _, _, _, _, _, _, rfl, _⟩ := h; rfl) | (obtain ⟨_, _, _, _, _, _, _, _, rfl, _⟩ := h; rfl) | (obtain ⟨_, _, _, _, _, _, _, _, _, rfl, _⟩ := h; rfl) | (obtain ⟨_, _, _, _, _, _, _, _, _, _, rfl, _⟩ := h; rfl) | (obtain ⟨_, _, _, _, _, _, _, _, _, _, _, rfl, _⟩ := h; rfl) | (obtain ⟨_, _, _, _, _, _, _, _, _, _, _, _, rfl, _⟩ := h; rfl) | (obtain ⟨_, _, _, _, _, _, _, _, _, _, _, _, _, rfl, _⟩ := h; rfl) | (obtain ⟨_, _, _, _, _, _, _, _, _, _, _, _, _, _, rfl, _⟩ := h; rfl) | (obtain ⟨_, _, _, _, _, _, _, _, _, _, _, _, _, _, _, rfl, _⟩ := h; rfl) | (obtain ⟨_, _, _, _, _, _, _, _, _, _, _, _, _, _, _, _, rfl, _⟩ := h; rfl)) (fun cdv A outer s H vs Q E hr h => ⟨t_stepped K, PSs.nox ?_, rd_stepped vs H Q E h⟩)
  have hu := units_of hr
  exact (pss_cons (ps_if (PW.pt (pw_or (pt_not (pt_val (pe_callB call_isi (by rfl) T.n_isinstance (by decide +kernel) (pa_cons (pv 2) (pa_cons (pe_bltn (v := .ty "tuple") rfl T.n_tuple (by decide +kernel) rfl) pa_nil))))) (pw_or (pt_cmpR op_ne (pe_callB call_len_seq (by rfl) T.n_len PySem.boot_len (pa_cons (pv 2) pa_nil)) pe_int (nomark _)) (pw_or1 (pt_not (pt_val (pe_use U_is_below hr (pa_cons (pe_ix ix_tup (pv 2) pe_int (fun _ _ => rfl)) (pa_cons (pe_callB call_len_seq (by rfl) T.n_len PySem.boot_len (pa_cons (pe_fld (pv 0) rfl) pa_nil)) pa_nil))))))))) (pss_one (ps_ret (pe_tup (pa_cons (pe_un un_neg pe_int) (pa_cons pe_int pa_nil))))) pss_nil)
 (pss_cons (ps_if (pt_not (pt_val (pe_use U_is_whole hr (pa_cons (pe_ix ix_tup (pv 2) pe_int (fun _ _ => rfl)) pa_nil)))) (pss_one (ps_ret (pe_tup (pa_cons (pe_un un_neg pe_int) (pa_cons pe_int pa_nil))))) pss_nil)
 (pss_cons (ps_asg (pe_ix ix_list (pe_fld (pv 0) rfl) (pe_ix ix_tup (pv 2) pe_int (fun _ _ => rfl)) (fun _ _ => rfl)) (pg_tup (by rfl) (pgs_cons (pg_name (i := 3) sc_stepped.nd rfl (Or.inl rfl)) (pgs_cons (pg_name (i := 4) sc_stepped.nd rfl (Or.inl rfl)) (pgs_cons (pg_name (i := 5) sc_stepped.nd rfl (Or.inl rfl)) pgs_nil)))))
 (pss_cons (ps_if (PW.pt (pw_and (pt_cmpR op_eq (pe_ix ix_tup (pv 2) pe_int (fun _ _ => rfl)) pe_int (nomark _)) (pw_and1 (pt_cmpR op_eq (pv 1) (pv 3) (nomark _))))) (pss_one (ps_ret (pe_tup (pa_cons (pv 4) (pa_cons (pv 5) pa_nil))))) pss_nil)
 (pss_cons (ps_if (PW.pt (pw_and (pt_cmpR op_eq (pe_ix ix_tup (pv 2) pe_int (fun _ _ => rfl)) (pe_un un_neg pe_int) (nomark _)) (pw_and1 (pt_cmpR op_eq (pv 1) (pv 4) (nomark _))))) (pss_one (ps_ret (pe_tup (pa_cons (pv 3) (pa_cons (pe_un un_neg (pv 5)) pa_nil))))) pss_nil)
 (pss_one (ps_ret (pe_tup (pa_cons (pe_un un_neg pe_int) (pa_cons pe_int pa_nil))))))))))
abbrev s_walked : Stmt := top 18
theorem sc_walked : FnScope ["web", "start", "steps", "points", "climb", "step", "point", "more"] ["web", "start", "steps"] (defScope s_walked) := ⟨rfl, rfl, rfl, by decide +kernel, rfl, by decide +kernel, by decide +kernel⟩
theorem ok_walked (F : FunD K "walked" "walked" (defArgs s_walked) (defBody s_walked) (defScope s_walked) [] [] f fd) (T : Nm K mg) (U_stepped : Use P w K mg base CX0 3 "stepped" ["web", "point", "step"] (sp_stepped K)) : FnOk P w K mg base CX0 4 f fd ["web", "start", "steps"] (sp_walked K) := by
  refine F.ok sc_walked (fun vs H Q E h => by first | (obtain ⟨_, rfl, _⟩ := h; rfl) | (obtain ⟨_, _, rfl, _⟩ := h; rfl) | (obtain ⟨_, _, _, rfl, _⟩ := h; rfl) | (obtain ⟨_, _, _, _, rfl, _⟩ := h; rfl) | (obtain ⟨_, _, _, _, _, rfl, _⟩ := h; rfl) | (obtain ⟨_, _, _, _, _, _, rfl, _⟩ := h; rfl) | (obtain ⟨_, _, _, _, _, _, _, rfl, _⟩ := h; rfl) | (obtain ⟨_, _, _, _, _, _, _, _, rfl, _⟩ := h; rfl) | (obtain ⟨_, _, _, _, _, _, _, _, _, rfl, _⟩ := h; rfl) | (obtain ⟨_, _, _, _, _, _, _, _, _, _, rfl, _⟩ := h; rfl) | (obtain ⟨_, _, _, _, _, _, _, _, _, _, _, rfl, _⟩ := h; rfl) | (obtain ⟨_, _, _, _, _, _, _, _, _, _, _, _, rfl, _⟩ := h; rfl) | (obtain ⟨_, _, _, _, _, _, _, _, _, _, _, _, _, rfl, _⟩ := h; rfl) | (obtain ⟨_, _, _, _, _, _, _, _, _, _, _, _, _, _, rfl, _⟩ := h; rfl) | (obtain ⟨_, _, _, _, _, _, _, _, _, _, _, _, _, _, _, rfl, _⟩ := h; rfl) | (obtain ⟨_, _, _, _, _, _, _, _, _, _, _, _, _, _, _, _, rfl, _⟩ := h; rfl)) (fun cdv A outer s H vs Q E hr h => ⟨t_walked K, PSs.nox ?_, rd_walked vs H Q E h⟩)
  have hu := units_of hr
  exact (pss_cons (ps_set (i := 3) sc_walked.nd rfl (Or.inl rfl) (pe_lst (pa_cons (pv 1) pa_nil)))
 (pss_cons (ps_set (i := 4) sc_walked.nd rfl (Or.inl rfl) pe_int)
 (pss_cons (ps_for PassesOwn.never rfl (pi_list (pv 2)) (pg_name (i := 5) sc_walked.nd rfl (Or.inl rfl)) (pss_cons (ps_asg (pe_use U_stepped hr (pa_cons (pv 0) (pa_cons (pe_ix ix_list (pv 3) (pe_un un_neg pe_int) (fun _ _ => rfl)) (pa_cons (pv 5) pa_nil)))) (pg_tup (by rfl) (pgs_cons (pg_name (i := 6) sc_walked.nd rfl (Or.inl rfl)) (pgs_cons (pg_name (i := 7) sc_walked.nd rfl (Or.inl rfl)) pgs_nil))))
 (pss_cons (ps_if (pt_cmpR op_lt (pv 6) pe_int (nomark _)) (pss_one (ps_ret (pe_tup (pa_cons (pe_lst pa_nil) (pa_cons pe_int pa_nil))))) pss_nil)
 (pss_cons (ps_expr (pe_bm PySem.F.plainAttrs_list PySem.F.slot_list_append PySem.F.type_list_append mt_append (pv 3) (pa_cons (pv 6) pa_nil)))
 (pss_one (ps_aug (i := 4) sc_walked.nd rfl (Or.inl rfl) (pv 7) ip_add))))))
 (pss_one (ps_ret (pe_tup (pa_cons (pv 3) (pa_cons (pv 4) pa_nil))))))))
abbrev s_climbX : Stmt := top 28
theorem sc_climbX : FnScope ["web", "start", "steps", "points", "total"] ["web", "start", "steps"] (defScope s_climbX) := ⟨rfl, rfl, rfl, by decide +kernel, rfl, by decide +kernel, by decide +kernel⟩
theorem ok_climbX (F : FunD K "climb" "climb" (defArgs s_climbX) (defBody s_climbX) (defScope s_climbX) [] [] f fd) (T : Nm K mg) (U_check_point : Use P w K mg base CX0 3 "check_point" ["web", "point"] (sp_check_point K)) (U_walked : Use P w K mg base CX0 4 "walked" ["web", "start", "steps"] (sp_walked K)) : FnOk P w K mg base (L2N.CX P w) 5 f fd ["web", "start", "steps"] (sp_climbX K) := by
  refine F.ok sc_climbX (fun vs H Q E h => by first | (obtain ⟨_, rfl, _⟩ := h; rfl) | (obtain ⟨_, _, rfl, _⟩ := h; rfl) | (obtain ⟨_, _, _, rfl, _⟩ := h; rfl) | (obtain ⟨_, _, _, _, rfl, _⟩ := h; rfl) | (obtain ⟨_, _, _, _, _, rfl, _⟩ := h; rfl) | (obtain ⟨_, _, _, _, _, _, rfl, _⟩ := h; rfl) | (obtain ⟨_, _, _, _, _, _, _, rfl, _⟩ := h; rfl) | (obtain ⟨_, _, _, _, _, _, _, _, rfl, _⟩ := h; rfl) | (obtain ⟨_, _, _, _, _, _, _, _, _, rfl, _⟩ := h; rfl) | (obtain ⟨_, _, _, _, _, _, _, _, _, _, rfl, _⟩ := h; rfl) | (obtain ⟨_, _, _, _, _, _, _, _, _, _, _, rfl, _⟩ := h; rfl) | (obtain ⟨_, _, _, _, _, _, _, _, _, _, _, _, rfl, _⟩ := h; rfl) | (obtain ⟨_, _, _, _, _, _, _, _, _, _, _, _, _, rfl, _⟩ := h; rfl) | (obtain ⟨_, _, _, _, _, _, _, _, _, _, _, _, _, _, rfl, _⟩ := h; rfl) | (obtain ⟨_, _, _, _, _, _, _, _, _, _, _, _, _, _, _, rfl, _⟩ := h; rfl) | (obtain ⟨_, _, _, _, _, _, _, _, _, _, _, _, _, _, _, _, rfl, _⟩ := h; rfl)) (fun cdv A outer s H vs Q E hr h => ⟨t_climbX K E, id ?_, rd_climbX vs H Q E h⟩)
  have hu := units_of hr
  exact (pss_cons (ps_expr (pe_use U_check_point hr (pa_cons (pv 0) (pa_cons (pv 1) pa_nil))))
 (pss_cons (ps_if (pt_not (pt_val (pe_callB call_isi (by rfl) T.n_isinstance (by decide +kernel) (pa_cons (pv 2) (pa_cons (pe_bltn (v := .ty "list") rfl T.n_list (by decide +kernel) rfl) pa_nil))))) (pss_one ps_never) pss_nil)
 (pss_cons (ps_asg (pe_use U_walked hr (pa_cons (pv 0) (pa_cons (pv 1) (pa_cons (pv 2) pa_nil)))) (pg_tup (by rfl) (pgs_cons (pg_name (i := 3) sc_climbX.nd rfl (Or.inl rfl)) (pgs_cons (pg_name (i := 4) sc_climbX.nd rfl (Or.inl rfl)) pgs_nil))))
 (pss_cons (ps_if (pt_cmpR op_eq (pe_callB call_len_seq (by rfl) T.n_len PySem.boot_len (pa_cons (pv 3) pa_nil)) pe_int (nomark _)) (pss_one (L2N.ps_raise rfl (L2N.takes_of rfl rfl rfl rfl) (L2N.pmk_own PySem.F.excBase_ValueError T.e_BadTie.1 T.c_BadTie T.e_BadTie.2.1 (raises_own T.e_BadTie.2.2.1 T.e_BadTie.2.2.2) (by exact rfl)))) pss_nil)
 (pss_one (ps_ret (pe_tup (pa_cons (pe_ix ix_list (pv 3) (pe_un un_neg pe_int) (fun _ _ => rfl)) (pa_cons (pv 4) pa_nil)))))))))
abbrev s__law_climbed : Stmt := top 39
theorem sc__law_climbed : FnScope ["_law_web_here", "_law_start", "_law_steps", "error", "_law_others"] ["_law_web_here", "_law_start", "_law_steps"] (defScope s__law_climbed) := ⟨rfl, rfl, rfl, by decide +kernel, rfl, by decide +kernel, by decide +kernel⟩
theorem ok__law_climbed (F : FunD K "_law_climbed" "_law_climbed" (defArgs s__law_climbed) (defBody s__law_climbed) (defScope s__law_climbed) [] [] f fd) (T : Nm K mg) (U_climbX : Use P w K mg base (L2N.CX P w) 5 "climb" ["web", "start", "steps"] (sp_climbX K)) : FnOk P w K mg base CX0 6 f fd ["_law_web_here", "_law_start", "_law_steps"] (sp__law_climbed K) := by
  refine F.ok sc__law_climbed (fun vs H Q E h => by first | (obtain ⟨_, rfl, _⟩ := h; rfl) | (obtain ⟨_, _, rfl, _⟩ := h; rfl) | (obtain ⟨_, _, _, rfl, _⟩ := h; rfl) | (obtain ⟨_, _, _, _, rfl, _⟩ := h; rfl) | (obtain ⟨_, _, _, _, _, rfl, _⟩ := h; rfl) | (obtain ⟨_, _, _, _, _, _, rfl, _⟩ := h; rfl) | (obtain ⟨_, _, _, _, _, _, _, rfl, _⟩ := h; rfl) | (obtain ⟨_, _, _, _, _, _, _, _, rfl, _⟩ := h; rfl) | (obtain ⟨_, _, _, _, _, _, _, _, _, rfl, _⟩ := h; rfl) | (obtain ⟨_, _, _, _, _, _, _, _, _, _, rfl, _⟩ := h; rfl) | (obtain ⟨_, _, _, _, _, _, _, _, _, _, _, rfl, _⟩ := h; rfl) | (obtain ⟨_, _, _, _, _, _, _, _, _, _, _, _, rfl, _⟩ := h; rfl) | (obtain ⟨_, _, _, _, _, _, _, _, _, _, _, _, _, rfl, _⟩ := h; rfl) | (obtain ⟨_, _, _, _, _, _, _, _, _, _, _, _, _, _, rfl, _⟩ := h; rfl) | (obtain ⟨_, _, _, _, _, _, _, _, _, _, _, _, _, _, _, rfl, _⟩ := h; rfl) | (obtain ⟨_, _, _, _, _, _, _, _, _, _, _, _, _, _, _, _, rfl, _⟩ := h; rfl)) (fun cdv A outer s H vs Q E hr h => ⟨t__law_climbed K, PSs.nox ?_, rd__law_climbed vs H Q E h⟩)
  have hu := units_of hr
  exact (pss_one (L2N.ps_try_as (i := 3) (tb := fun W => (tRet (tCallS (sp_climbX K) (WE W) (tCons (tVar 0) (tCons (tVar 1) (tCons (tVar 2) tNil)))))) (ts := (fun a cls d => (tSeq (tAsg (tLst (tCons (tCB (rIsX K a cls d) (tCons (tVar 3) (tCons (tC (.ref (ga K "BadPoint"))) tNil))) (tCons (tCB (rIsX K a cls d) (tCons (tVar 3) (tCons (tC (.ref (ga K "BadText"))) tNil))) (tCons (tCB (rIsX K a cls d) (tCons (tVar 3) (tCons (tC (.ref (ga K "BadWeb"))) tNil))) tNil)))) (gName 4))
 (tSeq (tAsg (tOp rCat (tVar 4) (tLst (tCons (tCB (rIsX K a cls d) (tCons (tVar 3) (tCons (tC (.ref (ga K "Unlike"))) tNil))) (tCons (tNotV (tCB (rIsX K a cls d) (tCons (tVar 3) (tCons (tC (.ty "ValueError")) tNil)))) tNil)))) (gName 4))
 (tRet (tIf (tAnd (tB (tCB (rIsX K a cls d) (tCons (tVar 3) (tCons (tC (.ref (ga K "BadTie"))) tNil)))) (tNot (tB (tCB (rAny K) (tCons (tVar 4) tNil))))) (tC (.str "none")) (tC (.str "other")))))))) (Wout := fun _ _ _ _ => False) rfl rfl sc__law_climbed.nd rfl rfl ⟨rfl, by decide, .inl T.c_WebError⟩ takesN0
 (fun W pn xe tk _ => (pss_one (ps_ret (pe_useS U_climbX hr tk (pa_cons (pv 0) (pa_cons (pv 1) (pa_cons (pv 2) pa_nil)))))))
 (fun a oe cls d pn hz hf => (pss_cons (ps_set (i := 4) sc__law_climbed.nd rfl (Or.inl rfl) (pe_lst (pa_cons (pe_callB (call_isX hz hf) (by rfl) T.n_isinstance (by decide +kernel) (pa_cons (pv 3) (pa_cons (pe_glob rfl T.c_BadPoint rfl) pa_nil))) (pa_cons (pe_callB (call_isX hz hf) (by rfl) T.n_isinstance (by decide +kernel) (pa_cons (pv 3) (pa_cons (pe_glob rfl T.c_BadText rfl) pa_nil))) (pa_cons (pe_callB (call_isX hz hf) (by rfl) T.n_isinstance (by decide +kernel) (pa_cons (pv 3) (pa_cons (pe_glob rfl T.c_BadWeb rfl) pa_nil))) pa_nil)))))
 (pss_cons (ps_set (i := 4) sc__law_climbed.nd rfl (Or.inl rfl) (pe_op op_cat (pv 4) (pe_lst (pa_cons (pe_callB (call_isX hz hf) (by rfl) T.n_isinstance (by decide +kernel) (pa_cons (pv 3) (pa_cons (pe_glob rfl T.c_Unlike rfl) pa_nil))) (pa_cons (pe_not (pe_callB (call_isX hz hf) (by rfl) T.n_isinstance (by decide +kernel) (pa_cons (pv 3) (pa_cons (pe_bltn (v := .ty "ValueError") rfl T.n_ValueError (by decide +kernel) rfl) pa_nil)))) pa_nil)))))
 (pss_one (ps_ret (pe_ifExp (PW.pt (pw_and (pt_val (pe_callB (call_isX hz hf) (by rfl) T.n_isinstance (by decide +kernel) (pa_cons (pv 3) (pa_cons (pe_glob rfl T.c_BadTie rfl) pa_nil)))) (pw_and1 (pt_not (pt_val (pe_callB (cr_anyH (hot_suite hz hf)) (by rfl) T.n_any (by decide +kernel) (pa_cons (pv 4) pa_nil))))))) pe_str pe_str))))))))
abbrev s__law_walk : Stmt := top 37
theorem sc__law_walk : FnScope ["_law_ties", "_law_start", "_law_steps", "_law_points", "_law_total", "_law_step", "_law_at", "_law_way", "_law_ends"] ["_law_ties", "_law_start", "_law_steps"] (defScope s__law_walk) := ⟨rfl, rfl, rfl, by decide +kernel, rfl, by decide +kernel, by decide +kernel⟩
theorem ok__law_walk (F : FunD K "_law_walk" "_law_walk" (defArgs s__law_walk) (defBody s__law_walk) (defScope s__law_walk) [] [] f fd) (T : Nm K mg)  : FnOk P w K mg base CX0 1 f fd ["_law_ties", "_law_start", "_law_steps"] (sp__law_walk K) := by
  refine F.ok sc__law_walk (fun vs H Q E h => by first | (obtain ⟨_, rfl, _⟩ := h; rfl) | (obtain ⟨_, _, rfl, _⟩ := h; rfl) | (obtain ⟨_, _, _, rfl, _⟩ := h; rfl) | (obtain ⟨_, _, _, _, rfl, _⟩ := h; rfl) | (obtain ⟨_, _, _, _, _, rfl, _⟩ := h; rfl) | (obtain ⟨_, _, _, _, _, _, rfl, _⟩ := h; rfl) | (obtain ⟨_, _, _, _, _, _, _, rfl, _⟩ := h; rfl) | (obtain ⟨_, _, _, _, _, _, _, _, rfl, _⟩ := h; rfl) | (obtain ⟨_, _, _, _, _, _, _, _, _, rfl, _⟩ := h; rfl) | (obtain ⟨_, _, _, _, _, _, _, _, _, _, rfl, _⟩ := h; rfl) | (obtain ⟨_, _, _, _, _, _, _, _, _, _, _, rfl, _⟩ := h; rfl) | (obtain ⟨_, _, _, _, _, _, _, _, _, _, _, _, rfl, _⟩ := h; rfl) | (obtain ⟨_, _, _, _, _, _, _, _, _, _, _, _, _, rfl, _⟩ := h; rfl) | (obtain ⟨_, _, _, _, _, _, _, _, _, _, _, _, _, _, rfl, _⟩ := h; rfl) | (obtain ⟨_, _, _, _, _, _, _, _, _, _, _, _, _, _, _, rfl, _⟩ := h; rfl) | (obtain ⟨_, _, _, _, _, _, _, _, _, _, _, _, _, _, _, _, rfl, _⟩ := h; rfl)) (fun cdv A outer s H vs Q E hr h => ⟨t__law_walk K, PSs.nox ?_, rd__law_walk vs H Q E h⟩)
  have hu := units_of hr
  exact (pss_cons (ps_par (i := 3) (j := 4) (by rfl) sc__law_walk.nd rfl rfl (by decide) rfl rfl (pa_cons (pe_lst (pa_cons (pv 1) pa_nil)) (pa_cons pe_int pa_nil)) (by rfl))
 (pss_cons (ps_for PassesOwn.never rfl (pi_list (pv 2)) (pg_name (i := 5) sc__law_walk.nd rfl (Or.inl rfl)) (pss_cons (ps_if (PW.pt (pw_or (pt_not (pt_val (pe_callB call_isi (by rfl) T.n_isinstance (by decide +kernel) (pa_cons (pv 5) (pa_cons (pe_bltn (v := .ty "tuple") rfl T.n_tuple (by decide +kernel) rfl) pa_nil))))) (pw_or1 (pt_cmpR op_ne (pe_callB call_len_seq (by rfl) T.n_len PySem.boot_len (pa_cons (pv 5) pa_nil)) pe_int (nomark _))))) (pss_one (ps_ret (pe_tup (pa_cons (pe_lst pa_nil) (pa_cons pe_int pa_nil))))) pss_nil)
 (pss_cons (ps_asg (pv 5) (pg_tup (by rfl) (pgs_cons (pg_name (i := 6) sc__law_walk.nd rfl (Or.inl rfl)) (pgs_cons (pg_name (i := 7) sc__law_walk.nd rfl (Or.inl rfl)) pgs_nil))))
 (pss_cons (ps_if (PW.pt (pw_or (pt_val (pe_callB call_isi (by rfl) T.n_isinstance (by decide +kernel) (pa_cons (pv 6) (pa_cons (pe_bltn (v := .ty "bool") rfl T.n_bool (by decide +kernel) rfl) pa_nil)))) (pw_or (pt_not (pt_val (pe_callB call_isi (by rfl) T.n_isinstance (by decide +kernel) (pa_cons (pv 6) (pa_cons (pe_bltn (v := .ty "int") rfl T.n_int (by decide +kernel) rfl) pa_nil))))) (pw_or (pt_not (pt_chain op_le op_lt pe_int (pv 6) (pe_callB call_len_seq (by rfl) T.n_len PySem.boot_len (pa_cons (pv 0) pa_nil)))) (pw_or1 (pt_cmpR op_notIn_seq (pv 7) (pe_tup (pa_cons pe_int (pa_cons (pe_un un_neg pe_int) pa_nil))) (by rfl))))))) (pss_one (ps_ret (pe_tup (pa_cons (pe_lst pa_nil) (pa_cons pe_int pa_nil))))) pss_nil)
 (pss_cons (ps_set (i := 8) sc__law_walk.nd rfl (Or.inl rfl) (pe_ifExp (pt_cmpR op_eq (pv 7) pe_int (nomark _)) (pe_slice sl_tup (pe_ix ix_list (pv 0) (pv 6) (fun _ _ => rfl)) po_none (po_some pe_int)) (pe_swapT (pe_ix ix_list (pv 0) (pv 6) (fun _ _ => rfl)))))
 (pss_cons (ps_if (pt_cmpR op_ne (pe_ix ix_list (pv 3) (pe_un un_neg pe_int) (fun _ _ => rfl)) (pe_ix ix_tup (pv 8) pe_int (fun _ _ => rfl)) (nomark _)) (pss_one (ps_ret (pe_tup (pa_cons (pe_lst pa_nil) (pa_cons pe_int pa_nil))))) pss_nil)
 (pss_cons (ps_expr (pe_bm PySem.F.plainAttrs_list PySem.F.slot_list_append PySem.F.type_list_append mt_append (pv 3) (pa_cons (pe_ix ix_tup (pv 8) pe_int (fun _ _ => rfl)) pa_nil)))
 (pss_one (ps_set (i := 4) sc__law_walk.nd rfl (Or.inl rfl) (pe_op op_add (pv 4) (pe_op op_mul (pv 7) (pe_ix ix_tup (pe_ix ix_list (pv 0) (pv 6) (fun _ _ => rfl)) pe_int (fun _ _ => rfl)))))))))))))
 (pss_one (ps_ret (pe_tup (pa_cons (pv 3) (pa_cons (pv 4) pa_nil)))))))
abbrev s__law_walks_right : Stmt := top 40
theorem sc__law_walks_right : FnScope ["_law_web_here", "_law_points", "_law_ties", "_law_script", "_law_point", "_law_start", "_law_steps", "_law_now", "_law_k", "_law_way", "_law_handed", "_law_back", "_law_cell", "_law_step", "_law_some", "_law_came", "_law_total", "_law_at"] ["_law_web_here", "_law_points", "_law_ties", "_law_script"] (defScope s__law_walks_right) := ⟨rfl, rfl, rfl, by decide +kernel, rfl, by decide +kernel, by decide +kernel⟩
theorem ok__law_walks_right (F : FunD K "_law_walks_right" "_law_walks_right" (defArgs s__law_walks_right) (defBody s__law_walks_right) (defScope s__law_walks_right) [] [] f fd) (T : Nm K mg) (U__law_cell_at : Use P w K mg base CX0 1 "_law_cell_at" ["_law_script", "_law_k"] (sp__law_cell_at K)) (U__law_climbed : Use P w K mg base CX0 6 "_law_climbed" ["_law_web_here", "_law_start", "_law_steps"] (sp__law_climbed K)) (U__law_draw : Use P w K mg base CX0 1 "_law_draw" ["_law_cell", "_law_k", "_law_many"] (sp__law_draw K)) (U__law_walk : Use P w K mg base CX0 1 "_law_walk" ["_law_ties", "_law_start", "_law_steps"] (sp__law_walk K)) : FnOk P w K mg base CX0 7 f fd ["_law_web_here", "_law_points", "_law_ties", "_law_script"] (sp__law_walks_right K) := by
  refine F.ok sc__law_walks_right (fun vs H Q E h => by first | (obtain ⟨_, rfl, _⟩ := h; rfl) | (obtain ⟨_, _, rfl, _⟩ := h; rfl) | (obtain ⟨_, _, _, rfl, _⟩ := h; rfl) | (obtain ⟨_, _, _, _, rfl, _⟩ := h; rfl) | (obtain ⟨_, _, _, _, _, rfl, _⟩ := h; rfl) | (obtain ⟨_, _, _, _, _, _, rfl, _⟩ := h; rfl) | (obtain ⟨_, _, _, _, _, _, _, rfl, _⟩ := h; rfl) | (obtain ⟨_, _, _, _, _, _, _, _, rfl, _⟩ := h; rfl) | (obtain ⟨_, _, _, _, _, _, _, _, _, rfl, _⟩ := h; rfl) | (obtain ⟨_, _, _, _, _, _, _, _, _, _, rfl, _⟩ := h; rfl) | (obtain ⟨_, _, _, _, _, _, _, _, _, _, _, rfl, _⟩ := h; rfl) | (obtain ⟨_, _, _, _, _, _, _, _, _, _, _, _, rfl, _⟩ := h; rfl) | (obtain ⟨_, _, _, _, _, _, _, _, _, _, _, _, _, rfl, _⟩ := h; rfl) | (obtain ⟨_, _, _, _, _, _, _, _, _, _, _, _, _, _, rfl, _⟩ := h; rfl) | (obtain ⟨_, _, _, _, _, _, _, _, _, _, _, _, _, _, _, rfl, _⟩ := h; rfl) | (obtain ⟨_, _, _, _, _, _, _, _, _, _, _, _, _, _, _, _, rfl, _⟩ := h; rfl)) (fun cdv A outer s H vs Q E hr h => ⟨t__law_walks_right K, PSs.nox ?_, rd__law_walks_right vs H Q E h⟩)
  have hu := units_of hr
  exact (pss_cons (ps_set (i := 4) sc__law_walks_right.nd rfl (Or.inl rfl) (pe_use U__law_draw hr (pa_cons (pe_use U__law_cell_at hr (pa_cons (pv 3) (pa_cons pe_int pa_nil))) (pa_cons pe_int (pa_cons (pv 1) pa_nil)))))
 (pss_cons (ps_par3 (i := 5) (j := 6) (l := 7) (by rfl) sc__law_walks_right.nd rfl rfl rfl (by decide) (by decide) (by decide) rfl rfl rfl (pa_cons (pv 4) (pa_cons (pe_lst pa_nil) (pa_cons pe_int pa_nil))) (by rfl))
 (pss_cons (ps_for PassesOwn.never rfl (pi_range1 rfl T.n_range (pa_cons (pe_callB call_len_seq (by rfl) T.n_len PySem.boot_len (pa_cons (pv 2) pa_nil)) pa_nil)) (pg_name (i := 8) sc__law_walks_right.nd rfl (Or.inl rfl)) (pss_one (ps_if (pt_cmpR op_in_seq (pv 4) (pe_slice sl_tup (pe_ix ix_list (pv 2) (pv 8) (fun _ _ => rfl)) po_none (po_some pe_int)) (by rfl)) (pss_cons (ps_set (i := 9) sc__law_walks_right.nd rfl (Or.inl rfl) (pe_ifExp (pt_cmpR op_eq (pv 4) (pe_ix ix_tup (pe_ix ix_list (pv 2) (pv 8) (fun _ _ => rfl)) pe_int (fun _ _ => rfl)) (nomark _)) pe_int (pe_un un_neg pe_int)))
 (pss_cons (ps_expr (pe_bm PySem.F.plainAttrs_list PySem.F.slot_list_append PySem.F.type_list_append mt_append (pv 6) (pa_cons (pe_tup (pa_cons (pv 8) (pa_cons (pv 9) pa_nil))) pa_nil)))
 (pss_cons (ps_set (i := 4) sc__law_walks_right.nd rfl (Or.inl rfl) (pe_ifExp (pt_cmpR op_eq (pv 9) pe_int (nomark _)) (pe_ix ix_tup (pe_ix ix_list (pv 2) (pv 8) (fun _ _ => rfl)) pe_int (fun _ _ => rfl)) (pe_ix ix_tup (pe_ix ix_list (pv 2) (pv 8) (fun _ _ => rfl)) pe_int (fun _ _ => rfl))))
 (pss_one (ps_set (i := 7) sc__law_walks_right.nd rfl (Or.inl rfl) (pe_op op_add (pv 7) (pe_op op_mul (pv 9) (pe_ix ix_tup (pe_ix ix_list (pv 2) (pv 8) (fun _ _ => rfl)) pe_int (fun _ _ => rfl))))))))) pss_nil)))
 (pss_cons (ps_set (i := 10) sc__law_walks_right.nd rfl (Or.inl rfl) (pe_callTy call_list_of (by rfl) T.n_list (by decide +kernel) (pa_cons (pv 6) pa_nil)))
 (pss_cons (ps_if (PW.pt (pw_or (pt_cmpR (op_neD hr.units) (pe_use U__law_climbed hr (pa_cons (pv 0) (pa_cons (pv 5) (pa_cons (pv 10) pa_nil)))) (pe_tup (pa_cons (pv 4) (pa_cons (pv 7) pa_nil))) (nomark _)) (pw_or1 (pt_cmpR (op_neD hr.units) (pv 10) (pv 6) (nomark _))))) (pss_one (ps_ret pe_bl)) pss_nil)
 (pss_cons (ps_setLc (i := 11) (own := [("_law_at", 17), ("_law_way", 9)]) (g := (gTup K 2 (gCons (gName 17) (gCons (gName 9) gNil)))) (tt := tYes) rfl sc__law_walks_right.nd rfl rfl (sw_true rfl rfl rfl (by decide +kernel)) (pi_list (pe_revL (pv 6))) (blkOk_by (own := [("_law_at", 17), ("_law_way", 9)]) (N := ["_law_web_here", "_law_points", "_law_ties", "_law_script", "_law_point", "_law_start", "_law_steps", "_law_now", "_law_k", "_law_way", "_law_handed", "_law_back", "_law_cell", "_law_step", "_law_some", "_law_came", "_law_total", "_law_at"]) (sc := defScope s__law_walks_right) (by decide +kernel)) (fun _ _ _ _ _ => (pg_tup (by rfl) (pgs_cons (pg_name (i := 17) sc__law_walks_right.nd rfl (Or.inl rfl)) (pgs_cons (pg_name (i := 9) sc__law_walks_right.nd rfl (Or.inl rfl)) pgs_nil)))) (fun _ _ _ _ _ => pts_nil) (fun _ _ _ _ _ => (pe_tup (pa_cons (pv 17) (pa_cons (pe_un un_neg (pv 9)) pa_nil)))))
 (pss_cons (ps_if (pt_cmpR (op_neD hr.units) (pe_use U__law_climbed hr (pa_cons (pv 0) (pa_cons (pv 5) (pa_cons (pe_op op_cat (pv 6) (pv 11)) pa_nil)))) (pe_tup (pa_cons (pv 5) (pa_cons pe_int pa_nil))) (nomark _)) (pss_one (ps_ret pe_bl)) pss_nil)
 (pss_cons (ps_if (pt_cmpR (op_neD hr.units) (pe_use U__law_climbed hr (pa_cons (pv 0) (pa_cons (pv 5) (pa_cons (pe_op op_cat (pe_op op_cat (pv 6) (pv 11)) (pv 6)) pa_nil)))) (pe_tup (pa_cons (pv 4) (pa_cons (pv 7) pa_nil))) (nomark _)) (pss_one (ps_ret pe_bl)) pss_nil)
 (pss_cons (ps_for PassesOwn.never rfl (pi_range1 rfl T.n_range (pa_cons pe_int pa_nil)) (pg_name (i := 8) sc__law_walks_right.nd rfl (Or.inl rfl)) (pss_cons (ps_set (i := 12) sc__law_walks_right.nd rfl (Or.inl rfl) (pe_use U__law_cell_at hr (pa_cons (pv 3) (pa_cons (pv 8) pa_nil))))
 (pss_cons (ps_set (i := 13) sc__law_walks_right.nd rfl (Or.inl rfl) (pe_tup (pa_cons (pe_op op_sub (pe_use U__law_draw hr (pa_cons (pv 12) (pa_cons pe_int (pa_cons (pe_op op_add (pe_callB call_len_seq (by rfl) T.n_len PySem.boot_len (pa_cons (pv 2) pa_nil)) pe_int) pa_nil)))) pe_int) (pa_cons (pe_ix ix_tup (pe_tup (pa_cons pe_int (pa_cons (pe_un un_neg pe_int) (pa_cons pe_int (pa_cons pe_int pa_nil))))) (pe_use U__law_draw hr (pa_cons (pv 12) (pa_cons pe_int (pa_cons pe_int pa_nil)))) (fun _ _ => rfl)) pa_nil))))
 (pss_cons (ps_set (i := 14) sc__law_walks_right.nd rfl (Or.inl rfl) (pe_op op_cat (pe_slice sl_list (pv 6) po_none (po_some (pe_use U__law_draw hr (pa_cons (pv 12) (pa_cons pe_int (pa_cons (pe_op op_add (pe_callB call_len_seq (by rfl) T.n_len PySem.boot_len (pa_cons (pv 6) pa_nil)) pe_int) pa_nil)))))) (pe_lst (pa_cons (pv 13) pa_nil))))
 (pss_cons (ps_asg (pe_use U__law_walk hr (pa_cons (pv 2) (pa_cons (pv 5) (pa_cons (pv 14) pa_nil)))) (pg_tup (by rfl) (pgs_cons (pg_name (i := 15) sc__law_walks_right.nd rfl (Or.inl rfl)) (pgs_cons (pg_name (i := 16) sc__law_walks_right.nd rfl (Or.inl rfl)) pgs_nil))))
 (pss_one (ps_if (pt_cmpR (op_neD hr.units) (pe_use U__law_climbed hr (pa_cons (pv 0) (pa_cons (pv 5) (pa_cons (pv 14) pa_nil)))) (pe_ifExp (pt_cmpR (op_eqD hr.units) (pv 15) (pe_lst pa_nil) (nomark _)) pe_str (pe_tup (pa_cons (pe_ix ix_list (pv 15) (pe_un un_neg pe_int) (fun _ _ => rfl)) (pa_cons (pv 16) pa_nil)))) (nomark _)) (pss_one (ps_ret pe_bl)) pss_nil)))))))
 (pss_one (ps_ret pe_bl)))))))))))
abbrev s__law_web : Stmt := top 35
theorem sc__law_web : FnScope ["_law_script", "_law_few", "_law_points", "_law_turn", "_law_most", "_law_wrong", "_law_halves", "_law_ties", "_law_k", "_law_one", "_law_other", "_law_low", "_law_many", "_law_by", "_law_number"] ["_law_script"] (defScope s__law_web) := ⟨rfl, rfl, rfl, by decide +kernel, rfl, by decide +kernel, by decide +kernel⟩
theorem ok__law_web (F : FunD K "_law_web" "_law_web" (defArgs s__law_web) (defBody s__law_web) (defScope s__law_web) [] [] f fd) (T : Nm K mg) (U__law_cell_at : Use P w K mg base CX0 1 "_law_cell_at" ["_law_script", "_law_k"] (sp__law_cell_at K)) (U__law_draw : Use P w K mg base CX0 1 "_law_draw" ["_law_cell", "_law_k", "_law_many"] (sp__law_draw K)) : FnOk P w K mg base CX0 2 f fd ["_law_script"] (sp__law_web K) := by
  refine F.ok sc__law_web (fun vs H Q E h => by first | (obtain ⟨_, rfl, _⟩ := h; rfl) | (obtain ⟨_, _, rfl, _⟩ := h; rfl) | (obtain ⟨_, _, _, rfl, _⟩ := h; rfl) | (obtain ⟨_, _, _, _, rfl, _⟩ := h; rfl) | (obtain ⟨_, _, _, _, _, rfl, _⟩ := h; rfl) | (obtain ⟨_, _, _, _, _, _, rfl, _⟩ := h; rfl) | (obtain ⟨_, _, _, _, _, _, _, rfl, _⟩ := h; rfl) | (obtain ⟨_, _, _, _, _, _, _, _, rfl, _⟩ := h; rfl) | (obtain ⟨_, _, _, _, _, _, _, _, _, rfl, _⟩ := h; rfl) | (obtain ⟨_, _, _, _, _, _, _, _, _, _, rfl, _⟩ := h; rfl) | (obtain ⟨_, _, _, _, _, _, _, _, _, _, _, rfl, _⟩ := h; rfl) | (obtain ⟨_, _, _, _, _, _, _, _, _, _, _, _, rfl, _⟩ := h; rfl) | (obtain ⟨_, _, _, _, _, _, _, _, _, _, _, _, _, rfl, _⟩ := h; rfl) | (obtain ⟨_, _, _, _, _, _, _, _, _, _, _, _, _, _, rfl, _⟩ := h; rfl) | (obtain ⟨_, _, _, _, _, _, _, _, _, _, _, _, _, _, _, rfl, _⟩ := h; rfl) | (obtain ⟨_, _, _, _, _, _, _, _, _, _, _, _, _, _, _, _, rfl, _⟩ := h; rfl)) (fun cdv A outer s H vs Q E hr h => ⟨t__law_web K, PSs.nox ?_, rd__law_web vs H Q E h⟩)
  have hu := units_of hr
  exact (pss_cons (ps_set (i := 1) sc__law_web.nd rfl (Or.inl rfl) (pe_op op_fdiv (pe_op op_mul (pe_callB call_len_seq (by rfl) T.n_len PySem.boot_len (pa_cons (pv 0) pa_nil)) (pe_ix ix_tup (pe_tup (pa_cons pe_int (pa_cons pe_int (pa_cons pe_int pa_nil)))) (pe_use U__law_draw hr (pa_cons (pe_use U__law_cell_at hr (pa_cons (pv 0) (pa_cons pe_int pa_nil))) (pa_cons pe_int (pa_cons pe_int pa_nil)))) (fun _ _ => rfl))) pe_int))
 (pss_cons (ps_set (i := 2) sc__law_web.nd rfl (Or.inl rfl) (pe_op op_add pe_int (pe_use U__law_draw hr (pa_cons (pe_use U__law_cell_at hr (pa_cons (pv 0) (pa_cons pe_int pa_nil))) (pa_cons pe_int (pa_cons (pe_op op_add pe_int (pv 1)) pa_nil))))))
 (pss_cons (ps_set (i := 3) sc__law_web.nd rfl (Or.inl rfl) (pe_ix ix_tup (pe_tup (pa_cons pe_int (pa_cons pe_int (pa_cons pe_int (pa_cons pe_int (pa_cons pe_int (pa_cons pe_int (pa_cons pe_int pa_nil)))))))) (pe_use U__law_draw hr (pa_cons (pe_use U__law_cell_at hr (pa_cons (pv 0) (pa_cons pe_int pa_nil))) (pa_cons pe_int (pa_cons pe_int pa_nil)))) (fun _ _ => rfl)))
 (pss_cons (ps_set (i := 4) sc__law_web.nd rfl (Or.inl rfl) (pe_ix ix_tup (pe_tup (pa_cons pe_int (pa_cons pe_int (pa_cons pe_int (pa_cons pe_int pa_nil))))) (pe_use U__law_draw hr (pa_cons (pe_use U__law_cell_at hr (pa_cons (pv 0) (pa_cons pe_int pa_nil))) (pa_cons pe_int (pa_cons pe_int pa_nil)))) (fun _ _ => rfl)))
 (pss_cons (ps_set (i := 5) sc__law_web.nd rfl (Or.inl rfl) (pe_ix ix_tup (pe_tup (pa_cons pe_int (pa_cons pe_int (pa_cons pe_int (pa_cons pe_int pa_nil))))) (pe_use U__law_draw hr (pa_cons (pe_use U__law_cell_at hr (pa_cons (pv 0) (pa_cons pe_int pa_nil))) (pa_cons pe_int (pa_cons pe_int pa_nil)))) (fun _ _ => rfl)))
 (pss_cons (ps_set (i := 6) sc__law_web.nd rfl (Or.inl rfl) (pe_and (pe_cmpR op_gt (pv 2) pe_int (nomark _)) (pe_one (pe_cmpR op_eq (pe_use U__law_draw hr (pa_cons (pe_use U__law_cell_at hr (pa_cons (pv 0) (pa_cons pe_int pa_nil))) (pa_cons pe_int (pa_cons pe_int pa_nil)))) pe_int (nomark _)))))
 (pss_cons (ps_set (i := 7) sc__law_web.nd rfl (Or.inl rfl) (pe_lst pa_nil))
 (pss_cons (ps_for PassesOwn.never rfl (pi_range1 rfl T.n_range (pa_cons (pe_callB call_len_seq (by rfl) T.n_len PySem.boot_len (pa_cons (pv 0) pa_nil)) pa_nil)) (pg_name (i := 8) sc__law_web.nd rfl (Or.inl rfl)) (pss_cons (ps_set (i := 9) sc__law_web.nd rfl (Or.inl rfl) (pe_use U__law_draw hr (pa_cons (pe_ix ix_list (pv 0) (pv 8) (fun _ _ => rfl)) (pa_cons (pe_op op_add (pe_op op_mod (pv 8) pe_int) pe_int) (pa_cons (pv 2) pa_nil)))))
 (pss_cons (ps_set (i := 10) sc__law_web.nd rfl (Or.inl rfl) (pe_op op_mod (pe_op op_add (pe_op op_add (pv 9) pe_int) (pe_use U__law_draw hr (pa_cons (pe_ix ix_list (pv 0) (pv 8) (fun _ _ => rfl)) (pa_cons (pe_op op_add (pe_op op_mod (pv 8) pe_int) pe_int) (pa_cons (pe_op op_sub (pv 2) pe_int) pa_nil))))) (pv 2)))
 (pss_cons (ps_if (pt_val (pv 6)) (pss_cons (ps_set (i := 11) sc__law_web.nd rfl (Or.inl rfl) (pe_ifExp (pt_cmpR op_lt (pv 9) (pe_op op_fdiv (pv 2) pe_int) (nomark _)) pe_int (pe_op op_fdiv (pv 2) pe_int)))
 (pss_cons (ps_set (i := 12) sc__law_web.nd rfl (Or.inl rfl) (pe_ifExp (pt_cmpR op_eq (pv 11) pe_int (nomark _)) (pe_op op_fdiv (pv 2) pe_int) (pe_op op_sub (pv 2) (pv 11))))
 (pss_cons (ps_set (i := 13) sc__law_web.nd rfl (Or.inl rfl) (pe_op op_add pe_int (pe_use U__law_draw hr (pa_cons (pe_ix ix_list (pv 0) (pv 8) (fun _ _ => rfl)) (pa_cons (pe_op op_add (pe_op op_mod (pv 8) pe_int) pe_int) (pa_cons (pe_op op_sub (pv 12) pe_int) pa_nil))))))
 (pss_one (ps_set (i := 10) sc__law_web.nd rfl (Or.inl rfl) (pe_op op_add (pv 11) (pe_op op_mod (pe_op op_add (pe_op op_sub (pv 9) (pv 11)) (pv 13)) (pv 12)))))))) pss_nil)
 (pss_cons (ps_set (i := 14) sc__law_web.nd rfl (Or.inl rfl) (pe_op op_sub (pe_use U__law_draw hr (pa_cons (pe_op op_mul (pv 10) pe_int) (pa_cons pe_int (pa_cons (pv 4) pa_nil)))) (pe_use U__law_draw hr (pa_cons (pe_op op_mul (pv 9) pe_int) (pa_cons pe_int (pa_cons (pv 4) pa_nil))))))
 (pss_cons (ps_if (PW.pt (pw_and (pt_cmpR op_gt (pv 5) pe_int (nomark _)) (pw_and1 (pt_cmpR op_eq (pe_use U__law_draw hr (pa_cons (pe_ix ix_list (pv 0) (pv 8) (fun _ _ => rfl)) (pa_cons (pe_op op_add (pe_op op_mod (pv 8) pe_int) pe_int) (pa_cons (pv 5) pa_nil)))) pe_int (nomark _))))) (pss_one (ps_set (i := 14) sc__law_web.nd rfl (Or.inl rfl) (pe_op op_add (pv 14) pe_int))) pss_nil)
 (pss_cons (ps_if (PW.pt (pw_and (pt_cmpR op_gt (pv 3) pe_int (nomark _)) (pw_and (pt_cmpR op_eq (pe_use U__law_draw hr (pa_cons (pe_ix ix_list (pv 0) (pv 8) (fun _ _ => rfl)) (pa_cons pe_int (pa_cons pe_int pa_nil)))) pe_int (nomark _)) (pw_and1 (pt_cmpR op_lt (pe_op op_add (pe_callB call_abs (by rfl) T.n_abs (by decide +kernel) (pa_cons (pv 14) pa_nil)) (pv 3)) pe_int (nomark _)))))) (pss_one (ps_set (i := 14) sc__law_web.nd rfl (Or.inl rfl) (pe_op op_sub (pv 14) (pv 3)))) pss_nil)
 (pss_one (ps_expr (pe_bm PySem.F.plainAttrs_list PySem.F.slot_list_append PySem.F.type_list_append mt_append (pv 7) (pa_cons (pe_tup (pa_cons (pv 9) (pa_cons (pv 10) (pa_cons (pv 14) pa_nil)))) pa_nil)))))))))))
 (pss_one (ps_ret (pe_tup (pa_cons (pv 2) (pa_cons (pv 7) (pa_cons (pv 3) pa_nil))))))))))))))
abbrev s_about : Stmt := top 14
theorem sc_about : FnScope ["web", "one", "other", "number"] ["web"] (defScope s_about) := ⟨rfl, rfl, rfl, by decide +kernel, rfl, by decide +kernel, by decide +kernel⟩
theorem ok_about (F : FunD K "about" "about" (defArgs s_about) (defBody s_about) (defScope s_about) [] [] f fd) (T : Nm K mg) (U_Web_init : UseC P w K mg base CX0 4 "Web" (ga K "Web") ["self", "points", "ties", "turn"] (sp_Web_init K)) : FnOk P w K mg base CX0 6 f fd ["web"] (sp_about K) := by
  refine F.ok sc_about (fun vs H Q E h => by first | (obtain ⟨_, rfl, _⟩ := h; rfl) | (obtain ⟨_, _, rfl, _⟩ := h; rfl) | (obtain ⟨_, _, _, rfl, _⟩ := h; rfl) | (obtain ⟨_, _, _, _, rfl, _⟩ := h; rfl) | (obtain ⟨_, _, _, _, _, rfl, _⟩ := h; rfl) | (obtain ⟨_, _, _, _, _, _, rfl, _⟩ := h; rfl) | (obtain ⟨_, _, _, _, _, _, _, rfl, _⟩ := h; rfl) | (obtain ⟨_, _, _, _, _, _, _, _, rfl, _⟩ := h; rfl) | (obtain ⟨_, _, _, _, _, _, _, _, _, rfl, _⟩ := h; rfl) | (obtain ⟨_, _, _, _, _, _, _, _, _, _, rfl, _⟩ := h; rfl) | (obtain ⟨_, _, _, _, _, _, _, _, _, _, _, rfl, _⟩ := h; rfl) | (obtain ⟨_, _, _, _, _, _, _, _, _, _, _, _, rfl, _⟩ := h; rfl) | (obtain ⟨_, _, _, _, _, _, _, _, _, _, _, _, _, rfl, _⟩ := h; rfl) | (obtain ⟨_, _, _, _, _, _, _, _, _, _, _, _, _, _, rfl, _⟩ := h; rfl) | (obtain ⟨_, _, _, _, _, _, _, _, _, _, _, _, _, _, _, rfl, _⟩ := h; rfl) | (obtain ⟨_, _, _, _, _, _, _, _, _, _, _, _, _, _, _, _, rfl, _⟩ := h; rfl)) (fun cdv A outer s H vs Q E hr h => ⟨t_about K, PSs.nox ?_, rd_about vs H Q E h⟩)
  have hu := units_of hr
  exact (pss_one (ps_ret (pe_usemk U_Web_init hr (pa_cons (pe_fld (pv 0) rfl) (pa_cons (pe_lc (own := [("one", 1), ("other", 2), ("number", 3)]) (g := (gTup K 3 (gCons (gName 1) (gCons (gName 2) (gCons (gName 3) gNil))))) (tt := tYes) rfl sc_about.nd (pi_list (pe_fld (pv 0) rfl)) (blkOk_by (own := [("one", 1), ("other", 2), ("number", 3)]) (N := ["web", "one", "other", "number"]) (sc := defScope s_about) (by decide +kernel)) (fun _ _ _ _ _ => (pg_tup (by rfl) (pgs_cons (pg_name (i := 1) sc_about.nd rfl (Or.inl rfl)) (pgs_cons (pg_name (i := 2) sc_about.nd rfl (Or.inl rfl)) (pgs_cons (pg_name (i := 3) sc_about.nd rfl (Or.inl rfl)) pgs_nil))))) (fun _ _ _ _ _ => pts_nil) (fun _ _ _ _ _ => (pe_tup (pa_cons (pv 2) (pa_cons (pv 1) (pa_cons (pe_un un_neg (pv 3)) pa_nil)))))) (pa_cons (pe_fld (pv 0) rfl) pa_nil))))))
abbrev s_Heights_init : Stmt := inClass (top 24) 0
theorem sc_Heights_init : FnScope ["self", "heights"] ["self", "heights"] (defScope s_Heights_init) := ⟨rfl, rfl, rfl, by decide +kernel, rfl, by decide +kernel, by decide +kernel⟩
theorem ok_Heights_init (F : FunD K "__init__" "Heights.__init__" (defArgs s_Heights_init) (defBody s_Heights_init) (defScope s_Heights_init) [] [] f fd) (T : Nm K mg)  : FnOk P w K mg base CX0 1 f fd ["self", "heights"] (sp_Heights_init K) := by
  refine F.ok sc_Heights_init (fun vs H Q E h => by first | (obtain ⟨_, rfl, _⟩ := h; rfl) | (obtain ⟨_, _, rfl, _⟩ := h; rfl) | (obtain ⟨_, _, _, rfl, _⟩ := h; rfl) | (obtain ⟨_, _, _, _, rfl, _⟩ := h; rfl) | (obtain ⟨_, _, _, _, _, rfl, _⟩ := h; rfl) | (obtain ⟨_, _, _, _, _, _, rfl, _⟩ := h; rfl) | (obtain ⟨_, _, _, _, _, _, _, rfl, _⟩ := h; rfl) | (obtain ⟨_, _, _, _, _, _, _, _, rfl, _⟩ := h; rfl) | (obtain ⟨_, _, _, _, _, _, _, _, _, rfl, _⟩ := h; rfl) | (obtain ⟨_, _, _, _, _, _, _, _, _, _, rfl, _⟩ := h; rfl) | (obtain ⟨_, _, _, _, _, _, _, _, _, _, _, rfl, _⟩ := h; rfl) | (obtain ⟨_, _, _, _, _, _, _, _, _, _, _, _, rfl, _⟩ := h; rfl) | (obtain ⟨_, _, _, _, _, _, _, _, _, _, _, _, _, rfl, _⟩ := h; rfl) | (obtain ⟨_, _, _, _, _, _, _, _, _, _, _, _, _, _, rfl, _⟩ := h; rfl) | (obtain ⟨_, _, _, _, _, _, _, _, _, _, _, _, _, _, _, rfl, _⟩ := h; rfl) | (obtain ⟨_, _, _, _, _, _, _, _, _, _, _, _, _, _, _, _, rfl, _⟩ := h; rfl)) (fun cdv A outer s H vs Q E hr h => ⟨t_one_init "heights" K, PSs.nox ?_, rd_one_init (o := []) vs H Q E h rfl⟩)
  have hu := units_of hr
  exact (pss_one (ps_fld (pv 0) (pe_callTy call_list_of (by rfl) T.n_list (by decide +kernel) (pa_cons (pv 1) pa_nil)) rfl))
abbrev s_beside : Stmt := top 19
theorem sc_beside : FnScope ["web", "skipped", "friends", "found", "at", "tie", "point"] ["web", "skipped", "friends"] (defScope s_beside) := ⟨rfl, rfl, rfl, by decide +kernel, rfl, by decide +kernel, by decide +kernel⟩
theorem ok_beside (F : FunD K "beside" "beside" (defArgs s_beside) (defBody s_beside) (defScope s_beside) [] [] f fd) (T : Nm K mg) (U_Web_is_nought : UseM P w K mg base CX0 1 (ga K "Web") "is_nought" ["self", "number"] (sp_Web_is_nought K)) : FnOk P w K mg base CX0 2 f fd ["web", "skipped", "friends"] (sp_beside K) := by
  refine F.ok sc_beside (fun vs H Q E h => by first | (obtain ⟨_, rfl, _⟩ := h; rfl) | (obtain ⟨_, _, rfl, _⟩ := h; rfl) | (obtain ⟨_, _, _, rfl, _⟩ := h; rfl) | (obtain ⟨_, _, _, _, rfl, _⟩ := h; rfl) | (obtain ⟨_, _, _, _, _, rfl, _⟩ := h; rfl) | (obtain ⟨_, _, _, _, _, _, rfl, _⟩ := h; rfl) | (obtain ⟨_, _, _, _, _, _, _, rfl, _⟩ := h; rfl) | (obtain ⟨_, _, _, _, _, _, _, _, rfl, _⟩ := h; rfl) | (obtain ⟨_, _, _, _, _, _, _, _, _, rfl, _⟩ := h; rfl) | (obtain ⟨_, _, _, _, _, _, _, _, _, _, rfl, _⟩ := h; rfl) | (obtain ⟨_, _, _, _, _, _, _, _, _, _, _, rfl, _⟩ := h; rfl) | (obtain ⟨_, _, _, _, _, _, _, _, _, _, _, _, rfl, _⟩ := h; rfl) | (obtain ⟨_, _, _, _, _, _, _, _, _, _, _, _, _, rfl, _⟩ := h; rfl) | (obtain ⟨_, _, _, _, _, _, _, _, _, _, _, _, _, _, rfl, _⟩ := h; rfl) | (obtain ⟨_, _, _, _, _, _, _, _, _, _, _, _, _, _, _, rfl, _⟩ := h; rfl) | (obtain ⟨_, _, _, _, _, _, _, _, _, _, _, _, _, _, _, _, rfl, _⟩ := h; rfl)) (fun cdv A outer s H vs Q E hr h => ⟨t_beside K, PSs.nox ?_, rd_beside vs H Q E h⟩)
  have hu := units_of hr
  exact (pss_cons (ps_setLc (i := 3) (own := [("point", 6)]) (g := (gName 6)) (tt := tYes) rfl sc_beside.nd rfl rfl (sw_true rfl rfl rfl (by decide +kernel)) (pi_range1 rfl T.n_range (pa_cons (pe_fld (pv 0) rfl) pa_nil)) (blkOk_by (own := [("point", 6)]) (N := ["web", "skipped", "friends", "found", "at", "tie", "point"]) (sc := defScope s_beside) (by decide +kernel)) (fun _ _ _ _ _ => (pg_name (i := 6) sc_beside.nd rfl (Or.inl rfl))) (fun _ _ _ _ _ => pts_nil) (fun _ _ _ _ _ => (pe_lst pa_nil)))
 (pss_cons (ps_for PassesOwn.never rfl (pi_enum (by rfl) T.n_enumerate (pa_cons (pe_fld (pv 0) rfl) pa_nil)) (pg_tup (by rfl) (pgs_cons (pg_name (i := 4) sc_beside.nd rfl (Or.inl rfl)) (pgs_cons (pg_name (i := 5) sc_beside.nd rfl (Or.inl rfl)) pgs_nil))) (pss_one (ps_if (PW.pt (pw_and (pt_cmpR op_ne (pv 4) (pv 1) (nomark _)) (pw_and1 (PW.pt (pw_or (pt_not (pt_val (pv 2))) (pw_or1 (pt_val (pe_usem U_Web_is_nought hr (pv 0) (pa_cons (pe_ix ix_tup (pv 5) pe_int (fun _ _ => rfl)) pa_nil))))))))) (pss_cons (ps_expr (pe_bm PySem.F.plainAttrs_list PySem.F.slot_list_append PySem.F.type_list_append mt_append (pe_ix ix_list (pv 3) (pe_ix ix_tup (pv 5) pe_int (fun _ _ => rfl)) (fun _ _ => rfl)) (pa_cons (pe_tup (pa_cons (pv 4) (pa_cons pe_int pa_nil))) pa_nil)))
 (pss_one (ps_expr (pe_bm PySem.F.plainAttrs_list PySem.F.slot_list_append PySem.F.type_list_append mt_append (pe_ix ix_list (pv 3) (pe_ix ix_tup (pv 5) pe_int (fun _ _ => rfl)) (fun _ _ => rfl)) (pa_cons (pe_tup (pa_cons (pv 4) (pa_cons (pe_un un_neg pe_int) pa_nil))) pa_nil))))) pss_nil)))
 (pss_one (ps_ret (pv 3)))))
abbrev s_reached : Stmt := top 20
theorem sc_reached : FnScope ["web", "start", "near", "came", "left", "at", "step", "point"] ["web", "start", "near"] (defScope s_reached) := ⟨rfl, rfl, rfl, by decide +kernel, rfl, by decide +kernel, by decide +kernel⟩
theorem ok_reached (F : FunD K "reached" "reached" (defArgs s_reached) (defBody s_reached) (defScope s_reached) [] [] f fd) (T : Nm K mg) (U_stepped : Use P w K mg base CX0 3 "stepped" ["web", "point", "step"] (sp_stepped K)) : FnOk P w K mg base CX0 4 f fd ["web", "start", "near"] (sp_reached K) := by
  refine F.ok sc_reached (fun vs H Q E h => by first | (obtain ⟨_, rfl, _⟩ := h; rfl) | (obtain ⟨_, _, rfl, _⟩ := h; rfl) | (obtain ⟨_, _, _, rfl, _⟩ := h; rfl) | (obtain ⟨_, _, _, _, rfl, _⟩ := h; rfl) | (obtain ⟨_, _, _, _, _, rfl, _⟩ := h; rfl) | (obtain ⟨_, _, _, _, _, _, rfl, _⟩ := h; rfl) | (obtain ⟨_, _, _, _, _, _, _, rfl, _⟩ := h; rfl) | (obtain ⟨_, _, _, _, _, _, _, _, rfl, _⟩ := h; rfl) | (obtain ⟨_, _, _, _, _, _, _, _, _, rfl, _⟩ := h; rfl) | (obtain ⟨_, _, _, _, _, _, _, _, _, _, rfl, _⟩ := h; rfl) | (obtain ⟨_, _, _, _, _, _, _, _, _, _, _, rfl, _⟩ := h; rfl) | (obtain ⟨_, _, _, _, _, _, _, _, _, _, _, _, rfl, _⟩ := h; rfl) | (obtain ⟨_, _, _, _, _, _, _, _, _, _, _, _, _, rfl, _⟩ := h; rfl) | (obtain ⟨_, _, _, _, _, _, _, _, _, _, _, _, _, _, rfl, _⟩ := h; rfl) | (obtain ⟨_, _, _, _, _, _, _, _, _, _, _, _, _, _, _, rfl, _⟩ := h; rfl) | (obtain ⟨_, _, _, _, _, _, _, _, _, _, _, _, _, _, _, _, rfl, _⟩ := h; rfl)) (fun cdv A outer s H vs Q E hr h => ⟨t_reached K, PSs.nox ?_, rd_reached vs H Q E h⟩)
  have hu := units_of hr
  exact (pss_cons (ps_set (i := 3) sc_reached.nd rfl (Or.inl rfl) (pe_disp (pps_cons (pv 1) (pe_tup pa_nil) pps_nil) (by rfl) (by rfl) (fun z => by cases z) (by decide)))
 (pss_cons (ps_set (i := 4) sc_reached.nd rfl (Or.inl rfl) (pe_lst (pa_cons (pv 1) pa_nil)))
 (pss_cons (ps_set (i := 5) sc_reached.nd rfl (Or.inl rfl) pe_int)
 (pss_cons (ps_while PassesOwn.never (pt_cmpR op_lt (pv 5) (pe_callB call_len_seq (by rfl) T.n_len PySem.boot_len (pa_cons (pv 4) pa_nil)) (nomark _)) (pss_cons (ps_for PassesOwn.never rfl (pi_list (pe_ix ix_list (pv 2) (pe_ix ix_list (pv 4) (pv 5) (fun _ _ => rfl)) (fun _ _ => rfl))) (pg_name (i := 6) sc_reached.nd rfl (Or.inl rfl)) (pss_cons (ps_set (i := 7) sc_reached.nd rfl (Or.inl rfl) (pe_ix ix_tup (pe_use U_stepped hr (pa_cons (pv 0) (pa_cons (pe_ix ix_list (pv 4) (pv 5) (fun _ _ => rfl)) (pa_cons (pv 6) pa_nil)))) pe_int (fun _ _ => rfl)))
 (pss_one (ps_if (pt_cmp (pc_dnotin hu (pv 7) (pv 3))) (pss_cons (ps_dput hu (pv 3) (pv 7) (pv 6) rfl)
 (pss_one (ps_expr (pe_bm PySem.F.plainAttrs_list PySem.F.slot_list_append PySem.F.type_list_append mt_append (pv 4) (pa_cons (pv 7) pa_nil))))) pss_nil))))
 (pss_one (ps_aug (i := 5) sc_reached.nd rfl (Or.inl rfl) pe_int ip_add))))
 (pss_one (ps_ret (pv 3)))))))
abbrev s_Ring_init : Stmt := inClass (top 26) 0
theorem sc_Ring_init : FnScope ["self", "steps"] ["self", "steps"] (defScope s_Ring_init) := ⟨rfl, rfl, rfl, by decide +kernel, rfl, by decide +kernel, by decide +kernel⟩
theorem ok_Ring_init (F : FunD K "__init__" "Ring.__init__" (defArgs s_Ring_init) (defBody s_Ring_init) (defScope s_Ring_init) [] [] f fd) (T : Nm K mg)  : FnOk P w K mg base CX0 1 f fd ["self", "steps"] (sp_Ring_init K) := by
  refine F.ok sc_Ring_init (fun vs H Q E h => by first | (obtain ⟨_, rfl, _⟩ := h; rfl) | (obtain ⟨_, _, rfl, _⟩ := h; rfl) | (obtain ⟨_, _, _, rfl, _⟩ := h; rfl) | (obtain ⟨_, _, _, _, rfl, _⟩ := h; rfl) | (obtain ⟨_, _, _, _, _, rfl, _⟩ := h; rfl) | (obtain ⟨_, _, _, _, _, _, rfl, _⟩ := h; rfl) | (obtain ⟨_, _, _, _, _, _, _, rfl, _⟩ := h; rfl) | (obtain ⟨_, _, _, _, _, _, _, _, rfl, _⟩ := h; rfl) | (obtain ⟨_, _, _, _, _, _, _, _, _, rfl, _⟩ := h; rfl) | (obtain ⟨_, _, _, _, _, _, _, _, _, _, rfl, _⟩ := h; rfl) | (obtain ⟨_, _, _, _, _, _, _, _, _, _, _, rfl, _⟩ := h; rfl) | (obtain ⟨_, _, _, _, _, _, _, _, _, _, _, _, rfl, _⟩ := h; rfl) | (obtain ⟨_, _, _, _, _, _, _, _, _, _, _, _, _, rfl, _⟩ := h; rfl) | (obtain ⟨_, _, _, _, _, _, _, _, _, _, _, _, _, _, rfl, _⟩ := h; rfl) | (obtain ⟨_, _, _, _, _, _, _, _, _, _, _, _, _, _, _, rfl, _⟩ := h; rfl) | (obtain ⟨_, _, _, _, _, _, _, _, _, _, _, _, _, _, _, _, rfl, _⟩ := h; rfl)) (fun cdv A outer s H vs Q E hr h => ⟨t_one_init "steps" K, PSs.nox ?_, rd_one_init (o := []) vs H Q E h rfl⟩)
  have hu := units_of hr
  exact (pss_one (ps_fld (pv 0) (pe_callTy call_list_of (by rfl) T.n_list (by decide +kernel) (pa_cons (pv 1) pa_nil)) rfl))
abbrev s_way_back : Stmt := top 21
theorem sc_way_back : FnScope ["web", "came", "point", "found", "step"] ["web", "came", "point"] (defScope s_way_back) := ⟨rfl, rfl, rfl, by decide +kernel, rfl, by decide +kernel, by decide +kernel⟩
theorem ok_way_back (F : FunD K "way_back" "way_back" (defArgs s_way_back) (defBody s_way_back) (defScope s_way_back) [] [] f fd) (T : Nm K mg) (U_stepped : Use P w K mg base CX0 3 "stepped" ["web", "point", "step"] (sp_stepped K)) : FnOk P w K mg base CX0 4 f fd ["web", "came", "point"] (sp_way_back K) := by
  refine F.ok sc_way_back (fun vs H Q E h => by first | (obtain ⟨_, rfl, _⟩ := h; rfl) | (obtain ⟨_, _, rfl, _⟩ := h; rfl) | (obtain ⟨_, _, _, rfl, _⟩ := h; rfl) | (obtain ⟨_, _, _, _, rfl, _⟩ := h; rfl) | (obtain ⟨_, _, _, _, _, rfl, _⟩ := h; rfl) | (obtain ⟨_, _, _, _, _, _, rfl, _⟩ := h; rfl) | (obtain ⟨_, _, _, _, _, _, _, rfl, _⟩ := h; rfl) | (obtain ⟨_, _, _, _, _, _, _, _, rfl, _⟩ := h; rfl) | (obtain ⟨_, _, _, _, _, _, _, _, _, rfl, _⟩ := h; rfl) | (obtain ⟨_, _, _, _, _, _, _, _, _, _, rfl, _⟩ := h; rfl) | (obtain ⟨_, _, _, _, _, _, _, _, _, _, _, rfl, _⟩ := h; rfl) | (obtain ⟨_, _, _, _, _, _, _, _, _, _, _, _, rfl, _⟩ := h; rfl) | (obtain ⟨_, _, _, _, _, _, _, _, _, _, _, _, _, rfl, _⟩ := h; rfl) | (obtain ⟨_, _, _, _, _, _, _, _, _, _, _, _, _, _, rfl, _⟩ := h; rfl) | (obtain ⟨_, _, _, _, _, _, _, _, _, _, _, _, _, _, _, rfl, _⟩ := h; rfl) | (obtain ⟨_, _, _, _, _, _, _, _, _, _, _, _, _, _, _, _, rfl, _⟩ := h; rfl)) (fun cdv A outer s H vs Q E hr h => ⟨t_way_back K, PSs.nox ?_, rd_way_back vs H Q E h⟩)
  have hu := units_of hr
  exact (pss_cons (ps_set (i := 3) sc_way_back.nd rfl (Or.inl rfl) (pe_lst pa_nil))
 (pss_cons (ps_while PassesOwn.never (pt_cmpR (op_neD hr.units) (pe_dget hu (pv 1) (pv 2) (fun _ _ => rfl)) (pe_tup pa_nil) (nomark _)) (pss_cons (ps_set (i := 4) sc_way_back.nd rfl (Or.inl rfl) (pe_dget hu (pv 1) (pv 2) (fun _ _ => rfl)))
 (pss_cons (ps_expr (pe_bm PySem.F.plainAttrs_list PySem.F.slot_list_append PySem.F.type_list_append mt_append (pv 3) (pa_cons (pv 4) pa_nil)))
 (pss_one (ps_set (i := 2) sc_way_back.nd rfl (Or.inl rfl) (pe_ix ix_tup (pe_use U_stepped hr (pa_cons (pv 0) (pa_cons (pv 2) (pa_cons (pe_tup (pa_cons (pe_ix ix_tup (pv 4) pe_int (fun _ _ => rfl)) (pa_cons (pe_un un_neg (pe_ix ix_tup (pv 4) pe_int (fun _ _ => rfl))) pa_nil))) pa_nil)))) pe_int (fun _ _ => rfl)))))))
 (pss_one (ps_ret (pe_revL (pv 3))))))
abbrev s_ring_by : Stmt := top 30
theorem sc_ring_by : FnScope ["web", "tie", "came", "one", "other", "number", "here", "there", "at", "way"] ["web", "tie", "came"] (defScope s_ring_by) := ⟨rfl, rfl, rfl, by decide +kernel, rfl, by decide +kernel, by decide +kernel⟩
theorem ok_ring_by (F : FunD K "ring_by" "ring_by" (defArgs s_ring_by) (defBody s_ring_by) (defScope s_ring_by) [] [] f fd) (T : Nm K mg) (U_Ring_init : UseC P w K mg base CX0 1 "Ring" (ga K "Ring") ["self", "steps"] (sp_Ring_init K)) (U_way_back : Use P w K mg base CX0 4 "way_back" ["web", "came", "point"] (sp_way_back K)) : FnOk P w K mg base CX0 5 f fd ["web", "tie", "came"] (sp_ring_by K) := by
  refine F.ok sc_ring_by (fun vs H Q E h => by first | (obtain ⟨_, rfl, _⟩ := h; rfl) | (obtain ⟨_, _, rfl, _⟩ := h; rfl) | (obtain ⟨_, _, _, rfl, _⟩ := h; rfl) | (obtain ⟨_, _, _, _, rfl, _⟩ := h; rfl) | (obtain ⟨_, _, _, _, _, rfl, _⟩ := h; rfl) | (obtain ⟨_, _, _, _, _, _, rfl, _⟩ := h; rfl) | (obtain ⟨_, _, _, _, _, _, _, rfl, _⟩ := h; rfl) | (obtain ⟨_, _, _, _, _, _, _, _, rfl, _⟩ := h; rfl) | (obtain ⟨_, _, _, _, _, _, _, _, _, rfl, _⟩ := h; rfl) | (obtain ⟨_, _, _, _, _, _, _, _, _, _, rfl, _⟩ := h; rfl) | (obtain ⟨_, _, _, _, _, _, _, _, _, _, _, rfl, _⟩ := h; rfl) | (obtain ⟨_, _, _, _, _, _, _, _, _, _, _, _, rfl, _⟩ := h; rfl) | (obtain ⟨_, _, _, _, _, _, _, _, _, _, _, _, _, rfl, _⟩ := h; rfl) | (obtain ⟨_, _, _, _, _, _, _, _, _, _, _, _, _, _, rfl, _⟩ := h; rfl) | (obtain ⟨_, _, _, _, _, _, _, _, _, _, _, _, _, _, _, rfl, _⟩ := h; rfl) | (obtain ⟨_, _, _, _, _, _, _, _, _, _, _, _, _, _, _, _, rfl, _⟩ := h; rfl)) (fun cdv A outer s H vs Q E hr h => ⟨t_ring_by K, PSs.nox ?_, rd_ring_by vs H Q E h⟩)
  have hu := units_of hr
  exact (pss_cons (ps_asg (pe_ix ix_list (pe_fld (pv 0) rfl) (pv 1) (fun _ _ => rfl)) (pg_tup (by rfl) (pgs_cons (pg_name (i := 3) sc_ring_by.nd rfl (Or.inl rfl)) (pgs_cons (pg_name (i := 4) sc_ring_by.nd rfl (Or.inl rfl)) (pgs_cons (pg_name (i := 5) sc_ring_by.nd rfl (Or.inl rfl)) pgs_nil)))))
 (pss_cons (ps_par (i := 6) (j := 7) (by rfl) sc_ring_by.nd rfl rfl (by decide) rfl rfl (pa_cons (pe_use U_way_back hr (pa_cons (pv 0) (pa_cons (pv 2) (pa_cons (pv 3) pa_nil)))) (pa_cons (pe_use U_way_back hr (pa_cons (pv 0) (pa_cons (pv 2) (pa_cons (pv 4) pa_nil)))) pa_nil)) (by rfl))
 (pss_cons (ps_while PassesOwn.never (PW.pt (pw_and (pt_cmpR op_gt (pe_callB call_len_seq (by rfl) T.n_len PySem.boot_len (pa_cons (pv 6) pa_nil)) pe_int (nomark _)) (pw_and (pt_cmpR op_gt (pe_callB call_len_seq (by rfl) T.n_len PySem.boot_len (pa_cons (pv 7) pa_nil)) pe_int (nomark _)) (pw_and1 (pt_cmpR (op_eqD hr.units) (pe_ix ix_list (pv 6) pe_int (fun _ _ => rfl)) (pe_ix ix_list (pv 7) pe_int (fun _ _ => rfl)) (nomark _)))))) (pss_cons (ps_expr (pe_bm PySem.F.plainAttrs_list PySem.F.slot_list_pop PySem.F.type_list_pop mt_popAt (pv 6) (pa_cons pe_int pa_nil)))
 (pss_one (ps_expr (pe_bm PySem.F.plainAttrs_list PySem.F.slot_list_pop PySem.F.type_list_pop mt_popAt (pv 7) (pa_cons pe_int pa_nil))))))
 (pss_one (ps_ret (pe_usemk U_Ring_init hr (pa_cons (pe_op op_cat (pe_op op_cat (pv 6) (pe_lst (pa_cons (pe_tup (pa_cons (pv 1) (pa_cons pe_int pa_nil))) pa_nil))) (pe_lc (own := [("at", 8), ("way", 9)]) (g := (gTup K 2 (gCons (gName 8) (gCons (gName 9) gNil)))) (tt := tYes) rfl sc_ring_by.nd (pi_list (pe_revL (pv 7))) (blkOk_by (own := [("at", 8), ("way", 9)]) (N := ["web", "tie", "came", "one", "other", "number", "here", "there", "at", "way"]) (sc := defScope s_ring_by) (by decide +kernel)) (fun _ _ _ _ _ => (pg_tup (by rfl) (pgs_cons (pg_name (i := 8) sc_ring_by.nd rfl (Or.inl rfl)) (pgs_cons (pg_name (i := 9) sc_ring_by.nd rfl (Or.inl rfl)) pgs_nil)))) (fun _ _ _ _ _ => pts_nil) (fun _ _ _ _ _ => (pe_tup (pa_cons (pv 8) (pa_cons (pe_un un_neg (pv 9)) pa_nil)))))) pa_nil)))))))
abbrev s_levels : Stmt := top 31
theorem sc_levels : FnScope ["web", "heights", "trees", "near", "point", "came", "other", "tie", "way", "ahead", "at"] ["web"] (defScope s_levels) := ⟨rfl, rfl, rfl, by decide +kernel, rfl, by decide +kernel, by decide +kernel⟩
theorem ok_levels (F : FunD K "levels" "levels" (defArgs s_levels) (defBody s_levels) (defScope s_levels) [] [] f fd) (T : Nm K mg) (U_Heights_init : UseC P w K mg base CX0 1 "Heights" (ga K "Heights") ["self", "heights"] (sp_Heights_init K)) (U_Web_is_nought : UseM P w K mg base CX0 1 (ga K "Web") "is_nought" ["self", "number"] (sp_Web_is_nought K)) (U_beside : Use P w K mg base CX0 2 "beside" ["web", "skipped", "friends"] (sp_beside K)) (U_reached : Use P w K mg base CX0 4 "reached" ["web", "start", "near"] (sp_reached K)) (U_ring_by : Use P w K mg base CX0 5 "ring_by" ["web", "tie", "came"] (sp_ring_by K)) (U_stepped : Use P w K mg base CX0 3 "stepped" ["web", "point", "step"] (sp_stepped K)) : FnOk P w K mg base CX0 6 f fd ["web"] (sp_levels K) := by
  refine F.ok sc_levels (fun vs H Q E h => by first | (obtain ⟨_, rfl, _⟩ := h; rfl) | (obtain ⟨_, _, rfl, _⟩ := h; rfl) | (obtain ⟨_, _, _, rfl, _⟩ := h; rfl) | (obtain ⟨_, _, _, _, rfl, _⟩ := h; rfl) | (obtain ⟨_, _, _, _, _, rfl, _⟩ := h; rfl) | (obtain ⟨_, _, _, _, _, _, rfl, _⟩ := h; rfl) | (obtain ⟨_, _, _, _, _, _, _, rfl, _⟩ := h; rfl) | (obtain ⟨_, _, _, _, _, _, _, _, rfl, _⟩ := h; rfl) | (obtain ⟨_, _, _, _, _, _, _, _, _, rfl, _⟩ := h; rfl) | (obtain ⟨_, _, _, _, _, _, _, _, _, _, rfl, _⟩ := h; rfl) | (obtain ⟨_, _, _, _, _, _, _, _, _, _, _, rfl, _⟩ := h; rfl) | (obtain ⟨_, _, _, _, _, _, _, _, _, _, _, _, rfl, _⟩ := h; rfl) | (obtain ⟨_, _, _, _, _, _, _, _, _, _, _, _, _, rfl, _⟩ := h; rfl) | (obtain ⟨_, _, _, _, _, _, _, _, _, _, _, _, _, _, rfl, _⟩ := h; rfl) | (obtain ⟨_, _, _, _, _, _, _, _, _, _, _, _, _, _, _, rfl, _⟩ := h; rfl) | (obtain ⟨_, _, _, _, _, _, _, _, _, _, _, _, _, _, _, _, rfl, _⟩ := h; rfl)) (fun cdv A outer s H vs Q E hr h => ⟨t_levels K, PSs.nox ?_, rd_levels vs H Q E h⟩)
  have hu := units_of hr
  exact (pss_cons (ps_set (i := 1) sc_levels.nd rfl (Or.inr rfl) pe_dnewK)
 (pss_cons (ps_set (i := 2) sc_levels.nd rfl (Or.inl rfl) pe_dnewK)
 (pss_cons (ps_set (i := 3) sc_levels.nd rfl (Or.inl rfl) (pe_use U_beside hr (pa_cons (pv 0) (pa_cons (pe_un un_neg pe_int) (pa_cons pe_bl pa_nil)))))
 (pss_cons (ps_for PassesOwn.never rfl (pi_range1 rfl T.n_range (pa_cons (pe_fld (pv 0) rfl) pa_nil)) (pg_name (i := 4) sc_levels.nd rfl (Or.inl rfl)) (pss_one (ps_if (pt_cmp (pc_dnotin hu (pv 4) (pv 1))) (pss_cons (ps_set (i := 5) sc_levels.nd rfl (Or.inl rfl) (pe_use U_reached hr (pa_cons (pv 0) (pa_cons (pv 4) (pa_cons (pv 3) pa_nil)))))
 (pss_one (ps_for PassesOwn.never rfl (pi_keys (pe_frz (pv 5))) (pg_name (i := 6) sc_levels.nd rfl (Or.inl rfl)) (pss_cons (ps_dput hu (pv 1) (pv 6) pe_int rfl)
 (pss_cons (ps_dput hu (pv 2) (pv 6) (pv 5) rfl)
 (pss_one (ps_if (pt_cmpR (op_neD hr.units) (pe_dget hu (pv 5) (pv 6) (fun _ _ => rfl)) (pe_tup pa_nil) (nomark _)) (pss_cons (ps_asg (pe_dget hu (pv 5) (pv 6) (fun _ _ => rfl)) (pg_tup (by rfl) (pgs_cons (pg_name (i := 7) sc_levels.nd rfl (Or.inl rfl)) (pgs_cons (pg_name (i := 8) sc_levels.nd rfl (Or.inl rfl)) pgs_nil))))
 (pss_cons (ps_set (i := 9) sc_levels.nd rfl (Or.inl rfl) (pe_ix ix_tup (pe_use U_stepped hr (pa_cons (pv 0) (pa_cons (pv 6) (pa_cons (pe_tup (pa_cons (pv 7) (pa_cons (pe_un un_neg (pv 8)) pa_nil))) pa_nil)))) pe_int (fun _ _ => rfl)))
 (pss_one (ps_dput hu (pv 1) (pv 6) (pe_op op_add (pe_dget hu (pv 1) (pv 9) (fun _ _ => rfl)) (pe_op op_mul (pv 8) (pe_ix ix_tup (pe_ix ix_list (pe_fld (pv 0) rfl) (pv 7) (fun _ _ => rfl)) pe_int (fun _ _ => rfl)))) rfl)))) pss_nil))))))) pss_nil)))
 (pss_cons (ps_for PassesOwn.never rfl (pi_enum (by rfl) T.n_enumerate (pa_cons (pe_fld (pv 0) rfl) pa_nil)) (pg_tup (by rfl) (pgs_cons (pg_name (i := 10) sc_levels.nd rfl (Or.inl rfl)) (pgs_cons (pg_name (i := 7) sc_levels.nd rfl (Or.inl rfl)) pgs_nil))) (pss_one (ps_if (pt_not (pt_val (pe_usem U_Web_is_nought hr (pv 0) (pa_cons (pe_op op_sub (pe_op op_sub (pe_dget hu (pv 1) (pe_ix ix_tup (pv 7) pe_int (fun _ _ => rfl)) (fun _ _ => rfl)) (pe_dget hu (pv 1) (pe_ix ix_tup (pv 7) pe_int (fun _ _ => rfl)) (fun _ _ => rfl))) (pe_ix ix_tup (pv 7) pe_int (fun _ _ => rfl))) pa_nil)))) (pss_one (ps_ret (pe_use U_ring_by hr (pa_cons (pv 0) (pa_cons (pv 10) (pa_cons (pe_dget hu (pv 2) (pe_ix ix_tup (pv 7) pe_int (fun _ _ => rfl)) (fun _ _ => rfl)) pa_nil)))))) pss_nil)))
 (pss_one (ps_ret (pe_usemk U_Heights_init hr (pa_cons (pe_lc (own := [("point", 4)]) (g := (gName 4)) (tt := tYes) rfl sc_levels.nd (pi_range1 rfl T.n_range (pa_cons (pe_fld (pv 0) rfl) pa_nil)) (blkOk_by (own := [("point", 4)]) (N := ["web", "heights", "trees", "near", "point", "came", "other", "tie", "way", "ahead", "at"]) (sc := defScope s_levels) (by decide +kernel)) (fun _ _ _ _ _ => (pg_name (i := 4) sc_levels.nd rfl (Or.inl rfl))) (fun _ _ _ _ _ => pts_nil) (fun _ _ _ _ _ => (pe_dget hu (pv 1) (pv 4) (fun _ _ => rfl)))) pa_nil)))))))))
abbrev s_together : Stmt := top 15
theorem sc_together : FnScope ["one", "other"] ["one", "other"] (defScope s_together) := ⟨rfl, rfl, rfl, by decide +kernel, rfl, by decide +kernel, by decide +kernel⟩
theorem ok_together (F : FunD K "together" "together" (defArgs s_together) (defBody s_together) (defScope s_together) [] [] f fd) (T : Nm K mg) (U_Web_init : UseC P w K mg base CX0 4 "Web" (ga K "Web") ["self", "points", "ties", "turn"] (sp_Web_init K)) : FnOk P w K mg base CX0 6 f fd ["one", "other"] (sp_together K) := by
  refine F.ok sc_together (fun vs H Q E h => by first | (obtain ⟨_, rfl, _⟩ := h; rfl) | (obtain ⟨_, _, rfl, _⟩ := h; rfl) | (obtain ⟨_, _, _, rfl, _⟩ := h; rfl) | (obtain ⟨_, _, _, _, rfl, _⟩ := h; rfl) | (obtain ⟨_, _, _, _, _, rfl, _⟩ := h; rfl) | (obtain ⟨_, _, _, _, _, _, rfl, _⟩ := h; rfl) | (obtain ⟨_, _, _, _, _, _, _, rfl, _⟩ := h; rfl) | (obtain ⟨_, _, _, _, _, _, _, _, rfl, _⟩ := h; rfl) | (obtain ⟨_, _, _, _, _, _, _, _, _, rfl, _⟩ := h; rfl) | (obtain ⟨_, _, _, _, _, _, _, _, _, _, rfl, _⟩ := h; rfl) | (obtain ⟨_, _, _, _, _, _, _, _, _, _, _, rfl, _⟩ := h; rfl) | (obtain ⟨_, _, _, _, _, _, _, _, _, _, _, _, rfl, _⟩ := h; rfl) | (obtain ⟨_, _, _, _, _, _, _, _, _, _, _, _, _, rfl, _⟩ := h; rfl) | (obtain ⟨_, _, _, _, _, _, _, _, _, _, _, _, _, _, rfl, _⟩ := h; rfl) | (obtain ⟨_, _, _, _, _, _, _, _, _, _, _, _, _, _, _, rfl, _⟩ := h; rfl) | (obtain ⟨_, _, _, _, _, _, _, _, _, _, _, _, _, _, _, _, rfl, _⟩ := h; rfl)) (fun cdv A outer s H vs Q E hr h => ⟨t_together K, PSs.nox ?_, rd_together vs H Q E h⟩)
  have hu := units_of hr
  exact (pss_cons (ps_if (PW.pt (pw_or (pt_cmpR op_ne (pe_fld (pv 0) rfl) (pe_fld (pv 1) rfl) (nomark _)) (pw_or1 (pt_cmpR op_ne (pe_fld (pv 0) rfl) (pe_fld (pv 1) rfl) (nomark _))))) (pss_one ps_never) pss_nil)
 (pss_one (ps_ret (pe_usemk U_Web_init hr (pa_cons (pe_fld (pv 0) rfl) (pa_cons (pe_op op_cat (pe_fld (pv 0) rfl) (pe_fld (pv 1) rfl)) (pa_cons (pe_fld (pv 0) rfl) pa_nil)))))))
abbrev s_law : Stmt := top 41
theorem sc_law : FnScope ["_law_script", "_law_points", "_law_ties", "_law_turn", "_law_web_here", "_law_turned", "_law_at", "_law_one", "_law_other", "_law_both", "_law_found", "_law_a", "_law_b", "_law_more"] ["_law_script"] (defScope s_law) := ⟨rfl, rfl, rfl, by decide +kernel, rfl, by decide +kernel, by decide +kernel⟩
theorem ok_law (F : FunD K "law" "law" (defArgs s_law) (defBody s_law) (defScope s_law) [] [] f fd) (T : Nm K mg) (U_Heights_shows : UseM P w K mg base CX0 2 (ga K "Heights") "shows" ["self", "web"] (sp_Heights_shows K)) (U_Web_init : UseC P w K mg base CX0 4 "Web" (ga K "Web") ["self", "points", "ties", "turn"] (sp_Web_init K)) (U_Web_ties : UseM P w K mg base CX0 1 (ga K "Web") "ties" ["self"] (sp_Web_ties K)) (U__law_cell_at : Use P w K mg base CX0 1 "_law_cell_at" ["_law_script", "_law_k"] (sp__law_cell_at K)) (U__law_draw : Use P w K mg base CX0 1 "_law_draw" ["_law_cell", "_law_k", "_law_many"] (sp__law_draw K)) (U__law_walks_right : Use P w K mg base CX0 7 "_law_walks_right" ["_law_web_here", "_law_points", "_law_ties", "_law_script"] (sp__law_walks_right K)) (U__law_web : Use P w K mg base CX0 2 "_law_web" ["_law_script"] (sp__law_web K)) (U_about : Use P w K mg base CX0 6 "about" ["web"] (sp_about K)) (U_levels : Use P w K mg base CX0 6 "levels" ["web"] (sp_levels K)) (U_together : Use P w K mg base CX0 6 "together" ["one", "other"] (sp_together K)) : FnOk P w K mg base CX0 8 f fd ["_law_script"] (sp_law K) := by
  refine F.ok sc_law (fun vs H Q E h => by first | (obtain ⟨_, rfl, _⟩ := h; rfl) | (obtain ⟨_, _, rfl, _⟩ := h; rfl) | (obtain ⟨_, _, _, rfl, _⟩ := h; rfl) | (obtain ⟨_, _, _, _, rfl, _⟩ := h; rfl) | (obtain ⟨_, _, _, _, _, rfl, _⟩ := h; rfl) | (obtain ⟨_, _, _, _, _, _, rfl, _⟩ := h; rfl) | (obtain ⟨_, _, _, _, _, _, _, rfl, _⟩ := h; rfl) | (obtain ⟨_, _, _, _, _, _, _, _, rfl, _⟩ := h; rfl) | (obtain ⟨_, _, _, _, _, _, _, _, _, rfl, _⟩ := h; rfl) | (obtain ⟨_, _, _, _, _, _, _, _, _, _, rfl, _⟩ := h; rfl) | (obtain ⟨_, _, _, _, _, _, _, _, _, _, _, rfl, _⟩ := h; rfl) | (obtain ⟨_, _, _, _, _, _, _, _, _, _, _, _, rfl, _⟩ := h; rfl) | (obtain ⟨_, _, _, _, _, _, _, _, _, _, _, _, _, rfl, _⟩ := h; rfl) | (obtain ⟨_, _, _, _, _, _, _, _, _, _, _, _, _, _, rfl, _⟩ := h; rfl) | (obtain ⟨_, _, _, _, _, _, _, _, _, _, _, _, _, _, _, rfl, _⟩ := h; rfl) | (obtain ⟨_, _, _, _, _, _, _, _, _, _, _, _, _, _, _, _, rfl, _⟩ := h; rfl)) (fun cdv A outer s H vs Q E hr h => ⟨t_law K, PSs.nox ?_, rd_law vs H Q E h⟩)
  have hu := units_of hr
  exact (pss_cons (ps_asg (pe_use U__law_web hr (pa_cons (pv 0) pa_nil)) (pg_tup (by rfl) (pgs_cons (pg_name (i := 1) sc_law.nd rfl (Or.inl rfl)) (pgs_cons (pg_name (i := 2) sc_law.nd rfl (Or.inl rfl)) (pgs_cons (pg_name (i := 3) sc_law.nd rfl (Or.inl rfl)) pgs_nil)))))
 (pss_cons (ps_set (i := 4) sc_law.nd rfl (Or.inl rfl) (pe_usemk U_Web_init hr (pa_cons (pv 1) (pa_cons (pv 2) (pa_cons (pv 3) pa_nil)))))
 (pss_cons (ps_set (i := 5) sc_law.nd rfl (Or.inl rfl) (pe_use U_about hr (pa_cons (pv 4) pa_nil)))
 (pss_cons (ps_if (PW.pt (pw_or (pt_cmpR (op_neD hr.units) (pe_usem0 U_Web_ties hr (pv 5)) (pe_lc (own := [("_law_a", 11), ("_law_b", 12), ("_law_more", 13)]) (g := (gTup K 3 (gCons (gName 11) (gCons (gName 12) (gCons (gName 13) gNil))))) (tt := tYes) rfl sc_law.nd (pi_list (pv 2)) (blkOk_by (own := [("_law_a", 11), ("_law_b", 12), ("_law_more", 13)]) (N := ["_law_script", "_law_points", "_law_ties", "_law_turn", "_law_web_here", "_law_turned", "_law_at", "_law_one", "_law_other", "_law_both", "_law_found", "_law_a", "_law_b", "_law_more"]) (sc := defScope s_law) (by decide +kernel)) (fun _ _ _ _ _ => (pg_tup (by rfl) (pgs_cons (pg_name (i := 11) sc_law.nd rfl (Or.inl rfl)) (pgs_cons (pg_name (i := 12) sc_law.nd rfl (Or.inl rfl)) (pgs_cons (pg_name (i := 13) sc_law.nd rfl (Or.inl rfl)) pgs_nil))))) (fun _ _ _ _ _ => pts_nil) (fun _ _ _ _ _ => (pe_tup (pa_cons (pv 12) (pa_cons (pv 11) (pa_cons (pe_un un_neg (pv 13)) pa_nil)))))) (nomark _)) (pw_or1 (pt_cmpR (op_neD hr.units) (pe_tup (pa_cons (pe_fld (pv 5) rfl) (pa_cons (pe_fld (pv 5) rfl) pa_nil))) (pe_tup (pa_cons (pv 1) (pa_cons (pv 3) pa_nil))) (nomark _))))) (pss_one (ps_ret pe_bl)) pss_nil)
 (pss_cons (ps_set (i := 6) sc_law.nd rfl (Or.inl rfl) (pe_use U__law_draw hr (pa_cons (pe_use U__law_cell_at hr (pa_cons (pv 0) (pa_cons pe_int pa_nil))) (pa_cons pe_int (pa_cons (pe_op op_add (pe_callB call_len_seq (by rfl) T.n_len PySem.boot_len (pa_cons (pv 2) pa_nil)) pe_int) pa_nil)))))
 (pss_cons (ps_par (i := 7) (j := 8) (by rfl) sc_law.nd rfl rfl (by decide) rfl rfl (pa_cons (pe_usemk U_Web_init hr (pa_cons (pv 1) (pa_cons (pe_slice sl_list (pv 2) po_none (po_some (pv 6))) (pa_cons (pv 3) pa_nil)))) (pa_cons (pe_usemk U_Web_init hr (pa_cons (pv 1) (pa_cons (pe_slice sl_list (pv 2) (po_some (pv 6)) po_none) (pa_cons (pv 3) pa_nil)))) pa_nil)) (by rfl))
 (pss_cons (ps_set (i := 9) sc_law.nd rfl (Or.inl rfl) (pe_use U_together hr (pa_cons (pv 7) (pa_cons (pv 8) pa_nil))))
 (pss_cons (ps_if (PW.pt (pw_or (pt_cmpR (op_neD hr.units) (pe_usem0 U_Web_ties hr (pv 9)) (pv 2) (nomark _)) (pw_or (pt_cmpR (op_neD hr.units) (pe_tup (pa_cons (pe_fld (pv 9) rfl) (pa_cons (pe_fld (pv 9) rfl) pa_nil))) (pe_tup (pa_cons (pv 1) (pa_cons (pv 3) pa_nil))) (nomark _)) (pw_or1 (pt_cmpR (op_neD hr.units) (pe_usem0 U_Web_ties hr (pe_use U_about hr (pa_cons (pv 5) pa_nil))) (pv 2) (nomark _)))))) (pss_one (ps_ret pe_bl)) pss_nil)
 (pss_cons (ps_if (PW.pt (pw_or (pt_cmpR (op_neD hr.units) (pe_usem0 U_Web_ties hr (pe_use U_together hr (pa_cons (pv 8) (pa_cons (pv 7) pa_nil)))) (pe_op op_cat (pe_slice sl_list (pv 2) (po_some (pv 6)) po_none) (pe_slice sl_list (pv 2) po_none (po_some (pv 6)))) (nomark _)) (pw_or (pt_cmpR (op_neD hr.units) (pe_usem0 U_Web_ties hr (pv 7)) (pe_slice sl_list (pv 2) po_none (po_some (pv 6))) (nomark _)) (pw_or1 (pt_cmpR (op_neD hr.units) (pe_usem0 U_Web_ties hr (pv 8)) (pe_slice sl_list (pv 2) (po_some (pv 6)) po_none) (nomark _)))))) (pss_one (ps_ret pe_bl)) pss_nil)
 (pss_cons (ps_set (i := 10) sc_law.nd rfl (Or.inl rfl) (pe_use U_levels hr (pa_cons (pv 9) pa_nil)))
 (pss_cons (ps_if (PW.pt (pw_and (pt_val (pe_callB call_isi (by rfl) T.n_isinstance (by decide +kernel) (pa_cons (pv 10) (pa_cons (pe_glob rfl T.c_Heights rfl) pa_nil)))) (pw_and1 (pt_not (PW.pt (pw_and (pt_val (pe_usem U_Heights_shows hr (pv 10) (pa_cons (pv 7) pa_nil))) (pw_and1 (pt_val (pe_usem U_Heights_shows hr (pv 10) (pa_cons (pv 8) pa_nil)))))))))) (pss_one (ps_ret pe_bl)) pss_nil)
 (pss_one (ps_ret (pe_and (pe_use U__law_walks_right hr (pa_cons (pv 4) (pa_cons (pv 1) (pa_cons (pv 2) (pa_cons (pv 0) pa_nil))))) (pe_one (pe_cmpR (op_eqD hr.units) (pe_usem0 U_Web_ties hr (pv 4)) (pv 2) (nomark _)))))))))))))))))
end G
namespace G
open PySem PySem.Spec PyProof.Rows L2
/-! ### the head: a hook with one more Bool -/
abbrev AlE : Type := He.AlD × Bool
def obsE (n : Nat) (fa : List He.Fa) (fn : List He.DefD) (ex : PySem.W.Frag → Bool) (g : Addr → Option Obj) : AlE := (He.obsD fa fn (He.frG g (He.asD g n)), ex (He.frG g (He.asD g n)))
def hookE (n : Nat) (fa : List He.Fa) (fn : List He.DefD) (ex : PySem.W.Frag → Bool) : PySem.W.Hook where
  α := AlE
  obs := fun s => obsE n fa fn ex s.heap.get?
  val := fun _ => (He.valD fn, true)
  says := fun _ h => ∃ K : PySem.W.Frag, K.In h ∧ He.SaysD fa fn K ∧ ex K = true
  of := fun _ _ e => ⟨_, He.frG_in, congrArg (fun z : AlE => z.1) e, congrArg (fun z : AlE => z.2) e⟩
  keeps := fun _ _ _ ⟨K, hK, c⟩ k => ⟨K, PySem.W.Frag.In.keeps hK k, c⟩
theorem obsE_eq {n : Nat} {fa : List He.Fa} {fn : List He.DefD} {ex : PySem.W.Frag → Bool} {g : Addr → Option Obj} {s : Shared} (h : ∀ a, g a = s.heap.get? a) : obsE n fa fn ex g = (hookE n fa fn ex).obs s := by
  have e : g = s.heap.get? := funext h
  rw [e] <;> rfl
/-- the class C is the j-th answer's, told by a Bool -/
def kndB (K : PySem.W.Frag) (C : Str) (j : Nat) : Bool :=
  He.eqO (PySem.W.findIn K (.ref (ga K C)) "__class__") (some (some (.builtin "object.__class__"))) && (He.eqO (PySem.W.specialIn K (.builtin "object.__class__") "__get__") (some (some (.builtin "getset_descriptor.__get__"))) &&
  (decide (PySem.W.takesIn K (.builtin "object.__class__") = some true) && (decide (PySem.W.mroIn K (ga K C) (.type "object") = some true) &&
  (List.range 10).all fun i => match kinds[i]? with
    | some D => decide (PySem.W.kitOne K (.ref (ga K C)) (.ref (ga K D)) = some (decide (i = 0 ∨ i = j)))
    | none => true)))
theorem kndB_ok {K : PySem.W.Frag} {C : Str} {j : Nat} (c : Cls K (ga K C)) (h : kndB K C j = true) : Knd K C j := by
  obtain ⟨h1, h⟩ := He.ba h
  obtain ⟨h2, h⟩ := He.ba h
  obtain ⟨h3, h⟩ := He.ba h
  obtain ⟨h4, h⟩ := He.ba h
  refine ⟨c, He.eqO_ok h1, He.eqO_ok h2, of_decide_eq_true h3, of_decide_eq_true h4, fun i D hi => ?_⟩
  have hlt : i < 10 := (List.getElem?_eq_some_iff.mp hi).1
  have q := List.all_eq_true.mp h i (List.mem_range.mpr hlt)
  rw [hi] at q
  exact of_decide_eq_true q
/-- an own class beside another, told by a Bool -/
def kn1B (K : PySem.W.Frag) (C D : Str) (b : Bool) : Bool :=
  He.eqO (PySem.W.findIn K (.ref (ga K C)) "__class__") (some (some (.builtin "object.__class__"))) && (He.eqO (PySem.W.specialIn K (.builtin "object.__class__") "__get__") (some (some (.builtin "getset_descriptor.__get__"))) &&
  (decide (PySem.W.takesIn K (.builtin "object.__class__") = some true) && (decide (PySem.W.mroIn K (ga K C) (.type "object") = some true) && decide (PySem.W.kitOne K (.ref (ga K C)) (.ref (ga K D)) = some b))))
theorem kn1B_ok {K : PySem.W.Frag} {C D : Str} {b : Bool} (c : Cls K (ga K C)) (h : kn1B K C D b = true) : Kn1 K C D b := by
  obtain ⟨h1, h⟩ := He.ba h
  obtain ⟨h2, h⟩ := He.ba h
  obtain ⟨h3, h⟩ := He.ba h
  obtain ⟨h4, h5⟩ := He.ba h
  exact ⟨c, He.eqO_ok h1, He.eqO_ok h2, of_decide_eq_true h3, of_decide_eq_true h4, of_decide_eq_true h5⟩
/-- the own exception class D is the j-th, told by a Bool -/
def exB (K : PySem.W.Frag) (D : Str) (j : Nat) : Bool :=
  He.eqO (PySem.W.findIn K (.ref (ga K D)) "__getattribute__") (some (some (.builtin "BaseException.__getattribute__"))) && (He.eqO (PySem.W.findIn K (.ref (ga K D)) "__getattr__") (some none) && (decide (PySem.W.subIn K (.ref (ga K D)) (.type "BaseException") = some true) && (PySem.W.hasDictIn K (ga K D) &&
  (He.eqO (PySem.W.findIn K (.ref (ga K D)) "__class__") (some (some (.builtin "object.__class__"))) && (He.eqO (PySem.W.specialIn K (.builtin "object.__class__") "__get__") (some (some (.builtin "getset_descriptor.__get__"))) && (decide (PySem.W.takesIn K (.builtin "object.__class__") = some true) && (decide (PySem.W.mroIn K (ga K D) (.type "object") = some true) &&
  (decide (PySem.W.kitOne K (.ref (ga K D)) (.type "ValueError") = some true) && ((List.range 6).all fun i => match excs[i]? with
    | some C => decide (PySem.W.exmOne K (.ref (ga K D)) (.ref (ga K C)) = some (decide (i = 0 ∨ i = j))) && decide (PySem.W.kitOne K (.ref (ga K D)) (.ref (ga K C)) = some (decide (i = 0 ∨ i = j)))
    | none => true)))))))))
theorem exB_ok {K : PySem.W.Frag} {D : Str} {j : Nat} (h : exB K D j = true) : ExK K D j := by
  obtain ⟨h1, h⟩ := He.ba h
  obtain ⟨h2, h⟩ := He.ba h
  obtain ⟨h3, h⟩ := He.ba h
  obtain ⟨h4, h⟩ := He.ba h
  obtain ⟨h5, h⟩ := He.ba h
  obtain ⟨h6, h⟩ := He.ba h
  obtain ⟨h7, h⟩ := He.ba h
  obtain ⟨h8, h⟩ := He.ba h
  obtain ⟨h9, h⟩ := He.ba h
  have q : ∀ i C, excs[i]? = some C → PySem.W.exmOne K (.ref (ga K D)) (.ref (ga K C)) = some (decide (i = 0 ∨ i = j)) ∧ PySem.W.kitOne K (.ref (ga K D)) (.ref (ga K C)) = some (decide (i = 0 ∨ i = j)) := fun i C hi => by
    have hlt : i < 6 := (List.getElem?_eq_some_iff.mp hi).1
    have q := List.all_eq_true.mp h i (List.mem_range.mpr hlt)
    rw [hi] at q
    obtain ⟨a, b⟩ := He.ba q
    exact ⟨of_decide_eq_true a, of_decide_eq_true b⟩
  exact ⟨⟨He.eqO_ok h1, He.eqO_ok h2, of_decide_eq_true h3, h4, He.eqO_ok h5, He.eqO_ok h6, of_decide_eq_true h7, of_decide_eq_true h8⟩, fun i C hi => (q i C hi).1, fun i C hi => (q i C hi).2, of_decide_eq_true h9⟩
end G
namespace Hd
open PySem PySem.Spec PyProof.Rows L2 G
def d_Web_is_nought : He.DefD := ⟨("Web", some "is_nought"), "is_nought", "Web.is_nought", defArgs s_Web_is_nought, defBody s_Web_is_nought, defScope s_Web_is_nought, [], []⟩
def d_Heights_shows : He.DefD := ⟨("Heights", some "shows"), "shows", "Heights.shows", defArgs s_Heights_shows, defBody s_Heights_shows, defScope s_Heights_shows, [], []⟩
def d_is_whole : He.DefD := ⟨("is_whole", none), "is_whole", "is_whole", defArgs s_is_whole, defBody s_is_whole, defScope s_is_whole, [], []⟩
def d_is_below : He.DefD := ⟨("is_below", none), "is_below", "is_below", defArgs s_is_below, defBody s_is_below, defScope s_is_below, [], []⟩
def d_is_tie : He.DefD := ⟨("is_tie", none), "is_tie", "is_tie", defArgs s_is_tie, defBody s_is_tie, defScope s_is_tie, [], []⟩
def d_Web_init : He.DefD := ⟨("Web", some "__init__"), "__init__", "Web.__init__", defArgs s_Web_init, defBody s_Web_init, defScope s_Web_init, [], []⟩
def d_Web_ties : He.DefD := ⟨("Web", some "ties"), "ties", "Web.ties", defArgs s_Web_ties, defBody s_Web_ties, defScope s_Web_ties, [], []⟩
def d__law_cell_at : He.DefD := ⟨("_law_cell_at", none), "_law_cell_at", "_law_cell_at", defArgs s__law_cell_at, defBody s__law_cell_at, defScope s__law_cell_at, [], []⟩
def d__law_draw : He.DefD := ⟨("_law_draw", none), "_law_draw", "_law_draw", defArgs s__law_draw, defBody s__law_draw, defScope s__law_draw, [], []⟩
def d_check_point : He.DefD := ⟨("check_point", none), "check_point", "check_point", defArgs s_check_point, defBody s_check_point, defScope s_check_point, [], []⟩
def d_stepped : He.DefD := ⟨("stepped", none), "stepped", "stepped", defArgs s_stepped, defBody s_stepped, defScope s_stepped, [], []⟩
def d_walked : He.DefD := ⟨("walked", none), "walked", "walked", defArgs s_walked, defBody s_walked, defScope s_walked, [], []⟩
def d_climbX : He.DefD := ⟨("climb", none), "climb", "climb", defArgs s_climbX, defBody s_climbX, defScope s_climbX, [], []⟩
def d__law_climbed : He.DefD := ⟨("_law_climbed", none), "_law_climbed", "_law_climbed", defArgs s__law_climbed, defBody s__law_climbed, defScope s__law_climbed, [], []⟩
def d__law_walk : He.DefD := ⟨("_law_walk", none), "_law_walk", "_law_walk", defArgs s__law_walk, defBody s__law_walk, defScope s__law_walk, [], []⟩
def d__law_walks_right : He.DefD := ⟨("_law_walks_right", none), "_law_walks_right", "_law_walks_right", defArgs s__law_walks_right, defBody s__law_walks_right, defScope s__law_walks_right, [], []⟩
def d__law_web : He.DefD := ⟨("_law_web", none), "_law_web", "_law_web", defArgs s__law_web, defBody s__law_web, defScope s__law_web, [], []⟩
def d_about : He.DefD := ⟨("about", none), "about", "about", defArgs s_about, defBody s_about, defScope s_about, [], []⟩
def d_Heights_init : He.DefD := ⟨("Heights", some "__init__"), "__init__", "Heights.__init__", defArgs s_Heights_init, defBody s_Heights_init, defScope s_Heights_init, [], []⟩
def d_beside : He.DefD := ⟨("beside", none), "beside", "beside", defArgs s_beside, defBody s_beside, defScope s_beside, [], []⟩
def d_reached : He.DefD := ⟨("reached", none), "reached", "reached", defArgs s_reached, defBody s_reached, defScope s_reached, [], []⟩
def d_Ring_init : He.DefD := ⟨("Ring", some "__init__"), "__init__", "Ring.__init__", defArgs s_Ring_init, defBody s_Ring_init, defScope s_Ring_init, [], []⟩
def d_way_back : He.DefD := ⟨("way_back", none), "way_back", "way_back", defArgs s_way_back, defBody s_way_back, defScope s_way_back, [], []⟩
def d_ring_by : He.DefD := ⟨("ring_by", none), "ring_by", "ring_by", defArgs s_ring_by, defBody s_ring_by, defScope s_ring_by, [], []⟩
def d_levels : He.DefD := ⟨("levels", none), "levels", "levels", defArgs s_levels, defBody s_levels, defScope s_levels, [], []⟩
def d_together : He.DefD := ⟨("together", none), "together", "together", defArgs s_together, defBody s_together, defScope s_together, [], []⟩
def d_law : He.DefD := ⟨("law", none), "law", "law", defArgs s_law, defBody s_law, defScope s_law, [], []⟩
def fn : List He.DefD := [d_Web_is_nought, d_Heights_shows, d_is_whole, d_is_below, d_is_tie, d_Web_init, d_Web_ties, d__law_cell_at, d__law_draw, d_check_point, d_stepped, d_walked, d_climbX, d__law_climbed, d__law_walk, d__law_walks_right, d__law_web, d_about, d_Heights_init, d_beside, d_reached, d_Ring_init, d_way_back, d_ring_by, d_levels, d_together, d_law]
def fa0 : List He.Fa := [.glo "law", .free "ValueError", .free "abs", .free "all", .free "any", .free "bool", .free "enumerate", .free "int", .free "isinstance", .free "len", .free "list", .free "range"]
def fa1 : List He.Fa := [.free "tuple", .glo "BadPoint", .glo "BadText", .glo "BadTie", .glo "BadWeb", .glo "Heights", .glo "Unlike", .glo "WebError", .int "GREATEST" 1000000, .exc "BadTie", .cls "Heights", .noat "Heights" "heights"]
def fa2 : List He.Fa := [.cls "Ring", .glo "Ring", .noat "Ring" "steps", .cls "Web", .glo "Web", .noat "Web" "points", .noat "Web" "turn", .noat "Web" "bound", .meth "Web" "is_nought", .meth "Heights" "shows", .glo "is_whole", .glo "is_below"]
def fa3 : List He.Fa := [.glo "is_tie", .mkr "Web", .meth "Web" "ties", .glo "_law_cell_at", .glo "_law_draw", .glo "check_point", .glo "stepped", .glo "walked", .glo "climb", .glo "_law_climbed", .glo "_law_walk", .glo "_law_walks_right"]
def fa4 : List He.Fa := [.glo "_law_web", .glo "about", .mkr "Heights", .glo "beside", .glo "reached", .mkr "Ring", .glo "way_back", .glo "ring_by", .glo "levels", .glo "together"]
def fa : List He.Fa := fa0 ++ fa1 ++ fa2 ++ fa3 ++ fa4
def loose0 : List Str := ["WebError", "BadWeb", "BadPoint", "BadTie", "Unlike", "BadText", "GREATEST", "is_whole", "is_below", "is_tie", "Web", "check_point"]
def loose1 : List Str := ["about", "together", "stepped", "walked", "beside", "reached", "way_back", "Answer", "Heights", "first_point", "Ring", "climb"]
def loose2 : List Str := ["ring_by", "levels", "_law_cell_at", "_law_draw", "_law_web", "_law_nought", "_law_walk", "_law_numbers", "_law_climbed", "_law_walks_right"]
def loose : List Str := loose0 ++ loose1 ++ loose2
def ex (K : PySem.W.Frag) : Bool := exB K "BadTie" 3 && (kn1B K "Heights" "Heights" true && (kn1B K "Ring" "Heights" false))
abbrev R : PySem.W.OpenRow := PySem.W.OpenLaw.row PySem.Challenge.rw_closering_k06_webs
abbrev hk : PySem.W.Hook := hookE 5 fa fn ex
def ob (s : PySem.W.SharedT) : AlE := obsE 5 fa fn ex (HandSHeadRun.getT s)
theorem ob_eq (s : PySem.W.SharedT) : ob s = hk.obs s.abs := obsE_eq (HandSHeadRun.getT_eq s)
theorem run (w : World) : HandSHeadRun.RunEq R (PySem.W.view R.prog [41]) hk ob 20000 loose w := by
  intro os
  kernel_rfl
theorem facts {P : Program} {w : World} {K : PySem.W.Frag} {h : Heap} {mg : Str → Option Value} {f : Addr} (X : K.In h) (G : h.Ns mainGlobals mg) (hfa : mg ("law" : Str) = some (.ref f)) (c : He.SaysD fa fn K) (hx : ex K = true) :
    ∃ fd : FuncData, TopL K ∧ (∀ (s : Shared) (v : Value), BindsTo s fd ⟨[v], []⟩ [("_law_script", v)]) ∧ ∀ base : Heap, K.In base → base.Ns mainGlobals mg → FnOk P w K mg base CX0 8 f fd ["_law_script"] (sp_law K) := by
  have T : Nm K mg := ⟨He.free_ok X G (c.fact 1 (f := .free "ValueError") rfl), He.free_ok X G (c.fact 2 (f := .free "abs") rfl), He.free_ok X G (c.fact 3 (f := .free "all") rfl), He.free_ok X G (c.fact 4 (f := .free "any") rfl), He.free_ok X G (c.fact 5 (f := .free "bool") rfl), He.free_ok X G (c.fact 6 (f := .free "enumerate") rfl), He.free_ok X G (c.fact 7 (f := .free "int") rfl), He.free_ok X G (c.fact 8 (f := .free "isinstance") rfl), He.free_ok X G (c.fact 9 (f := .free "len") rfl), He.free_ok X G (c.fact 10 (f := .free "list") rfl), He.free_ok X G (c.fact 11 (f := .free "range") rfl), He.free_ok X G (c.fact 12 (f := .free "tuple") rfl), He.glo_ok X G (c.fact 13 (f := .glo "BadPoint") rfl), He.glo_ok X G (c.fact 14 (f := .glo "BadText") rfl), He.glo_ok X G (c.fact 15 (f := .glo "BadTie") rfl), He.glo_ok X G (c.fact 16 (f := .glo "BadWeb") rfl), He.glo_ok X G (c.fact 17 (f := .glo "Heights") rfl), He.glo_ok X G (c.fact 18 (f := .glo "Unlike") rfl), He.glo_ok X G (c.fact 19 (f := .glo "WebError") rfl), He.int_ok X G (c.fact 20 (f := .int "GREATEST" 1000000) rfl), He.exc_ok (c.fact 21 (f := .exc "BadTie") rfl)⟩
  have c_Heights : Cls K (ga K "Heights") := He.cls_ok (c.fact 22 (f := .cls "Heights") rfl)
  have c_Ring : Cls K (ga K "Ring") := He.cls_ok (c.fact 24 (f := .cls "Ring") rfl)
  have c_Web : Cls K (ga K "Web") := He.cls_ok (c.fact 27 (f := .cls "Web") rfl)
  have a_Heights_heights : NoAttr K (ga K "Heights") "heights" := He.noat_ok (c.fact 23 (f := .noat "Heights" "heights") rfl)
  have a_Ring_steps : NoAttr K (ga K "Ring") "steps" := He.noat_ok (c.fact 26 (f := .noat "Ring" "steps") rfl)
  have a_Web_points : NoAttr K (ga K "Web") "points" := He.noat_ok (c.fact 29 (f := .noat "Web" "points") rfl)
  have a_Web_turn : NoAttr K (ga K "Web") "turn" := He.noat_ok (c.fact 30 (f := .noat "Web" "turn") rfl)
  have a_Web_bound : NoAttr K (ga K "Web") "bound" := He.noat_ok (c.fact 31 (f := .noat "Web" "bound") rfl)
  obtain ⟨x_BadTie, hx0⟩ := He.ba hx
  obtain ⟨x_Heights_Heights, hx1⟩ := He.ba hx0
  have x_Ring_Heights := hx1
  have k1_Heights_Heights : Kn1 K "Heights" "Heights" true := kn1B_ok c_Heights x_Heights_Heights
  have k1_Ring_Heights : Kn1 K "Ring" "Heights" false := kn1B_ok c_Ring x_Ring_Heights
  have xk_BadTie : ExK K "BadTie" 3 := exB_ok x_BadTie
  obtain ⟨fd_Web_is_nought, F_Web_is_nought⟩ := c.def_ 0 (d := d_Web_is_nought) rfl
  obtain ⟨fd_Heights_shows, F_Heights_shows⟩ := c.def_ 1 (d := d_Heights_shows) rfl
  obtain ⟨fd_is_whole, F_is_whole⟩ := c.def_ 2 (d := d_is_whole) rfl
  obtain ⟨fd_is_below, F_is_below⟩ := c.def_ 3 (d := d_is_below) rfl
  obtain ⟨fd_is_tie, F_is_tie⟩ := c.def_ 4 (d := d_is_tie) rfl
  obtain ⟨fd_Web_init, F_Web_init⟩ := c.def_ 5 (d := d_Web_init) rfl
  obtain ⟨fd_Web_ties, F_Web_ties⟩ := c.def_ 6 (d := d_Web_ties) rfl
  obtain ⟨fd__law_cell_at, F__law_cell_at⟩ := c.def_ 7 (d := d__law_cell_at) rfl
  obtain ⟨fd__law_draw, F__law_draw⟩ := c.def_ 8 (d := d__law_draw) rfl
  obtain ⟨fd_check_point, F_check_point⟩ := c.def_ 9 (d := d_check_point) rfl
  obtain ⟨fd_stepped, F_stepped⟩ := c.def_ 10 (d := d_stepped) rfl
  obtain ⟨fd_walked, F_walked⟩ := c.def_ 11 (d := d_walked) rfl
  obtain ⟨fd_climbX, F_climbX⟩ := c.def_ 12 (d := d_climbX) rfl
  obtain ⟨fd__law_climbed, F__law_climbed⟩ := c.def_ 13 (d := d__law_climbed) rfl
  obtain ⟨fd__law_walk, F__law_walk⟩ := c.def_ 14 (d := d__law_walk) rfl
  obtain ⟨fd__law_walks_right, F__law_walks_right⟩ := c.def_ 15 (d := d__law_walks_right) rfl
  obtain ⟨fd__law_web, F__law_web⟩ := c.def_ 16 (d := d__law_web) rfl
  obtain ⟨fd_about, F_about⟩ := c.def_ 17 (d := d_about) rfl
  obtain ⟨fd_Heights_init, F_Heights_init⟩ := c.def_ 18 (d := d_Heights_init) rfl
  obtain ⟨fd_beside, F_beside⟩ := c.def_ 19 (d := d_beside) rfl
  obtain ⟨fd_reached, F_reached⟩ := c.def_ 20 (d := d_reached) rfl
  obtain ⟨fd_Ring_init, F_Ring_init⟩ := c.def_ 21 (d := d_Ring_init) rfl
  obtain ⟨fd_way_back, F_way_back⟩ := c.def_ 22 (d := d_way_back) rfl
  obtain ⟨fd_ring_by, F_ring_by⟩ := c.def_ 23 (d := d_ring_by) rfl
  obtain ⟨fd_levels, F_levels⟩ := c.def_ 24 (d := d_levels) rfl
  obtain ⟨fd_together, F_together⟩ := c.def_ 25 (d := d_together) rfl
  obtain ⟨fd_law, F_law⟩ := c.def_ 26 (d := d_law) rfl
  have e := hfa.symm.trans (He.glo_ok X G (c.fact 0 (f := .glo "law") rfl))
  cases e
  have b := FunD.bindsA (ps := ["_law_script"]) F_law fun _ _ _ _ _ _ us hl => match us, hl with | [_], _ => rfl
  refine ⟨fd_law, ⟨⟨c_Web, a_Web_points, a_Web_turn, a_Web_bound⟩, ⟨⟨c_Heights, a_Heights_heights⟩, ⟨c_Ring, a_Ring_steps⟩⟩, k1_Heights_Heights, k1_Ring_Heights, xk_BadTie⟩, fun s v => b s [v] rfl, fun base _ _ => ?_⟩
  have U_Web_is_nought : UseM P w K mg base CX0 1 (ga K "Web") "is_nought" ["self", "number"] (sp_Web_is_nought K) := ⟨c_Web, _, fd_Web_is_nought, He.meth_ok (c.fact 32 (f := .meth "Web" "is_nought") rfl), (F_Web_is_nought.bindsN fun _ _ _ _ _ _ us hl => match us, hl with | [_, _], _ => rfl), (ok_Web_is_nought F_Web_is_nought T )⟩
  have U_Heights_shows : UseM P w K mg base CX0 2 (ga K "Heights") "shows" ["self", "web"] (sp_Heights_shows K) := ⟨c_Heights, _, fd_Heights_shows, He.meth_ok (c.fact 33 (f := .meth "Heights" "shows") rfl), (F_Heights_shows.bindsN fun _ _ _ _ _ _ us hl => match us, hl with | [_, _], _ => rfl), (ok_Heights_shows F_Heights_shows T U_Web_is_nought)⟩
  have U_is_whole : Use P w K mg base CX0 1 "is_whole" ["thing"] (sp_is_whole K) := ⟨_, fd_is_whole, He.glo_ok X G (c.fact 34 (f := .glo "is_whole") rfl), F_is_whole.kp, (F_is_whole.bindsN fun _ _ _ _ _ _ us hl => match us, hl with | [_], _ => rfl), (ok_is_whole F_is_whole T )⟩
  have U_is_below : Use P w K mg base CX0 2 "is_below" ["thing", "many"] (sp_is_below K) := ⟨_, fd_is_below, He.glo_ok X G (c.fact 35 (f := .glo "is_below") rfl), F_is_below.kp, (F_is_below.bindsN fun _ _ _ _ _ _ us hl => match us, hl with | [_, _], _ => rfl), (ok_is_below F_is_below T U_is_whole)⟩
  have U_is_tie : Use P w K mg base CX0 3 "is_tie" ["thing", "points"] (sp_is_tie K) := ⟨_, fd_is_tie, He.glo_ok X G (c.fact 36 (f := .glo "is_tie") rfl), F_is_tie.kp, (F_is_tie.bindsN fun _ _ _ _ _ _ us hl => match us, hl with | [_, _], _ => rfl), (ok_is_tie F_is_tie T U_is_below U_is_whole)⟩
  have U_Web_init : UseC P w K mg base CX0 4 "Web" (ga K "Web") ["self", "points", "ties", "turn"] (sp_Web_init K) := ⟨He.glo_ok X G (c.fact 28 (f := .glo "Web") rfl), _, fd_Web_init, He.mkr_ok (c.fact 37 (f := .mkr "Web") rfl), (F_Web_init.bindsN fun _ _ _ _ _ _ us hl => match us, hl with | [_, _, _, _], _ => rfl), (ok_Web_init F_Web_init T U_is_below U_is_tie)⟩
  have U_Web_ties : UseM P w K mg base CX0 1 (ga K "Web") "ties" ["self"] (sp_Web_ties K) := ⟨c_Web, _, fd_Web_ties, He.meth_ok (c.fact 38 (f := .meth "Web" "ties") rfl), (F_Web_ties.bindsN fun _ _ _ _ _ _ us hl => match us, hl with | [_], _ => rfl), (ok_Web_ties F_Web_ties T )⟩
  have U__law_cell_at : Use P w K mg base CX0 1 "_law_cell_at" ["_law_script", "_law_k"] (sp__law_cell_at K) := ⟨_, fd__law_cell_at, He.glo_ok X G (c.fact 39 (f := .glo "_law_cell_at") rfl), F__law_cell_at.kp, (F__law_cell_at.bindsN fun _ _ _ _ _ _ us hl => match us, hl with | [_, _], _ => rfl), (ok__law_cell_at F__law_cell_at T )⟩
  have U__law_draw : Use P w K mg base CX0 1 "_law_draw" ["_law_cell", "_law_k", "_law_many"] (sp__law_draw K) := ⟨_, fd__law_draw, He.glo_ok X G (c.fact 40 (f := .glo "_law_draw") rfl), F__law_draw.kp, (F__law_draw.bindsN fun _ _ _ _ _ _ us hl => match us, hl with | [_, _, _], _ => rfl), (ok__law_draw F__law_draw T )⟩
  have U_check_point : Use P w K mg base CX0 3 "check_point" ["web", "point"] (sp_check_point K) := ⟨_, fd_check_point, He.glo_ok X G (c.fact 41 (f := .glo "check_point") rfl), F_check_point.kp, (F_check_point.bindsN fun _ _ _ _ _ _ us hl => match us, hl with | [_, _], _ => rfl), (ok_check_point F_check_point T U_is_below)⟩
  have U_stepped : Use P w K mg base CX0 3 "stepped" ["web", "point", "step"] (sp_stepped K) := ⟨_, fd_stepped, He.glo_ok X G (c.fact 42 (f := .glo "stepped") rfl), F_stepped.kp, (F_stepped.bindsN fun _ _ _ _ _ _ us hl => match us, hl with | [_, _, _], _ => rfl), (ok_stepped F_stepped T U_is_below U_is_whole)⟩
  have U_walked : Use P w K mg base CX0 4 "walked" ["web", "start", "steps"] (sp_walked K) := ⟨_, fd_walked, He.glo_ok X G (c.fact 43 (f := .glo "walked") rfl), F_walked.kp, (F_walked.bindsN fun _ _ _ _ _ _ us hl => match us, hl with | [_, _, _], _ => rfl), (ok_walked F_walked T U_stepped)⟩
  have U_climbX : Use P w K mg base (L2N.CX P w) 5 "climb" ["web", "start", "steps"] (sp_climbX K) := ⟨_, fd_climbX, He.glo_ok X G (c.fact 44 (f := .glo "climb") rfl), F_climbX.kp, (F_climbX.bindsN fun _ _ _ _ _ _ us hl => match us, hl with | [_, _, _], _ => rfl), (ok_climbX F_climbX T U_check_point U_walked)⟩
  have U__law_climbed : Use P w K mg base CX0 6 "_law_climbed" ["_law_web_here", "_law_start", "_law_steps"] (sp__law_climbed K) := ⟨_, fd__law_climbed, He.glo_ok X G (c.fact 45 (f := .glo "_law_climbed") rfl), F__law_climbed.kp, (F__law_climbed.bindsN fun _ _ _ _ _ _ us hl => match us, hl with | [_, _, _], _ => rfl), (ok__law_climbed F__law_climbed T U_climbX)⟩
  have U__law_walk : Use P w K mg base CX0 1 "_law_walk" ["_law_ties", "_law_start", "_law_steps"] (sp__law_walk K) := ⟨_, fd__law_walk, He.glo_ok X G (c.fact 46 (f := .glo "_law_walk") rfl), F__law_walk.kp, (F__law_walk.bindsN fun _ _ _ _ _ _ us hl => match us, hl with | [_, _, _], _ => rfl), (ok__law_walk F__law_walk T )⟩
  have U__law_walks_right : Use P w K mg base CX0 7 "_law_walks_right" ["_law_web_here", "_law_points", "_law_ties", "_law_script"] (sp__law_walks_right K) := ⟨_, fd__law_walks_right, He.glo_ok X G (c.fact 47 (f := .glo "_law_walks_right") rfl), F__law_walks_right.kp, (F__law_walks_right.bindsN fun _ _ _ _ _ _ us hl => match us, hl with | [_, _, _, _], _ => rfl), (ok__law_walks_right F__law_walks_right T U__law_cell_at U__law_climbed U__law_draw U__law_walk)⟩
  have U__law_web : Use P w K mg base CX0 2 "_law_web" ["_law_script"] (sp__law_web K) := ⟨_, fd__law_web, He.glo_ok X G (c.fact 48 (f := .glo "_law_web") rfl), F__law_web.kp, (F__law_web.bindsN fun _ _ _ _ _ _ us hl => match us, hl with | [_], _ => rfl), (ok__law_web F__law_web T U__law_cell_at U__law_draw)⟩
  have U_about : Use P w K mg base CX0 6 "about" ["web"] (sp_about K) := ⟨_, fd_about, He.glo_ok X G (c.fact 49 (f := .glo "about") rfl), F_about.kp, (F_about.bindsN fun _ _ _ _ _ _ us hl => match us, hl with | [_], _ => rfl), (ok_about F_about T U_Web_init)⟩
  have U_Heights_init : UseC P w K mg base CX0 1 "Heights" (ga K "Heights") ["self", "heights"] (sp_Heights_init K) := ⟨He.glo_ok X G (c.fact 17 (f := .glo "Heights") rfl), _, fd_Heights_init, He.mkr_ok (c.fact 50 (f := .mkr "Heights") rfl), (F_Heights_init.bindsN fun _ _ _ _ _ _ us hl => match us, hl with | [_, _], _ => rfl), (ok_Heights_init F_Heights_init T )⟩
  have U_beside : Use P w K mg base CX0 2 "beside" ["web", "skipped", "friends"] (sp_beside K) := ⟨_, fd_beside, He.glo_ok X G (c.fact 51 (f := .glo "beside") rfl), F_beside.kp, (F_beside.bindsN fun _ _ _ _ _ _ us hl => match us, hl with | [_, _, _], _ => rfl), (ok_beside F_beside T U_Web_is_nought)⟩
  have U_reached : Use P w K mg base CX0 4 "reached" ["web", "start", "near"] (sp_reached K) := ⟨_, fd_reached, He.glo_ok X G (c.fact 52 (f := .glo "reached") rfl), F_reached.kp, (F_reached.bindsN fun _ _ _ _ _ _ us hl => match us, hl with | [_, _, _], _ => rfl), (ok_reached F_reached T U_stepped)⟩
  have U_Ring_init : UseC P w K mg base CX0 1 "Ring" (ga K "Ring") ["self", "steps"] (sp_Ring_init K) := ⟨He.glo_ok X G (c.fact 25 (f := .glo "Ring") rfl), _, fd_Ring_init, He.mkr_ok (c.fact 53 (f := .mkr "Ring") rfl), (F_Ring_init.bindsN fun _ _ _ _ _ _ us hl => match us, hl with | [_, _], _ => rfl), (ok_Ring_init F_Ring_init T )⟩
  have U_way_back : Use P w K mg base CX0 4 "way_back" ["web", "came", "point"] (sp_way_back K) := ⟨_, fd_way_back, He.glo_ok X G (c.fact 54 (f := .glo "way_back") rfl), F_way_back.kp, (F_way_back.bindsN fun _ _ _ _ _ _ us hl => match us, hl with | [_, _, _], _ => rfl), (ok_way_back F_way_back T U_stepped)⟩
  have U_ring_by : Use P w K mg base CX0 5 "ring_by" ["web", "tie", "came"] (sp_ring_by K) := ⟨_, fd_ring_by, He.glo_ok X G (c.fact 55 (f := .glo "ring_by") rfl), F_ring_by.kp, (F_ring_by.bindsN fun _ _ _ _ _ _ us hl => match us, hl with | [_, _, _], _ => rfl), (ok_ring_by F_ring_by T U_Ring_init U_way_back)⟩
  have U_levels : Use P w K mg base CX0 6 "levels" ["web"] (sp_levels K) := ⟨_, fd_levels, He.glo_ok X G (c.fact 56 (f := .glo "levels") rfl), F_levels.kp, (F_levels.bindsN fun _ _ _ _ _ _ us hl => match us, hl with | [_], _ => rfl), (ok_levels F_levels T U_Heights_init U_Web_is_nought U_beside U_reached U_ring_by U_stepped)⟩
  have U_together : Use P w K mg base CX0 6 "together" ["one", "other"] (sp_together K) := ⟨_, fd_together, He.glo_ok X G (c.fact 57 (f := .glo "together") rfl), F_together.kp, (F_together.bindsN fun _ _ _ _ _ _ us hl => match us, hl with | [_, _], _ => rfl), (ok_together F_together T U_Web_init)⟩
  exact ok_law F_law T U_Heights_shows U_Web_init U_Web_ties U__law_cell_at U__law_draw U__law_walks_right U__law_web U_about U_levels U_together
end Hd
open PySem PySem.W PySem.Calls PyProof.Rows
theorem PySem.Challenge.cw_closering_k06_webs_holds : PySem.Challenge.rw_closering_k06_webs.Holds := by
  w_on; o_law
  refine HandSHeadRun.head_any (r := OpenLaw.row PySem.Challenge.rw_closering_k06_webs) (q := view (OpenLaw.row PySem.Challenge.rw_closering_k06_webs).prog [41]) (H := Hd.hk) (ob := Hd.ob) (M := 20000) (loose := Hd.loose) (d := HandSHeadRun.topDef (OpenLaw.row PySem.Challenge.rw_closering_k06_webs).prog 41) (kwd := []) Hd.ob_eq
    (by kernel_rfl) (fun s => by kernel_rfl) Hd.run (by kernel_rfl) (by kernel_rfl) (by kernel_rfl) (by rfl) (by first | assumption | decide +kernel) (by decide +kernel) ⟨rfl, rfl, rfl, rfl, rfl, by decide +kernel⟩ ?hw ?hc
  case hw => w_witness2
  case hc =>
    refine L2.walk_ofE (l := PySem.Challenge.rw_closering_k06_webs) (n := 63) (k := 8) (x := "_law_script") (CX := L2.CX0) rfl (by decide) (by kernel_rfl) ⟨rfl, by decide, by decide⟩ ?F (fun _ _ _ _ z => z)
    intro w mg fa h Y G hmg0
    obtain ⟨K, KX, c, hx⟩ := Y
    have hmg : mg ("law" : PySem.Str) = some (.ref fa) := by
      have e : (HandSHeadRun.topDef (OpenLaw.row PySem.Challenge.rw_closering_k06_webs).prog 41).name = ("law" : PySem.Str) := by kernel_rfl
      rw [← e]
      exact hmg0
    obtain ⟨fd, T, hb, hF⟩ := Hd.facts (P := (PySem.Challenge.rw_closering_k06_webs).prog) (w := w) KX G hmg c hx
    exact ⟨K, fd, _root_.G.sp_law K, KX, hb, fun H a ns hl _ hS => ⟨a, ns, rfl, hS, hl, T, fun _ => rfl⟩, hF⟩
