import PyProof.Rows.All
import Wide.All
import OpenK.AllK
import Wide.FinOn
import KE.KStateDown
import KE.KEqNest
import Lean
import HandS.ForMost
import HandS.Exc
import HandS.Defaults
import HandS.TupAny
import HandS.IsInst
import HandS.Deep
import HandS.DeepEq
import HandS.Codes
import HandS.Style
import HandS.Flow
import HandS.Finally
import HandS.Head0
import HandS.Head1
import HandS.Head2
import HandS.HeadEnd
import HandS.HeadHook1
import HandS.HeadHook2
import HandS.HeadHook3
import HandS.HeadHook4
import HandS.Walk
import KE.DataEq
import PySem.Challenge.RW_redo_k55_weave_moves
set_option Elab.async false
set_option linter.all false
set_option maxRecDepth 100000
set_option maxHeartbeats 4000000
namespace Wk
open PySem PySem.Spec PyProof.Rows L2
def top (i : Nat) : Stmt := PySem.Challenge.pw_redo_k55_weave_moves.main.body.getD i (.Pass ⟨0, 0, 0, 0⟩)

/-! ### defs as they stand, defs that may be called -/
abbrev FnP (K : PySem.W.Frag) (x qual : Str) (st : Stmt) (f : Addr) (fd : FuncData) : Prop := FunD K x qual (defArgs st) (defBody st) (defScope st) [] [] f fd
structure DefAt (K : PySem.W.Frag) (mg : Str → Option Value) (x : Str) (st : Stmt) (ps : List Str) : Prop where
  ex : ∃ (f : Addr) (fd : FuncData), FnP K x x st f fd ∧ mg x = some (.ref f) ∧ Binds K fd ps []
structure MetAt (K : PySem.W.Frag) (C : Addr) (m qual : Str) (st : Stmt) (ps : List Str) : Prop where
  ex : ∃ (f : Addr) (fd : FuncData), FnP K m qual st f fd ∧ Meth K C m f ∧ Binds K fd ps []
structure IniAt (K : PySem.W.Frag) (C : Addr) (qual : Str) (st : Stmt) (ps : List Str) : Prop where
  ex : ∃ (f : Addr) (fd : FuncData), FnP K "__init__" qual st f fd ∧ Mk K C f ∧ Binds K fd ps []
/-- a def that may be called by its name -/
structure Cal (P : Program) (w : World) (K : PySem.W.Frag) (mg : Str → Option Value) (base : Heap) (k : Nat) (x : Str) (sp : Sp) : Prop where
  ex : ∃ (f : Addr) (fd : FuncData) (ps : List Str), FnOk P w K mg base CX0 k f fd ps sp ∧ mg x = some (.ref f) ∧ PySem.W.keepIn K (.ref f) = true ∧ Binds K fd ps []
structure Met (P : Program) (w : World) (K : PySem.W.Frag) (mg : Str → Option Value) (base : Heap) (k : Nat) (C : Addr) (m : Str) (sp : Sp) : Prop where
  ex : ∃ (f : Addr) (fd : FuncData) (ps : List Str), Cls K C ∧ Meth K C m f ∧ FnOk P w K mg base CX0 k f fd ps sp ∧ Binds K fd ps []
structure Mak (P : Program) (w : World) (K : PySem.W.Frag) (mg : Str → Option Value) (base : Heap) (k : Nat) (C : Addr) (sp : Sp) : Prop where
  ex : ∃ (f : Addr) (fd : FuncData) (ps : List Str), Mk K C f ∧ FnOk P w K mg base CX0 k f fd ps sp ∧ Binds K fd ps []
section
variable {P : Program} {w : World} {K : PySem.W.Frag} {mg : Str → Option Value} {base : Heap} {k : Nat} {sp sp' : Sp} {x m qual : Str} {st : Stmt} {N ps : List Str} {C : Addr}
/-- what a def's body is to show -/
def BodyOk (P : Program) (w : World) (K : PySem.W.Frag) (mg : Str → Option Value) (base : Heap) (k : Nat) (qual : Str) (st : Stmt) (N : List Str) (sp : Sp) : Prop :=
  ∀ (f : Addr) (cdv : Value) (A : Around) (outer : List Env) (s : Shared) (H : Hp) (vs : List V) (Q : VK) (E : XK), Room k (A.deeper (envOfC qual (defScope st) s.heap.objs.size f cdv)) → sp vs H Q E →
      ∃ t, PSs (cxOf CX0 P w K mg base N qual (defScope st) f cdv A outer s H E).nox (defBody st) t ∧ t { nx := fun _ H' => Q .non H', rt := Q } (start N vs) H
theorem fnok_of {f : Addr} {fd : FuncData} (F : FnP K x qual st f fd) (S : FnScope N ps (defScope st)) (len : ∀ vs H Q E, sp vs H Q E → vs.length = ps.length) (hb : BodyOk P w K mg base k qual st N sp) : FnOk P w K mg base CX0 (k + 1) f fd ps sp :=
  F.ok S len fun cdv A outer s H vs Q E hr h => by
    obtain ⟨t, p, q⟩ := hb f cdv A outer s H vs Q E hr h
    exact ⟨t, p.nox, q⟩
theorem cal_of (D : DefAt K mg x st ps) (S : FnScope N ps (defScope st)) (len : ∀ vs H Q E, sp vs H Q E → vs.length = ps.length) (hb : BodyOk P w K mg base k x st N sp) : Cal P w K mg base (k + 1) x sp := by
  obtain ⟨f, fd, F, hm, b⟩ := D.ex
  exact ⟨f, fd, ps, fnok_of F S len hb, hm, F.kp, b⟩
theorem met_of (c : Cls K C) (D : MetAt K C m qual st ps) (S : FnScope N ps (defScope st)) (len : ∀ vs H Q E, sp vs H Q E → vs.length = ps.length) (hb : BodyOk P w K mg base k qual st N sp) : Met P w K mg base (k + 1) C m sp := by
  obtain ⟨f, fd, F, hm, b⟩ := D.ex
  exact ⟨f, fd, ps, c, hm, fnok_of F S len hb, b⟩
theorem mak_of (D : IniAt K C qual st ps) (S : FnScope N ps (defScope st)) (len : ∀ vs H Q E, sp vs H Q E → vs.length = ps.length) (hb : BodyOk P w K mg base k qual st N sp) : Mak P w K mg base (k + 1) C sp := by
  obtain ⟨f, fd, F, hm, b⟩ := D.ex
  exact ⟨f, fd, ps, hm, fnok_of F S len hb, b⟩
theorem Cal.mono {j : Nat} (c : Cal P w K mg base j x sp) (h : j ≤ k) : Cal P w K mg base k x sp := by
  obtain ⟨f, fd, ps, F, r⟩ := c.ex
  exact ⟨f, fd, ps, F.mono h, r⟩
/-- nothing is promised of no call: a def that stands keeps it at level 0 -/
theorem cal_zero (D : DefAt K mg x st ps) (h : ∀ vs H Q E, ¬ sp vs H Q E) : Cal P w K mg base 0 x sp := by
  obtain ⟨f, fd, F, hm, b⟩ := D.ex
  exact ⟨f, fd, ps, ⟨fun vs H Q E z => absurd z (h vs H Q E), fun A outer s H args us vs Q E _ _ _ _ z => absurd z (h vs H Q E)⟩, hm, F.kp, b⟩
end
section
variable {X : Cx} {k j : Nat} {C : Addr} {x m : Str} {sp : Sp} {p pos apos : Pos} {e o : Expr} {es : List Expr} {ta : TE} {t : TA}
theorem pe_cl (c : Cal X.prog X.w X.K X.mg X.base k x sp) (hr : Room j X.A) (hk : k ≤ j) (hg : Gl X x) (ha : PA X (e :: es) t)
    (hdb : (x == ("__debug__" : Str)) = false := by decide) (he : starEach (e :: es) X.env = (false, eval e X.env) :: starEach es X.env := by rfl) (hpl : (backTo pos (starEach es X.env)).any (·.1) = false := by rfl) :
    PE X (.Call (.Name x p) (e :: es) [] pos) (tCall sp [] E0 t) := by
  obtain ⟨f, fd, ps, F, hm, kp, b⟩ := c.ex
  exact pe_call F (hr.mono hk) hg hm kp b .nil pass0 ha hdb he hpl
theorem pe_mk (c : Mak X.prog X.w X.K X.mg X.base k C sp) (hr : Room j X.A) (hk : k + 1 ≤ j) (hg : Gl X x) (hm : X.mg x = some (.ref C)) (ha : PA X (e :: es) t)
    (hdb : (x == ("__debug__" : Str)) = false := by decide) (he : starEach (e :: es) X.env = (false, eval e X.env) :: starEach es X.env := by rfl) (hpl : (backTo pos (starEach es X.env)).any (·.1) = false := by rfl) :
    PE X (.Call (.Name x p) (e :: es) [] pos) (tMake C sp [] E0 t) := by
  obtain ⟨f, fd, ps, M, F, b⟩ := c.ex
  exact pe_make M F (hr.mono hk) hg hm b .nil pass0 ha hdb he hpl
theorem pe_mt {pl : Sem Bool} (c : Met X.prog X.w X.K X.mg X.base k C m sp) (hr : Room j X.A) (hk : k ≤ j) (he : PE X o ta) (ha : PA X (e :: es) t)
    (hst : starEach (e :: es) X.env = (false, eval e X.env) :: starEach es X.env := by rfl) (hpl : (backTo pos (starEach es X.env)).any (·.1) = false := by rfl)
    (ht : eval (.Call (.Attribute o m apos) (e :: es) [] pos) X.env = (do
      let ov ← eval o X.env
      standAt apos.atName
      let (f, first) ← holding [ov] (getMethod ov m pl)
      callWith pos f first (backTo pos (starEach (e :: es) X.env)) (backToKw pos (keywordEach [] X.env))) := by rfl) :
    PE X (.Call (.Attribute o m apos) (e :: es) [] pos) (tMeth C m sp [] E0 ta t) := by
  obtain ⟨f, fd, ps, hc, hm, F, b⟩ := c.ex
  exact pe_meth (pl := pl) he hc hm F (hr.mono hk) b .nil pass0 ha hst hpl ht
theorem pe_mt0 {pl : Sem Bool} (c : Met X.prog X.w X.K X.mg X.base k C m sp) (hr : Room j X.A) (hk : k ≤ j) (he : PE X o ta)
    (ht : eval (.Call (.Attribute o m apos) [] [] pos) X.env = (do
      let ov ← eval o X.env
      standAt apos.atName
      let (f, first) ← holding [ov] (getMethod ov m pl)
      callWith pos f first (backTo pos (starEach [] X.env)) (backToKw pos (keywordEach [] X.env))) := by rfl) :
    PE X (.Call (.Attribute o m apos) [] [] pos) (tMeth C m sp [] E0 ta tNil) := by
  obtain ⟨f, fd, ps, hc, hm, F, b⟩ := c.ex
  exact pe_meth0 (pl := pl) he hc hm F (hr.mono hk) b .nil pass0 ht
end

/-! ### other readings -/
section
variable {X : Cx} {e a b : Expr} {t t' ta tb : TE} {pos : Pos}
theorem pe_conv (h : PE X e t) (c : ∀ σ H Q, t' σ H Q → t σ H Q) : PE X e t' := ⟨fun pins s σ H Q I q => h.run pins s σ H Q I (c σ H Q q)⟩
theorem pe_or2 (h : PE X e t) (h' : PE X e t') : PE X e (fun σ H Q => t σ H Q ∨ t' σ H Q) := ⟨fun pins s σ H Q I q => by
  rcases q with q | q
  · exact h.run pins s σ H Q I q
  · exact h'.run pins s σ H Q I q⟩
end

end Wk
namespace L2
open PySem PySem.Spec PyProof.Rows
/-! ### heaps -/
/-- all that was tracked is as it was -/
abbrev Ex (H H' : Hp) : Prop := Same H H'
theorem Ex.new {H : Hp} {p : Addr} {o : HO} (h : H p = none) : Ex H (upd H p o) := fun a u e => by
  rw [upd_ne (ne_of_none e h)]
  exact e
/-- an object that H does not know may change -/
theorem Ex.mut {H H' : Hp} {p : Addr} {o : HO} (e : Ex H H') (h : H p = none) : Ex H (upd H' p o) := fun a u ha => by
  rw [upd_ne (ne_of_none ha h)]
  exact e a u ha
theorem Ex.back {H H' : Hp} {p : Addr} (e : Ex H H') (h : H' p = none) : H p = none := Same.free e h
theorem ex_rd {H H' : Hp} {a : Addr} {u : HO} (e : Ex H H') (h : Rd H a u) : Rd H' a u := by
  rcases h with h | ⟨o, h⟩
  · exact Or.inl (e a _ h)
  · exact Or.inr ⟨o, e a _ h⟩
theorem ex_l {K : PySem.W.Frag} {H H' : Hp} {a : Addr} {xs : List V} (e : Ex H H') (h : SqL K H a xs) : SqL K H' a xs := by
  rcases h with h | h
  · exact Or.inl (ex_rd e h)
  · exact Or.inr h
theorem ex_t {K : PySem.W.Frag} {H H' : Hp} {a : Addr} {xs : List V} (e : Ex H H') (h : SqT K H a xs) : SqT K H' a xs := by
  rcases h with h | h
  · exact Or.inl (ex_rd e h)
  · exact Or.inr h
/-- the tuples are as they were (frozen things too) -/
def Tu (H H' : Hp) : Prop := (∀ a xs, H a = some (.tup xs) → H' a = some (.tup xs)) ∧ ∀ a o u, H a = some (.frz o u) → H' a = some (.frz o u)
theorem Tu.refl (H : Hp) : Tu H H := ⟨fun _ _ h => h, fun _ _ _ h => h⟩
theorem Tu.trans {H H1 H2 : Hp} (a : Tu H H1) (b : Tu H1 H2) : Tu H H2 := ⟨fun c o h => b.1 c o (a.1 c o h), fun c o u h => b.2 c o u (a.2 c o u h)⟩
theorem Same.tu {H H' : Hp} (e : Same H H') : Tu H H' := ⟨fun a xs h => e a _ h, fun a o u h => e a _ h⟩
/-- what may be written by a store -/
def mutO : HO → Bool
  | .tup _ => false
  | .frz _ _ => false
  | _ => true
theorem Tu.mut {H : Hp} {p : Addr} {o o' : HO} (h : H p = some o') (m : mutO o' = true := by rfl) : Tu H (upd H p o) := by
  refine ⟨fun a xs e => ?_, fun a x u e => ?_⟩
  · have n : a ≠ p := fun z => by subst z; rw [h] at e; cases e; cases m
    rw [upd_ne n]
    exact e
  · have n : a ≠ p := fun z => by subst z; rw [h] at e; cases e; cases m
    rw [upd_ne n]
    exact e
theorem tu_t {K : PySem.W.Frag} {H H' : Hp} {a : Addr} {xs : List V} (e : Tu H H') (h : SqT K H a xs) : SqT K H' a xs := by
  rcases h with (h | ⟨o, h⟩) | h
  · exact Or.inl (Or.inl (e.1 a _ h))
  · exact Or.inl (Or.inr ⟨o, e.2 a _ _ h⟩)
  · exact Or.inr h

/-! ### data -/
mutual
theorem Dp.mono {K : PySem.W.Frag} {H H' : Hp} (e : Ex H H') : ∀ (d : PyData) (v : V), Dp K H v d → Dp K H' v d
  | .none, _, h => by cases h; exact .non
  | .bool _, _, h => by cases h; exact .bl _
  | .int _, _, h => by cases h; exact .int _
  | .str _, _, h => by cases h; exact .str _
  | .list ds, _, h => by
    cases h with
    | lst hs ha => exact .lst (ex_l e hs) (DpAll.mono e ds _ ha)
  | .tuple ds, _, h => by
    cases h with
    | tup hs ha => exact .tup (ex_t e hs) (DpAll.mono e ds _ ha)
  | .dict _, _, h => by cases h
theorem DpAll.mono {K : PySem.W.Frag} {H H' : Hp} (e : Ex H H') : ∀ (ds : List PyData) (vs : List V), DpAll K H vs ds → DpAll K H' vs ds
  | [], _, h => by cases h; exact .nil
  | d :: ds, _, h => by
    cases h with
    | cons h1 h2 => exact .cons (Dp.mono e d _ h1) (DpAll.mono e ds _ h2)
end
mutual
/-- no list within -/
def imm : PyData → Bool
  | .none => true
  | .bool _ => true
  | .int _ => true
  | .str _ => true
  | .list _ => false
  | .tuple ds => immAll ds
  | .dict _ => false
def immAll : List PyData → Bool
  | [] => true
  | d :: ds => imm d && immAll ds
end
mutual
theorem Dp.tu {K : PySem.W.Frag} {H H' : Hp} (e : Tu H H') : ∀ (d : PyData) (v : V), imm d = true → Dp K H v d → Dp K H' v d
  | .none, _, _, h => by cases h; exact .non
  | .bool _, _, _, h => by cases h; exact .bl _
  | .int _, _, _, h => by cases h; exact .int _
  | .str _, _, _, h => by cases h; exact .str _
  | .list ds, _, i, h => by
    rw [imm] at i
    cases i
  | .tuple ds, _, i, h => by
    rw [imm] at i
    cases h with
    | tup hs ha => exact .tup (tu_t e hs) (DpAll.tu e ds _ i ha)
  | .dict _, _, _, h => by cases h
theorem DpAll.tu {K : PySem.W.Frag} {H H' : Hp} (e : Tu H H') : ∀ (ds : List PyData) (vs : List V), immAll ds = true → DpAll K H vs ds → DpAll K H' vs ds
  | [], _, _, h => by cases h; exact .nil
  | d :: ds, _, i, h => by
    rw [immAll, Bool.and_eq_true] at i
    cases h with
    | cons h1 h2 => exact .cons (Dp.tu e d _ i.1 h1) (DpAll.tu e ds _ i.2 h2)
end
section
variable {K : PySem.W.Frag} {H H' : Hp} {v : V}
theorem Dp.up {d : PyData} (h : Dp K H v d) (e : Ex H H') : Dp K H' v d := Dp.mono e d v h
theorem DpAll.up {ds : List PyData} {vs : List V} (h : DpAll K H vs ds) (e : Ex H H') : DpAll K H' vs ds := DpAll.mono e ds vs h
theorem dp_int {i : Int} (h : Dp K H v (.int i)) : v = .int i := by cases h; rfl
theorem dp_str {x : Str} (h : Dp K H v (.str x)) : v = .str x := by cases h; rfl
theorem dp_bl {b : Bool} (h : Dp K H v (.bool b)) : v = .bl b := by cases h; rfl
theorem dp_non (h : Dp K H v .none) : v = .non := by cases h; rfl
theorem dp_tup {ds : List PyData} (h : Dp K H v (.tuple ds)) : ∃ a xs, v = .ref a ∧ SqT K H a xs ∧ DpAll K H xs ds := by
  cases h with
  | tup hs ha => exact ⟨_, _, rfl, hs, ha⟩
theorem dp_lst {ds : List PyData} (h : Dp K H v (.list ds)) : ∃ a xs, v = .ref a ∧ SqL K H a xs ∧ DpAll K H xs ds := by
  cases h with
  | lst hs ha => exact ⟨_, _, rfl, hs, ha⟩
theorem DpAll.length : ∀ {vs : List V} {ds : List PyData}, DpAll K H vs ds → vs.length = ds.length
  | _, _, .nil => rfl
  | _, _, .cons _ t => congrArg Nat.succ (DpAll.length t)
theorem DpAll.get : ∀ {vs : List V} {ds : List PyData} {i : Nat} {d : PyData}, DpAll K H vs ds → ds[i]? = some d → ∃ v, vs[i]? = some v ∧ Dp K H v d
  | _, _, _, _, .nil, e => by simp at e
  | _, _, 0, _, .cons r _, e => by
    simp at e
    subst e
    exact ⟨_, rfl, r⟩
  | _, _, i + 1, d, .cons _ t, e => by
    obtain ⟨u, h1, h2⟩ := DpAll.get (i := i) (d := d) t (by simpa using e)
    exact ⟨u, by simpa using h1, h2⟩
theorem DpAll.getV : ∀ {vs : List V} {ds : List PyData} {i : Nat} {v : V}, DpAll K H vs ds → vs[i]? = some v → ∃ d, ds[i]? = some d ∧ Dp K H v d
  | _, _, _, _, .nil, e => by simp at e
  | _, _, 0, _, .cons r _, e => by
    simp at e
    subst e
    exact ⟨_, rfl, r⟩
  | _, _, i + 1, d, .cons _ t, e => by
    obtain ⟨u, h1, h2⟩ := DpAll.getV (i := i) (v := d) t (by simpa using e)
    exact ⟨u, by simpa using h1, h2⟩
theorem DpAll.append : ∀ {vs ws : List V} {ds es : List PyData}, DpAll K H vs ds → DpAll K H ws es → DpAll K H (vs ++ ws) (ds ++ es)
  | _, _, _, _, .nil, s => s
  | _, _, _, _, .cons r t, s => .cons r (DpAll.append t s)
theorem DpAll.take : ∀ {vs : List V} {ds : List PyData} (n : Nat), DpAll K H vs ds → DpAll K H (vs.take n) (ds.take n)
  | _, _, 0, _ => .nil
  | _, _, _ + 1, .nil => .nil
  | _, _, n + 1, .cons r t => .cons r (DpAll.take n t)
theorem DpAll.drop : ∀ {vs : List V} {ds : List PyData} (n : Nat), DpAll K H vs ds → DpAll K H (vs.drop n) (ds.drop n)
  | _, _, 0, r => r
  | _, _, _ + 1, .nil => .nil
  | _, _, n + 1, .cons r t => DpAll.drop n t
theorem DpAll.strs : ∀ xs : List Str, DpAll K H (xs.map V.str) (xs.map PyData.str)
  | [] => .nil
  | _ :: xs => .cons (.str _) (DpAll.strs xs)
theorem DpAll.ints : ∀ xs : List Int, DpAll K H (xs.map V.int) (xs.map PyData.int)
  | [] => .nil
  | _ :: xs => .cons (.int _) (DpAll.ints xs)
theorem DpAll.strs_eq : ∀ {vs : List V} {xs : List Str}, DpAll K H vs (xs.map PyData.str) → vs = xs.map V.str
  | _, [], h => by cases h; rfl
  | _, x :: xs, h => by
    cases h with
    | cons h1 h2 =>
      rw [dp_str h1, DpAll.strs_eq h2]
      rfl
theorem DpAll.one {d : PyData} (h : Dp K H v d) : DpAll K H [v] [d] := .cons h .nil
theorem DpAll.snoc {vs : List V} {ds : List PyData} {d : PyData} (h : DpAll K H vs ds) (g : Dp K H v d) : DpAll K H (vs ++ [v]) (ds ++ [d]) := h.append (.one g)
/-- a new tuple -/
theorem tup_new {xs : List V} {ds : List PyData} {Q : V → Hp → Prop} (h : DpAll K H xs ds) (k : ∀ p H', Ex H H' → Dp K H' (.ref p) (.tuple ds) → Q (.ref p) H') : ∀ p, H p = none → Q (.ref p) (upd H p (.tup xs)) := fun p hp =>
  k p _ (Ex.new hp) (.tup (SqT.of upd_same) (h.up (Ex.new hp)))
end
theorem sz100 {n : Nat} (h : n ≤ 100000) : n ≤ sizeLine := Nat.le_trans h (by decide)
theorem szlt {n : Nat} (h : n < 100000) : n < sizeLine := Nat.lt_of_lt_of_le h (by decide)

end L2
namespace Wk
open PySem PySem.Spec PyProof.Rows L2
/-! ### operations by data -/
section
variable {X : Cx} {e a b c : Expr} {te ta tb tc : TE} {pos p p2 : Pos}
/-- t[i], xs[i] -/
def tIxT (K : PySem.W.Frag) (ta tb : TE) : TE := fun σ H Q => ta σ H fun x H1 => tb σ H1 fun y H2 => ∃ ds i d, y = .int i ∧ Dp K H2 x (.tuple ds) ∧ atI ds i = some d ∧ ∀ v, Dp K H2 v d → Q v H2
def tIxL (K : PySem.W.Frag) (ta tb : TE) : TE := fun σ H Q => ta σ H fun x H1 => tb σ H1 fun y H2 => ∃ ds i d, y = .int i ∧ Dp K H2 x (.list ds) ∧ atI ds i = some d ∧ ∀ v, Dp K H2 v d → Q v H2
theorem atI_dp {K : PySem.W.Frag} {H : Hp} {xs : List V} {ds : List PyData} {i : Int} {d : PyData} (h : DpAll K H xs ds) (e : atI ds i = some d) : ∃ v, atI xs i = some v ∧ Dp K H v d := by
  unfold atI at e ⊢
  rw [h.length]
  cases q : ixN ds.length i with
  | none =>
    rw [q] at e
    cases e
  | some j =>
    rw [q] at e
    exact h.get e
theorem op_conv {f : Value → Value → Sem Value} {r r' : R2} (h : OpR X f r) (c : ∀ x y H Q, r' x y H Q → r x y H Q) : OpR X f r' := fun pins s σ H x y v u Q I rx ry q => h pins s σ H x y v u Q I rx ry (c x y H Q q)
theorem ix_conv {r r' : R2} (h : IxR X r) (c : ∀ x y H Q, r' x y H Q → r x y H Q) : IxR X r' := by
  intro value slice pins s σ H x y v u Q I rx ry q
  exact h value slice pins s σ H x y v u Q I rx ry (c x y H Q q)
def rIxTD (K : PySem.W.Frag) : R2 := fun x y H Q => ∃ ds i d, y = .int i ∧ Dp K H x (.tuple ds) ∧ atI ds i = some d ∧ ∀ v, Dp K H v d → Q v H
def rIxLD (K : PySem.W.Frag) : R2 := fun x y H Q => ∃ ds i d, y = .int i ∧ Dp K H x (.list ds) ∧ atI ds i = some d ∧ ∀ v, Dp K H v d → Q v H
theorem ix_T : IxR X (rIxTD X.K) := ix_conv ix_tup fun x y H Q h => by
  obtain ⟨ds, i, d, rfl, hx, he, q⟩ := h
  obtain ⟨a, xs, rfl, hs, ha⟩ := dp_tup hx
  obtain ⟨v, hv, hd⟩ := atI_dp ha he
  exact ⟨a, xs, i, v, rfl, rfl, hs, hv, q v hd⟩
theorem ix_L : IxR X (rIxLD X.K) := ix_conv ix_list fun x y H Q h => by
  obtain ⟨ds, i, d, rfl, hx, he, q⟩ := h
  obtain ⟨a, xs, rfl, hs, ha⟩ := dp_lst hx
  obtain ⟨v, hv, hd⟩ := atI_dp ha he
  exact ⟨a, xs, i, v, rfl, rfl, hs, hv, q v hd⟩
/-- t[lo:hi] -/
def cutD (ds : List PyData) (lo hi : Option Int) : List PyData := (ds.drop (HT.sIx ds.length 0 lo)).take (HT.sIx ds.length ds.length hi - HT.sIx ds.length 0 lo)
theorem cut_dp {K : PySem.W.Frag} {H : Hp} {xs : List V} {ds : List PyData} {lo hi : Option Int} (h : DpAll K H xs ds) : DpAll K H (cutV xs lo hi) (cutD ds lo hi) := by
  unfold cutV cutD
  rw [h.length]
  exact (h.drop _).take _
def rSlTD (K : PySem.W.Frag) : V → Option Int → Option Int → Hp → VK → Prop := fun x lo hi H Q => ∃ ds, Dp K H x (.tuple ds) ∧ ∀ v H', Ex H H' → Dp K H' v (.tuple (cutD ds lo hi)) → Q v H'
theorem sl_T : SlR X (rSlTD X.K) := by
  intro pins s σ H x v vl vu lo hi sl Q I rx hs pl pu h
  obtain ⟨ds, hx, q⟩ := h
  obtain ⟨a, xs, rfl, hs', ha⟩ := dp_tup hx
  refine sl_tupA pins s σ H _ v vl vu lo hi sl Q I rx hs pl pu ⟨a, xs, rfl, hs', fun hw => ?_, fun _ => ?_⟩
  · refine q _ _ (Same.refl H) ?_
    have e : cutD ds lo hi = ds := by
      unfold cutD
      rw [← ha.length, hw.1, hw.2]
      rw [List.drop_zero, ha.length, Nat.sub_zero, List.take_length]
    rw [e]
    exact hx
  · exact tup_new (cut_dp ha) fun p H' e h => q _ _ e h
/-- t + u -/
def rCatD (K : PySem.W.Frag) : R2 := fun x y H Q => ∃ ds es, Dp K H x (.tuple ds) ∧ Dp K H y (.tuple es) ∧ ds.length + es.length ≤ sizeLine ∧ ∀ v H', Ex H H' → Dp K H' v (.tuple (ds ++ es)) → Q v H'
theorem op_catD : OpR X (binaryOp .Add) (rCatD X.K) := op_conv op_catA fun x y H Q h => by
  obtain ⟨ds, es, hx, hy, hz, q⟩ := h
  obtain ⟨a, xs, rfl, ha, da⟩ := dp_tup hx
  obtain ⟨b, ys, rfl, hb, db⟩ := dp_tup hy
  refine ⟨a, b, xs, ys, rfl, rfl, ha, hb, by rw [da.length, db.length]; exact hz, fun e => ?_, fun _ e => ?_, fun _ _ => ?_⟩
  · subst e
    cases da
    exact q _ _ (Same.refl H) hy
  · subst e
    cases db
    exact q _ _ (Same.refl H) (by rw [List.append_nil]; exact hx)
  · exact tup_new (da.append db) fun p H' e h => q _ _ e h
/-- isinstance(x, T) -/
def isiD (T : String) : PyData → Bool
  | .none => T == "NoneType"
  | .bool _ => T == "bool" || T == "int"
  | .int _ => T == "int"
  | .str _ => T == "str"
  | .list _ => T == "list"
  | .tuple _ => T == "tuple"
  | .dict _ => T == "dict"
/-- the name of a datum's type -/
def tyD : PyData → String
  | .none => "NoneType"
  | .bool _ => "bool"
  | .int _ => "int"
  | .str _ => "str"
  | .list _ => "list"
  | .tuple _ => "tuple"
  | .dict _ => "dict"
theorem tyx_dp {K : PySem.W.Frag} {H : Hp} {x : V} {d : PyData} (h : Dp K H x d) : TyX K H x (.type (tyD d)) := by
  cases h with
  | non => exact .base .non
  | bl b => exact .base (.bl b)
  | int i => exact .base (.int i)
  | str z => exact .base (.str z)
  | lst hs _ =>
    rcases hs with (hs | ⟨o, hs⟩) | ⟨o, its, n, hk, hc, _⟩
    · exact .base (.lst hs)
    · exact .base (.frz hs)
    · exact .kList hk hc
  | tup hs _ =>
    rcases hs with (hs | ⟨o, hs⟩) | ⟨o, its, n, hk, hc, _⟩
    · exact .base (.tup hs)
    · exact .fTuple hs
    · exact .kTuple hk hc
def rIsiD (K : PySem.W.Frag) : List V → Hp → VK → Prop := fun xs H Q => ∃ x T d, xs = [x, .ty T] ∧ Dp K H x d ∧ (T = "int" ∨ T = "str" ∨ T = "tuple" ∨ T = "list" ∨ T = "bool") ∧ Q (.bl (isiD T d)) H
theorem call_isiD : CallR X (.builtin "isinstance") (rIsiD X.K) := by
  intro pins s σ H xs us Q I r h
  obtain ⟨x, T, d, rfl, hd, hT, q⟩ := h
  refine call_isi pins s σ H _ us Q I r ⟨x, .ty T, _, _, isiD T d, rfl, .ty T, tyx_dp hd, kit_ty ?_, q⟩
  rcases hT with rfl | rfl | rfl | rfl | rfl <;> cases d <;> first | decide +kernel | rfl
/-- len of a text, a list, a tuple, by data -/
def lenD : PyData → Nat
  | .str z => z.length
  | .list ds => ds.length
  | .tuple ds => ds.length
  | _ => 0
def hasLen : PyData → Bool
  | .str _ => true
  | .list _ => true
  | .tuple _ => true
  | _ => false
def rLenD (K : PySem.W.Frag) : List V → Hp → VK → Prop := fun xs H Q => ∃ x d, xs = [x] ∧ Dp K H x d ∧ hasLen d = true ∧ lenD d ≤ sizeLine ∧ Q (.int (lenD d)) H
theorem call_lenDp : CallR X (.builtin "len") (rLenD X.K) := by
  intro pins s σ H xs us Q I r h
  obtain ⟨x, d, rfl, hd, hh, hz, q⟩ := h
  refine call_len pins s σ H _ us Q I r ⟨x, lenD d, rfl, ?_, q⟩
  cases hd with
  | str z => exact ⟨hz, rfl⟩
  | lst hs ha => exact .inl ⟨_, hs, ha.length.symm⟩
  | tup hs ha => exact .inr ⟨_, hs, ha.length.symm⟩
  | non => cases hh
  | bl b => cases hh
  | int i => cases hh
/-- len of what is tracked: a list, a tuple, a dict -/
def rLenA (K : PySem.W.Frag) : List V → Hp → VK → Prop := fun xs H Q => ∃ p n, xs = [.ref p] ∧ ((∃ ys, SqL K H p ys ∧ n = ys.length) ∨ (∃ ys, SqT K H p ys ∧ n = ys.length) ∨ ∃ kvs, H p = some (.dK kvs) ∧ n = kvs.length) ∧ Q (.int (n : Nat)) H
theorem call_lenA : CallR X (.builtin "len") (rLenA X.K) := by
  intro pins s σ H xs us Q I r h
  obtain ⟨p, n, rfl, hd, q⟩ := h
  rcases hd with ⟨ys, h, rfl⟩ | ⟨ys, h, rfl⟩ | ⟨kvs, h, rfl⟩
  · exact call_len_seq pins s σ H _ us Q I r ⟨p, ys, rfl, .inl h, q⟩
  · exact call_len_seq pins s σ H _ us Q I r ⟨p, ys, rfl, .inr h, q⟩
  · exact call_lenD pins s σ H _ us Q I r ⟨p, kvs, rfl, h, q⟩
/-- x in t, t a tuple of data of any depth -/
def rInT (K : PySem.W.Frag) : R2 := fun x y H Q => ∃ d ds, Dp K H x d ∧ Dp K H y (.tuple ds) ∧ SeqAt.shaped d = true ∧ SeqAt.shaped (.tuple ds) = true ∧ Q (.bl (ds.any fun z => PyData.eqv z d)) H
theorem op_inT (hu : X.A.units + 65 < cLine) : OpR X (compareOp .In) (rInT X.K) := by
  intro pins s σ H x y v u Q I rx ry h
  obtain ⟨d, ds, hd, he, sd, se, q⟩ := h
  obtain ⟨as, r1⟩ := Dp.reads I d x v hd rx
  obtain ⟨bs, r2⟩ := Dp.reads I (.tuple ds) y u he ry
  exact SeqAt.in_tuple_reads r2 r1 (SeqAt.canLay_of_shaped se) (SeqAt.canLay_of_shaped sd) (room_in_shaped sd hu) ⟨.bl _, H, I, rfl, q⟩
/-- dict(d) of a dict -/
def rCopyD : List V → Hp → VK → Prop := fun xs H Q => ∃ a kvs, xs = [.ref a] ∧ Rd H a (.dK kvs) ∧ ∀ p, H p = none → Q (.ref p) (upd H p (.dK kvs))
theorem call_copyD : CallR X (.type "dict") rCopyD := by
  intro pins s σ H xs us Q I r h
  obtain ⟨a, kvs, rfl, ha, q⟩ := h
  obtain ⟨u, rfl, ru⟩ := vals1 r
  cases ru
  exact d_copyOf I ha fun p s' hp I' => ⟨.ref p, _, I', rfl, q p hp⟩
end
end Wk
set_option maxHeartbeats 0
namespace WkHd
open PySem PySem.Spec PyProof.Rows L2 Wk
def d_is_whole : He.DefD := ⟨("is_whole", none), "is_whole", "is_whole", defArgs (top 8), defBody (top 8), defScope (top 8), [], []⟩
def d_is_name : He.DefD := ⟨("is_name", none), "is_name", "is_name", defArgs (top 9), defBody (top 9), defScope (top 9), [], []⟩
def d_is_plain_value : He.DefD := ⟨("is_plain_value", none), "is_plain_value", "is_plain_value", defArgs (top 10), defBody (top 10), defScope (top 10), [], []⟩
def d_values_in : He.DefD := ⟨("values_in", none), "values_in", "values_in", defArgs (top 11), defBody (top 11), defScope (top 11), [], []⟩
def d_is_value : He.DefD := ⟨("is_value", none), "is_value", "is_value", defArgs (top 12), defBody (top 12), defScope (top 12), [], []⟩
def d_many_of : He.DefD := ⟨("many_of", none), "many_of", "many_of", defArgs (top 13), defBody (top 13), defScope (top 13), [], []⟩
def d_exprs_in : He.DefD := ⟨("exprs_in", none), "exprs_in", "exprs_in", defArgs (top 16), defBody (top 16), defScope (top 16), [], []⟩
def d_recipes_in : He.DefD := ⟨("recipes_in", none), "recipes_in", "recipes_in", defArgs (top 18), defBody (top 18), defScope (top 18), [], []⟩
def d_sort_at : He.DefD := ⟨("sort_at", none), "sort_at", "sort_at", defArgs (top 20), defBody (top 20), defScope (top 20), [], []⟩
def d_stamp_of : He.DefD := ⟨("stamp_of", none), "stamp_of", "stamp_of", defArgs (top 26), defBody (top 26), defScope (top 26), [], []⟩
def d_number_by : He.DefD := ⟨("number_by", none), "number_by", "number_by", defArgs (top 27), defBody (top 27), defScope (top 27), [], []⟩
def d_plain_by : He.DefD := ⟨("plain_by", none), "plain_by", "plain_by", defArgs (top 28), defBody (top 28), defScope (top 28), [], []⟩
def d_value_at : He.DefD := ⟨("value_at", none), "value_at", "value_at", defArgs (top 29), defBody (top 29), defScope (top 29), [], []⟩
def d_row_at : He.DefD := ⟨("row_at", none), "row_at", "row_at", defArgs (top 30), defBody (top 30), defScope (top 30), [], []⟩
def d_value_by : He.DefD := ⟨("value_by", none), "value_by", "value_by", defArgs (top 31), defBody (top 31), defScope (top 31), [], []⟩
def d_expr_words : He.DefD := ⟨("expr_words", none), "expr_words", "expr_words", defArgs (top 33), defBody (top 33), defScope (top 33), [], []⟩
def d_recipe_words : He.DefD := ⟨("recipe_words", none), "recipe_words", "recipe_words", defArgs (top 34), defBody (top 34), defScope (top 34), [], []⟩
def d_show_recipe : He.DefD := ⟨("show_recipe", none), "show_recipe", "show_recipe", defArgs (top 35), defBody (top 35), defScope (top 35), [], []⟩
def d_as_value : He.DefD := ⟨("as_value", none), "as_value", "as_value", defArgs (top 38), defBody (top 38), defScope (top 38), [], []⟩
def d_part_told : He.DefD := ⟨("part_told", none), "part_told", "part_told", defArgs (top 39), defBody (top 39), defScope (top 39), [], []⟩
def d_joined_told : He.DefD := ⟨("joined_told", none), "joined_told", "joined_told", defArgs (top 40), defBody (top 40), defScope (top 40), [], []⟩
def d_pair_told : He.DefD := ⟨("pair_told", none), "pair_told", "pair_told", defArgs (top 41), defBody (top 41), defScope (top 41), [], []⟩
def d_told_by : He.DefD := ⟨("told_by", none), "told_by", "told_by", defArgs (top 42), defBody (top 42), defScope (top 42), [], []⟩
def d_asked_name : He.DefD := ⟨("asked_name", none), "asked_name", "asked_name", defArgs (top 45), defBody (top 45), defScope (top 45), [], []⟩
def d_along : He.DefD := ⟨("along", none), "along", "along", defArgs (top 46), defBody (top 46), defScope (top 46), [], []⟩
def d_end_at : He.DefD := ⟨("end_at", none), "end_at", "end_at", defArgs (top 47), defBody (top 47), defScope (top 47), [], []⟩
def d_is_next : He.DefD := ⟨("is_next", none), "is_next", "is_next", defArgs (top 48), defBody (top 48), defScope (top 48), [], []⟩
def d_replay : He.DefD := ⟨("replay", none), "replay", "replay", defArgs (top 49), defBody (top 49), defScope (top 49), [], []⟩
def d_Task_init : He.DefD := ⟨("Task", some "__init__"), "__init__", "Task.__init__", defArgs (inClass (top 51) 0), defBody (inClass (top 51) 0), defScope (inClass (top 51) 0), [], []⟩
def d_Task_go_on : He.DefD := ⟨("Task", some "go_on"), "go_on", "Task.go_on", defArgs (inClass (top 51) 1), defBody (inClass (top 51) 1), defScope (inClass (top 51) 1), [], []⟩
def d_Task_look_on : He.DefD := ⟨("Task", some "look_on"), "look_on", "Task.look_on", defArgs (inClass (top 51) 2), defBody (inClass (top 51) 2), defScope (inClass (top 51) 2), [], []⟩
def d_Task_ask_on : He.DefD := ⟨("Task", some "ask_on"), "ask_on", "Task.ask_on", defArgs (inClass (top 51) 3), defBody (inClass (top 51) 3), defScope (inClass (top 51) 3), [], []⟩
def d_Task_do_on : He.DefD := ⟨("Task", some "do_on"), "do_on", "Task.do_on", defArgs (inClass (top 51) 4), defBody (inClass (top 51) 4), defScope (inClass (top 51) 4), [], []⟩
def d_Task_close : He.DefD := ⟨("Task", some "close"), "close", "Task.close", defArgs (inClass (top 51) 5), defBody (inClass (top 51) 5), defScope (inClass (top 51) 5), [], []⟩
def d_Task_take : He.DefD := ⟨("Task", some "take"), "take", "Task.take", defArgs (inClass (top 51) 6), defBody (inClass (top 51) 6), defScope (inClass (top 51) 6), [], []⟩
def d_Task_take_looked : He.DefD := ⟨("Task", some "take_looked"), "take_looked", "Task.take_looked", defArgs (inClass (top 51) 7), defBody (inClass (top 51) 7), defScope (inClass (top 51) 7), [], []⟩
def d_Task_begin_anew : He.DefD := ⟨("Task", some "begin_anew"), "begin_anew", "Task.begin_anew", defArgs (inClass (top 51) 8), defBody (inClass (top 51) 8), defScope (inClass (top 51) 8), [], []⟩
def d_Task_go_round : He.DefD := ⟨("Task", some "go_round"), "go_round", "Task.go_round", defArgs (inClass (top 51) 9), defBody (inClass (top 51) 9), defScope (inClass (top 51) 9), [], []⟩
def d_Weave_init : He.DefD := ⟨("Weave", some "__init__"), "__init__", "Weave.__init__", defArgs (inClass (top 52) 0), defBody (inClass (top 52) 0), defScope (inClass (top 52) 0), [], []⟩
def d_Weave_is_open_thing : He.DefD := ⟨("Weave", some "is_open_thing"), "is_open_thing", "Weave.is_open_thing", defArgs (inClass (top 52) 1), defBody (inClass (top 52) 1), defScope (inClass (top 52) 1), [], []⟩
def d_Weave_open_task : He.DefD := ⟨("Weave", some "open_task"), "open_task", "Weave.open_task", defArgs (inClass (top 52) 2), defBody (inClass (top 52) 2), defScope (inClass (top 52) 2), [], []⟩
def d_Weave_stamp_now : He.DefD := ⟨("Weave", some "stamp_now"), "stamp_now", "Weave.stamp_now", defArgs (inClass (top 52) 3), defBody (inClass (top 52) 3), defScope (inClass (top 52) 3), [], []⟩
def d_Weave_ready : He.DefD := ⟨("Weave", some "ready"), "ready", "Weave.ready", defArgs (inClass (top 52) 4), defBody (inClass (top 52) 4), defScope (inClass (top 52) 4), [], []⟩
def d_Weave_move : He.DefD := ⟨("Weave", some "move"), "move", "Weave.move", defArgs (inClass (top 52) 5), defBody (inClass (top 52) 5), defScope (inClass (top 52) 5), [], []⟩
def d_Weave_settle_task : He.DefD := ⟨("Weave", some "settle_task"), "settle_task", "Weave.settle_task", defArgs (inClass (top 52) 6), defBody (inClass (top 52) 6), defScope (inClass (top 52) 6), [], []⟩
def d_Weave_settle_rings : He.DefD := ⟨("Weave", some "settle_rings"), "settle_rings", "Weave.settle_rings", defArgs (inClass (top 52) 7), defBody (inClass (top 52) 7), defScope (inClass (top 52) 7), [], []⟩
def d_Weave_settled : He.DefD := ⟨("Weave", some "settled"), "settled", "Weave.settled", defArgs (inClass (top 52) 8), defBody (inClass (top 52) 8), defScope (inClass (top 52) 8), [], []⟩
def d_Weave_told : He.DefD := ⟨("Weave", some "told"), "told", "Weave.told", defArgs (inClass (top 52) 9), defBody (inClass (top 52) 9), defScope (inClass (top 52) 9), [], []⟩
def d_law_draws : He.DefD := ⟨("_law_draws", none), "_law_draws", "_law_draws", defArgs (top 54), defBody (top 54), defScope (top 54), [], []⟩
def d_law_names : He.DefD := ⟨("_law_names", none), "_law_names", "_law_names", defArgs (top 55), defBody (top 55), defScope (top 55), [], []⟩
def d_law_next : He.DefD := ⟨("_law_next", none), "_law_next", "_law_next", defArgs (top 56), defBody (top 56), defScope (top 56), [], []⟩
def d_law_value : He.DefD := ⟨("_law_value", none), "_law_value", "_law_value", defArgs (top 57), defBody (top 57), defScope (top 57), [], []⟩
def d_law_leaf : He.DefD := ⟨("_law_leaf", none), "_law_leaf", "_law_leaf", defArgs (top 58), defBody (top 58), defScope (top 58), [], []⟩
def d_law_expr : He.DefD := ⟨("_law_expr", none), "_law_expr", "_law_expr", defArgs (top 59), defBody (top 59), defScope (top 59), [], []⟩
def d_law_recipe : He.DefD := ⟨("_law_recipe", none), "_law_recipe", "_law_recipe", defArgs (top 60), defBody (top 60), defScope (top 60), [], []⟩
def d_law_thing : He.DefD := ⟨("_law_thing", none), "_law_thing", "_law_thing", defArgs (top 61), defBody (top 61), defScope (top 61), [], []⟩
def d_law_book_of : He.DefD := ⟨("_law_book_of", none), "_law_book_of", "_law_book_of", defArgs (top 62), defBody (top 62), defScope (top 62), [], []⟩
def d_law_rung : He.DefD := ⟨("_law_rung", none), "_law_rung", "_law_rung", defArgs (top 63), defBody (top 63), defScope (top 63), [], []⟩
def d_law_books : He.DefD := ⟨("_law_books", none), "_law_books", "_law_books", defArgs (top 64), defBody (top 64), defScope (top 64), [], []⟩
def d_law_stamp : He.DefD := ⟨("_law_stamp", none), "_law_stamp", "_law_stamp", defArgs (top 65), defBody (top 65), defScope (top 65), [], []⟩
def d_law_run : He.DefD := ⟨("_law_run", none), "_law_run", "_law_run", defArgs (top 66), defBody (top 66), defScope (top 66), [], []⟩
def d_law_line : He.DefD := ⟨("_law_line", none), "_law_line", "_law_line", defArgs (top 67), defBody (top 67), defScope (top 67), [], []⟩
def d_law_lines : He.DefD := ⟨("_law_lines", none), "_law_lines", "_law_lines", defArgs (top 68), defBody (top 68), defScope (top 68), [], []⟩
def d_law_held : He.DefD := ⟨("_law_held", none), "_law_held", "_law_held", defArgs (top 69), defBody (top 69), defScope (top 69), [], []⟩
def d_law_asked : He.DefD := ⟨("_law_asked", none), "_law_asked", "_law_asked", defArgs (top 70), defBody (top 70), defScope (top 70), [], []⟩
def d_law_now : He.DefD := ⟨("_law_now", none), "_law_now", "_law_now", defArgs (top 71), defBody (top 71), defScope (top 71), [], []⟩
def d_law_opens : He.DefD := ⟨("_law_opens", none), "_law_opens", "_law_opens", defArgs (top 72), defBody (top 72), defScope (top 72), [], []⟩
def d_law_closes : He.DefD := ⟨("_law_closes", none), "_law_closes", "_law_closes", defArgs (top 73), defBody (top 73), defScope (top 73), [], []⟩
def d_law_did : He.DefD := ⟨("_law_did", none), "_law_did", "_law_did", defArgs (top 74), defBody (top 74), defScope (top 74), [], []⟩
def d_law_goes : He.DefD := ⟨("_law_goes", none), "_law_goes", "_law_goes", defArgs (top 75), defBody (top 75), defScope (top 75), [], []⟩
def d_law_takes : He.DefD := ⟨("_law_takes", none), "_law_takes", "_law_takes", defArgs (top 76), defBody (top 76), defScope (top 76), [], []⟩
def d_law_able : He.DefD := ⟨("_law_able", none), "_law_able", "_law_able", defArgs (top 77), defBody (top 77), defScope (top 77), [], []⟩
def d_law_rings : He.DefD := ⟨("_law_rings", none), "_law_rings", "_law_rings", defArgs (top 78), defBody (top 78), defScope (top 78), [], []⟩
def d_law_moves : He.DefD := ⟨("_law_moves", none), "_law_moves", "_law_moves", defArgs (top 79), defBody (top 79), defScope (top 79), [], []⟩
def d_law : He.DefD := ⟨("law", none), "law", "law", defArgs (top 80), defBody (top 80), defScope (top 80), [], []⟩
def fn0 : List He.DefD := [d_is_whole, d_is_name, d_is_plain_value, d_values_in, d_is_value, d_many_of, d_exprs_in, d_recipes_in, d_sort_at, d_stamp_of, d_number_by, d_plain_by, d_value_at, d_row_at, d_value_by, d_expr_words, d_recipe_words, d_show_recipe, d_as_value, d_part_told]
def fn1 : List He.DefD := [d_joined_told, d_pair_told, d_told_by, d_asked_name, d_along, d_end_at, d_is_next, d_replay, d_Task_init, d_Task_go_on, d_Task_look_on, d_Task_ask_on, d_Task_do_on, d_Task_close, d_Task_take, d_Task_take_looked, d_Task_begin_anew, d_Task_go_round, d_Weave_init, d_Weave_is_open_thing]
def fn2 : List He.DefD := [d_Weave_open_task, d_Weave_stamp_now, d_Weave_ready, d_Weave_move, d_Weave_settle_task, d_Weave_settle_rings, d_Weave_settled, d_Weave_told, d_law_draws, d_law_names, d_law_next, d_law_value, d_law_leaf, d_law_expr, d_law_recipe, d_law_thing, d_law_book_of, d_law_rung, d_law_books, d_law_stamp]
def fn3 : List He.DefD := [d_law_run, d_law_line, d_law_lines, d_law_held, d_law_asked, d_law_now, d_law_opens, d_law_closes, d_law_did, d_law_goes, d_law_takes, d_law_able, d_law_rings, d_law_moves, d_law]
def fn : List He.DefD := fn0 ++ (fn1 ++ (fn2 ++ (fn3)))
def fa0 : List He.Fa := [.glo "is_whole", .glo "is_name", .glo "is_plain_value", .glo "values_in", .glo "is_value", .glo "many_of", .glo "exprs_in", .glo "recipes_in", .glo "sort_at", .glo "RedoError", .glo "NotReady", .glo "stamp_of", .glo "number_by", .glo "plain_by", .glo "value_at", .glo "row_at", .glo "value_by", .glo "expr_words", .glo "recipe_words", .glo "show_recipe"]
def fa1 : List He.Fa := [.glo "as_value", .glo "part_told", .glo "joined_told", .glo "pair_told", .glo "told_by", .glo "asked_name", .glo "along", .glo "end_at", .glo "is_next", .glo "replay", .glo "Task", .glo "Weave", .glo "_law_draws", .glo "_law_names", .glo "_law_next", .glo "_law_value", .glo "_law_leaf", .glo "_law_expr", .glo "_law_recipe", .glo "_law_thing"]
def fa2 : List He.Fa := [.glo "_law_book_of", .glo "_law_rung", .glo "_law_books", .glo "_law_stamp", .glo "_law_run", .glo "_law_line", .glo "_law_lines", .glo "_law_held", .glo "_law_asked", .glo "_law_now", .glo "_law_opens", .glo "_law_closes", .glo "_law_did", .glo "_law_goes", .glo "_law_takes", .glo "_law_able", .glo "_law_rings", .glo "_law_moves", .glo "law", .glo "PAIRS"]
def fa3 : List He.Fa := [.glo "KIND", .glo "NOTHINGS", .free "len", .free "isinstance", .free "all", .free "sum", .free "sorted", .free "min", .free "int", .free "bool", .free "str", .free "tuple", .free "list", .free "dict", .free "range", .int "GREATEST" 1000000000000000000, .int "MOST_SIGNS" 20, .int "MOST_PARTS" 8, .int "MOST_DEEP" 4, .int "MOST_IN_ALL" 40]
def fa4 : List He.Fa := [.str "LETTERS" "abcdefghijklmnopqrstuvwxyz", .str "SIGNS" "abcdefghijklmnopqrstuvwxyz0123456789-", .str "FIGURES" "0123456789", .cls "Task", .mkr "Task", .noat "Task" "task_name", .noat "Task" "task_recipe", .noat "Task" "task_text", .noat "Task" "task_shelf", .noat "Task" "elder_line", .noat "Task" "task_stage", .noat "Task" "got_reads", .noat "Task" "got_peeks", .noat "Task" "is_peeking", .noat "Task" "waits_for", .noat "Task" "closing", .cls "Weave", .mkr "Weave", .noat "Weave" "weave_book", .noat "Weave" "weave_held"]
def fa5 : List He.Fa := [.noat "Weave" "open_tasks", .noat "Weave" "all_ends", .noat "Weave" "weave_log", .meth "Task" "go_on", .meth "Task" "look_on", .meth "Task" "ask_on", .meth "Task" "do_on", .meth "Task" "close", .meth "Task" "take", .meth "Task" "take_looked", .meth "Task" "begin_anew", .meth "Task" "go_round", .meth "Weave" "is_open_thing", .meth "Weave" "open_task", .meth "Weave" "stamp_now", .meth "Weave" "ready", .meth "Weave" "move", .meth "Weave" "settle_task", .meth "Weave" "settle_rings", .meth "Weave" "settled"]
def fa6 : List He.Fa := [.meth "Weave" "told"]
def fa : List He.Fa := fa0 ++ (fa1 ++ (fa2 ++ (fa3 ++ (fa4 ++ (fa5 ++ (fa6))))))
/-- a tuple of the written part, by its address -/
def tupA (K : PySem.W.Frag) (a : Addr) (vs : List V) : Bool := match K.lookup a with
  | some ⟨.type c, _, .seq its _, _⟩ => decide (c = "tuple") && (decide (its.size ≤ sizeLine) && He.relAll vs its.toList)
  | _ => false
theorem tupA_ok {K : PySem.W.Frag} {a : Addr} {vs : List V} (h : tupA K a vs = true) (H : Hp) : SqT K H a vs := by
  unfold tupA at h
  cases q : K.lookup a with
  | none =>
    rw [q] at h
    cases h
  | some o =>
    obtain ⟨oc, od, dt, osl⟩ := o
    rw [q] at h
    cases oc with
    | type c =>
      cases dt with
      | seq its n =>
        obtain ⟨h1, h2⟩ := He.ba (show (decide (c = "tuple") && (decide (its.size ≤ sizeLine) && He.relAll vs its.toList)) = true from h)
        obtain ⟨h3, h4⟩ := He.ba h2
        exact .inr ⟨_, its, n, q, congrArg Value.type (of_decide_eq_true h1), rfl, of_decide_eq_true h3, He.relAll_ok h4⟩
      | _ => cases h
    | _ => cases dt <;> cases h
/-- the third item of NOTHINGS -/
def ntE (K : PySem.W.Frag) : Addr := match K.lookup (He.ga K "NOTHINGS") with
  | some ⟨_, _, .seq its _, _⟩ => (match its.toList[(2 : Nat)]? with
    | some (.ref a) => a
    | _ => 0)
  | _ => 0
def exB (K : PySem.W.Frag) : Bool := tupA K (He.ga K "PAIRS") [.str "part", .str "sum", .str "join", .str "same", .str "less"] && (tupA K (He.ga K "KIND") [.str "fails", .str "kind"] &&
  (tupA K (He.ga K "NOTHINGS") [.int 0, .str "", .ref (ntE K)] && tupA K (ntE K) []))
abbrev R : PySem.W.OpenRow := PySem.W.OpenLaw.row PySem.Challenge.rw_redo_k55_weave_moves
def nm0 : List Str := ["LETTERS", "SIGNS", "GREATEST", "MOST_SIGNS", "MOST_PARTS", "MOST_DEEP", "MOST_IN_ALL", "is_whole", "is_name", "is_plain_value", "values_in", "is_value", "many_of", "PAIRS", "exprs_in", "recipes_in", "sort_at", "RedoError", "NotReady", "FIGURES", "stamp_of", "number_by", "plain_by", "value_at", "row_at", "value_by", "expr_words", "recipe_words", "show_recipe", "KIND"]
def nm1 : List Str := ["as_value", "part_told", "joined_told", "pair_told", "told_by", "NOTHINGS", "asked_name", "along", "end_at", "is_next", "replay", "Task", "Weave", "_law_draws", "_law_names", "_law_next", "_law_value", "_law_leaf", "_law_expr", "_law_recipe", "_law_thing", "_law_book_of", "_law_rung", "_law_books", "_law_stamp", "_law_run", "_law_line", "_law_lines", "_law_held", "_law_asked"]
def nm2 : List Str := ["_law_now", "_law_opens", "_law_closes", "_law_did", "_law_goes", "_law_takes", "_law_able", "_law_rings", "_law_moves"]
def nms : List Str := nm0 ++ (nm1 ++ (nm2))
abbrev hk : PySem.W.Hook := He.hookX 5 fa fn [] [] exB
def ob (s : PySem.W.SharedT) : He.AlX := He.obsX 5 fa fn [] [] exB (HandSHeadRun.getT s)
theorem ob_eq (s : PySem.W.SharedT) : ob s = hk.obs s.abs := He.obsX_eq (HandSHeadRun.getT_eq s)
theorem run (w : World) : HandSHeadRun.RunEq R (PySem.W.view R.prog [80]) hk ob 4000 nms w := by
  intro os
  kernel_rfl
end WkHd
set_option maxHeartbeats 4000000
namespace Wk
open PySem PySem.Spec PyProof.Rows L2
theorem bt_len : bootBuiltins "len" = some (.builtin "len") := by decide +kernel
theorem bt_isinstance : bootBuiltins "isinstance" = some (.builtin "isinstance") := by decide +kernel
theorem bt_all : bootBuiltins "all" = some (.builtin "all") := by decide +kernel
theorem bt_sum : bootBuiltins "sum" = some (.builtin "sum") := by decide +kernel
theorem bt_sorted : bootBuiltins "sorted" = some (.builtin "sorted") := by decide +kernel
theorem bt_min : bootBuiltins "min" = some (.builtin "min") := by decide +kernel
theorem bt_int : bootBuiltins "int" = some (.type "int") := by decide +kernel
theorem bt_bool : bootBuiltins "bool" = some (.type "bool") := by decide +kernel
theorem bt_str : bootBuiltins "str" = some (.type "str") := by decide +kernel
theorem bt_tuple : bootBuiltins "tuple" = some (.type "tuple") := by decide +kernel
theorem bt_list : bootBuiltins "list" = some (.type "list") := by decide +kernel
theorem bt_dict : bootBuiltins "dict" = some (.type "dict") := by decide +kernel
abbrev aTask (K : PySem.W.Frag) : Addr := He.ga K "Task"
abbrev aWeave (K : PySem.W.Frag) : Addr := He.ga K "Weave"
abbrev aPAIRS (K : PySem.W.Frag) : Addr := He.ga K "PAIRS"
abbrev aKIND (K : PySem.W.Frag) : Addr := He.ga K "KIND"
abbrev aNOTHINGS (K : PySem.W.Frag) : Addr := He.ga K "NOTHINGS"
theorem pe_bt {X : Cx} {x : Str} {n : String} {pos : Pos} (hg : Gl X x) (hm : X.mg x = none) (hv : bootBuiltins x = some (.type n)) (hn : x ≠ "__name__" := by decide) (hd : (x == ("__debug__" : Str)) = false := by decide) : PE X (.Name x pos) (tC (.ty n)) := pe_bltn hg hm hv rfl hn hd
/-- what stands behind the top -/
structure Wld (K : PySem.W.Frag) (mg : Str → Option Value) : Prop where
  f_len : mg "len" = none
  f_isinstance : mg "isinstance" = none
  f_all : mg "all" = none
  f_sum : mg "sum" = none
  f_sorted : mg "sorted" = none
  f_min : mg "min" = none
  f_int : mg "int" = none
  f_bool : mg "bool" = none
  f_str : mg "str" = none
  f_tuple : mg "tuple" = none
  f_list : mg "list" = none
  f_dict : mg "dict" = none
  f_range : mg "range" = none
  g_GREATEST : ∃ u, mg "GREATEST" = some u ∧ RelV (.int (10 ^ 18)) u
  g_MOST_SIGNS : ∃ u, mg "MOST_SIGNS" = some u ∧ RelV (.int 20) u
  g_MOST_PARTS : ∃ u, mg "MOST_PARTS" = some u ∧ RelV (.int 8) u
  g_MOST_DEEP : ∃ u, mg "MOST_DEEP" = some u ∧ RelV (.int 4) u
  g_MOST_IN_ALL : ∃ u, mg "MOST_IN_ALL" = some u ∧ RelV (.int 40) u
  g_LETTERS : ∃ u, mg "LETTERS" = some u ∧ RelV (.str "abcdefghijklmnopqrstuvwxyz") u
  g_SIGNS : ∃ u, mg "SIGNS" = some u ∧ RelV (.str "abcdefghijklmnopqrstuvwxyz0123456789-") u
  g_FIGURES : ∃ u, mg "FIGURES" = some u ∧ RelV (.str "0123456789") u
  g_PAIRS : ∃ u, mg "PAIRS" = some u ∧ RelV (.ref (aPAIRS K)) u
  g_KIND : ∃ u, mg "KIND" = some u ∧ RelV (.ref (aKIND K)) u
  g_NOTHINGS : ∃ u, mg "NOTHINGS" = some u ∧ RelV (.ref (aNOTHINGS K)) u
  t_PAIRS : ∀ H, SqT K H (aPAIRS K) [.str "part", .str "sum", .str "join", .str "same", .str "less"]
  t_KIND : ∀ H, Dp K H (.ref (aKIND K)) (.tuple [.str "fails", .str "kind"])
  t_NOTHINGS : ∀ H, Dp K H (.ref (aNOTHINGS K)) (.tuple [.int 0, .str "", .tuple []])
  gc_Task : mg "Task" = some (.ref (aTask K))
  cl_Task : Cls K (aTask K)
  n_Task_task_name : NoAttr K (aTask K) "task_name"
  n_Task_task_recipe : NoAttr K (aTask K) "task_recipe"
  n_Task_task_text : NoAttr K (aTask K) "task_text"
  n_Task_task_shelf : NoAttr K (aTask K) "task_shelf"
  n_Task_elder_line : NoAttr K (aTask K) "elder_line"
  n_Task_task_stage : NoAttr K (aTask K) "task_stage"
  n_Task_got_reads : NoAttr K (aTask K) "got_reads"
  n_Task_got_peeks : NoAttr K (aTask K) "got_peeks"
  n_Task_is_peeking : NoAttr K (aTask K) "is_peeking"
  n_Task_waits_for : NoAttr K (aTask K) "waits_for"
  n_Task_closing : NoAttr K (aTask K) "closing"
  gc_Weave : mg "Weave" = some (.ref (aWeave K))
  cl_Weave : Cls K (aWeave K)
  n_Weave_weave_book : NoAttr K (aWeave K) "weave_book"
  n_Weave_weave_held : NoAttr K (aWeave K) "weave_held"
  n_Weave_open_tasks : NoAttr K (aWeave K) "open_tasks"
  n_Weave_all_ends : NoAttr K (aWeave K) "all_ends"
  n_Weave_weave_log : NoAttr K (aWeave K) "weave_log"
  d_is_whole : DefAt K mg "is_whole" (top 8) ["thing"]
  d_is_name : DefAt K mg "is_name" (top 9) ["thing"]
  d_is_plain_value : DefAt K mg "is_plain_value" (top 10) ["thing"]
  d_values_in : DefAt K mg "values_in" (top 11) ["thing", "around"]
  d_is_value : DefAt K mg "is_value" (top 12) ["thing"]
  d_many_of : DefAt K mg "many_of" (top 13) ["value"]
  d_exprs_in : DefAt K mg "exprs_in" (top 16) ["thing"]
  d_recipes_in : DefAt K mg "recipes_in" (top 18) ["recipe"]
  d_sort_at : DefAt K mg "sort_at" (top 20) ["book", "name"]
  d_stamp_of : DefAt K mg "stamp_of" (top 26) ["value"]
  d_number_by : DefAt K mg "number_by" (top 27) ["word"]
  d_plain_by : DefAt K mg "plain_by" (top 28) ["word"]
  d_value_at : DefAt K mg "value_at" (top 29) ["text", "at", "around"]
  d_row_at : DefAt K mg "row_at" (top 30) ["text", "at", "around"]
  d_value_by : DefAt K mg "value_by" (top 31) ["text"]
  d_expr_words : DefAt K mg "expr_words" (top 33) ["expr"]
  d_recipe_words : DefAt K mg "recipe_words" (top 34) ["recipe"]
  d_show_recipe : DefAt K mg "show_recipe" (top 35) ["recipe"]
  d_as_value : DefAt K mg "as_value" (top 38) ["thing"]
  d_part_told : DefAt K mg "part_told" (top 39) ["row", "place"]
  d_joined_told : DefAt K mg "joined_told" (top 40) ["one", "other"]
  d_pair_told : DefAt K mg "pair_told" (top 41) ["word", "one", "other"]
  d_told_by : DefAt K mg "told_by" (top 42) ["expr", "got"]
  d_asked_name : DefAt K mg "asked_name" (top 45) ["recipe", "got"]
  d_along : DefAt K mg "along" (top 46) ["recipe", "got"]
  d_end_at : DefAt K mg "end_at" (top 47) ["recipe", "got"]
  d_is_next : DefAt K mg "is_next" (top 48) ["rows", "k", "name"]
  d_replay : DefAt K mg "replay" (top 49) ["recipe", "reads", "peeks"]
  d_Task_init : IniAt K (aTask K) "Task.__init__" (inClass (top 51) 0) ["self", "name", "recipe", "elder", "shelf"]
  d_Task_go_on : MetAt K (aTask K) "go_on" "Task.go_on" (inClass (top 51) 1) ["self"]
  d_Task_look_on : MetAt K (aTask K) "look_on" "Task.look_on" (inClass (top 51) 2) ["self"]
  d_Task_ask_on : MetAt K (aTask K) "ask_on" "Task.ask_on" (inClass (top 51) 3) ["self"]
  d_Task_do_on : MetAt K (aTask K) "do_on" "Task.do_on" (inClass (top 51) 4) ["self"]
  d_Task_close : MetAt K (aTask K) "close" "Task.close" (inClass (top 51) 5) ["self", "word", "end"]
  d_Task_take : MetAt K (aTask K) "take" "Task.take" (inClass (top 51) 6) ["self", "stamp"]
  d_Task_take_looked : MetAt K (aTask K) "take_looked" "Task.take_looked" (inClass (top 51) 7) ["self", "name", "stamp"]
  d_Task_begin_anew : MetAt K (aTask K) "begin_anew" "Task.begin_anew" (inClass (top 51) 8) ["self"]
  d_Task_go_round : MetAt K (aTask K) "go_round" "Task.go_round" (inClass (top 51) 9) ["self"]
  d_Weave_init : IniAt K (aWeave K) "Weave.__init__" (inClass (top 52) 0) ["self", "book", "held", "names"]
  d_Weave_is_open_thing : MetAt K (aWeave K) "is_open_thing" "Weave.is_open_thing" (inClass (top 52) 1) ["self", "name"]
  d_Weave_open_task : MetAt K (aWeave K) "open_task" "Weave.open_task" (inClass (top 52) 2) ["self", "name"]
  d_Weave_stamp_now : MetAt K (aWeave K) "stamp_now" "Weave.stamp_now" (inClass (top 52) 3) ["self", "name"]
  d_Weave_ready : MetAt K (aWeave K) "ready" "Weave.ready" (inClass (top 52) 4) ["self"]
  d_Weave_move : MetAt K (aWeave K) "move" "Weave.move" (inClass (top 52) 5) ["self", "name"]
  d_Weave_settle_task : MetAt K (aWeave K) "settle_task" "Weave.settle_task" (inClass (top 52) 6) ["self", "name"]
  d_Weave_settle_rings : MetAt K (aWeave K) "settle_rings" "Weave.settle_rings" (inClass (top 52) 7) ["self"]
  d_Weave_settled : MetAt K (aWeave K) "settled" "Weave.settled" (inClass (top 52) 8) ["self"]
  d_Weave_told : MetAt K (aWeave K) "told" "Weave.told" (inClass (top 52) 9) ["self"]
  d_law_draws : DefAt K mg "_law_draws" (top 54) ["_law_script", "_law_k", "_law_sizes"]
  d_law_names : DefAt K mg "_law_names" (top 55) ["_law_script", "_law_k", "_law_many"]
  d_law_next : DefAt K mg "_law_next" (top 56) ["_law_digits"]
  d_law_value : DefAt K mg "_law_value" (top 57) ["_law_digits", "_law_names_here"]
  d_law_leaf : DefAt K mg "_law_leaf" (top 58) ["_law_digits", "_law_names_here", "_law_many"]
  d_law_expr : DefAt K mg "_law_expr" (top 59) ["_law_digits", "_law_names_here", "_law_many"]
  d_law_recipe : DefAt K mg "_law_recipe" (top 60) ["_law_digits", "_law_names_here", "_law_many", "_law_deep", "_law_peeks"]
  d_law_thing : DefAt K mg "_law_thing" (top 61) ["_law_script", "_law_k", "_law_names_here", "_law_peeks"]
  d_law_book_of : DefAt K mg "_law_book_of" (top 62) ["_law_names_here", "_law_things"]
  d_law_rung : DefAt K mg "_law_rung" (top 63) ["_law_script", "_law_names_here", "_law_things"]
  d_law_books : DefAt K mg "_law_books" (top 64) ["_law_script", "_law_names_here", "_law_peeks"]
  d_law_stamp : DefAt K mg "_law_stamp" (top 65) ["_law_value_here"]
  d_law_run : DefAt K mg "_law_run" (top 66) ["_law_recipe_here", "_law_reads", "_law_peeks"]
  d_law_line : DefAt K mg "_law_line" (top 67) ["_law_name", "_law_recipe_here", "_law_good"]
  d_law_lines : DefAt K mg "_law_lines" (top 68) ["_law_book"]
  d_law_held : DefAt K mg "_law_held" (top 69) ["_law_script", "_law_k", "_law_elder"]
  d_law_asked : DefAt K mg "_law_asked" (top 70) ["_law_script", "_law_k", "_law_names_here"]
  d_law_now : DefAt K mg "_law_now" (top 71) ["_law_book", "_law_ends", "_law_name"]
  d_law_opens : DefAt K mg "_law_opens" (top 72) ["_law_world", "_law_name"]
  d_law_closes : DefAt K mg "_law_closes" (top 73) ["_law_world", "_law_name", "_law_word", "_law_line_here"]
  d_law_did : DefAt K mg "_law_did" (top 74) ["_law_task", "_law_name", "_law_end"]
  d_law_goes : DefAt K mg "_law_goes" (top 75) ["_law_world", "_law_name"]
  d_law_takes : DefAt K mg "_law_takes" (top 76) ["_law_world", "_law_name"]
  d_law_able : DefAt K mg "_law_able" (top 77) ["_law_world"]
  d_law_rings : DefAt K mg "_law_rings" (top 78) ["_law_world"]
  d_law_moves : DefAt K mg "_law_moves" (top 79) ["_law_world", "_law_name"]
  d_law : DefAt K mg "law" (top 80) ["_law_script"]
abbrev N_is_whole : List Str := ["thing"]
theorem sc_is_whole : FnScope N_is_whole ["thing"] (defScope (top 8)) := ⟨rfl, rfl, rfl, by decide +kernel, rfl, by decide +kernel, by decide +kernel⟩
abbrev N_is_name : List Str := ["thing", "sign"]
theorem sc_is_name : FnScope N_is_name ["thing"] (defScope (top 9)) := ⟨rfl, rfl, rfl, by decide +kernel, rfl, by decide +kernel, by decide +kernel⟩
abbrev N_is_plain_value : List Str := ["thing", "sign"]
theorem sc_is_plain_value : FnScope N_is_plain_value ["thing"] (defScope (top 10)) := ⟨rfl, rfl, rfl, by decide +kernel, rfl, by decide +kernel, by decide +kernel⟩
abbrev N_values_in : List Str := ["thing", "around", "many", "part", "more"]
theorem sc_values_in : FnScope N_values_in ["thing", "around"] (defScope (top 11)) := ⟨rfl, rfl, rfl, by decide +kernel, rfl, by decide +kernel, by decide +kernel⟩
abbrev N_is_value : List Str := ["thing", "many"]
theorem sc_is_value : FnScope N_is_value ["thing"] (defScope (top 12)) := ⟨rfl, rfl, rfl, by decide +kernel, rfl, by decide +kernel, by decide +kernel⟩
abbrev N_many_of : List Str := ["value", "part"]
theorem sc_many_of : FnScope N_many_of ["value"] (defScope (top 13)) := ⟨rfl, rfl, rfl, by decide +kernel, rfl, by decide +kernel, by decide +kernel⟩
abbrev N_exprs_in : List Str := ["thing"]
theorem sc_exprs_in : FnScope N_exprs_in ["thing"] (defScope (top 16)) := ⟨rfl, rfl, rfl, by decide +kernel, rfl, by decide +kernel, by decide +kernel⟩
abbrev N_recipes_in : List Str := ["recipe"]
theorem sc_recipes_in : FnScope N_recipes_in ["recipe"] (defScope (top 18)) := ⟨rfl, rfl, rfl, by decide +kernel, rfl, by decide +kernel, by decide +kernel⟩
abbrev N_sort_at : List Str := ["book", "name"]
theorem sc_sort_at : FnScope N_sort_at ["book", "name"] (defScope (top 20)) := ⟨rfl, rfl, rfl, by decide +kernel, rfl, by decide +kernel, by decide +kernel⟩
abbrev N_stamp_of : List Str := ["value", "part"]
theorem sc_stamp_of : FnScope N_stamp_of ["value"] (defScope (top 26)) := ⟨rfl, rfl, rfl, by decide +kernel, rfl, by decide +kernel, by decide +kernel⟩
abbrev N_number_by : List Str := ["word", "figures", "sign"]
theorem sc_number_by : FnScope N_number_by ["word"] (defScope (top 27)) := ⟨rfl, rfl, rfl, by decide +kernel, rfl, by decide +kernel, by decide +kernel⟩
abbrev N_plain_by : List Str := ["word", "value"]
theorem sc_plain_by : FnScope N_plain_by ["word"] (defScope (top 28)) := ⟨rfl, rfl, rfl, by decide +kernel, rfl, by decide +kernel, by decide +kernel⟩
abbrev N_value_at : List Str := ["text", "at", "around", "end", "value"]
theorem sc_value_at : FnScope N_value_at ["text", "at", "around"] (defScope (top 29)) := ⟨rfl, rfl, rfl, by decide +kernel, rfl, by decide +kernel, by decide +kernel⟩
abbrev N_row_at : List Str := ["text", "at", "around", "parts", "found"]
theorem sc_row_at : FnScope N_row_at ["text", "at", "around"] (defScope (top 30)) := ⟨rfl, rfl, rfl, by decide +kernel, rfl, by decide +kernel, by decide +kernel⟩
abbrev N_value_by : List Str := ["text", "found"]
theorem sc_value_by : FnScope N_value_by ["text"] (defScope (top 31)) := ⟨rfl, rfl, rfl, by decide +kernel, rfl, by decide +kernel, by decide +kernel⟩
abbrev N_expr_words : List Str := ["expr", "words", "part"]
theorem sc_expr_words : FnScope N_expr_words ["expr"] (defScope (top 33)) := ⟨rfl, rfl, rfl, by decide +kernel, rfl, by decide +kernel, by decide +kernel⟩
abbrev N_recipe_words : List Str := ["recipe", "words", "part"]
theorem sc_recipe_words : FnScope N_recipe_words ["recipe"] (defScope (top 34)) := ⟨rfl, rfl, rfl, by decide +kernel, rfl, by decide +kernel, by decide +kernel⟩
abbrev N_show_recipe : List Str := ["recipe"]
theorem sc_show_recipe : FnScope N_show_recipe ["recipe"] (defScope (top 35)) := ⟨rfl, rfl, rfl, by decide +kernel, rfl, by decide +kernel, by decide +kernel⟩
abbrev N_as_value : List Str := ["thing"]
theorem sc_as_value : FnScope N_as_value ["thing"] (defScope (top 38)) := ⟨rfl, rfl, rfl, by decide +kernel, rfl, by decide +kernel, by decide +kernel⟩
abbrev N_part_told : List Str := ["row", "place"]
theorem sc_part_told : FnScope N_part_told ["row", "place"] (defScope (top 39)) := ⟨rfl, rfl, rfl, by decide +kernel, rfl, by decide +kernel, by decide +kernel⟩
abbrev N_joined_told : List Str := ["one", "other"]
theorem sc_joined_told : FnScope N_joined_told ["one", "other"] (defScope (top 40)) := ⟨rfl, rfl, rfl, by decide +kernel, rfl, by decide +kernel, by decide +kernel⟩
abbrev N_pair_told : List Str := ["word", "one", "other"]
theorem sc_pair_told : FnScope N_pair_told ["word", "one", "other"] (defScope (top 41)) := ⟨rfl, rfl, rfl, by decide +kernel, rfl, by decide +kernel, by decide +kernel⟩
abbrev N_told_by : List Str := ["expr", "got", "values", "part", "found"]
theorem sc_told_by : FnScope N_told_by ["expr", "got"] (defScope (top 42)) := ⟨rfl, rfl, rfl, by decide +kernel, rfl, by decide +kernel, by decide +kernel⟩
abbrev N_asked_name : List Str := ["recipe", "got", "found"]
theorem sc_asked_name : FnScope N_asked_name ["recipe", "got"] (defScope (top 45)) := ⟨rfl, rfl, rfl, by decide +kernel, rfl, by decide +kernel, by decide +kernel⟩
abbrev N_along : List Str := ["recipe", "got", "found"]
theorem sc_along : FnScope N_along ["recipe", "got"] (defScope (top 46)) := ⟨rfl, rfl, rfl, by decide +kernel, rfl, by decide +kernel, by decide +kernel⟩
abbrev N_end_at : List Str := ["recipe", "got", "found"]
theorem sc_end_at : FnScope N_end_at ["recipe", "got"] (defScope (top 47)) := ⟨rfl, rfl, rfl, by decide +kernel, rfl, by decide +kernel, by decide +kernel⟩
abbrev N_is_next : List Str := ["rows", "k", "name"]
theorem sc_is_next : FnScope N_is_next ["rows", "k", "name"] (defScope (top 48)) := ⟨rfl, rfl, rfl, by decide +kernel, rfl, by decide +kernel, by decide +kernel⟩
abbrev N_replay : List Str := ["recipe", "reads", "peeks", "got", "used", "end", "name"]
theorem sc_replay : FnScope N_replay ["recipe", "reads", "peeks"] (defScope (top 49)) := ⟨rfl, rfl, rfl, by decide +kernel, rfl, by decide +kernel, by decide +kernel⟩
abbrev N_Task_init : List Str := ["self", "name", "recipe", "elder", "shelf"]
theorem sc_Task_init : FnScope N_Task_init ["self", "name", "recipe", "elder", "shelf"] (defScope (inClass (top 51) 0)) := ⟨rfl, rfl, rfl, by decide +kernel, rfl, by decide +kernel, by decide +kernel⟩
abbrev N_Task_go_on : List Str := ["self"]
theorem sc_Task_go_on : FnScope N_Task_go_on ["self"] (defScope (inClass (top 51) 1)) := ⟨rfl, rfl, rfl, by decide +kernel, rfl, by decide +kernel, by decide +kernel⟩
abbrev N_Task_look_on : List Str := ["self", "reads", "end"]
theorem sc_Task_look_on : FnScope N_Task_look_on ["self"] (defScope (inClass (top 51) 2)) := ⟨rfl, rfl, rfl, by decide +kernel, rfl, by decide +kernel, by decide +kernel⟩
abbrev N_Task_ask_on : List Str := ["self", "answer"]
theorem sc_Task_ask_on : FnScope N_Task_ask_on ["self"] (defScope (inClass (top 51) 3)) := ⟨rfl, rfl, rfl, by decide +kernel, rfl, by decide +kernel, by decide +kernel⟩
abbrev N_Task_do_on : List Str := ["self", "reads", "came", "name", "stamp"]
theorem sc_Task_do_on : FnScope N_Task_do_on ["self"] (defScope (inClass (top 51) 4)) := ⟨rfl, rfl, rfl, by decide +kernel, rfl, by decide +kernel, by decide +kernel⟩
abbrev N_Task_close : List Str := ["self", "word", "end"]
theorem sc_Task_close : FnScope N_Task_close ["self", "word", "end"] (defScope (inClass (top 51) 5)) := ⟨rfl, rfl, rfl, by decide +kernel, rfl, by decide +kernel, by decide +kernel⟩
abbrev N_Task_take : List Str := ["self", "stamp", "name"]
theorem sc_Task_take : FnScope N_Task_take ["self", "stamp"] (defScope (inClass (top 51) 6)) := ⟨rfl, rfl, rfl, by decide +kernel, rfl, by decide +kernel, by decide +kernel⟩
abbrev N_Task_take_looked : List Str := ["self", "name", "stamp", "reads"]
theorem sc_Task_take_looked : FnScope N_Task_take_looked ["self", "name", "stamp"] (defScope (inClass (top 51) 7)) := ⟨rfl, rfl, rfl, by decide +kernel, rfl, by decide +kernel, by decide +kernel⟩
abbrev N_Task_begin_anew : List Str := ["self"]
theorem sc_Task_begin_anew : FnScope N_Task_begin_anew ["self"] (defScope (inClass (top 51) 8)) := ⟨rfl, rfl, rfl, by decide +kernel, rfl, by decide +kernel, by decide +kernel⟩
abbrev N_Task_go_round : List Str := ["self"]
theorem sc_Task_go_round : FnScope N_Task_go_round ["self"] (defScope (inClass (top 51) 9)) := ⟨rfl, rfl, rfl, by decide +kernel, rfl, by decide +kernel, by decide +kernel⟩
abbrev N_Weave_init : List Str := ["self", "book", "held", "names", "name"]
theorem sc_Weave_init : FnScope N_Weave_init ["self", "book", "held", "names"] (defScope (inClass (top 52) 0)) := ⟨rfl, rfl, rfl, by decide +kernel, rfl, by decide +kernel, by decide +kernel⟩
abbrev N_Weave_is_open_thing : List Str := ["self", "name"]
theorem sc_Weave_is_open_thing : FnScope N_Weave_is_open_thing ["self", "name"] (defScope (inClass (top 52) 1)) := ⟨rfl, rfl, rfl, by decide +kernel, rfl, by decide +kernel, by decide +kernel⟩
abbrev N_Weave_open_task : List Str := ["self", "name", "recipe"]
theorem sc_Weave_open_task : FnScope N_Weave_open_task ["self", "name"] (defScope (inClass (top 52) 2)) := ⟨rfl, rfl, rfl, by decide +kernel, rfl, by decide +kernel, by decide +kernel⟩
abbrev N_Weave_stamp_now : List Str := ["self", "name", "end"]
theorem sc_Weave_stamp_now : FnScope N_Weave_stamp_now ["self", "name"] (defScope (inClass (top 52) 3)) := ⟨rfl, rfl, rfl, by decide +kernel, rfl, by decide +kernel, by decide +kernel⟩
abbrev N_Weave_ready : List Str := ["self", "told", "name", "task"]
theorem sc_Weave_ready : FnScope N_Weave_ready ["self"] (defScope (inClass (top 52) 4)) := ⟨rfl, rfl, rfl, by decide +kernel, rfl, by decide +kernel, by decide +kernel⟩
abbrev N_Weave_move : List Str := ["self", "name", "task"]
theorem sc_Weave_move : FnScope N_Weave_move ["self", "name"] (defScope (inClass (top 52) 5)) := ⟨rfl, rfl, rfl, by decide +kernel, rfl, by decide +kernel, by decide +kernel⟩
abbrev N_Weave_settle_task : List Str := ["self", "name", "task", "word", "line"]
theorem sc_Weave_settle_task : FnScope N_Weave_settle_task ["self", "name"] (defScope (inClass (top 52) 6)) := ⟨rfl, rfl, rfl, by decide +kernel, rfl, by decide +kernel, by decide +kernel⟩
abbrev N_Weave_settle_rings : List Str := ["self", "names", "name"]
theorem sc_Weave_settle_rings : FnScope N_Weave_settle_rings ["self"] (defScope (inClass (top 52) 7)) := ⟨rfl, rfl, rfl, by decide +kernel, rfl, by decide +kernel, by decide +kernel⟩
abbrev N_Weave_settled : List Str := ["self"]
theorem sc_Weave_settled : FnScope N_Weave_settled ["self"] (defScope (inClass (top 52) 8)) := ⟨rfl, rfl, rfl, by decide +kernel, rfl, by decide +kernel, by decide +kernel⟩
abbrev N_Weave_told : List Str := ["self"]
theorem sc_Weave_told : FnScope N_Weave_told ["self"] (defScope (inClass (top 52) 9)) := ⟨rfl, rfl, rfl, by decide +kernel, rfl, by decide +kernel, by decide +kernel⟩
abbrev N_law_draws : List Str := ["_law_script", "_law_k", "_law_sizes", "_law_cell", "_law_found", "_law_size", "_law_number"]
theorem sc_law_draws : FnScope N_law_draws ["_law_script", "_law_k", "_law_sizes"] (defScope (top 54)) := ⟨rfl, rfl, rfl, by decide +kernel, rfl, by decide +kernel, by decide +kernel⟩
abbrev N_law_names : List Str := ["_law_script", "_law_k", "_law_many", "_law_letters", "_law_words", "_law_draws_here", "_law_names_here", "_law_j", "_law_part", "_law_name", "_law_x", "_law_one"]
theorem sc_law_names : FnScope N_law_names ["_law_script", "_law_k", "_law_many"] (defScope (top 55)) := ⟨rfl, rfl, rfl, by decide +kernel, rfl, by decide +kernel, by decide +kernel⟩
abbrev N_law_next : List Str := ["_law_digits"]
theorem sc_law_next : FnScope N_law_next ["_law_digits"] (defScope (top 56)) := ⟨rfl, rfl, rfl, by decide +kernel, rfl, by decide +kernel, by decide +kernel⟩
abbrev N_law_value : List Str := ["_law_digits", "_law_names_here", "_law_some"]
theorem sc_law_value : FnScope N_law_value ["_law_digits", "_law_names_here"] (defScope (top 57)) := ⟨rfl, rfl, rfl, by decide +kernel, rfl, by decide +kernel, by decide +kernel⟩
abbrev N_law_leaf : List Str := ["_law_digits", "_law_names_here", "_law_many"]
theorem sc_law_leaf : FnScope N_law_leaf ["_law_digits", "_law_names_here", "_law_many"] (defScope (top 58)) := ⟨rfl, rfl, rfl, by decide +kernel, rfl, by decide +kernel, by decide +kernel⟩
abbrev N_law_expr : List Str := ["_law_digits", "_law_names_here", "_law_many", "_law_kind", "_law_one", "_law_word"]
theorem sc_law_expr : FnScope N_law_expr ["_law_digits", "_law_names_here", "_law_many"] (defScope (top 59)) := ⟨rfl, rfl, rfl, by decide +kernel, rfl, by decide +kernel, by decide +kernel⟩
abbrev N_law_recipe : List Str := ["_law_digits", "_law_names_here", "_law_many", "_law_deep", "_law_peeks", "_law_kind", "_law_test", "_law_first", "_law_what", "_law_word"]
theorem sc_law_recipe : FnScope N_law_recipe ["_law_digits", "_law_names_here", "_law_many", "_law_deep", "_law_peeks"] (defScope (top 60)) := ⟨rfl, rfl, rfl, by decide +kernel, rfl, by decide +kernel, by decide +kernel⟩
abbrev N_law_thing : List Str := ["_law_script", "_law_k", "_law_names_here", "_law_peeks", "_law_digits", "_law_kind"]
theorem sc_law_thing : FnScope N_law_thing ["_law_script", "_law_k", "_law_names_here", "_law_peeks"] (defScope (top 61)) := ⟨rfl, rfl, rfl, by decide +kernel, rfl, by decide +kernel, by decide +kernel⟩
abbrev N_law_book_of : List Str := ["_law_names_here", "_law_things", "_law_book", "_law_k"]
theorem sc_law_book_of : FnScope N_law_book_of ["_law_names_here", "_law_things"] (defScope (top 62)) := ⟨rfl, rfl, rfl, by decide +kernel, rfl, by decide +kernel, by decide +kernel⟩
abbrev N_law_rung : List Str := ["_law_script", "_law_names_here", "_law_things", "_law_draws_here", "_law_many", "_law_some", "_law_k", "_law_what", "_law_recipe_here", "_law_behind"]
theorem sc_law_rung : FnScope N_law_rung ["_law_script", "_law_names_here", "_law_things"] (defScope (top 63)) := ⟨rfl, rfl, rfl, by decide +kernel, rfl, by decide +kernel, by decide +kernel⟩
abbrev N_law_books : List Str := ["_law_script", "_law_names_here", "_law_peeks", "_law_k", "_law_things", "_law_elder", "_law_thing_here", "_law_way"]
theorem sc_law_books : FnScope N_law_books ["_law_script", "_law_names_here", "_law_peeks"] (defScope (top 64)) := ⟨rfl, rfl, rfl, by decide +kernel, rfl, by decide +kernel, by decide +kernel⟩
abbrev N_law_stamp : List Str := ["_law_value_here", "_law_part"]
theorem sc_law_stamp : FnScope N_law_stamp ["_law_value_here"] (defScope (top 65)) := ⟨rfl, rfl, rfl, by decide +kernel, rfl, by decide +kernel, by decide +kernel⟩
abbrev N_law_run : List Str := ["_law_recipe_here", "_law_reads", "_law_peeks"]
theorem sc_law_run : FnScope N_law_run ["_law_recipe_here", "_law_reads", "_law_peeks"] (defScope (top 66)) := ⟨rfl, rfl, rfl, by decide +kernel, rfl, by decide +kernel, by decide +kernel⟩
abbrev N_law_line : List Str := ["_law_name", "_law_recipe_here", "_law_good", "_law_reads", "_law_peeks", "_law_came", "_law_end", "_law_one", "_law_value_here"]
theorem sc_law_line : FnScope N_law_line ["_law_name", "_law_recipe_here", "_law_good"] (defScope (top 67)) := ⟨rfl, rfl, rfl, by decide +kernel, rfl, by decide +kernel, by decide +kernel⟩
abbrev N_law_lines : List Str := ["_law_book", "_law_good", "_law_lines_here", "_law_many", "_law_name", "_law_line_here"]
theorem sc_law_lines : FnScope N_law_lines ["_law_book"] (defScope (top 68)) := ⟨rfl, rfl, rfl, by decide +kernel, rfl, by decide +kernel, by decide +kernel⟩
abbrev N_law_held : List Str := ["_law_script", "_law_k", "_law_elder", "_law_fresh_lines", "_law_keeps", "_law_lying", "_law_spot", "_law_name"]
theorem sc_law_held : FnScope N_law_held ["_law_script", "_law_k", "_law_elder"] (defScope (top 69)) := ⟨rfl, rfl, rfl, by decide +kernel, rfl, by decide +kernel, by decide +kernel⟩
abbrev N_law_asked : List Str := ["_law_script", "_law_k", "_law_names_here", "_law_draws_here", "_law_some", "_law_x"]
theorem sc_law_asked : FnScope N_law_asked ["_law_script", "_law_k", "_law_names_here"] (defScope (top 70)) := ⟨rfl, rfl, rfl, by decide +kernel, rfl, by decide +kernel, by decide +kernel⟩
abbrev N_law_now : List Str := ["_law_book", "_law_ends", "_law_name", "_law_end"]
theorem sc_law_now : FnScope N_law_now ["_law_book", "_law_ends", "_law_name"] (defScope (top 71)) := ⟨rfl, rfl, rfl, by decide +kernel, rfl, by decide +kernel, by decide +kernel⟩
abbrev N_law_opens : List Str := ["_law_world", "_law_name", "_law_elder", "_law_task"]
theorem sc_law_opens : FnScope N_law_opens ["_law_world", "_law_name"] (defScope (top 72)) := ⟨rfl, rfl, rfl, by decide +kernel, rfl, by decide +kernel, by decide +kernel⟩
abbrev N_law_closes : List Str := ["_law_world", "_law_name", "_law_word", "_law_line_here"]
theorem sc_law_closes : FnScope N_law_closes ["_law_world", "_law_name", "_law_word", "_law_line_here"] (defScope (top 73)) := ⟨rfl, rfl, rfl, by decide +kernel, rfl, by decide +kernel, by decide +kernel⟩
abbrev N_law_did : List Str := ["_law_task", "_law_name", "_law_end", "_law_one", "_law_stamp_here"]
theorem sc_law_did : FnScope N_law_did ["_law_task", "_law_name", "_law_end"] (defScope (top 74)) := ⟨rfl, rfl, rfl, by decide +kernel, rfl, by decide +kernel, by decide +kernel⟩
abbrev N_law_goes : List Str := ["_law_world", "_law_name", "_law_task", "_law_reads", "_law_came", "_law_one", "_law_stamp_here"]
theorem sc_law_goes : FnScope N_law_goes ["_law_world", "_law_name"] (defScope (top 75)) := ⟨rfl, rfl, rfl, by decide +kernel, rfl, by decide +kernel, by decide +kernel⟩
abbrev N_law_takes : List Str := ["_law_world", "_law_name", "_law_task", "_law_what", "_law_stamp_here", "_law_reads", "_law_spot"]
theorem sc_law_takes : FnScope N_law_takes ["_law_world", "_law_name"] (defScope (top 76)) := ⟨rfl, rfl, rfl, by decide +kernel, rfl, by decide +kernel, by decide +kernel⟩
abbrev N_law_able : List Str := ["_law_world", "_law_found", "_law_name", "_law_what"]
theorem sc_law_able : FnScope N_law_able ["_law_world"] (defScope (top 77)) := ⟨rfl, rfl, rfl, by decide +kernel, rfl, by decide +kernel, by decide +kernel⟩
abbrev N_law_rings : List Str := ["_law_world", "_law_name", "_law_task"]
theorem sc_law_rings : FnScope N_law_rings ["_law_world"] (defScope (top 78)) := ⟨rfl, rfl, rfl, by decide +kernel, rfl, by decide +kernel, by decide +kernel⟩
abbrev N_law_moves : List Str := ["_law_world", "_law_name"]
theorem sc_law_moves : FnScope N_law_moves ["_law_world", "_law_name"] (defScope (top 79)) := ⟨rfl, rfl, rfl, by decide +kernel, rfl, by decide +kernel, by decide +kernel⟩
abbrev N_law : List Str := ["_law_script", "_law_names_here", "_law_book", "_law_elder", "_law_lying", "_law_asked_here", "_law_world", "_law_name", "_law_handed", "_law_weave", "_law_part", "_law_turns", "_law_count", "_law_some", "_law_able_here", "_law_turn", "_law_found"]
theorem sc_law : FnScope N_law ["_law_script"] (defScope (top 80)) := ⟨rfl, rfl, rfl, by decide +kernel, rfl, by decide +kernel, by decide +kernel⟩
end Wk
namespace Wk
open PySem PySem.Spec PyProof.Rows L2
/-! ### promises of defs on data -/
def spD1 (K : PySem.W.Frag) (pre : PyData → Prop) (f : PyData → PyData) : Sp := fun vs H Q _ => ∃ v d, vs = [v] ∧ Dp K H v d ∧ pre d ∧ ∀ r H', Ex H H' → Dp K H' r (f d) → Q r H'
def spD2 (K : PySem.W.Frag) (pre : PyData → PyData → Prop) (f : PyData → PyData → PyData) : Sp := fun vs H Q _ => ∃ v d u e, vs = [v, u] ∧ Dp K H v d ∧ Dp K H u e ∧ pre d e ∧ ∀ r H', Ex H H' → Dp K H' r (f d e) → Q r H'
def spD3 (K : PySem.W.Frag) (pre : PyData → PyData → PyData → Prop) (f : PyData → PyData → PyData → PyData) : Sp := fun vs H Q _ => ∃ v d u e x g, vs = [v, u, x] ∧ Dp K H v d ∧ Dp K H u e ∧ Dp K H x g ∧ pre d e g ∧ ∀ r H', Ex H H' → Dp K H' r (f d e g) → Q r H'
theorem spD1_len {K : PySem.W.Frag} {pre : PyData → Prop} {f : PyData → PyData} (vs : List V) (H : Hp) (Q : VK) (E : XK) (h : spD1 K pre f vs H Q E) : vs.length = 1 := by
  obtain ⟨v, d, rfl, _⟩ := h
  rfl
theorem spD2_len {K : PySem.W.Frag} {pre : PyData → PyData → Prop} {f : PyData → PyData → PyData} (vs : List V) (H : Hp) (Q : VK) (E : XK) (h : spD2 K pre f vs H Q E) : vs.length = 2 := by
  obtain ⟨v, d, u, e, rfl, _⟩ := h
  rfl
theorem spD3_len {K : PySem.W.Frag} {pre : PyData → PyData → PyData → Prop} {f : PyData → PyData → PyData → PyData} (vs : List V) (H : Hp) (Q : VK) (E : XK) (h : spD3 K pre f vs H Q E) : vs.length = 3 := by
  obtain ⟨v, d, u, e, x, g, rfl, _⟩ := h
  rfl
/-! ### values: plain functions -/
def isInt : PyData → Bool
  | .int _ => true
  | _ => false
def lettersS : Str := "abcdefghijklmnopqrstuvwxyz"
def signsS : Str := "abcdefghijklmnopqrstuvwxyz0123456789-"
def allIn (z s : Str) : Bool := z.cps.toList.all fun c => decide (c ∈ s.cps.toList)
def isNameS (z : Str) : Bool := decide (1 ≤ z.length) && (decide (z.length ≤ 8) && allIn z lettersS)
def isName : PyData → Bool
  | .str z => isNameS z
  | _ => false
def plainD : PyData → Bool
  | .int i => decide (-(10 ^ 18) ≤ i) && decide (i ≤ 10 ^ 18)
  | .str z => decide (z.length ≤ 20) && allIn z signsS
  | _ => false
mutual
/-- values_in -/
def vin : PyData → Nat → Option Nat
  | .tuple ds, a => if 8 < ds.length ∨ a = 4 then none else vinAll ds (a + 1) 1
  | .int i, _ => if plainD (.int i) then some 1 else none
  | .str z, _ => if plainD (.str z) then some 1 else none
  | _, _ => none
def vinAll : List PyData → Nat → Nat → Option Nat
  | [], _, m => some m
  | d :: ds, a, m => match vin d a with
    | none => none
    | some k => vinAll ds a (m + k)
end
def okV (d : PyData) : Bool := match vin d 0 with
  | some n => decide (n ≤ 40)
  | none => false
mutual
/-- made of whole numbers, texts, tuples, the texts of at most n signs, the tuples of at most n parts -/
def vsh (n : Nat) : PyData → Bool
  | .int _ => true
  | .str z => decide (z.length ≤ n)
  | .tuple ds => decide (ds.length ≤ n) && vshAll n ds
  | _ => false
def vshAll (n : Nat) : List PyData → Bool
  | [] => true
  | d :: ds => vsh n d && vshAll n ds
end
mutual
def countD : PyData → Nat
  | .tuple ds => 1 + countAll ds
  | _ => 1
def countAll : List PyData → Nat
  | [] => 0
  | d :: ds => countD d + countAll ds
end
end Wk
namespace Wk
open PySem PySem.Spec PyProof.Rows L2
/-! ### what a comprehension walks, unchanged while the heap grows -/
structure Src (J : It) (H1 : Hp) (n : Nat) (G : Nat → V → Prop) : Prop where
  go : ∀ i H', Ex H1 H' → i < n → J.go i H'
  stop : ∀ H', Ex H1 H' → J.stop n H'
  yld : ∀ i H' x H'', Ex H1 H' → i < n → J.yld i H' x H'' → H'' = H' ∧ G i x
section
variable {K : PySem.W.Frag} {H1 : Hp} {a : Addr} {xs : List V}
theorem src_tup (h : SqT K H1 a xs) : Src (Itt K a) H1 xs.length (fun i x => xs[i]? = some x) :=
  ⟨fun i H' e hi => ⟨xs, xs[i], ex_t e h, by simp [hi]⟩, fun H' e => ⟨xs, ex_t e h, Nat.le_refl _⟩, fun i H' x H'' e _ y => ⟨y.1, y.2 xs (ex_t e h)⟩⟩
theorem src_list (h : SqL K H1 a xs) : Src (Itl K a) H1 xs.length (fun i x => xs[i]? = some x) :=
  ⟨fun i H' e hi => ⟨xs, xs[i], ex_l e h, by simp [hi]⟩, fun H' e => ⟨xs, ex_l e h, Nat.le_refl _⟩, fun i H' x H'' e _ y => ⟨y.1, y.2 xs (ex_l e h)⟩⟩
theorem src_str (z : Str) : Src (Its z) H1 z.cps.size (fun i x => ∃ c, z.cps[i]? = some c ∧ x = .str ⟨#[c]⟩) :=
  ⟨fun i H' _ hi => hi, fun H' _ => Nat.le_refl _, fun i H' x H'' _ _ y => y⟩
theorem src_rng (lo : Int) (n : Nat) : Src (Itr lo n) H1 n (fun i x => x = .int (lo + i)) :=
  ⟨fun i H' _ hi => hi, fun H' _ => Nat.le_refl _, fun i H' x H'' _ _ y => y⟩
end
/-- [e for x in ..]: each element a datum without lists, told by its place -/
theorem lcD {K : PySem.W.Frag} {J : It} {H1 : Hp} {n : Nat} {G : Nat → V → Prop} {g : TG} {te : TE} {vs : List Nat} {σ : L2.St} {D : Addr} {Qd : Hp → Prop} (S : Src J H1 n G) (F : Nat → PyData) (hD : H1 D = none) (hF : ∀ i, imm (F i) = true) (hn : n ≤ 100000)
    (hs : ∀ i x H' (Q' : VK), i < n → G i x → Ex H1 H' → (∀ y H4, Ex H' H4 → Dp K H4 y (F i) → Q' y H4) → g x (wipe σ vs) H' fun σ2 H2 => wipe σ2 vs = wipe σ vs ∧ te σ2 H2 Q')
    (hd : ∀ H5 ys, Ex H1 H5 → H5 D = some (.lst ys) → DpAll K H5 ys ((List.range n).map F) → Qd H5) :
    ∃ W : Nat → Nat → Hp → Prop, (∃ m, W 0 m (upd H1 D (.lst []))) ∧ ∀ i m H, W i m H →
      (J.stop i H ∧ Qd H) ∨ (J.go i H ∧ ∃ Nx : Hp → Prop, (∀ H', Nx H' → ∃ m', m' < m ∧ W (i + 1) m' H') ∧ ∀ x H', J.yld i H x H' → g x (wipe σ vs) H' fun σ2 H2 => wipe σ2 vs = wipe σ vs ∧ tYes σ2 H2 fun b H3 =>
        if b = true then te σ2 H3 fun y H4 => ∃ acc, H4 D = some (.lst acc) ∧ acc.length < sizeLine ∧ Nx (upd H4 D (.lst (acc ++ [y]))) else Nx H3) := by
  have hFA : ∀ l : List Nat, immAll (l.map F) = true := fun l => by
    induction l with
    | nil => rfl
    | cons a l ih =>
      show (imm (F a) && immAll (l.map F)) = true
      rw [hF, ih]
      rfl
  refine ⟨fun i m H => m = n - i ∧ i ≤ n ∧ Ex H1 H ∧ ∃ ys, H D = some (.lst ys) ∧ DpAll K H ys ((List.range i).map F), ⟨n, rfl, Nat.zero_le _, Ex.new hD, [], upd_same, .nil⟩, ?_⟩
  rintro i m H ⟨rfl, hi, e, ys, hys, dys⟩
  by_cases hlt : i < n
  · refine .inr ⟨S.go i H e hlt, fun H' => Ex H1 H' ∧ ∃ ys, H' D = some (.lst ys) ∧ DpAll K H' ys ((List.range (i + 1)).map F), fun H' p => ⟨n - (i + 1), by omega, rfl, hlt, p⟩, fun x H' y => ?_⟩
    obtain ⟨rfl, y2⟩ := S.yld i H x H' e hlt y
    have q := hs i x H' (fun y H4 => ∃ acc, H4 D = some (.lst acc) ∧ acc.length < sizeLine ∧ (Ex H1 (upd H4 D (.lst (acc ++ [y]))) ∧ ∃ ys, upd H4 D (.lst (acc ++ [y])) D = some (.lst ys) ∧ DpAll K (upd H4 D (.lst (acc ++ [y]))) ys ((List.range (i + 1)).map F)))
      hlt y2 e (fun y H4 e4 d4 => ?_)
    · exact q
    · have hz : ys.length = i := by
        have z := dys.length
        rw [List.length_map, List.length_range] at z
        exact z
      have h4 := e4 D _ hys
      have t : Tu H4 (upd H4 D (.lst (ys ++ [y]))) := Tu.mut h4
      refine ⟨ys, h4, by rw [hz]; exact szlt (by omega), Ex.mut (Same.trans e e4) hD, _, upd_same, ?_⟩
      rw [List.range_succ, List.map_append]
      exact (DpAll.tu ((Same.tu e4).trans t) _ _ (hFA _) dys).append (.one (Dp.tu t _ _ (hF i) d4))
  · have ei : i = n := by omega
    subst ei
    exact .inl ⟨S.stop H e, hd H ys e hys dys⟩
section
variable {K : PySem.W.Frag} {H : Hp}
theorem _root_.L2.DpAll.bools_eq : ∀ {vs : List V} {bs : List Bool}, DpAll K H vs (bs.map PyData.bool) → vs = bs.map V.bl
  | _, [], h => by cases h; rfl
  | _, b :: bs, h => by
    cases h with
    | cons h1 h2 =>
      rw [dp_bl h1, L2.DpAll.bools_eq h2]
      rfl
theorem _root_.L2.DpAll.ints_eq : ∀ {vs : List V} {bs : List Int}, DpAll K H vs (bs.map PyData.int) → vs = bs.map V.int
  | _, [], h => by cases h; rfl
  | _, b :: bs, h => by
    cases h with
    | cons h1 h2 =>
      rw [dp_int h1, L2.DpAll.ints_eq h2]
      rfl
end
section
variable {K : PySem.W.Frag} {H : Hp}
theorem dpB {b b' : Bool} (e : b = b') : Dp K H (.bl b) (.bool b') := by subst e; exact .bl _
theorem dpI {b b' : Int} (e : b = b') : Dp K H (.int b) (.int b') := by subst e; exact .int _
theorem dpS {b b' : Str} (e : b = b') : Dp K H (.str b) (.str b') := by subst e; exact .str _
end
/-- the list that stands in the range's places -/
theorem range_get {α β : Type} (xs : List α) (f : α → β) (g : Nat → β) (h : ∀ i x, xs[i]? = some x → g i = f x) : (List.range xs.length).map g = xs.map f := by
  apply List.ext_getElem?
  intro i
  rw [List.getElem?_map, List.getElem?_map]
  by_cases hi : i < xs.length
  · rw [List.getElem?_range hi, List.getElem?_eq_getElem hi]
    exact congrArg some (h i _ (List.getElem?_eq_getElem hi))
  · rw [List.getElem?_eq_none (by simpa using hi), List.getElem?_eq_none (by simpa using hi)]
    rfl
/-- [p(sign) for sign in text] -/
theorem lcStrB {K : PySem.W.Frag} {z : Str} {p : Nat → Bool} {H1 : Hp} {g : TG} {te : TE} {vs : List Nat} {σ : L2.St} {D : Addr} {Qd : Hp → Prop} (hD : H1 D = none) (hn : z.length ≤ 100000)
    (hs : ∀ c H' (Q' : VK), Ex H1 H' → (∀ H4, Ex H' H4 → Q' (.bl (p c)) H4) → g (.str ⟨#[c]⟩) (wipe σ vs) H' fun σ2 H2 => wipe σ2 vs = wipe σ vs ∧ te σ2 H2 Q')
    (hd : ∀ H5, Ex H1 H5 → H5 D = some (.lst ((z.cps.toList.map p).map V.bl)) → Qd H5) :
    ∃ W : Nat → Nat → Hp → Prop, (∃ m, W 0 m (upd H1 D (.lst []))) ∧ ∀ i m H, W i m H →
      ((Its z).stop i H ∧ Qd H) ∨ ((Its z).go i H ∧ ∃ Nx : Hp → Prop, (∀ H', Nx H' → ∃ m', m' < m ∧ W (i + 1) m' H') ∧ ∀ x H', (Its z).yld i H x H' → g x (wipe σ vs) H' fun σ2 H2 => wipe σ2 vs = wipe σ vs ∧ tYes σ2 H2 fun b H3 =>
        if b = true then te σ2 H3 fun y H4 => ∃ acc, H4 D = some (.lst acc) ∧ acc.length < sizeLine ∧ Nx (upd H4 D (.lst (acc ++ [y]))) else Nx H3) := by
  refine lcD (K := K) (src_str z) (fun i => .bool (match z.cps[i]? with | some c => p c | none => false)) hD (fun _ => rfl) hn (fun i x H' Q' hi gx e k => ?_) (fun H5 ys e5 h5 d5 => hd H5 e5 ?_)
  · obtain ⟨c, hc, rfl⟩ := gx
    refine hs c H' Q' e fun H4 e4 => k _ H4 e4 ?_
    rw [hc]
    exact .bl _
  · rw [h5]
    have e : (List.range z.cps.size).map (fun i => PyData.bool (match z.cps[i]? with | some c => p c | none => false)) = (z.cps.toList.map p).map PyData.bool := by
      rw [List.map_map]
      have q := range_get z.cps.toList (PyData.bool ∘ p) (fun i => PyData.bool (match z.cps[i]? with | some c => p c | none => false)) (fun i x hx => by
        rw [Array.getElem?_toList] at hx
        rw [hx]
        rfl)
      rw [Array.length_toList] at q
      exact q
    rw [e] at d5
    rw [d5.bools_eq]
/-- [f(part) for part in ..]: the parts data -/
theorem lcMap {K : PySem.W.Frag} {J : It} {xs : List V} {ds : List PyData} {H1 : Hp} {g : TG} {te : TE} {vs : List Nat} {σ : L2.St} {D : Addr} {Qd : Hp → Prop} (S : Src J H1 xs.length (fun i x => xs[i]? = some x)) (hA : DpAll K H1 xs ds) (F : PyData → PyData)
    (hD : H1 D = none) (hF : ∀ d, imm (F d) = true) (hn : ds.length ≤ 100000)
    (hs : ∀ x d H' (Q' : VK), d ∈ ds → Dp K H' x d → Ex H1 H' → (∀ y H4, Ex H' H4 → Dp K H4 y (F d) → Q' y H4) → g x (wipe σ vs) H' fun σ2 H2 => wipe σ2 vs = wipe σ vs ∧ te σ2 H2 Q')
    (hd : ∀ H5 ys, Ex H1 H5 → H5 D = some (.lst ys) → DpAll K H5 ys (ds.map F) → Qd H5) :
    ∃ W : Nat → Nat → Hp → Prop, (∃ m, W 0 m (upd H1 D (.lst []))) ∧ ∀ i m H, W i m H →
      (J.stop i H ∧ Qd H) ∨ (J.go i H ∧ ∃ Nx : Hp → Prop, (∀ H', Nx H' → ∃ m', m' < m ∧ W (i + 1) m' H') ∧ ∀ x H', J.yld i H x H' → g x (wipe σ vs) H' fun σ2 H2 => wipe σ2 vs = wipe σ vs ∧ tYes σ2 H2 fun b H3 =>
        if b = true then te σ2 H3 fun y H4 => ∃ acc, H4 D = some (.lst acc) ∧ acc.length < sizeLine ∧ Nx (upd H4 D (.lst (acc ++ [y]))) else Nx H3) := by
  have hl := hA.length
  refine lcD (K := K) S (fun i => F (ds.getD i .none)) hD (fun i => hF _) (by rw [hl]; exact hn) (fun i x H' Q' hi gx e k => ?_) (fun H5 ys e5 h5 d5 => hd H5 ys e5 h5 ?_)
  · obtain ⟨d, hdi, hdx⟩ := hA.getV gx
    have e1 : ds.getD i .none = d := by rw [List.getD_eq_getElem?_getD, hdi]; rfl
    rw [e1] at k
    exact hs x d H' Q' (List.mem_of_getElem? hdi) (hdx.up e) e k
  · rw [hl] at d5
    rw [range_get ds F _ (fun i x hx => by rw [List.getD_eq_getElem?_getD, hx]; rfl)] at d5
    exact d5
theorem iteD {p A B : Prop} [Decidable p] (h1 : p → A) (h2 : ¬ p → B) : if decide p = true then A else B := by
  by_cases h : p
  · rw [if_pos (decide_eq_true h)]
    exact h1 h
  · rw [if_neg (by rw [decide_eq_false h]; exact Bool.false_ne_true)]
    exact h2 h
theorem iteND {p A B : Prop} [Decidable p] (h1 : ¬ p → A) (h2 : p → B) : if (!decide p) = true then A else B := by
  by_cases h : p
  · rw [if_neg (by rw [decide_eq_true h]; exact Bool.false_ne_true)]
    exact h2 h
  · rw [if_pos (by rw [decide_eq_false h]; rfl)]
    exact h1 h
theorem iteB {b : Bool} {A B : Prop} (h1 : b = true → A) (h2 : b = false → B) : if b = true then A else B := by
  cases b with
  | true => rw [if_pos rfl]; exact h1 rfl
  | false => rw [if_neg Bool.false_ne_true]; exact h2 rfl
theorem iteNB {b : Bool} {A B : Prop} (h1 : b = false → A) (h2 : b = true → B) : if (!b) = true then A else B := by
  cases b with
  | true => rw [if_neg (by decide)]; exact h2 rfl
  | false => rw [if_pos (show (!false) = true from rfl)]; exact h1 rfl
theorem hu65 {A : Around} {k : Nat} (hr : Room k A) : A.units + 65 < cLine := by
  have := hr.un
  omega
end Wk
namespace Wk
open PySem PySem.Spec PyProof.Rows L2
section
variable {P : Program} {w : World} {K : PySem.W.Frag} {mg : Str → Option Value} {base : Heap}
theorem c_is_whole (W : Wld K mg) : Cal P w K mg base 1 "is_whole" (spD1 K (fun d => ∀ b, d ≠ .bool b) fun d => .bool (isInt d)) := by
  refine cal_of W.d_is_whole sc_is_whole spD1_len (fun f cdv A outer s H vs Q E hr h => ?_)
  obtain ⟨v, d, rfl, hd, hb, k⟩ := h
  refine ⟨_, (pss_one (ps_ret (pe_and (pe_callB call_isiD (by rfl) W.f_isinstance bt_isinstance (pa_cons (pv 0) (pa_cons (pe_bt (by rfl) W.f_int bt_int) pa_nil))) (pe_one (pe_not (pe_callB call_isiD (by rfl) W.f_isinstance bt_isinstance (pa_cons (pv 0) (pa_cons (pe_bt (by rfl) W.f_bool bt_bool) pa_nil)))))))), ?_⟩
  refine ⟨_, rfl, _, _, d, rfl, hd, .inl rfl, _, rfl, ?_⟩
  refine ite2 (fun c => ?_) (fun c => ?_)
  · refine ⟨_, rfl, _, _, d, rfl, hd, .inr (.inr (.inr (.inr rfl))), _, rfl, ?_⟩
    refine k _ _ (Same.refl H) ?_
    cases d <;> first | exact absurd rfl (hb _) | (cases c; done) | exact .bl _
  · refine k _ _ (Same.refl H) ?_
    cases d <;> first | exact absurd rfl (hb _) | exact absurd rfl c | exact .bl _
theorem c_is_name (W : Wld K mg) : Cal P w K mg base 1 "is_name" (spD1 K (fun d => vsh 1000 d = true) fun d => .bool (isName d)) := by
  refine cal_of W.d_is_name sc_is_name spD1_len (fun f cdv A outer s H vs Q E hr h => ?_)
  obtain ⟨v, d, rfl, hd, hb, k⟩ := h
  refine ⟨_, (pss_cons (ps_if (PW.pt (pw_or (pt_not (pt_val (pe_callB call_isiD (by rfl) W.f_isinstance bt_isinstance (pa_cons (pv 0) (pa_cons (pe_bt (by rfl) W.f_str bt_str) pa_nil))))) (pw_or (pt_cmpR op_lt (pe_callB call_lenDp (by rfl) W.f_len bt_len (pa_cons (pv 0) pa_nil)) pe_int (nomark _)) (pw_or1 (pt_cmpR op_gt (pe_callB call_lenDp (by rfl) W.f_len bt_len (pa_cons (pv 0) pa_nil)) pe_int (nomark _)))))) (pss_one (ps_ret pe_bl)) pss_nil)
    (pss_one (ps_ret (pe_callB (cr_all rfl) (by rfl) W.f_all bt_all (pa_cons (pe_lc (own := [("sign", 1)]) (g := gName 1) (tt := tYes) rfl sc_is_name.nd (pi_str (pv 0)) (blkOk_by (own := [("sign", 1)]) (N := N_is_name) (sc := defScope (top 9)) (by decide +kernel)) (fun _ _ _ _ _ => (pg_name (i := 1) sc_is_name.nd rfl (Or.inl rfl))) (fun _ _ _ _ _ => pts_nil) (fun _ _ _ _ _ => (pe_cmpR op_in_sign (pv 1) (C8.pe_gc (by rfl) W.g_LETTERS) (by rfl)))) pa_nil))))), ?_⟩
  refine ⟨_, rfl, _, _, d, rfl, hd, .inr (.inl rfl), _, rfl, ?_⟩
  by_cases hs : isiD "str" d = true
  case neg =>
    rw [Bool.eq_false_iff.mpr hs]
    refine iteT (iteT (k _ _ (Same.refl H) ?_))
    cases d <;> first | exact absurd rfl hs | exact .bl _
  rw [hs]
  refine iteF ?_
  obtain ⟨z, rfl⟩ : ∃ z, d = .str z := by
    cases d <;> first | exact ⟨_, rfl⟩ | (cases hs)
  have hz : z.length ≤ 1000 := of_decide_eq_true hb
  have e := dp_str hd
  subst e
  have hl : lenD (.str z) ≤ sizeLine := sz100 (Nat.le_trans hz (by decide))
  refine ⟨_, rfl, _, _, rfl, hd, rfl, hl, _, _, rfl, rfl, _, rfl, ?_⟩
  refine ite2 (fun c => ?_) (fun c => ?_)
  · refine iteT (k _ _ (Same.refl H) ?_)
    have c' : z.length < 1 := by have := of_decide_eq_true c; have : ((z.length : Nat) : Int) < 1 := this; omega
    exact dpB (Eq.symm (by show isNameS z = false; unfold isNameS; rw [decide_eq_false (by omega)]; rfl))
  have c1 : 1 ≤ z.length := by have := of_decide_eq_false (Bool.eq_false_iff.mpr c); have : ¬ ((z.length : Nat) : Int) < 1 := this; omega
  refine ⟨_, rfl, _, _, rfl, hd, rfl, hl, _, _, rfl, rfl, _, rfl, ?_⟩
  refine ite2 (fun c => ?_) (fun c => ?_)
  · refine k _ _ (Same.refl H) ?_
    have c' : 8 < z.length := by have := of_decide_eq_true c; have : (8 : Int) < ((z.length : Nat) : Int) := this; omega
    exact dpB (Eq.symm (by show isNameS z = false; unfold isNameS; rw [decide_eq_true c1, decide_eq_false (by omega)]; rfl))
  have c2 : z.length ≤ 8 := by have := of_decide_eq_false (Bool.eq_false_iff.mpr c); have : ¬ (8 : Int) < ((z.length : Nat) : Int) := this; omega
  refine ⟨_, rfl, z, rfl, fun D hD => lcStrB (K := K) (p := fun c => decide (c ∈ lettersS.cps.toList)) hD (Nat.le_trans hz (by decide)) (fun c H' Q' e kq => ?_) (fun H5 e5 h5 => ?_)⟩
  · refine ⟨rfl, _, rfl, c, lettersS, rfl, rfl, ?_⟩
    exact kq H' (Same.refl _)
  · refine ⟨D, _, rfl, .inl (.inl h5), ?_⟩
    refine k _ _ e5 ?_
    have e2 : isName (.str z) = (z.cps.toList.map fun c => decide (c ∈ lettersS.cps.toList)).all id := by
      show (decide (1 ≤ z.length) && (decide (z.length ≤ 8) && allIn z lettersS)) = _
      unfold allIn
      rw [decide_eq_true c1, decide_eq_true c2, List.all_map]
      rfl
    exact dpB e2.symm
theorem vsh_nb {n : Nat} {d : PyData} (h : vsh n d = true) : ∀ b, d ≠ .bool b := fun b e => by
  subst e
  cases h
theorem vsh_str {n : Nat} {z : Str} (h : vsh n (.str z) = true) : z.length ≤ n := of_decide_eq_true h
theorem vsh_tup {n : Nat} {ds : List PyData} (h : vsh n (.tuple ds) = true) : ds.length ≤ n ∧ vshAll n ds = true := by
  have q : (decide (ds.length ≤ n) && vshAll n ds) = true := h
  rw [Bool.and_eq_true] at q
  exact ⟨of_decide_eq_true q.1, q.2⟩
theorem vshAll_mem {n : Nat} : ∀ {ds : List PyData} {d : PyData}, vshAll n ds = true → d ∈ ds → vsh n d = true
  | [], _, _, m => by cases m
  | x :: xs, d, h, m => by
    have q : (vsh n x && vshAll n xs) = true := h
    rw [Bool.and_eq_true] at q
    rcases List.mem_cons.mp m with rfl | m
    · exact q.1
    · exact vshAll_mem q.2 m
theorem vsh_cases {n : Nat} {d : PyData} (h : vsh n d = true) : (∃ i, d = .int i) ∨ (∃ z, d = .str z) ∨ ∃ ds, d = .tuple ds := by
  cases d with
  | int i => exact .inl ⟨i, rfl⟩
  | str z => exact .inr (.inl ⟨z, rfl⟩)
  | tuple ds => exact .inr (.inr ⟨ds, rfl⟩)
  | none => cases h
  | bool b => cases h
  | list x => cases h
  | dict x => cases h
theorem c_is_plain_value (W : Wld K mg) : Cal P w K mg base 2 "is_plain_value" (spD1 K (fun d => vsh 1000 d = true) fun d => .bool (plainD d)) := by
  have c_is_whole : Cal P w K mg base 1 "is_whole" _ := c_is_whole W
  refine cal_of W.d_is_plain_value sc_is_plain_value spD1_len (fun f cdv A outer s H vs Q E hr h => ?_)
  obtain ⟨v, d, rfl, hd, hb, k⟩ := h
  refine ⟨_, (pss_cons (ps_if (pt_val (pe_cl c_is_whole hr (by omega) (by rfl) (pa_cons (pv 0) pa_nil))) (pss_one (ps_ret (pe_chain op_le op_le (pe_un un_neg (C8.pe_gc (by rfl) W.g_GREATEST)) (pv 0) (C8.pe_gc (by rfl) W.g_GREATEST)))) pss_nil)
    (pss_cons (ps_if (PW.pt (pw_or (pt_not (pt_val (pe_callB call_isiD (by rfl) W.f_isinstance bt_isinstance (pa_cons (pv 0) (pa_cons (pe_bt (by rfl) W.f_str bt_str) pa_nil))))) (pw_or1 (pt_cmpR op_gt (pe_callB call_lenDp (by rfl) W.f_len bt_len (pa_cons (pv 0) pa_nil)) (C8.pe_gc (by rfl) W.g_MOST_SIGNS) (nomark _))))) (pss_one (ps_ret pe_bl)) pss_nil)
    (pss_one (ps_ret (pe_callB (cr_all rfl) (by rfl) W.f_all bt_all (pa_cons (pe_lc (own := [("sign", 1)]) (g := gName 1) (tt := tYes) rfl sc_is_plain_value.nd (pi_str (pv 0)) (blkOk_by (own := [("sign", 1)]) (N := N_is_plain_value) (sc := defScope (top 10)) (by decide +kernel)) (fun _ _ _ _ _ => (pg_name (i := 1) sc_is_plain_value.nd rfl (Or.inl rfl))) (fun _ _ _ _ _ => pts_nil) (fun _ _ _ _ _ => (pe_cmpR op_in_sign (pv 1) (C8.pe_gc (by rfl) W.g_SIGNS) (by rfl)))) pa_nil)))))), ?_⟩
  refine ⟨_, rfl, v, d, rfl, hd, vsh_nb hb, fun r H1 e1 hr1 => ?_⟩
  obtain rfl := dp_bl hr1
  refine ⟨_, rfl, ?_⟩
  rcases vsh_cases hb with ⟨i, rfl⟩ | ⟨z, rfl⟩ | ⟨ds, rfl⟩
  · refine iteT ?_
    obtain rfl := dp_int hd
    refine ⟨_, rfl, _, rfl, _, _, rfl, rfl, _, rfl, iteD (fun c => ?_) (fun c => ?_)⟩
    · refine ⟨_, _, rfl, rfl, ?_⟩
      refine k _ _ e1 (dpB ?_)
      show decide (i ≤ 10 ^ 18) = (decide (-(10 ^ 18) ≤ i) && decide (i ≤ 10 ^ 18))
      rw [decide_eq_true (show -(10 ^ 18) ≤ i from c)]
      rfl
    · refine k _ _ e1 (dpB ?_)
      show false = (decide (-(10 ^ 18) ≤ i) && decide (i ≤ 10 ^ 18))
      rw [decide_eq_false (show ¬ -(10 ^ 18) ≤ i from c)]
      rfl
  · refine iteF ?_
    obtain rfl := dp_str hd
    have hz : z.length ≤ 1000 := vsh_str hb
    have hl : lenD (.str z) ≤ sizeLine := sz100 (Nat.le_trans hz (by decide))
    refine ⟨_, rfl, _, _, _, rfl, .str z, .inr (.inl rfl), _, rfl, ?_⟩
    refine iteF ⟨_, rfl, _, _, rfl, .str z, rfl, hl, _, _, rfl, rfl, _, rfl, iteD (fun c => ?_) (fun c => ?_)⟩
    · refine k _ _ e1 (dpB ?_)
      have c' : (20 : Int) < ((z.length : Nat) : Int) := c
      show false = (decide (z.length ≤ 20) && allIn z signsS)
      rw [decide_eq_false (by omega)]
      rfl
    · have c' : ¬ (20 : Int) < ((z.length : Nat) : Int) := c
      refine ⟨_, rfl, z, rfl, fun D hD => lcStrB (K := K) (p := fun c => decide (c ∈ signsS.cps.toList)) hD (Nat.le_trans hz (by decide)) (fun c H' Q' e kq => ?_) (fun H5 e5 h5 => ?_)⟩
      · exact ⟨rfl, _, rfl, c, signsS, rfl, rfl, kq H' (Same.refl _)⟩
      · refine ⟨D, _, rfl, .inl (.inl h5), ?_⟩
        refine k _ _ (e1.trans e5) (dpB ?_)
        show _ = (decide (z.length ≤ 20) && allIn z signsS)
        unfold allIn
        rw [decide_eq_true (by omega), List.all_map]
        rfl
  · refine iteF ?_
    refine ⟨_, rfl, _, _, _, rfl, hd.up e1, .inr (.inl rfl), _, rfl, ?_⟩
    exact iteT (k _ _ e1 (.bl _))
end
end Wk
namespace Wk
open PySem PySem.Spec PyProof.Rows L2
def arD : PyData → Nat
  | .int i => i.toNat
  | _ => 0
def optI : Option Nat → PyData
  | some m => .int m
  | none => .none
def spVin (K : PySem.W.Frag) (n : Nat) : Sp := spD2 K (fun d e => vsh 1000 d = true ∧ ∃ a : Nat, e = .int a ∧ a ≤ 4 ∧ 5 ≤ a + n) (fun d e => optI (vin d (arD e)))
theorem vin_plain {d : PyData} (h : plainD d = true) (a : Nat) : vin d a = some 1 := by
  cases d with
  | int i => rw [vin, if_pos h]
  | str z => rw [vin, if_pos h]
  | none => cases h
  | bool b => cases h
  | list x => cases h
  | tuple x => cases h
  | dict x => cases h
theorem vin_other {d : PyData} (h : plainD d = false) (ht : isiD "tuple" d = false) (a : Nat) : vin d a = none := by
  cases d with
  | int i => rw [vin, if_neg (by rw [h]; exact Bool.false_ne_true)]
  | str z => rw [vin, if_neg (by rw [h]; exact Bool.false_ne_true)]
  | none => rfl
  | bool b => rfl
  | list x => rfl
  | tuple x => cases ht
  | dict x => rfl
section
variable {P : Program} {w : World} {K : PySem.W.Frag} {mg : Str → Option Value} {base : Heap}
theorem c_values_in (W : Wld K mg) : ∀ n : Nat, Cal P w K mg base (n + 3) "values_in" (spVin K n)
  | 0 => (cal_zero W.d_values_in fun vs H Q E h => by
      obtain ⟨v, d, u, e, _, _, _, ⟨_, a, _, h1, h2⟩, _⟩ := h
      omega).mono (by omega)
  | n + 1 => by
    have c_is_plain_value : Cal P w K mg base 2 "is_plain_value" _ := c_is_plain_value W
    have c_values_in : Cal P w K mg base (n + 3) "values_in" (spVin K n) := c_values_in W n
    refine cal_of W.d_values_in sc_values_in spD2_len (fun f cdv A outer s H vs Q E hr h => ?_)
    obtain ⟨v, d, u, e, rfl, hd, he, ⟨hb, a, rfl, ha4, han⟩, k⟩ := h
    obtain rfl := dp_int he
    refine ⟨_, (pss_cons (ps_if (pt_val (pe_cl c_is_plain_value hr (by omega) (by rfl) (pa_cons (pv 0) pa_nil))) (pss_one (ps_ret pe_int)) pss_nil)
    (pss_cons (ps_if (PW.pt (pw_or (pt_not (pt_val (pe_callB call_isiD (by rfl) W.f_isinstance bt_isinstance (pa_cons (pv 0) (pa_cons (pe_bt (by rfl) W.f_tuple bt_tuple) pa_nil))))) (pw_or (pt_cmpR op_gt (pe_callB call_lenDp (by rfl) W.f_len bt_len (pa_cons (pv 0) pa_nil)) (C8.pe_gc (by rfl) W.g_MOST_PARTS) (nomark _)) (pw_or1 (pt_cmpR op_eq (pv 1) (C8.pe_gc (by rfl) W.g_MOST_DEEP) (nomark _)))))) (pss_one (ps_ret pe_non)) pss_nil)
    (pss_cons (ps_set (i := 2) sc_values_in.nd rfl (Or.inl rfl) pe_int)
    (pss_cons (ps_for PassesOwn.never rfl (pi_tup (pv 0)) (pg_name (i := 3) sc_values_in.nd rfl (Or.inl rfl)) (pss_cons (ps_set (i := 4) sc_values_in.nd rfl (Or.inl rfl) (pe_cl c_values_in hr (by omega) (by rfl) (pa_cons (pv 3) (pa_cons (pe_op op_add (pv 1) pe_int) pa_nil))))
    (pss_cons (ps_if (pt_cmpR op_isN (pv 4) pe_non (nomark _)) (pss_one (ps_ret pe_non)) pss_nil)
    (pss_one (ps_set (i := 2) sc_values_in.nd rfl (Or.inl rfl) (pe_op op_add (pv 2) (pv 4)))))))
    (pss_one (ps_ret (pv 2))))))), ?_⟩
    refine ⟨_, rfl, v, d, rfl, hd, hb, fun r H1 e1 hr1 => ?_⟩
    obtain rfl := dp_bl hr1
    refine ⟨_, rfl, iteB (fun c => ?_) (fun c => ?_)⟩
    · refine k _ _ e1 (?_ : Dp K H1 (.int 1) (optI (vin d a)))
      rw [vin_plain c]
      exact .int _
    refine ⟨_, rfl, _, _, d, rfl, hd.up e1, .inr (.inr (.inl rfl)), _, rfl, ?_⟩
    by_cases ht : isiD "tuple" d = true
    case neg =>
      have ht : isiD "tuple" d = false := Bool.eq_false_iff.mpr ht
      rw [ht]
      refine iteT (iteT (k _ _ e1 (?_ : Dp K H1 .non (optI (vin d a)))))
      rw [vin_other c ht]
      exact .non
    rw [ht]
    refine iteF ?_
    obtain ⟨ds, rfl⟩ : ∃ ds, d = .tuple ds := by
      cases d <;> first | exact ⟨_, rfl⟩ | (cases ht)
    obtain ⟨hl, hA⟩ := vsh_tup hb
    refine ⟨_, rfl, _, _, rfl, hd.up e1, rfl, sz100 (Nat.le_trans hl (by decide)), _, _, rfl, rfl, _, rfl, iteD (fun c8 => ?_) (fun c8 => ?_)⟩
    · have c8 : (8 : Int) < ((ds.length : Nat) : Int) := c8
      refine iteT (k _ _ e1 (?_ : Dp K H1 .non (optI (vin (.tuple ds) a))))
      rw [vin, if_pos (.inl (by omega))]
      exact .non
    have c8 : ¬ (8 : Int) < ((ds.length : Nat) : Int) := c8
    refine ⟨_, rfl, rfl, _, rfl, iteD (fun c4 => ?_) (fun c4 => ?_)⟩
    · refine k _ _ e1 (?_ : Dp K H1 .non (optI (vin (.tuple ds) a)))
      have c4 : ((a : Nat) : Int) = 4 := by injection c4
      rw [vin, if_pos (.inr (by omega))]
      exact .non
    have c4 : ¬ a = 4 := fun z => c4 (by rw [z]; rfl)
    obtain ⟨b, xs, rfl, hS, hX⟩ := dp_tup (hd.up e1)
    have hv : vin (.tuple ds) a = vinAll ds (a + 1) 1 := by rw [vin, if_neg (by omega)]
    have k : ∀ r H', Ex H H' → Dp K H' r (optI (vinAll ds (a + 1) 1)) → Q r H' := fun r H' e h => k r H' e (by
      show Dp K H' r (optI (vin (.tuple ds) a))
      rw [hv]
      exact h)
    refine ⟨_, rfl, b, rfl, ⟨xs, hS⟩, for_tup (K := K) (a := b) (xs := xs) (fun i σ H' => Ex H1 H' ∧ ∃ (m : Nat) (x y : Option V), σ = [some (.ref b), some (.int a), some (.int m), x, y] ∧ vinAll ds (a + 1) 1 = vinAll (ds.drop i) (a + 1) m)
      ⟨Same.refl _, 1, _, _, rfl, rfl⟩ (fun i σ H' _ h => ex_t h.1 hS) ?_ ?_⟩
    · rintro i x σ H' hx ⟨e2, m, x3, x4, rfl, hm⟩
      obtain ⟨p, hp, dp⟩ := hX.getV hx
      have hlt : i < ds.length := (List.getElem?_eq_some_iff.mp hp).1
      have hdr : ds.drop i = p :: ds.drop (i + 1) := by
        rw [List.drop_eq_getElem_cons hlt]
        rw [List.getElem?_eq_getElem hlt] at hp
        rw [Option.some.inj hp]
      refine ⟨_, rfl, _, rfl, _, _, rfl, rfl, x, p, _, .int ((a + 1 : Nat) : Int), rfl, dp.up e2, .int _, ⟨vshAll_mem hA (List.mem_of_getElem? hp), a + 1, rfl, by omega, by omega⟩, fun r H3 e3 hr3 => ?_⟩
      have hr3 : Dp K H3 r (optI (vin p (a + 1))) := hr3
      refine ⟨_, rfl, rfl, _, rfl, ?_⟩
      rw [hdr, vinAll] at hm
      cases hq : vin p (a + 1) with
      | none =>
        rw [hq] at hr3 hm
        obtain rfl := dp_non hr3
        refine iteT (k _ _ ((e1.trans e2).trans e3) ?_)
        rw [hm]
        exact .non
      | some z =>
        rw [hq] at hr3 hm
        obtain rfl := dp_int hr3
        refine iteF ⟨_, rfl, _, rfl, _, _, rfl, rfl, ?_⟩
        exact ⟨e2.trans e3, m + z, _, _, rfl, hm⟩
    · rintro σ H' ⟨e2, m, x3, x4, rfl, hm⟩
      rw [hX.length, List.drop_length, vinAll] at hm
      refine ⟨_, rfl, k _ _ (e1.trans e2) ?_⟩
      rw [hm]
      exact .int _
theorem c_is_value (W : Wld K mg) : Cal P w K mg base 9 "is_value" (spD1 K (fun d => vsh 1000 d = true) fun d => .bool (okV d)) := by
  have c_values_in : Cal P w K mg base 8 "values_in" (spVin K 5) := c_values_in W 5
  refine cal_of W.d_is_value sc_is_value spD1_len (fun f cdv A outer s H vs Q E hr h => ?_)
  obtain ⟨v, d, rfl, hd, hb, k⟩ := h
  refine ⟨_, (pss_cons (ps_set (i := 1) sc_is_value.nd rfl (Or.inl rfl) (pe_cl c_values_in hr (by omega) (by rfl) (pa_cons (pv 0) (pa_cons pe_int pa_nil))))
    (pss_one (ps_ret (pe_and (pe_cmpR op_notN (pv 1) pe_non (nomark _)) (pe_one (pe_cmpR op_le (pv 1) (C8.pe_gc (by rfl) W.g_MOST_IN_ALL) (nomark _))))))), ?_⟩
  refine ⟨_, rfl, v, d, _, .int 0, rfl, hd, .int 0, ⟨hb, 0, rfl, by decide, by decide⟩, fun r H1 e1 hr1 => ?_⟩
  have hr1 : Dp K H1 r (optI (vin d 0)) := hr1
  have k : ∀ b H', Ex H H' → b = okV d → Q (.bl b) H' := fun b H' e h => k _ _ e (dpB h)
  unfold okV at k
  refine ⟨_, rfl, rfl, _, rfl, ?_⟩
  cases hq : vin d 0 with
  | none =>
    rw [hq] at hr1 k
    obtain rfl := dp_non hr1
    exact iteF (k _ _ e1 rfl)
  | some m =>
    rw [hq] at hr1 k
    obtain rfl := dp_int hr1
    refine iteT ⟨_, rfl, _, _, rfl, rfl, k _ _ e1 ?_⟩
    show decide (((m : Nat) : Int) ≤ 40) = decide (m ≤ 40)
    by_cases h : m ≤ 40
    · rw [decide_eq_true h, decide_eq_true (by omega)]
    · rw [decide_eq_false h, decide_eq_false (by omega)]
theorem depth_mem : ∀ {ds : List PyData} {d : PyData}, d ∈ ds → d.depth ≤ PyData.depthAll ds
  | [], _, m => by cases m
  | x :: xs, d, m => by
    rw [PyData.depthAll]
    rcases List.mem_cons.mp m with rfl | m
    · omega
    · have := depth_mem m
      omega
theorem countAll_sum : ∀ ds : List PyData, ((ds.map fun d => ((countD d : Nat) : Int)).sum) = ((countAll ds : Nat) : Int)
  | [] => rfl
  | d :: ds => by
    rw [List.map_cons, List.sum_cons, countAll_sum ds, countAll]
    omega
def spMany (K : PySem.W.Frag) (n : Nat) : Sp := spD1 K (fun d => vsh 1000 d = true ∧ d.depth < n) fun d => .int ((countD d : Nat) : Int)
theorem c_many_of (W : Wld K mg) : ∀ n : Nat, Cal P w K mg base n "many_of" (spMany K n)
  | 0 => cal_zero W.d_many_of fun vs H Q E h => by
      obtain ⟨v, d, _, _, ⟨_, h1⟩, _⟩ := h
      omega
  | n + 1 => by
    have c_many_of : Cal P w K mg base n "many_of" (spMany K n) := c_many_of W n
    refine cal_of W.d_many_of sc_many_of spD1_len (fun f cdv A outer s H vs Q E hr h => ?_)
    obtain ⟨v, d, rfl, hd, ⟨hb, hn⟩, k⟩ := h
    refine ⟨_, (pss_cons (ps_if (pt_not (pt_val (pe_callB call_isiD (by rfl) W.f_isinstance bt_isinstance (pa_cons (pv 0) (pa_cons (pe_bt (by rfl) W.f_tuple bt_tuple) pa_nil))))) (pss_one (ps_ret pe_int)) pss_nil)
    (pss_one (ps_ret (pe_op op_add pe_int (pe_callB (cr_sum rfl) (by rfl) W.f_sum bt_sum (pa_cons (pe_lc (own := [("part", 1)]) (g := gName 1) (tt := tYes) rfl sc_many_of.nd (pi_tup (pv 0)) (blkOk_by (own := [("part", 1)]) (N := N_many_of) (sc := defScope (top 13)) (by decide +kernel)) (fun _ _ _ _ _ => (pg_name (i := 1) sc_many_of.nd rfl (Or.inl rfl))) (fun _ _ _ _ _ => pts_nil) (fun _ _ _ _ _ => (pe_cl c_many_of hr (by omega) (by rfl) (pa_cons (pv 1) pa_nil)))) pa_nil)))))), ?_⟩
    refine ⟨_, rfl, _, _, d, rfl, hd, .inr (.inr (.inl rfl)), _, rfl, ?_⟩
    by_cases ht : isiD "tuple" d = true
    case neg =>
      have ht : isiD "tuple" d = false := Bool.eq_false_iff.mpr ht
      rw [ht]
      refine iteT (k _ _ (Same.refl _) (dpI ?_))
      rcases vsh_cases hb with ⟨i, rfl⟩ | ⟨z, rfl⟩ | ⟨ds, rfl⟩
      · rfl
      · rfl
      · cases ht
    rw [ht]
    refine iteF ?_
    obtain ⟨ds, rfl⟩ : ∃ ds, d = .tuple ds := by
      cases d <;> first | exact ⟨_, rfl⟩ | (cases ht)
    obtain ⟨hl, hA⟩ := vsh_tup hb
    obtain ⟨b, xs, rfl, hS, hX⟩ := dp_tup hd
    refine ⟨_, rfl, b, rfl, ⟨xs, hS⟩, fun D hD => lcMap (K := K) (src_tup hS) hX (fun d => .int ((countD d : Nat) : Int)) hD (fun _ => rfl) (Nat.le_trans hl (by decide)) (fun x d H' Q' hm hx e kq => ?_) (fun H5 ys e5 h5 d5 => ?_)⟩
    · refine ⟨rfl, _, rfl, x, d, rfl, hx, ⟨vshAll_mem hA hm, ?_⟩, fun r H4 e4 hr4 => kq r H4 e4 hr4⟩
      have := depth_mem hm
      rw [PyData.depth] at hn
      omega
    · have d5 : DpAll K H5 ys ((ds.map fun d => ((countD d : Nat) : Int)).map PyData.int) := by
        rw [List.map_map]
        exact d5
      rw [d5.ints_eq] at h5
      refine ⟨D, _, rfl, .inl (.inl h5), _, _, rfl, rfl, k _ _ e5 (dpI ?_)⟩
      rw [countAll_sum]
      show (1 : Int) + ((countAll ds : Nat) : Int) = ((1 + countAll ds : Nat) : Int)
      omega
end
end Wk
namespace Wk
open PySem PySem.Spec PyProof.Rows L2 SX
open TL (joinL numL)
/-! ### stamps -/
/-- the signs of a whole number -/
def numZ (i : Int) : List Nat := if i < 0 then 45 :: numL i.natAbs else numL i.natAbs
theorem ofString_app (a b : String) : Str.ofString (a ++ b) = Str.ofString a ++ Str.ofString b := by
  refine TL.ext_tl ?_
  rw [TL.tl_append, TL.tl_ofString, TL.tl_ofString, TL.tl_ofString, String.toList_append, List.map_append]
theorem num_Z (i : Int) : Str.ofString (toString i) = S (numZ i) := by
  cases i with
  | ofNat n =>
    have h : ¬ (Int.ofNat n < 0) := by simp
    unfold numZ
    rw [if_neg h]
    exact num_S n
  | negSucc n =>
    have h : Int.negSucc n < 0 := Int.negSucc_lt_zero n
    unfold numZ
    rw [if_pos h]
    have e : toString (Int.negSucc n) = "-" ++ toString ((n + 1 : Nat) : Int) := rfl
    rw [e, ofString_app, num_S]
    show S [45] ++ S (numL (n + 1)) = S (45 :: numL (n + 1))
    rw [S_cat]
    rfl
mutual
def stampL : PyData → List Nat
  | .int i => numZ i
  | .str z => 39 :: z.cps.toList
  | .tuple ds => 40 :: (joinL [44] (stampsL ds) ++ [41])
  | _ => []
def stampsL : List PyData → List (List Nat)
  | [] => []
  | d :: ds => stampL d :: stampsL ds
end
theorem stampsL_map : ∀ ds : List PyData, stampsL ds = ds.map stampL
  | [] => rfl
  | d :: ds => by rw [stampsL, stampsL_map ds]; rfl
def stampS (d : PyData) : Str := S (stampL d)
mutual
/-- the whole numbers within are small -/
def iOk : PyData → Bool
  | .int i => decide (i.natAbs ≤ 10 ^ 20)
  | .str _ => true
  | .tuple ds => iOkAll ds
  | _ => false
def iOkAll : List PyData → Bool
  | [] => true
  | d :: ds => iOk d && iOkAll ds
end
theorem iOk_tup {ds : List PyData} (h : iOk (.tuple ds) = true) : iOkAll ds = true := h
theorem iOkAll_mem : ∀ {ds : List PyData} {d : PyData}, iOkAll ds = true → d ∈ ds → iOk d = true
  | [], _, _, m => by cases m
  | x :: xs, d, h, m => by
    have q : (iOk x && iOkAll xs) = true := h
    rw [Bool.and_eq_true] at q
    rcases List.mem_cons.mp m with rfl | m
    · exact q.1
    · exact iOkAll_mem q.2 m
theorem joinL_len : ∀ ps : List (List Nat), (ps.map (·.length)).sum + ps.length ≤ (joinL [44] ps).length + 1
  | [] => by simp
  | [p] => by simp [joinL]
  | p :: q :: r => by
    have ih := joinL_len (q :: r)
    rw [joinL, List.map_cons, List.sum_cons, List.length_cons, List.length_append, List.length_append]
    have : ([44] : List Nat).length = 1 := rfl
    omega
theorem mem_joinL : ∀ {ps : List (List Nat)} {p : List Nat}, p ∈ ps → p.length ≤ (joinL [44] ps).length
  | [], _, m => by cases m
  | [q], p, m => by
    rw [List.mem_singleton.mp m]
    exact Nat.le_refl _
  | q :: r :: t, p, m => by
    rw [joinL, List.length_append, List.length_append]
    rcases List.mem_cons.mp m with rfl | m
    · omega
    · have := mem_joinL m
      omega
theorem log2_small {i : Int} (h : i.natAbs ≤ 10 ^ 20) : i.natAbs.log2 < 1920 := by
  by_cases h0 : i.natAbs = 0
  · rw [h0]
    decide
  · refine (Nat.log2_lt h0).mpr (Nat.lt_of_le_of_lt h ?_)
    calc (10 : Nat) ^ 20 < 2 ^ 67 := by decide
      _ ≤ 2 ^ 1920 := Nat.pow_le_pow_right (by decide) (by decide)
/-! ### texts by their signs -/
def cutN (l : List Nat) (lo hi : Option Int) : List Nat := (l.drop (HT.sIx l.length 0 lo)).take (HT.sIx l.length l.length hi - HT.sIx l.length 0 lo)
theorem cutS_S (l : List Nat) (lo hi : Option Int) : cutS (S l) lo hi = S (cutN l lo hi) := by
  have h : (S l).length = l.length := S_len l
  unfold cutS cutN
  rw [h]
theorem cutN_to (l : List Nat) (k : Nat) : cutN l none (some (k : Int)) = l.take k := by
  unfold cutN
  rw [HT.sIx_none, HT.sIx_nat, Nat.sub_zero, List.drop_zero]
  by_cases h : k ≤ l.length
  · rw [Nat.min_eq_left h]
  · rw [Nat.min_eq_right (by omega), List.take_length, List.take_of_length_le (by omega)]
theorem cutN_from (l : List Nat) (k : Nat) : cutN l (some (k : Int)) none = l.drop k := by
  unfold cutN
  rw [HT.sIx_none, HT.sIx_nat]
  by_cases h : k ≤ l.length
  · rw [Nat.min_eq_left h]
    exact List.take_of_length_le (by rw [List.length_drop]; exact Nat.le_refl _)
  · rw [Nat.min_eq_right (by omega), List.drop_length, List.take_nil, List.drop_of_length_le (by omega)]
theorem cutN_mid (l : List Nat) (j k : Nat) : cutN l (some (j : Int)) (some (k : Int)) = (l.drop j).take (k - j) := by
  unfold cutN
  rw [HT.sIx_nat, HT.sIx_nat]
  by_cases h : j ≤ l.length
  · rw [Nat.min_eq_left h]
    by_cases h2 : k ≤ l.length
    · rw [Nat.min_eq_left h2]
    · rw [Nat.min_eq_right (by omega), List.take_of_length_le (by rw [List.length_drop]; exact Nat.le_refl _), List.take_of_length_le (by rw [List.length_drop]; omega)]
  · rw [Nat.min_eq_right (show l.length ≤ j by omega), List.drop_length, List.take_nil, List.drop_of_length_le (by omega), List.take_nil]
def rSlS' : V → Option Int → Option Int → Hp → VK → Prop := fun x lo hi H Q => ∃ l, x = .str (S l) ∧ l.length ≤ sizeLine ∧ Q (.str (S (cutN l lo hi))) H
theorem sl_S {X : Cx} : SlR X rSlS' := by
  intro pins s σ H x v vl vu lo hi sl Q I rx hs pl pu h
  obtain ⟨l, hx, hz, q⟩ := h
  exact sl_str pins s σ H x v vl vu lo hi sl Q I rx hs pl pu ⟨S l, hx, by rw [S_len]; exact hz, by rw [cutS_S]; exact q⟩
theorem vS_eq {a b : List Nat} : decide (V.str (S a) = V.str (S b)) = decide (a = b) := by
  by_cases h : a = b
  · subst h
    simp
  · rw [decide_eq_false h, decide_eq_false]
    intro e
    injection e with e
    exact h (S_inj e)
end Wk
namespace Wk
open PySem PySem.Spec PyProof.Rows L2 SX
open TL (joinL numL)
def spStamp (K : PySem.W.Frag) (n : Nat) : Sp := spD1 K (fun d => vsh 1000 d = true ∧ iOk d = true ∧ d.depth < n ∧ (stampL d).length ≤ 100000) fun d => .str (stampS d)
section
variable {P : Program} {w : World} {K : PySem.W.Frag} {mg : Str → Option Value} {base : Heap}
theorem stamp_tup {H1 : Hp} {D : Addr} {ys : List V} {ds : List PyData} {Q : VK} (hz : (stampL (.tuple ds)).length ≤ 100000) (h5 : H1 D = some (.lst ys)) (d5 : DpAll K H1 ys (ds.map fun d => .str (stampS d))) (k : Q (.str (stampS (.tuple ds))) H1) :
    ∃ (a : Str) (p : Addr) (ys : List Str), V.str "," = .str a ∧ [V.ref D] = [.ref p] ∧ (SqL K H1 p (ys.map V.str) ∨ SqT K H1 p (ys.map V.str)) ∧ (ys.map (·.length)).sum + ys.length * a.length ≤ 16777216 ∧
      (∃ i j, V.str "(" = .str i ∧ V.str (Txt.join a ys) = .str j ∧ i.length + j.length ≤ sizeLine ∧ ∃ i' j', V.str (i ++ j) = .str i' ∧ V.str ")" = .str j' ∧ i'.length + j'.length ≤ sizeLine ∧ Q (.str (i' ++ j')) H1) := by
  have d5 : DpAll K H1 ys ((ds.map stampS).map PyData.str) := by
    rw [List.map_map]
    exact d5
  rw [d5.strs_eq] at h5
  have e0 : stampL (.tuple ds) = 40 :: (joinL [44] (ds.map stampL) ++ [41]) := by rw [stampL, stampsL_map]
  have e1 : ds.map stampS = (ds.map stampL).map S := by
    rw [List.map_map]
    rfl
  have z0 : (joinL [44] (ds.map stampL)).length + 2 ≤ 100000 := by
    rw [e0, List.length_cons, List.length_append] at hz
    have : ([41] : List Nat).length = 1 := rfl
    omega
  have ej : Txt.join "," (ds.map stampS) = S (joinL [44] (ds.map stampL)) := by
    rw [e1]
    exact join_S [44] _
  refine ⟨",", D, ds.map stampS, rfl, rfl, .inl (SqL.of h5), ?_, _, _, rfl, rfl, ?_, _, _, rfl, rfl, ?_, ?_⟩
  · have z := joinL_len (ds.map stampL)
    rw [e1, lens, List.length_map]
    show _ + _ * 1 ≤ _
    omega
  · rw [ej, S_len (joinL _ _)]
    show 1 + _ ≤ _
    exact sz100 (by omega)
  · rw [ej, Str.length_append, S_len (joinL _ _)]
    show 1 + _ + 1 ≤ _
    exact sz100 (by omega)
  · rw [ej]
    have e2 : ("(" : Str) ++ S (joinL [44] (ds.map stampL)) ++ ")" = stampS (.tuple ds) := by
      unfold stampS
      rw [e0]
      show S [40] ++ S _ ++ S [41] = _
      rw [S_cat, S_cat]
      rfl
    rw [e2]
    exact k
theorem stamp_parts {ds : List PyData} {d : PyData} {n : Nat} (hb : vsh 1000 (.tuple ds) = true) (hi : iOk (.tuple ds) = true) (hn : (PyData.tuple ds).depth < n + 1) (hz : (stampL (.tuple ds)).length ≤ 100000) (hm : d ∈ ds) :
    vsh 1000 d = true ∧ iOk d = true ∧ d.depth < n ∧ (stampL d).length ≤ 100000 := by
  refine ⟨vshAll_mem (vsh_tup hb).2 hm, iOkAll_mem hi hm, ?_, ?_⟩
  · have := depth_mem hm
    rw [PyData.depth] at hn
    omega
  · rw [stampL, stampsL_map, List.length_cons, List.length_append] at hz
    have := mem_joinL (List.mem_map.mpr ⟨d, hm, rfl⟩ : stampL d ∈ ds.map stampL)
    omega
theorem c_stamp_of (W : Wld K mg) : ∀ n : Nat, Cal P w K mg base n "stamp_of" (spStamp K n)
  | 0 => cal_zero W.d_stamp_of fun vs H Q E h => by
      obtain ⟨v, d, _, _, ⟨_, _, h1, _⟩, _⟩ := h
      omega
  | n + 1 => by
    have c_stamp_of : Cal P w K mg base n "stamp_of" (spStamp K n) := c_stamp_of W n
    refine cal_of W.d_stamp_of sc_stamp_of spD1_len (fun f cdv A outer s H vs Q E hr h => ?_)
    obtain ⟨v, d, rfl, hd, ⟨hb, hi, hn, hz⟩, k⟩ := h
    refine ⟨_, (pss_cons (ps_if (pt_val (pe_callB call_isiD (by rfl) W.f_isinstance bt_isinstance (pa_cons (pv 0) (pa_cons (pe_bt (by rfl) W.f_tuple bt_tuple) pa_nil)))) (pss_one (ps_ret (pe_op op_add_str (pe_op op_add_str pe_str (pe_join pe_str (pe_lc (own := [("part", 1)]) (g := gName 1) (tt := tYes) rfl sc_stamp_of.nd (pi_tup (pv 0)) (blkOk_by (own := [("part", 1)]) (N := N_stamp_of) (sc := defScope (top 26)) (by decide +kernel)) (fun _ _ _ _ _ => (pg_name (i := 1) sc_stamp_of.nd rfl (Or.inl rfl))) (fun _ _ _ _ _ => pts_nil) (fun _ _ _ _ _ => (pe_cl c_stamp_of hr (by omega) (by rfl) (pa_cons (pv 1) pa_nil)))))) pe_str))) pss_nil)
    (pss_cons (ps_if (pt_val (pe_callB call_isiD (by rfl) W.f_isinstance bt_isinstance (pa_cons (pv 0) (pa_cons (pe_bt (by rfl) W.f_str bt_str) pa_nil)))) (pss_one (ps_ret (pe_op op_add_str pe_str (pv 0)))) pss_nil)
    (pss_one (ps_ret (pe_callTy call_str_int (by rfl) W.f_str bt_str (pa_cons (pv 0) pa_nil)))))), ?_⟩
    refine ⟨_, rfl, _, _, d, rfl, hd, .inr (.inr (.inl rfl)), _, rfl, ?_⟩
    rcases vsh_cases hb with ⟨i, rfl⟩ | ⟨z, rfl⟩ | ⟨ds, rfl⟩
    · obtain rfl := dp_int hd
      refine iteF ⟨_, rfl, _, _, _, rfl, hd, .inr (.inl rfl), _, rfl, iteF ?_⟩
      refine ⟨_, rfl, i, rfl, log2_small (of_decide_eq_true hi), k _ _ (Same.refl _) (dpS (num_Z i))⟩
    · obtain rfl := dp_str hd
      refine iteF ⟨_, rfl, _, _, _, rfl, hd, .inr (.inl rfl), _, rfl, iteT ?_⟩
      have hz' : z.length ≤ 1000 := vsh_str hb
      refine ⟨_, rfl, _, _, rfl, rfl, ?_, k _ _ (Same.refl _) (dpS ?_)⟩
      · show 1 + z.length ≤ _
        exact sz100 (by omega)
      · show S [39] ++ z = S (39 :: z.cps.toList)
        refine TL.ext_tl ?_
        rw [TL.tl_append]
        rfl
    · refine iteT ?_
      obtain ⟨b, xs, rfl, hS, hX⟩ := dp_tup hd
      refine ⟨⟨_, rfl⟩, _, rfl, b, rfl, ⟨xs, hS⟩, fun D hD => lcMap (K := K) (src_tup hS) hX (fun d => .str (stampS d)) hD (fun _ => rfl) (Nat.le_trans (vsh_tup hb).1 (by decide)) (fun x d H' Q' hm hx e kq => ?_) (fun H5 ys e5 h5 d5 => ?_)⟩
      · exact ⟨rfl, _, rfl, x, d, rfl, hx, stamp_parts hb hi hn hz hm, fun r H4 e4 hr4 => kq r H4 e4 hr4⟩
      · exact stamp_tup hz h5 d5 (k _ _ e5 (.str _))
theorem c_law_stamp (W : Wld K mg) : ∀ n : Nat, Cal P w K mg base n "_law_stamp" (spStamp K n)
  | 0 => cal_zero W.d_law_stamp fun vs H Q E h => by
      obtain ⟨v, d, _, _, ⟨_, _, h1, _⟩, _⟩ := h
      omega
  | n + 1 => by
    have c_law_stamp : Cal P w K mg base n "_law_stamp" (spStamp K n) := c_law_stamp W n
    refine cal_of W.d_law_stamp sc_law_stamp spD1_len (fun f cdv A outer s H vs Q E hr h => ?_)
    obtain ⟨v, d, rfl, hd, ⟨hb, hi, hn, hz⟩, k⟩ := h
    refine ⟨_, (pss_cons (ps_if (pt_val (pe_callB call_isiD (by rfl) W.f_isinstance bt_isinstance (pa_cons (pv 0) (pa_cons (pe_bt (by rfl) W.f_int bt_int) pa_nil)))) (pss_one (ps_ret (pe_callTy call_str_int (by rfl) W.f_str bt_str (pa_cons (pv 0) pa_nil)))) pss_nil)
    (pss_cons (ps_if (pt_val (pe_callB call_isiD (by rfl) W.f_isinstance bt_isinstance (pa_cons (pv 0) (pa_cons (pe_bt (by rfl) W.f_str bt_str) pa_nil)))) (pss_one (ps_ret (pe_op op_add_str pe_str (pv 0)))) pss_nil)
    (pss_one (ps_ret (pe_op op_add_str (pe_op op_add_str pe_str (pe_join pe_str (pe_lc (own := [("_law_part", 1)]) (g := gName 1) (tt := tYes) rfl sc_law_stamp.nd (pi_tup (pv 0)) (blkOk_by (own := [("_law_part", 1)]) (N := N_law_stamp) (sc := defScope (top 65)) (by decide +kernel)) (fun _ _ _ _ _ => (pg_name (i := 1) sc_law_stamp.nd rfl (Or.inl rfl))) (fun _ _ _ _ _ => pts_nil) (fun _ _ _ _ _ => (pe_cl c_law_stamp hr (by omega) (by rfl) (pa_cons (pv 1) pa_nil)))))) pe_str))))), ?_⟩
    refine ⟨_, rfl, _, _, d, rfl, hd, .inl rfl, _, rfl, ?_⟩
    rcases vsh_cases hb with ⟨i, rfl⟩ | ⟨z, rfl⟩ | ⟨ds, rfl⟩
    · obtain rfl := dp_int hd
      refine iteT ?_
      refine ⟨_, rfl, i, rfl, log2_small (of_decide_eq_true hi), k _ _ (Same.refl _) (dpS (num_Z i))⟩
    · obtain rfl := dp_str hd
      refine iteF ⟨_, rfl, _, _, _, rfl, hd, .inr (.inl rfl), _, rfl, iteT ?_⟩
      have hz' : z.length ≤ 1000 := vsh_str hb
      refine ⟨_, rfl, _, _, rfl, rfl, ?_, k _ _ (Same.refl _) (dpS ?_)⟩
      · show 1 + z.length ≤ _
        exact sz100 (by omega)
      · show S [39] ++ z = S (39 :: z.cps.toList)
        refine TL.ext_tl ?_
        rw [TL.tl_append]
        rfl
    · refine iteF ⟨_, rfl, _, _, _, rfl, hd, .inr (.inl rfl), _, rfl, iteF ?_⟩
      obtain ⟨b, xs, rfl, hS, hX⟩ := dp_tup hd
      refine ⟨⟨_, rfl⟩, _, rfl, b, rfl, ⟨xs, hS⟩, fun D hD => lcMap (K := K) (src_tup hS) hX (fun d => .str (stampS d)) hD (fun _ => rfl) (Nat.le_trans (vsh_tup hb).1 (by decide)) (fun x d H' Q' hm hx e kq => ?_) (fun H5 ys e5 h5 d5 => ?_)⟩
      · exact ⟨rfl, _, rfl, x, d, rfl, hx, stamp_parts hb hi hn hz hm, fun r H4 e4 hr4 => kq r H4 e4 hr4⟩
      · exact stamp_tup hz h5 d5 (k _ _ e5 (.str _))
end
end Wk
namespace Wk
open PySem PySem.Spec PyProof.Rows L2 SX
open TL (joinL numL)
theorem numL_head0 : ∀ n : Nat, (numL n).head? = some 48 → n = 0 := by
  intro n
  induction n using Nat.strongRecOn with
  | _ n ih =>
    intro h
    by_cases h1 : n < 10
    · rw [TL.numL_lt h1] at h
      have : 48 + n = 48 := Option.some.inj h
      omega
    · rw [TL.numL_step (by omega)] at h
      have ne := TL.numL_ne (n / 10)
      cases q : numL (n / 10) with
      | nil => exact absurd q ne
      | cons c r =>
        rw [q] at h
        have := ih (n / 10) (by omega) (by rw [q]; exact h)
        omega
theorem numL_cons (n : Nat) : ∃ c r, numL n = c :: r ∧ 48 ≤ c ∧ c ≤ 57 := by
  cases q : numL n with
  | nil => exact absurd q (TL.numL_ne n)
  | cons c r =>
    have := TL.numL_digits n c (by rw [q]; exact List.mem_cons_self)
    exact ⟨c, r, rfl, this.1, this.2⟩
theorem digit_in {c : Nat} (h1 : 48 ≤ c) (h2 : c ≤ 57) : c ∈ ("0123456789" : Str).cps.toList := by
  have : c ∈ [48, 49, 50, 51, 52, 53, 54, 55, 56, 57] := by
    simp only [List.mem_cons, List.not_mem_nil, or_false]
    omega
  exact this
theorem digit_out {c : Nat} (h : c < 48 ∨ 57 < c) : c ∉ ("0123456789" : Str).cps.toList := by
  intro m
  have : c ∈ [48, 49, 50, 51, 52, 53, 54, 55, 56, 57] := m
  simp only [List.mem_cons, List.not_mem_nil, or_false] at this
  omega
theorem great_len : (numZ (10 ^ 18)).length = 19 := by decide +kernel
theorem numZ_int {i : Int} (h : i.natAbs ≤ 10 ^ 18) : intText? (S (numZ i)) = some i := by
  have hl : (numL i.natAbs).length ≤ 19 := TL.numL_len (by decide) (Nat.lt_of_le_of_lt h (by decide))
  unfold numZ
  by_cases h0 : i < 0
  · rw [if_pos h0]
    have e := intText_neg (x := S (45 :: numL i.natAbs)) (cs := numL i.natAbs) rfl (TL.numL_digits _) (TL.numL_ne _) (by rw [S_len, List.length_cons]; omega)
    rw [e, TL.numL_val]
    congr 1
    omega
  · rw [if_neg h0]
    have e := intText_digits (x := S (numL i.natAbs)) (TL.numL_digits _) (TL.numL_ne _) (by rw [S_len]; omega)
    rw [e]
    show some ((NumText.digitsVal (numL i.natAbs) : Nat) : Int) = some i
    rw [TL.numL_val]
    congr 1
    omega
def spNum (K : PySem.W.Frag) : Sp := fun vs H Q _ => (∃ i : Int, vs = [.str (S (numZ i))] ∧ i.natAbs ≤ 10 ^ 18 ∧ ∀ H', Ex H H' → Q (.int i) H') ∨ ∃ l : List Nat, vs = [.str (S (39 :: l))] ∧ l.length ≤ 1000 ∧ ∀ H', Ex H H' → Q .non H'
section
variable {P : Program} {w : World} {K : PySem.W.Frag} {mg : Str → Option Value} {base : Heap}
theorem c_number_by (W : Wld K mg) : Cal P w K mg base 1 "number_by" (spNum K) := by
  refine cal_of W.d_number_by sc_number_by (fun vs H Q E h => ?_) (fun f cdv A outer s H vs Q E hr h => ?_)
  · rcases h with ⟨i, rfl, _⟩ | ⟨l, rfl, _⟩ <;> rfl
  refine ⟨_, (pss_cons (ps_set (i := 1) sc_number_by.nd rfl (Or.inl rfl) (pv 0))
    (C8.pss_cut (ps_if (pt_cmpR op_eq (pe_slice sl_S (pv 0) po_none (po_some pe_int)) pe_str (nomark _)) (pss_one (ps_set (i := 1) sc_number_by.nd rfl (Or.inl rfl) (pe_slice sl_S (pv 0) (po_some pe_int) po_none))) pss_nil)
    (pss_cons (ps_if (PW.pt (pw_or (pt_cmpR op_eq (pv 1) pe_str (nomark _)) (pw_or (pt_cmpR op_gt (pe_callB call_lenDp (by rfl) W.f_len bt_len (pa_cons (pv 1) pa_nil)) (pe_callB call_lenDp (by rfl) W.f_len bt_len (pa_cons (pe_callTy call_str_int (by rfl) W.f_str bt_str (pa_cons (C8.pe_gc (by rfl) W.g_GREATEST) pa_nil)) pa_nil)) (nomark _)) (pw_or1 (pt_not (pt_val (pe_callB (cr_all rfl) (by rfl) W.f_all bt_all (pa_cons (pe_lc (own := [("sign", 2)]) (g := gName 2) (tt := tYes) rfl sc_number_by.nd (pi_str (pv 1)) (blkOk_by (own := [("sign", 2)]) (N := N_number_by) (sc := defScope (top 27)) (by decide +kernel)) (fun _ _ _ _ _ => (pg_name (i := 2) sc_number_by.nd rfl (Or.inl rfl))) (fun _ _ _ _ _ => pts_nil) (fun _ _ _ _ _ => (pe_cmpR op_in_sign (pv 2) (C8.pe_gc (by rfl) W.g_FIGURES) (by rfl)))) pa_nil)))))))) (pss_one (ps_ret pe_non)) pss_nil)
    (pss_cons (ps_if (PW.pt (pw_and (pt_cmpR op_eq (pe_ix ix_str (pv 1) pe_int (fun _ _ => rfl)) pe_str (nomark _)) (pw_and1 (pt_cmpR op_ne (pv 0) pe_str (nomark _))))) (pss_one (ps_ret pe_non)) pss_nil)
    (pss_one (ps_ret (pe_callTy call_int_str (by rfl) W.f_int bt_int (pa_cons (pv 0) pa_nil)))))))), ?_⟩
  rcases h with ⟨i, rfl, hi, k⟩ | ⟨l, rfl, hl, k⟩
  · -- a number
    have hl19 : (numL i.natAbs).length ≤ 19 := TL.numL_len (by decide) (Nat.lt_of_le_of_lt hi (by decide))
    have hlz : (numZ i).length ≤ 20 := by
      unfold numZ
      split
      · rw [List.length_cons]; omega
      · omega
    obtain ⟨c0, r0, en, c0a, c0b⟩ := numL_cons i.natAbs
    refine ⟨_, rfl, fun σ' H' => H' = H ∧ σ' = [some (.str (S (numZ i))), some (.str (S (numL i.natAbs))), none], ?_, ?_⟩
    · refine ⟨_, rfl, _, rfl, _, rfl, sz100 (Nat.le_trans hlz (by decide)), rfl, _, rfl, ?_⟩
      rw [show cutN (numZ i) none (some 1) = (numZ i).take 1 from cutN_to _ 1]
      by_cases h0 : i < 0
      · have ez : numZ i = 45 :: numL i.natAbs := by unfold numZ; rw [if_pos h0]
        rw [show decide (V.str (S ((numZ i).take 1)) = V.str "-") = true by rw [ez]; exact decide_eq_true rfl]
        refine iteT ⟨_, rfl, _, rfl, _, rfl, sz100 (Nat.le_trans hlz (by decide)), ?_⟩
        rw [show cutN (numZ i) (some 1) none = (numZ i).drop 1 from cutN_from _ 1, ez]
        exact ⟨rfl, rfl⟩
      · have ez : numZ i = numL i.natAbs := by unfold numZ; rw [if_neg h0]
        rw [show decide (V.str (S ((numZ i).take 1)) = V.str "-") = false by
          rw [ez, en]
          show decide (V.str (S [c0]) = V.str (S [45])) = false
          rw [vS_eq]
          refine decide_eq_false fun z => ?_
          injection z with z _
          omega]
        refine iteF ⟨rfl, ?_⟩
        rw [ez]
        rfl
    · rintro _ _ ⟨rfl, rfl⟩
      have f1 : decide (V.str (S (numL i.natAbs)) = V.str "") = false := by
        show decide (V.str (S (numL i.natAbs)) = V.str (S [])) = false
        rw [vS_eq]
        exact decide_eq_false (TL.numL_ne _)
      refine ⟨_, rfl, rfl, _, rfl, ?_⟩
      rw [f1]
      refine iteF ⟨_, rfl, _, _, rfl, .str _, rfl, ?_, _, rfl, by decide, _, _, rfl, .str _, rfl, ?_, _, _, rfl, rfl, _, rfl, iteD (fun c => ?_) (fun c => ?_)⟩
      · show (S _).length ≤ _
        rw [S_len]
        exact sz100 (by omega)
      · show (Str.ofString (toString ((10 : Int) ^ 18))).length ≤ _
        rw [num_Z, S_len, great_len]
        decide
      · exfalso
        have c : (((Str.ofString (toString ((10 : Int) ^ 18))).length : Nat) : Int) < (((S (numL i.natAbs)).length : Nat) : Int) := c
        rw [num_Z, S_len, S_len, great_len] at c
        omega
      · refine ⟨_, rfl, _, rfl, fun D hD => lcStrB (K := K) (p := fun c => decide (c ∈ ("0123456789" : Str).cps.toList)) hD (by rw [S_len]; omega) (fun c H' Q' e kq => ?_) (fun H5 e5 h5 => ?_)⟩
        · exact ⟨rfl, _, rfl, c, "0123456789", rfl, rfl, kq H' (Same.refl _)⟩
        · refine ⟨D, _, rfl, .inl (.inl h5), _, rfl, ?_⟩
          have ea : ((S (numL i.natAbs)).cps.toList.map fun c => decide (c ∈ ("0123456789" : Str).cps.toList)).all id = true := by
            rw [List.all_eq_true]
            intro b hb
            obtain ⟨c, hc, rfl⟩ := List.mem_map.mp hb
            have hd := TL.numL_digits i.natAbs c hc
            exact decide_eq_true (digit_in hd.1 hd.2)
          rw [ea]
          refine iteF ⟨_, rfl, _, _, c0, rfl, rfl, ?_, ?_, rfl, _, rfl, ?_⟩
          · rw [S_len]
            exact sz100 (by omega)
          · show atI (numL i.natAbs) 0 = some c0
            rw [en]
            exact atI_nat (j := 0) rfl
          · have fin : Q (.int i) H5 := k _ e5
            have fz : (S (numZ i)).length ≤ 640 := by rw [S_len]; omega
            by_cases h48 : c0 = 48
            · have n0 : i.natAbs = 0 := numL_head0 _ (by rw [en, h48]; rfl)
              have i0 : i = 0 := by omega
              rw [h48]
              refine iteT ⟨_, rfl, rfl, _, rfl, ?_⟩
              have e0 : S (numZ i) = "0" := by
                rw [i0]
                show S (numL 0) = S [48]
                rw [TL.numL_lt (by decide)]
              rw [show (!decide (V.str (S (numZ i)) = V.str "0")) = false by rw [e0]; simp]
              exact iteF ⟨_, rfl, S (numZ i), i, rfl, numZ_int hi, fz, fin⟩
            · rw [show decide (V.str (⟨#[c0]⟩ : Str) = V.str "0") = false by
                show decide (V.str (S [c0]) = V.str (S [48])) = false
                rw [vS_eq]
                refine decide_eq_false fun z => ?_
                injection z with z _
                exact h48 z]
              exact iteF (iteF ⟨_, rfl, S (numZ i), i, rfl, numZ_int hi, fz, fin⟩)
  · -- a text
    have hl' : (39 :: l).length ≤ 1001 := by rw [List.length_cons]; omega
    refine ⟨_, rfl, fun σ' H' => H' = H ∧ σ' = [some (.str (S (39 :: l))), some (.str (S (39 :: l))), none], ?_, ?_⟩
    · refine ⟨_, rfl, _, rfl, _, rfl, sz100 (Nat.le_trans hl' (by decide)), rfl, _, rfl, ?_⟩
      rw [show cutN (39 :: l) none (some 1) = [39] from cutN_to _ 1]
      exact iteF ⟨rfl, rfl⟩
    · rintro _ _ ⟨rfl, rfl⟩
      have f1 : decide (V.str (S (39 :: l)) = V.str "") = false := by
        show decide (V.str (S (39 :: l)) = V.str (S [])) = false
        rw [vS_eq]
        exact decide_eq_false (fun z => by cases z)
      refine ⟨_, rfl, rfl, _, rfl, ?_⟩
      rw [f1]
      refine iteF ⟨_, rfl, _, _, rfl, .str _, rfl, ?_, _, rfl, by decide, _, _, rfl, .str _, rfl, ?_, _, _, rfl, rfl, _, rfl, iteD (fun c => ?_) (fun c => ?_)⟩
      · show (S _).length ≤ _
        rw [S_len]
        exact sz100 (by omega)
      · show (Str.ofString (toString ((10 : Int) ^ 18))).length ≤ _
        rw [num_Z, S_len, great_len]
        decide
      · exact iteT (k _ (Same.refl _))
      · refine ⟨_, rfl, _, rfl, fun D hD => lcStrB (K := K) (p := fun c => decide (c ∈ ("0123456789" : Str).cps.toList)) hD (by rw [S_len]; omega) (fun c H' Q' e kq => ?_) (fun H5 e5 h5 => ?_)⟩
        · exact ⟨rfl, _, rfl, c, "0123456789", rfl, rfl, kq H' (Same.refl _)⟩
        · refine ⟨D, _, rfl, .inl (.inl h5), _, rfl, ?_⟩
          have ea : ((S (39 :: l)).cps.toList.map fun c => decide (c ∈ ("0123456789" : Str).cps.toList)).all id = false := by
            show (decide (39 ∈ ("0123456789" : Str).cps.toList) && _) = false
            rw [decide_eq_false (digit_out (.inl (by decide)))]
            rfl
          rw [ea]
          exact iteT (k _ e5)
end
end Wk
namespace Wk
open PySem PySem.Spec PyProof.Rows L2 SX
open TL (joinL numL)
theorem numZ_len {i : Int} (hi : i.natAbs ≤ 10 ^ 18) : (numZ i).length ≤ 20 := by
  have hl19 : (numL i.natAbs).length ≤ 19 := TL.numL_len (by decide) (Nat.lt_of_le_of_lt hi (by decide))
  unfold numZ
  split
  · rw [List.length_cons]; omega
  · omega
theorem plain_int {i : Int} (h : plainD (.int i) = true) : i.natAbs ≤ 10 ^ 18 := by
  have q : (decide (-(10 ^ 18) ≤ i) && decide (i ≤ 10 ^ 18)) = true := h
  rw [Bool.and_eq_true] at q
  have h1 := of_decide_eq_true q.1
  have h2 := of_decide_eq_true q.2
  omega
theorem plain_str {z : Str} (h : plainD (.str z) = true) : z.length ≤ 20 ∧ allIn z signsS = true := by
  have q : (decide (z.length ≤ 20) && allIn z signsS) = true := h
  rw [Bool.and_eq_true] at q
  exact ⟨of_decide_eq_true q.1, q.2⟩
theorem plain_cases {d : PyData} (h : plainD d = true) : (∃ i, d = .int i) ∨ ∃ z, d = .str z := by
  cases d with
  | int i => exact .inl ⟨i, rfl⟩
  | str z => exact .inr ⟨z, rfl⟩
  | none => cases h
  | bool b => cases h
  | list x => cases h
  | tuple x => cases h
  | dict x => cases h
theorem numZ_head (i : Int) : ∃ c r, numZ i = c :: r ∧ (c = 45 ∨ (48 ≤ c ∧ c ≤ 57)) := by
  unfold numZ
  split
  · exact ⟨45, _, rfl, .inl rfl⟩
  · obtain ⟨c, r, e, h1, h2⟩ := numL_cons i.natAbs
    exact ⟨c, r, e, .inr ⟨h1, h2⟩⟩
/-- signs of a number or a text's stamp are no brackets, no comma -/
def noSep (c : Nat) : Prop := c ≠ 40 ∧ c ≠ 41 ∧ c ≠ 44
theorem numZ_noSep {i : Int} : ∀ c ∈ numZ i, noSep c := by
  intro c hc
  have h : c = 45 ∨ (48 ≤ c ∧ c ≤ 57) := by
    unfold numZ at hc
    split at hc
    · rcases List.mem_cons.mp hc with rfl | hc
      · exact .inl rfl
      · exact .inr (TL.numL_digits _ c hc)
    · exact .inr (TL.numL_digits _ c hc)
  unfold noSep
  omega
theorem signs_noSep {c : Nat} (h : c ∈ signsS.cps.toList) : noSep c := by
  have all : (signsS.cps.toList.all fun c => decide (c ≠ 40 ∧ c ≠ 41 ∧ c ≠ 44)) = true := by decide +kernel
  have q := List.all_eq_true.mp all c h
  show c ≠ 40 ∧ c ≠ 41 ∧ c ≠ 44
  exact of_decide_eq_true q
theorem stamp_noSep {d : PyData} (h : plainD d = true) : ∀ c ∈ stampL d, noSep c := by
  rcases plain_cases h with ⟨i, rfl⟩ | ⟨z, rfl⟩
  · intro c hc
    rw [stampL] at hc
    exact numZ_noSep c hc
  · intro c hc
    rw [stampL] at hc
    rcases List.mem_cons.mp hc with rfl | hc
    · unfold noSep
      omega
    · exact signs_noSep (of_decide_eq_true (List.all_eq_true.mp (plain_str h).2 c hc))
theorem stamp_plain_len {d : PyData} (h : plainD d = true) : (stampL d).length ≤ 21 := by
  rcases plain_cases h with ⟨i, rfl⟩ | ⟨z, rfl⟩
  · rw [stampL]
    have := numZ_len (plain_int h)
    omega
  · rw [stampL, List.length_cons]
    have := (plain_str h).1
    have e : z.cps.toList.length = z.length := by rw [Array.length_toList]; rfl
    omega
theorem stamp_ne {d : PyData} (h : plainD d = true) : ∃ c r, stampL d = c :: r ∧ noSep c := by
  have hs := stamp_noSep h
  rcases plain_cases h with ⟨i, rfl⟩ | ⟨z, rfl⟩
  · obtain ⟨c, r, e, _⟩ := numZ_head i
    rw [stampL, e] at hs ⊢
    exact ⟨c, r, rfl, hs c List.mem_cons_self⟩
  · rw [stampL] at hs ⊢
    exact ⟨39, _, rfl, hs 39 List.mem_cons_self⟩
def spPlainBy (K : PySem.W.Frag) : Sp := fun vs H Q _ => ∃ d, vs = [.str (stampS d)] ∧ plainD d = true ∧ ∀ r H', Ex H H' → Dp K H' r d → Q r H'
section
variable {P : Program} {w : World} {K : PySem.W.Frag} {mg : Str → Option Value} {base : Heap}
theorem plain_vsh {d : PyData} (h : plainD d = true) : vsh 1000 d = true := by
  rcases plain_cases h with ⟨i, rfl⟩ | ⟨z, rfl⟩
  · rfl
  · have := (plain_str h).1
    exact decide_eq_true (by omega)
theorem c_plain_by (W : Wld K mg) : Cal P w K mg base 3 "plain_by" (spPlainBy K) := by
  have c_number_by : Cal P w K mg base 1 "number_by" _ := c_number_by W
  have c_is_plain_value : Cal P w K mg base 2 "is_plain_value" _ := c_is_plain_value W
  refine cal_of W.d_plain_by sc_plain_by (fun vs H Q E h => ?_) (fun f cdv A outer s H vs Q E hr h => ?_)
  · obtain ⟨d, rfl, _⟩ := h
    rfl
  obtain ⟨d, rfl, hp, k⟩ := h
  refine ⟨_, (pss_cons (ps_set (i := 1) sc_plain_by.nd rfl (Or.inl rfl) (pe_cl c_number_by hr (by omega) (by rfl) (pa_cons (pv 0) pa_nil)))
    (C8.pss_cut (ps_if (pt_cmpR op_eq (pe_slice sl_S (pv 0) po_none (po_some pe_int)) pe_str (nomark _)) (pss_one (ps_set (i := 1) sc_plain_by.nd rfl (Or.inl rfl) (pe_slice sl_S (pv 0) (po_some pe_int) po_none))) pss_nil)
    (pss_cons (ps_if (PW.pt (pw_or (pt_cmpR op_isN (pv 1) pe_non (nomark _)) (pw_or1 (pt_not (pt_val (pe_cl c_is_plain_value hr (by omega) (by rfl) (pa_cons (pv 1) pa_nil))))))) (pss_one (ps_ret pe_non)) pss_nil)
    (pss_one (ps_ret (pv 1)))))), ?_⟩
  have hlen := stamp_plain_len hp
  rcases plain_cases hp with ⟨i, rfl⟩ | ⟨z, rfl⟩
  · refine ⟨_, rfl, .inl ⟨i, by rw [stampS, stampL]; rfl, plain_int hp, fun H1 e1 => ?_⟩⟩
    refine ⟨fun σ' H' => Ex H H' ∧ ∃ v, Dp K H' v (.int i) ∧ σ' = [some (.str (stampS (.int i))), some v], ?_, ?_⟩
    · refine ⟨_, rfl, _, rfl, stampL (.int i), rfl, sz100 (by omega), rfl, _, rfl, ?_⟩
      rw [show cutN (stampL (.int i)) none (some 1) = (stampL (.int i)).take 1 from cutN_to _ 1]
      rw [show decide (V.str (S ((stampL (.int i)).take 1)) = V.str "'") = false by
        show decide (V.str (S ((stampL (.int i)).take 1)) = V.str (S [39])) = false
        obtain ⟨c, r, e, hc⟩ := numZ_head i
        rw [vS_eq, stampL, e]
        refine decide_eq_false fun z => ?_
        injection z with z _
        omega]
      exact iteF ⟨e1, _, .int i, rfl⟩
    · rintro _ H2 ⟨e2, v, hv, rfl⟩
      obtain rfl := dp_int hv
      refine ⟨_, rfl, rfl, _, rfl, iteF ⟨_, rfl, _, _, rfl, .int i, plain_vsh hp, fun r H3 e3 hr3 => ?_⟩⟩
      obtain rfl := dp_bl hr3
      rw [hp]
      exact ⟨_, rfl, iteF ⟨_, rfl, k _ _ (e2.trans e3) (.int i)⟩⟩
  · have hzl := (plain_str hp).1
    have es : stampL (.str z) = 39 :: z.cps.toList := by rw [stampL]
    refine ⟨_, rfl, .inr ⟨z.cps.toList, by rw [stampS, es]; rfl, ?_, fun H1 e1 => ?_⟩⟩
    · rw [Array.length_toList]
      show z.length ≤ _
      omega
    refine ⟨fun σ' H' => Ex H H' ∧ ∃ v, Dp K H' v (.str z) ∧ σ' = [some (.str (stampS (.str z))), some v], ?_, ?_⟩
    · refine ⟨_, rfl, _, rfl, stampL (.str z), rfl, sz100 (by omega), rfl, _, rfl, ?_⟩
      rw [show cutN (stampL (.str z)) none (some 1) = (stampL (.str z)).take 1 from cutN_to _ 1, es]
      refine iteT ⟨_, rfl, _, rfl, stampL (.str z), rfl, sz100 (by omega), ?_⟩
      rw [show cutN (stampL (.str z)) (some 1) none = (stampL (.str z)).drop 1 from cutN_from _ 1, es]
      exact ⟨e1, _, dpS (S_tl z), rfl⟩
    · rintro _ H2 ⟨e2, v, hv, rfl⟩
      obtain rfl := dp_str hv
      refine ⟨_, rfl, rfl, _, rfl, iteF ⟨_, rfl, _, _, rfl, .str z, plain_vsh hp, fun r H3 e3 hr3 => ?_⟩⟩
      obtain rfl := dp_bl hr3
      rw [hp]
      exact ⟨_, rfl, iteF ⟨_, rfl, k _ _ (e2.trans e3) (.str z)⟩⟩
end
end Wk
namespace Wk
open PySem PySem.Spec PyProof.Rows L2 SX
open TL (joinL numL)
mutual
/-- a value but for its depth and its number of values -/
def vp : PyData → Bool
  | .tuple ds => decide (ds.length ≤ 8) && vpAll ds
  | .int i => plainD (.int i)
  | .str z => plainD (.str z)
  | _ => false
def vpAll : List PyData → Bool
  | [] => true
  | d :: ds => vp d && vpAll ds
end
theorem vpAll_mem : ∀ {ds : List PyData} {d : PyData}, vpAll ds = true → d ∈ ds → vp d = true
  | [], _, _, m => by cases m
  | x :: xs, d, h, m => by
    have q : (vp x && vpAll xs) = true := h
    rw [Bool.and_eq_true] at q
    rcases List.mem_cons.mp m with rfl | m
    · exact q.1
    · exact vpAll_mem q.2 m
theorem vp_tup {ds : List PyData} (h : vp (.tuple ds) = true) : ds.length ≤ 8 ∧ vpAll ds = true := by
  have q : (decide (ds.length ≤ 8) && vpAll ds) = true := h
  rw [Bool.and_eq_true] at q
  exact ⟨of_decide_eq_true q.1, q.2⟩
theorem vp_cases {d : PyData} (h : vp d = true) : plainD d = true ∨ ∃ ds, d = .tuple ds := by
  cases d with
  | int i => exact .inl h
  | str z => exact .inl h
  | tuple ds => exact .inr ⟨ds, rfl⟩
  | none => cases h
  | bool b => cases h
  | list x => cases h
  | dict x => cases h
theorem plain_depth {d : PyData} (h : plainD d = true) : d.depth = 0 := by
  rcases plain_cases h with ⟨i, rfl⟩ | ⟨z, rfl⟩ <;> rw [PyData.depth]
/-- value_at upon a stamp -/
def spVAt (K : PySem.W.Frag) (n : Nat) : Sp := fun vs H Q _ => ∃ (L : List Nat) (at_ : Nat) (d : PyData) (r : List Nat) (a : Nat), vs = [.str (S L), .int at_, .int a] ∧ L.drop at_ = stampL d ++ r ∧ L.length ≤ 100000 ∧ at_ ≤ L.length ∧ vp d = true ∧ d.depth < n ∧ d.depth + a ≤ 4 ∧
  (r = [] ∨ ∃ c r', r = c :: r' ∧ (c = 41 ∨ c = 44)) ∧ ∀ v H', Ex H H' → Dp K H' v (.tuple [d, .int ((at_ + (stampL d).length : Nat) : Int)]) → Q v H'
/-- row_at upon the stamps of a row's parts -/
def spRAt (K : PySem.W.Frag) (n : Nat) : Sp := fun vs H Q _ => ∃ (L : List Nat) (at_ : Nat) (ds : List PyData) (r : List Nat) (a : Nat), vs = [.str (S L), .int at_, .int a] ∧ L.drop at_ = joinL [44] (ds.map stampL) ++ 41 :: r ∧ L.length ≤ 100000 ∧ at_ ≤ L.length ∧ ds.length ≤ 8 ∧ vpAll ds = true ∧ PyData.depthAll ds < n ∧ PyData.depthAll ds + a ≤ 4 ∧
  ∀ v H', Ex H H' → Dp K H' v (.tuple [.tuple ds, .int ((at_ + (joinL [44] (ds.map stampL)).length + 1 : Nat) : Int)]) → Q v H'
section
variable {P : Program} {w : World} {K : PySem.W.Frag} {mg : Str → Option Value} {base : Heap}
theorem drop_at {L s r : List Nat} {a : Nat} (h : L.drop a = s ++ r) (hl : a ≤ L.length) : L.length = a + s.length + r.length := by
  have := congrArg List.length h
  rw [List.length_drop, List.length_append] at this
  omega
theorem get_at {L s r : List Nat} {a j : Nat} (h : L.drop a = s ++ r) (hj : j < s.length) : L[a + j]? = s[j]? := by
  have e : (L.drop a)[j]? = (s ++ r)[j]? := by rw [h]
  rw [List.getElem?_drop, List.getElem?_append_left hj] at e
  exact e
theorem c_value_at_step (W : Wld K mg) (n : Nat) (c_row_at : Cal P w K mg base (2 * n + 4) "row_at" (spRAt K n)) : Cal P w K mg base (2 * n + 5) "value_at" (spVAt K (n + 1)) := by
  have c_plain_by : Cal P w K mg base 3 "plain_by" _ := c_plain_by W
  refine cal_of W.d_value_at sc_value_at (fun vs H Q E h => ?_) (fun f cdv A outer s H vs Q E hr h => ?_)
  · obtain ⟨L, at_, d, r, a, rfl, _⟩ := h
    rfl
  obtain ⟨L, at_, d, r, a, rfl, hL, hl, hat, hv, hn, ha, hr', k⟩ := h
  have hS : (S L).length = L.length := S_len L
  refine ⟨_, (pss_cons (ps_if (pt_cmpR op_eq (pe_slice sl_S (pv 0) (po_some (pv 1)) (po_some (pe_op op_add (pv 1) pe_int))) pe_str (nomark _)) (pss_one (ps_ret (pe_cl c_row_at hr (by omega) (by rfl) (pa_cons (pv 0) (pa_cons (pe_op op_add (pv 1) pe_int) (pa_cons (pe_op op_add (pv 2) pe_int) pa_nil)))))) pss_nil)
    (pss_cons (ps_set (i := 3) sc_value_at.nd rfl (Or.inl rfl) (pv 1))
    (C8.pss_cut (ps_while PassesOwn.never (PW.pt (pw_and (pt_cmpR op_lt (pv 3) (pe_callB call_lenDp (by rfl) W.f_len bt_len (pa_cons (pv 0) pa_nil)) (nomark _)) (pw_and1 (pt_cmpR op_notIn_sign (pe_ix ix_str (pv 0) (pv 3) (fun _ _ => rfl)) pe_str (by rfl))))) (pss_one (ps_set (i := 3) sc_value_at.nd rfl (Or.inl rfl) (pe_op op_add (pv 3) pe_int))))
    (pss_cons (ps_set (i := 4) sc_value_at.nd rfl (Or.inl rfl) (pe_cl c_plain_by hr (by omega) (by rfl) (pa_cons (pe_slice sl_S (pv 0) (po_some (pv 1)) (po_some (pv 3))) pa_nil)))
    (pss_cons (ps_if (pt_cmpR op_isN (pv 4) pe_non (nomark _)) (pss_one (ps_ret pe_non)) pss_nil)
    (pss_one (ps_ret (pe_tup (pa_cons (pv 4) (pa_cons (pv 3) pa_nil)))))))))), ?_⟩
  refine ⟨_, rfl, ⟨_, rfl, ⟨_, rfl, _, rfl, _, _, rfl, rfl, _, rfl, L, rfl, sz100 hl, rfl, _, rfl, ?_⟩⟩⟩
  have e1 : cutN L (some ((at_ : Nat) : Int)) (some (((at_ : Nat) : Int) + 1)) = (L.drop at_).take 1 := by
    have := cutN_mid L at_ (at_ + 1)
    rw [show at_ + 1 - at_ = 1 by omega] at this
    exact this
  rw [e1]
  rcases vp_cases hv with hp | ⟨ds, rfl⟩
  · obtain ⟨c0, r0, es, hc0⟩ := stamp_ne hp
    rw [show decide (V.str (S ((L.drop at_).take 1)) = V.str "(") = false by
      show decide (V.str (S ((L.drop at_).take 1)) = V.str (S [40])) = false
      rw [vS_eq, hL, es]
      refine decide_eq_false fun z => ?_
      injection z with z _
      exact hc0.1 z]
    refine iteF ?_
    have hlen := drop_at hL hat
    have h21 := stamp_plain_len hp
    refine ⟨_, rfl, fun σ' H' => H = H' ∧ σ' = [some (.str (S L)), some (.int at_), some (.int a), some (.int ((at_ + (stampL d).length : Nat) : Int)), none], ?_, ?_⟩
    · refine ⟨fun m σ' H' => ∃ j : Nat, j ≤ (stampL d).length ∧ m = (stampL d).length - j ∧ H = H' ∧ σ' = [some (.str (S L)), some (.int at_), some (.int a), some (.int ((at_ + j : Nat) : Int)), none], ⟨_, 0, Nat.zero_le _, rfl, rfl, rfl⟩, ?_⟩
      rintro m _ _ ⟨j, hj, rfl, rfl, rfl⟩
      refine ⟨_, rfl, _, rfl, _, _, rfl, .str _, rfl, ?_, _, _, rfl, rfl, _, rfl, iteD (fun c => ?_) (fun c => ?_)⟩
      · show (S L).length ≤ _
        rw [hS]
        exact sz100 hl
      · -- a sign is left
        have c : ((at_ + j : Nat) : Int) < (((S L).length : Nat) : Int) := c
        rw [hS] at c
        have hlt : at_ + j < L.length := by omega
        refine ⟨_, rfl, _, rfl, S L, _, L[at_ + j], rfl, rfl, ?_, ?_, _, ",()", rfl, rfl, _, rfl, ?_⟩
        · rw [hS]
          exact sz100 hl
        · exact atI_nat (xs := L) (List.getElem?_eq_getElem hlt)
        by_cases hjl : j < (stampL d).length
        · have g := get_at hL hjl
          rw [List.getElem?_eq_getElem hlt, List.getElem?_eq_getElem hjl] at g
          have g := Option.some.inj g
          have ns := stamp_noSep hp _ (List.getElem_mem hjl)
          rw [← g] at ns
          have e : decide (L[at_ + j] ∈ (",()" : Str).cps.toList) = false := by
            refine decide_eq_false fun m => ?_
            have m : L[at_ + j] ∈ [44, 40, 41] := m
            simp only [List.mem_cons, List.not_mem_nil, or_false] at m
            unfold noSep at ns
            omega
          rw [e]
          refine iteT ⟨fun σ' H' => H = H' ∧ σ' = [some (.str (S L)), some (.int at_), some (.int a), some (.int ((at_ + (j + 1) : Nat) : Int)), none], ?_, ?_⟩
          · rintro _ _ ⟨rfl, rfl⟩
            exact ⟨_, by omega, j + 1, hjl, rfl, rfl, rfl⟩
          · exact ⟨_, rfl, _, _, rfl, rfl, rfl, rfl⟩
        · have ej : j = (stampL d).length := by omega
          rcases hr' with rfl | ⟨c, r', rfl, hc⟩
          · rw [List.length_nil] at hlen
            omega
          · have ec : L[at_ + j] = c := by
              have e : (L.drop at_)[j]? = (stampL d ++ c :: r')[j]? := by rw [hL]
              rw [List.getElem?_drop, List.getElem?_append_right (by omega), ej, Nat.sub_self, ← ej, List.getElem?_eq_getElem hlt] at e
              exact Option.some.inj e
            have e : decide (L[at_ + j] ∈ (",()" : Str).cps.toList) = true := by
              refine decide_eq_true ?_
              show L[at_ + j] ∈ [44, 40, 41]
              rw [ec]
              rcases hc with rfl | rfl <;> simp
            rw [e]
            refine iteF ⟨rfl, ?_⟩
            rw [ej]
      · have c : ¬ ((at_ + j : Nat) : Int) < (((S L).length : Nat) : Int) := c
        rw [hS] at c
        refine iteF ⟨rfl, ?_⟩
        rw [show j = (stampL d).length by omega]
    · rintro _ _ ⟨rfl, rfl⟩
      have e2 : cutN L (some ((at_ : Nat) : Int)) (some ((at_ + (stampL d).length : Nat) : Int)) = stampL d := by
        rw [cutN_mid, hL, show at_ + (stampL d).length - at_ = (stampL d).length by omega]
        exact List.take_left' rfl
      refine ⟨_, rfl, ⟨_, rfl, ⟨_, rfl, _, rfl, _, rfl, L, rfl, sz100 hl, ?_⟩⟩⟩
      rw [e2]
      refine ⟨d, rfl, hp, fun v H1 e1 hv => ?_⟩
      refine ⟨_, rfl, rfl, _, rfl, ?_⟩
      rw [show decide (v = V.non) = false by
        rcases plain_cases hp with ⟨i, rfl⟩ | ⟨z, rfl⟩
        · rw [dp_int hv]; rfl
        · rw [dp_str hv]; rfl]
      refine iteF ⟨_, rfl, _, rfl, (show 2 ≤ sizeLine by decide), tup_new (.cons hv (.one (.int _))) fun p H2 e2 h2 => k _ _ (e1.trans e2) h2⟩
  · have es : stampL (.tuple ds) = 40 :: (joinL [44] (ds.map stampL) ++ [41]) := by rw [stampL, stampsL_map]
    rw [hL, es]
    have hL2 : L.drop (at_ + 1) = joinL [44] (ds.map stampL) ++ 41 :: r := by
      rw [show at_ + 1 = at_ + 1 from rfl, ← List.drop_drop, hL, es]
      show (joinL [44] (ds.map stampL) ++ [41]) ++ r = _
      rw [List.append_assoc]
      rfl
    have hd := drop_at hL hat
    rw [es, List.length_cons] at hd
    rw [PyData.depth] at hn ha
    refine iteT ⟨_, rfl, ⟨_, rfl, _, _, rfl, rfl, ⟨_, rfl, _, _, rfl, rfl, L, at_ + 1, ds, r, a + 1, rfl, hL2, hl, by omega, (vp_tup hv).1, (vp_tup hv).2, by omega, by omega, fun v H' e h => k v H' e ?_⟩⟩⟩
    rw [es, List.length_cons, List.length_append]
    rw [show at_ + 1 + (joinL [44] (ds.map stampL)).length + 1 = at_ + ((joinL [44] (ds.map stampL)).length + [41].length + 1) by
      show _ = at_ + (_ + 1 + 1)
      omega] at h
    exact h
end
end Wk
namespace Wk
open PySem PySem.Spec PyProof.Rows L2 SX
open TL (joinL numL)
mutual
theorem vp_imm : ∀ d : PyData, vp d = true → imm d = true
  | .tuple ds, h => by
    rw [imm]
    exact vpAll_imm ds (vp_tup h).2
  | .int _, _ => rfl
  | .str _, _ => rfl
  | .none, h => by cases h
  | .bool _, h => by cases h
  | .list _, h => by cases h
  | .dict _, h => by cases h
theorem vpAll_imm : ∀ ds : List PyData, vpAll ds = true → immAll ds = true
  | [], _ => rfl
  | d :: ds, h => by
    have q : (vp d && vpAll ds) = true := h
    rw [Bool.and_eq_true] at q
    rw [immAll, vp_imm d q.1, vpAll_imm ds q.2]
    rfl
end
theorem vpAll_take : ∀ {ds : List PyData} (n : Nat), vpAll ds = true → vpAll (ds.take n) = true
  | _, 0, _ => rfl
  | [], _ + 1, _ => rfl
  | d :: ds, n + 1, h => by
    have q : (vp d && vpAll ds) = true := h
    rw [Bool.and_eq_true] at q
    show (vp d && vpAll (ds.take n)) = true
    rw [q.1, vpAll_take n q.2]
    rfl
theorem stamp_head {d : PyData} (h : vp d = true) : ∃ c r, stampL d = c :: r ∧ c ≠ 41 ∧ c ≠ 44 := by
  rcases vp_cases h with hp | ⟨ds, rfl⟩
  · obtain ⟨c, r, e, n1, n2, n3⟩ := stamp_ne hp
    exact ⟨c, r, e, n2, n3⟩
  · exact ⟨40, _, by rw [stampL], by decide, by decide⟩
theorem take_at {L s : List Nat} {a : Nat} {c : Nat} {r : List Nat} (h : L.drop a = s ++ c :: r) : cutN L (some ((a + s.length : Nat) : Int)) (some (((a + s.length : Nat) : Int) + 1)) = [c] := by
  have e := cutN_mid L (a + s.length) (a + s.length + 1)
  rw [show a + s.length + 1 - (a + s.length) = 1 by omega, ← List.drop_drop, h, List.drop_left' rfl] at e
  exact e
def rowInv (K : PySem.W.Frag) (H : Hp) (L : List Nat) (at_ : Nat) (ds : List PyData) (r : List Nat) (a : Nat) (p : Addr) (i : Nat) (σ' : L2.St) (H' : Hp) : Prop :=
  ∃ (j : Nat) (xs : List V) (x : Option V), i < ds.length ∧ Ex H H' ∧ H' p = some (.lst xs) ∧ DpAll K H' xs (ds.take i) ∧ L.drop j = joinL [44] ((ds.drop i).map stampL) ++ 41 :: r ∧ j ≤ L.length ∧
    j + (joinL [44] ((ds.drop i).map stampL)).length = at_ + (joinL [44] (ds.map stampL)).length ∧ σ' = [some (.str (S L)), some (.int j), some (.int a), some (.ref p), x]
section
variable {P : Program} {w : World} {K : PySem.W.Frag} {mg : Str → Option Value} {base : Heap}
theorem c_row_at_step (W : Wld K mg) (n : Nat) (c_value_at : Cal P w K mg base (2 * n + 3) "value_at" (spVAt K n)) : Cal P w K mg base (2 * n + 4) "row_at" (spRAt K n) := by
  refine cal_of W.d_row_at sc_row_at (fun vs H Q E h => ?_) (fun f cdv A outer s H vs Q E hr h => ?_)
  · obtain ⟨L, at_, d, r, a, rfl, _⟩ := h
    rfl
  obtain ⟨L, at_, ds, r, a, rfl, hL, hl, hat, h8, hv, hn, ha, k⟩ := h
  have hS : (S L).length = L.length := S_len L
  refine ⟨_, (pss_cons (ps_if (pt_cmpR op_gt (pv 2) (C8.pe_gc (by rfl) W.g_MOST_DEEP) (nomark _)) (pss_one (ps_ret pe_non)) pss_nil)
    (pss_cons (ps_if (pt_cmpR op_eq (pe_slice sl_S (pv 0) (po_some (pv 1)) (po_some (pe_op op_add (pv 1) pe_int))) pe_str (nomark _)) (pss_one (ps_ret (pe_tup (pa_cons (pe_tup pa_nil) (pa_cons (pe_op op_add (pv 1) pe_int) pa_nil))))) pss_nil)
    (pss_cons (ps_set (i := 3) sc_row_at.nd rfl (Or.inl rfl) (pe_lst pa_nil))
    (pss_cons (ps_while PassesOwn.never (pt_cmpR op_lt (pe_callB call_lenA (by rfl) W.f_len bt_len (pa_cons (pv 3) pa_nil)) (C8.pe_gc (by rfl) W.g_MOST_PARTS) (nomark _)) (pss_cons (ps_set (i := 4) sc_row_at.nd rfl (Or.inl rfl) (pe_cl c_value_at hr (by omega) (by rfl) (pa_cons (pv 0) (pa_cons (pv 1) (pa_cons (pv 2) pa_nil)))))
    (pss_cons (ps_if (pt_cmpR op_isN (pv 4) pe_non (nomark _)) (pss_one (ps_ret pe_non)) pss_nil)
    (pss_cons (ps_expr (pe_bm PySem.F.plainAttrs_list PySem.F.slot_list_append PySem.F.type_list_append mt_append (pv 3) (pa_cons (pe_ix ix_T (pv 4) pe_int (fun _ _ => rfl)) pa_nil)))
    (pss_cons (ps_set (i := 1) sc_row_at.nd rfl (Or.inl rfl) (pe_op op_add (pe_ix ix_T (pv 4) pe_int (fun _ _ => rfl)) pe_int))
    (pss_cons (ps_if (pt_cmpR op_eq (pe_slice sl_S (pv 0) (po_some (pe_ix ix_T (pv 4) pe_int (fun _ _ => rfl))) (po_some (pv 1))) pe_str (nomark _)) (pss_one (ps_ret (pe_tup (pa_cons (pe_callTy call_tuple_of (by rfl) W.f_tuple bt_tuple (pa_cons (pv 3) pa_nil)) (pa_cons (pv 1) pa_nil))))) pss_nil)
    (pss_one (ps_if (pt_cmpR op_ne (pe_slice sl_S (pv 0) (po_some (pe_ix ix_T (pv 4) pe_int (fun _ _ => rfl))) (po_some (pv 1))) pe_str (nomark _)) (pss_one (ps_ret pe_non)) pss_nil))))))))
    (pss_one (ps_ret pe_non)))))), ?_⟩
  refine ⟨_, rfl, _, _, rfl, rfl, _, rfl, iteD (fun c => ?_) (fun c => ?_)⟩
  · exfalso
    have c : (4 : Int) < ((a : Nat) : Int) := c
    omega
  refine ⟨_, rfl, ⟨_, rfl, ⟨_, rfl, _, rfl, _, _, rfl, rfl, _, rfl, L, rfl, sz100 hl, rfl, _, rfl, ?_⟩⟩⟩
  have e1 : cutN L (some ((at_ : Nat) : Int)) (some (((at_ : Nat) : Int) + 1)) = (L.drop at_).take 1 := by
    have := cutN_mid L at_ (at_ + 1)
    rw [show at_ + 1 - at_ = 1 by omega] at this
    exact this
  rw [e1]
  cases hds : ds with
  | nil =>
    subst hds
    rw [hL]
    refine iteT ⟨by decide, fun p hp => ?_⟩
    refine ⟨_, rfl, _, _, rfl, rfl, (show 2 ≤ sizeLine by decide), tup_new (K := K) (ds := [.tuple [], .int ((at_ + 1 : Nat) : Int)]) (.cons (.tup (SqT.of upd_same) .nil) (.one (.int _))) fun p2 H2 e2 h2 => ?_⟩
    exact k _ _ ((Ex.new hp).trans e2) h2
  | cons d0 dr =>
    have hd0 : vp d0 = true := vpAll_mem hv (by rw [hds]; exact List.mem_cons_self)
    obtain ⟨c0, r0, es0, hc41, hc44⟩ := stamp_head hd0
    rw [show decide (V.str (S ((L.drop at_).take 1)) = V.str ")") = false by
      show decide (V.str (S ((L.drop at_).take 1)) = V.str (S [41])) = false
      have eh : ∃ t, L.drop at_ = c0 :: t := by
        rw [hL, hds, List.map_cons]
        cases dr with
        | nil => exact ⟨_, by rw [List.map_nil, joinL, es0]; rfl⟩
        | cons x y => exact ⟨_, by rw [List.map_cons, joinL, es0]; rfl⟩
      obtain ⟨t, et⟩ := eh
      rw [vS_eq, et]
      refine decide_eq_false fun z => ?_
      injection z with z _
      exact hc41 z]
    refine iteF ⟨Nat.zero_le _, fun p hp => ?_⟩
    refine ⟨fun m σ' H' => ∃ i, m = ds.length - i ∧ rowInv K H L at_ ds r a p i σ' H', ⟨_, 0, rfl, at_, [], none, ?_, Ex.new hp, upd_same, .nil, hL, hat, rfl, rfl⟩, ?_⟩
    · rw [hds, List.length_cons]
      omega
    rintro m _ H1 ⟨i, rfl, j, xs, x4, hi, e1, h1, d1, hj, hjl, hjs, rfl⟩
    have hxl : xs.length = i := by
      rw [d1.length, List.length_take]
      omega
    refine ⟨_, rfl, p, _, rfl, .inl ⟨xs, SqL.of h1, rfl⟩, _, _, rfl, rfl, _, rfl, iteD (fun c => ?_) (fun c => ?_)⟩
    case refine_2 =>
      exfalso
      have c : ¬ ((xs.length : Nat) : Int) < 8 := c
      omega
    obtain ⟨d, hdi⟩ : ∃ d, ds[i]? = some d := ⟨_, List.getElem?_eq_getElem hi⟩
    have hdr : ds.drop i = d :: ds.drop (i + 1) := by
      rw [List.drop_eq_getElem_cons hi]
      rw [List.getElem?_eq_getElem hi] at hdi
      rw [Option.some.inj hdi]
    have hdm : d ∈ ds := List.mem_of_getElem? hdi
    have hdv : vp d = true := vpAll_mem hv hdm
    have hdd := depth_mem hdm
    -- what stands behind this part
    obtain ⟨c, t, ht, hct⟩ : ∃ c t, L.drop j = stampL d ++ c :: t ∧ ((c = 41 ∧ ds.drop (i + 1) = [] ∧ t = r) ∨ (c = 44 ∧ i + 1 < ds.length ∧ t = joinL [44] ((ds.drop (i + 1)).map stampL) ++ 41 :: r)) := by
      rw [hj, hdr, List.map_cons]
      cases q : ds.drop (i + 1) with
      | nil => exact ⟨41, r, by rw [List.map_nil, joinL], .inl ⟨rfl, rfl, rfl⟩⟩
      | cons u v =>
        refine ⟨44, joinL [44] ((u :: v).map stampL) ++ 41 :: r, ?_, .inr ⟨rfl, ?_, rfl⟩⟩
        · rw [List.map_cons, joinL, List.append_assoc, List.append_assoc]
          rfl
        · have := congrArg List.length q
          rw [List.length_drop, List.length_cons] at this
          omega
    refine ⟨rowInv K H L at_ ds r a p (i + 1), fun σ' H' q => ⟨_, by omega, i + 1, rfl, q⟩, ?_⟩
    refine ⟨_, rfl, _, rfl, _, rfl, L, j, d, c :: t, a, rfl, ht, hl, hjl, hdv, by omega, by omega, .inr ⟨c, t, rfl, by rcases hct with ⟨h, _⟩ | ⟨h, _⟩ <;> simp [h]⟩, fun v H2 e2 hv2 => ?_⟩
    obtain ⟨fa, fxs, rfl, hf1, hf2⟩ := dp_tup hv2
    refine ⟨_, rfl, rfl, _, rfl, iteF ?_⟩
    have h2 : H2 p = some (.lst xs) := e2 _ _ h1
    refine ⟨_, rfl, .inl ⟨rfl, _, SqL.of h2⟩, _, rfl, _, _, d, rfl, hv2, rfl, fun v0 hv0 => ?_⟩
    refine ⟨p, xs, v0, rfl, rfl, h2, szlt (by omega), ?_⟩
    have t3 : Tu H2 (upd H2 p (.lst (xs ++ [v0]))) := Tu.mut h2
    have e3 : Ex H (upd H2 p (.lst (xs ++ [v0]))) := Ex.mut (e1.trans e2) hp
    have di := vp_imm d hdv
    have hv3 : Dp K (upd H2 p (.lst (xs ++ [v0]))) (.ref fa) (.tuple [d, .int ((j + (stampL d).length : Nat) : Int)]) := Dp.tu t3 _ _ (by
      show (imm d && (imm (.int _) && true)) = true
      rw [di]
      rfl) hv2
    have d3 : DpAll K (upd H2 p (.lst (xs ++ [v0]))) (xs ++ [v0]) (ds.take (i + 1)) := by
      have et : ds.take (i + 1) = ds.take i ++ [d] := by
        rw [List.take_add_one, hdi]
        rfl
      rw [et]
      exact (DpAll.tu ((Same.tu e2).trans t3) _ _ (vpAll_imm _ (vpAll_take i hv)) d1).append (.one (Dp.tu t3 _ _ di hv0))
    have h3 : (upd H2 p (.lst (xs ++ [v0]))) p = some (.lst (xs ++ [v0])) := upd_same
    generalize upd H2 p (.lst (xs ++ [v0])) = H3 at t3 e3 hv3 d3 h3 ⊢
    refine ⟨_, rfl, _, _, _, rfl, hv3, rfl, fun v1 hv1 => ?_⟩
    obtain rfl := dp_int hv1
    refine ⟨_, _, rfl, rfl, ?_⟩
    have e4 : cutN L (some ((j + (stampL d).length : Nat) : Int)) (some (((j + (stampL d).length : Nat) : Int) + 1)) = [c] := take_at ht
    refine ⟨_, rfl, _, rfl, _, _, _, rfl, hv3, rfl, fun v2 hv2 => ⟨_, dp_int hv2, _, rfl, _, rfl, L, rfl, sz100 hl, rfl, _, rfl, ?_⟩⟩
    rw [e4]
    have hlj := drop_at ht hjl
    rw [List.length_cons] at hlj
    rcases hct with ⟨rfl, hnil, rfl⟩ | ⟨rfl, hi2, rfl⟩
    · have etk : ds.take (i + 1) = ds := by
        have := List.take_append_drop (i + 1) ds
        rw [hnil, List.append_nil] at this
        exact this
      rw [etk] at d3
      rw [hdr, hnil, List.map_cons, List.map_nil, joinL] at hjs
      refine iteT ⟨_, rfl, p, _, rfl, .inl ⟨SqL.of h3, fun l hl => ⟨_, rfl, (show 2 ≤ sizeLine by decide), ?_⟩⟩⟩
      have e5 : Ex H3 (upd H3 l (.tup (xs ++ [v0]))) := Ex.new hl
      refine tup_new (K := K) (ds := [.tuple ds, .int (((j + (stampL d).length : Nat) : Int) + 1)]) (.cons (.tup (SqT.of upd_same) (d3.up e5)) (.one (.int _))) fun p2 H6 e6 h6 => k _ _ ((e3.trans e5).trans e6) ?_
      rw [← hjs]
      exact h6
    · refine iteF ⟨_, rfl, _, rfl, _, _, _, rfl, hv3, rfl, fun v3 hv3 => ⟨_, dp_int hv3, _, rfl, _, rfl, L, rfl, sz100 hl, rfl, _, rfl, ?_⟩⟩
      rw [e4]
      refine iteF ?_
      refine ⟨j + (stampL d).length + 1, _, _, hi2, e3, h3, d3, ?_, by omega, ?_, rfl⟩
      · rw [Nat.add_assoc, ← List.drop_drop, ← List.drop_drop, ht, List.drop_left' rfl]
        rfl
      · rw [← hjs, hdr, List.map_cons]
        cases q : ds.drop (i + 1) with
        | nil =>
          have := congrArg List.length q
          rw [List.length_drop, List.length_nil] at this
          omega
        | cons u v =>
          rw [List.map_cons, joinL, List.length_append, List.length_append]
          have : ([44] : List Nat).length = 1 := rfl
          omega
theorem c_value_at (W : Wld K mg) : ∀ n : Nat, Cal P w K mg base (2 * n + 3) "value_at" (spVAt K n)
  | 0 => (cal_zero W.d_value_at fun vs H Q E h => by
      obtain ⟨L, at_, d, r, a, _, _, _, _, _, h1, _⟩ := h
      omega).mono (by omega)
  | n + 1 => (c_value_at_step W n (c_row_at_step W n (c_value_at W n))).mono (by omega)
mutual
theorem vin_vp : ∀ (d : PyData) (a m : Nat), a ≤ 4 → vin d a = some m → vp d = true ∧ d.depth + a ≤ 4 ∧ m = countD d
  | .tuple ds, a, m, ha, h => by
    rw [vin] at h
    split at h
    · cases h
    · rename_i hc
      obtain ⟨h1, h2, h3⟩ := vinAll_vp ds (a + 1) 1 m (by omega) h
      refine ⟨?_, ?_, ?_⟩
      · show (decide (ds.length ≤ 8) && vpAll ds) = true
        rw [h1, decide_eq_true (by omega)]
        rfl
      · rw [PyData.depth]
        omega
      · rw [countD]
        omega
  | .int i, a, m, ha, h => by
    rw [vin] at h
    split at h
    · rename_i hc
      cases h
      refine ⟨hc, ?_, ?_⟩
      · rw [PyData.depth]; omega
      · rw [countD]; all_goals (intros; first | rfl | contradiction)
    · cases h
  | .str z, a, m, ha, h => by
    rw [vin] at h
    split at h
    · rename_i hc
      cases h
      refine ⟨hc, ?_, ?_⟩
      · rw [PyData.depth]; omega
      · rw [countD]; all_goals (intros; first | rfl | contradiction)
    · cases h
  | .none, _, _, _, h => by cases h
  | .bool _, _, _, _, h => by cases h
  | .list _, _, _, _, h => by cases h
  | .dict _, _, _, _, h => by cases h
theorem vinAll_vp : ∀ (ds : List PyData) (a m m' : Nat), a ≤ 4 → vinAll ds a m = some m' → vpAll ds = true ∧ PyData.depthAll ds + a ≤ 4 ∧ m' = m + countAll ds
  | [], a, m, m', ha, h => by
    rw [vinAll] at h
    cases h
    refine ⟨rfl, ?_, ?_⟩
    · rw [PyData.depthAll]; omega
    · rw [countAll]; omega
  | d :: ds, a, m, m', ha, h => by
    rw [vinAll] at h
    cases q : vin d a with
    | none => rw [q] at h; cases h
    | some k =>
      rw [q] at h
      obtain ⟨h1, h2, h3⟩ := vin_vp d a k ha q
      obtain ⟨g1, g2, g3⟩ := vinAll_vp ds a (m + k) m' ha h
      refine ⟨?_, ?_, ?_⟩
      · show (vp d && vpAll ds) = true
        rw [h1, g1]
        rfl
      · rw [PyData.depthAll]
        omega
      · rw [countAll]
        omega
end
theorem okV_vp {d : PyData} (h : okV d = true) : vp d = true ∧ d.depth ≤ 4 ∧ countD d ≤ 40 := by
  unfold okV at h
  cases q : vin d 0 with
  | none => rw [q] at h; cases h
  | some m =>
    rw [q] at h
    obtain ⟨h1, h2, h3⟩ := vin_vp d 0 m (by omega) q
    have := of_decide_eq_true h
    exact ⟨h1, by omega, by omega⟩
mutual
theorem vp_vsh : ∀ d : PyData, vp d = true → vsh 1000 d = true ∧ iOk d = true
  | .tuple ds, h => by
    obtain ⟨h1, h2⟩ := vp_tup h
    obtain ⟨g1, g2⟩ := vpAll_vsh ds h2
    refine ⟨?_, g2⟩
    show (decide (ds.length ≤ 1000) && vshAll 1000 ds) = true
    rw [g1, decide_eq_true (by omega)]
    rfl
  | .int i, h => by
    have := plain_int h
    exact ⟨rfl, decide_eq_true (Nat.le_trans this (by decide))⟩
  | .str z, h => ⟨plain_vsh h, rfl⟩
  | .none, h => by cases h
  | .bool _, h => by cases h
  | .list _, h => by cases h
  | .dict _, h => by cases h
theorem vpAll_vsh : ∀ ds : List PyData, vpAll ds = true → vshAll 1000 ds = true ∧ iOkAll ds = true
  | [], _ => ⟨rfl, rfl⟩
  | d :: ds, h => by
    have q : (vp d && vpAll ds) = true := h
    rw [Bool.and_eq_true] at q
    obtain ⟨h1, h2⟩ := vp_vsh d q.1
    obtain ⟨g1, g2⟩ := vpAll_vsh ds q.2
    refine ⟨?_, ?_⟩
    · show (vsh 1000 d && vshAll 1000 ds) = true
      rw [h1, g1]
      rfl
    · show (iOk d && iOkAll ds) = true
      rw [h2, g2]
      rfl
end
theorem joinL_le : ∀ ps : List (List Nat), (joinL [44] ps).length ≤ (ps.map fun p => p.length + 1).sum
  | [] => by simp [joinL]
  | [p] => by simp [joinL]
  | p :: q :: r => by
    have ih := joinL_le (q :: r)
    rw [joinL, List.map_cons, List.sum_cons, List.length_append, List.length_append]
    have : ([44] : List Nat).length = 1 := rfl
    omega
mutual
theorem stamp_len : ∀ d : PyData, vp d = true → (stampL d).length + 1 ≤ 23 * countD d
  | .tuple ds, h => by
    rw [stampL, stampsL_map, List.length_cons, List.length_append, countD]
    have h1 := stamps_len ds (vp_tup h).2
    have h2 := joinL_le (ds.map stampL)
    rw [List.map_map] at h2
    have : ([41] : List Nat).length = 1 := rfl
    have e : (ds.map ((fun p => p.length + 1) ∘ stampL)).sum = (ds.map fun d => (stampL d).length + 1).sum := rfl
    omega
  | .int i, h => by
    have := stamp_plain_len (d := .int i) h
    rw [countD]
    · omega
    · intros; contradiction
  | .str z, h => by
    have := stamp_plain_len (d := .str z) h
    rw [countD]
    · omega
    · intros; contradiction
  | .none, h => by cases h
  | .bool _, h => by cases h
  | .list _, h => by cases h
  | .dict _, h => by cases h
theorem stamps_len : ∀ ds : List PyData, vpAll ds = true → (ds.map fun d => (stampL d).length + 1).sum ≤ 23 * countAll ds
  | [], _ => by simp [countAll]
  | d :: ds, h => by
    have q : (vp d && vpAll ds) = true := h
    rw [Bool.and_eq_true] at q
    have h1 := stamp_len d q.1
    have h2 := stamps_len ds q.2
    rw [List.map_cons, List.sum_cons, countAll]
    omega
end
theorem okV_len {d : PyData} (h : okV d = true) : (stampL d).length ≤ 1000 := by
  obtain ⟨h1, h2, h3⟩ := okV_vp h
  have := stamp_len d h1
  omega
def spVBy (K : PySem.W.Frag) : Sp := fun vs H Q _ => ∃ d, vs = [.str (stampS d)] ∧ okV d = true ∧ ∀ v H', Ex H H' → Dp K H' v d → Q v H'
theorem c_value_by (W : Wld K mg) : Cal P w K mg base 14 "value_by" (spVBy K) := by
  have c_value_at : Cal P w K mg base (2 * 5 + 3) "value_at" _ := c_value_at W 5
  have c_many_of : Cal P w K mg base 5 "many_of" _ := c_many_of W 5
  refine cal_of W.d_value_by sc_value_by (fun vs H Q E h => ?_) (fun f cdv A outer s H vs Q E hr h => ?_)
  · obtain ⟨d, rfl, _⟩ := h
    rfl
  obtain ⟨d, rfl, hv, k⟩ := h
  obtain ⟨hp, hd4, hc⟩ := okV_vp hv
  have hl := okV_len hv
  refine ⟨_, (pss_cons (ps_set (i := 1) sc_value_by.nd rfl (Or.inl rfl) (pe_cl c_value_at hr (by omega) (by rfl) (pa_cons (pv 0) (pa_cons pe_int (pa_cons pe_int pa_nil)))))
    (pss_cons (ps_if (PW.pt (pw_or (pt_cmpR op_isN (pv 1) pe_non (nomark _)) (pw_or (pt_cmpR op_ne (pe_ix ix_T (pv 1) pe_int (fun _ _ => rfl)) (pe_callB call_lenDp (by rfl) W.f_len bt_len (pa_cons (pv 0) pa_nil)) (nomark _)) (pw_or1 (pt_cmpR op_gt (pe_cl c_many_of hr (by omega) (by rfl) (pa_cons (pe_ix ix_T (pv 1) pe_int (fun _ _ => rfl)) pa_nil)) (C8.pe_gc (by rfl) W.g_MOST_IN_ALL) (nomark _)))))) (pss_one (ps_ret pe_non)) pss_nil)
    (pss_one (ps_ret (pe_ix ix_T (pv 1) pe_int (fun _ _ => rfl)))))), ?_⟩
  refine ⟨_, rfl, stampL d, 0, d, [], 0, rfl, by rw [List.drop_zero, List.append_nil], by omega, Nat.zero_le _, hp, by omega, by omega, .inl rfl, fun v H1 e1 h1 => ?_⟩
  obtain ⟨fa, fxs, rfl, hf1, hf2⟩ := dp_tup h1
  refine ⟨_, rfl, rfl, _, rfl, iteF ?_⟩
  refine ⟨_, rfl, _, _, _, rfl, h1, rfl, fun v1 hv1 => ?_⟩
  obtain rfl := dp_int hv1
  refine ⟨_, rfl, _, _, rfl, .str _, rfl, ?_, rfl, _, rfl, ?_⟩
  · show (stampS d).length ≤ _
    rw [stampS, S_len]
    exact sz100 (by omega)
  rw [show (!decide (V.int ((0 + (stampL d).length : Nat) : Int) = V.int ((lenD (.str (stampS d)) : Nat) : Int))) = false by
    show (!decide (V.int ((0 + (stampL d).length : Nat) : Int) = V.int (((stampS d).length : Nat) : Int))) = false
    rw [stampS, S_len, Nat.zero_add]
    simp]
  refine iteF ⟨_, rfl, _, _, _, rfl, h1, rfl, fun v2 hv2 => ?_⟩
  refine ⟨v2, d, rfl, hv2, ⟨(vp_vsh d hp).1, by omega⟩, fun r H2 e2 hr2 => ?_⟩
  obtain rfl := dp_int hr2
  refine ⟨_, _, rfl, rfl, _, rfl, iteD (fun c => ?_) (fun c => ?_)⟩
  · exfalso
    have c : (40 : Int) < ((countD d : Nat) : Int) := c
    omega
  refine ⟨_, rfl, _, _, _, rfl, h1.up e2, rfl, fun v3 hv3 => k _ _ (e1.trans e2) hv3⟩
end
end Wk
namespace Wk
open PySem PySem.Spec PyProof.Rows L2 SX
/-! ### exprs and recipes of the law's forms -/
inductive Lf where
  | put (v : PyData) | got (k : Nat)
inductive Bop where
  | part | sum | join | same | less
inductive Xp where
  | lf (l : Lf) | many (l : Lf) | row (a b : Lf) | bin (o : Bop) (a b : Lf)
inductive Rc where
  | say (e : Xp) | fail (w : Str) | ask (p : Bool) (e : Xp) (r : Rc) | when_ (e : Xp) (a b : Rc)
def opS : Bop → Str
  | .part => "part"
  | .sum => "sum"
  | .join => "join"
  | .same => "same"
  | .less => "less"
def askS (p : Bool) : Str := if p then "peek" else "want"
def encL : Lf → PyData
  | .put v => .tuple [.str "put", v]
  | .got k => .tuple [.str "got", .int ((k : Nat) : Int)]
def encX : Xp → PyData
  | .lf l => encL l
  | .many l => .tuple [.str "many", encL l]
  | .row a b => .tuple [.str "row", .tuple [encL a, encL b]]
  | .bin o a b => .tuple [.str (opS o), encL a, encL b]
def encR : Rc → PyData
  | .say e => .tuple [.str "say", encX e]
  | .fail w => .tuple [.str "fail", .str w]
  | .ask p e r => .tuple [.str (askS p), encX e, encR r]
  | .when_ e a b => .tuple [.str "when", encX e, encR a, encR b]
/-- well formed for so many values got -/
def wfL (n : Nat) : Lf → Bool
  | .put v => okV v
  | .got k => decide (k < n)
def wfX (n : Nat) : Xp → Bool
  | .lf l => wfL n l
  | .many l => wfL n l
  | .row a b => wfL n a && wfL n b
  | .bin _ a b => wfL n a && wfL n b
def wfR (n : Nat) : Rc → Bool
  | .say e => wfX n e
  | .fail w => isNameS w
  | .ask _ e r => wfX n e && wfR (n + 1) r
  | .when_ e a b => wfX n e && (wfR n a && wfR n b)
/-- the most wants and peeks on a way -/
def asksR : Rc → Nat
  | .say _ => 0
  | .fail _ => 0
  | .ask _ _ r => 1 + asksR r
  | .when_ _ a b => max (asksR a) (asksR b)
def depthR : Rc → Nat
  | .say _ => 0
  | .fail _ => 0
  | .ask _ _ r => 1 + depthR r
  | .when_ _ a b => 1 + max (depthR a) (depthR b)
def depthX : Xp → Nat
  | .lf _ => 0
  | _ => 1
/-- the exprs within -/
def subsX : Xp → List Lf
  | .lf _ => []
  | .many l => [l]
  | .row a b => [a, b]
  | .bin _ a b => [a, b]
def subsR : Rc → List Rc
  | .say _ => []
  | .fail _ => []
  | .ask _ _ r => [r]
  | .when_ _ a b => [a, b]
/-- the words -/
def wordsL : Lf → List Str
  | .put v => ["put", stampS v]
  | .got k => ["got", S (TL.numL k)]
def headX : Xp → List Str
  | .lf l => wordsL l
  | .many _ => ["many"]
  | .row _ _ => ["row", "2"]
  | .bin o _ _ => [opS o]
def wordsX (e : Xp) : List Str := headX e ++ ((subsX e).map wordsL).flatten
def headR : Rc → Str
  | .say _ => "say"
  | .fail _ => "fail"
  | .ask p _ _ => askS p
  | .when_ _ _ _ => "when"
def wordsR : Rc → List Str
  | .say e => "say" :: wordsX e
  | .fail w => ["fail", w]
  | .ask p e r => askS p :: (wordsX e ++ wordsR r)
  | .when_ e a b => "when" :: (wordsX e ++ (wordsR a ++ wordsR b))
def showR (r : Rc) : Str := Txt.join " " (wordsR r)
theorem imm_vp {d : PyData} (h : okV d = true) : imm d = true := vp_imm d (okV_vp h).1
theorem immL {n : Nat} {l : Lf} (h : wfL n l = true) : imm (encL l) = true := by
  cases l with
  | put v =>
    show (true && (imm v && true)) = true
    rw [imm_vp h]
    rfl
  | got k => rfl
theorem wfX_sub {n : Nat} {e : Xp} (h : wfX n e = true) : ∀ l ∈ subsX e, wfL n l = true := by
  cases e with
  | lf l => intro l hl; cases hl
  | many l =>
    intro m hm
    rw [List.mem_singleton.mp hm]
    exact h
  | row a b =>
    have h := (Bool.and_eq_true _ _).mp (show (wfL n a && wfL n b) = true from h)
    intro m hm
    rcases List.mem_cons.mp hm with rfl | hm
    · exact h.1
    · rw [List.mem_singleton.mp hm]
      exact h.2
  | bin o a b =>
    have h := (Bool.and_eq_true _ _).mp (show (wfL n a && wfL n b) = true from h)
    intro m hm
    rcases List.mem_cons.mp hm with rfl | hm
    · exact h.1
    · rw [List.mem_singleton.mp hm]
      exact h.2
theorem immX {n : Nat} {e : Xp} (h : wfX n e = true) : imm (encX e) = true := by
  cases e with
  | lf l => exact immL h
  | many l =>
    show (true && (imm (encL l) && true)) = true
    rw [immL h]
    rfl
  | row a b =>
    have h := (Bool.and_eq_true _ _).mp (show (wfL n a && wfL n b) = true from h)
    show (true && ((imm (encL a) && (imm (encL b) && true)) && true)) = true
    rw [immL h.1, immL h.2]
    rfl
  | bin o a b =>
    have h := (Bool.and_eq_true _ _).mp (show (wfL n a && wfL n b) = true from h)
    show (true && (imm (encL a) && (imm (encL b) && true))) = true
    rw [immL h.1, immL h.2]
    rfl
theorem immR : ∀ {n : Nat} {r : Rc}, wfR n r = true → imm (encR r) = true
  | n, .say e, h => by
    show (true && (imm (encX e) && true)) = true
    rw [immX (n := n) h]
    rfl
  | n, .fail w, h => rfl
  | n, .ask p e r, h => by
    have h := (Bool.and_eq_true _ _).mp (show (wfX n e && wfR (n + 1) r) = true from h)
    show (true && (imm (encX e) && (imm (encR r) && true))) = true
    rw [immX h.1, immR h.2]
    rfl
  | n, .when_ e a b, h => by
    have h := (Bool.and_eq_true _ _).mp (show (wfX n e && (wfR n a && wfR n b)) = true from h)
    have h2 := (Bool.and_eq_true _ _).mp h.2
    show (true && (imm (encX e) && (imm (encR a) && (imm (encR b) && true)))) = true
    rw [immX h.1, immR h2.1, immR h2.2]
    rfl
end Wk
namespace Wk
open PySem PySem.Spec PyProof.Rows L2 SX
def spXin (K : PySem.W.Frag) : Sp := fun vs H Q _ => ∃ v e, vs = [v] ∧ Dp K H v (encX e) ∧ ∀ r H', Ex H H' → Dp K H' r (.tuple ((subsX e).map encL)) → Q r H'
def spRin (K : PySem.W.Frag) : Sp := fun vs H Q _ => ∃ v r, vs = [v] ∧ Dp K H v (encR r) ∧ (∀ w, r ≠ .fail w) ∧ ∀ x H', Ex H H' → Dp K H' x (.tuple ((subsR r).map encR)) → Q x H'
section
variable {P : Program} {w : World} {K : PySem.W.Frag} {mg : Str → Option Value} {base : Heap}
theorem c_recipes_in (W : Wld K mg) : Cal P w K mg base 1 "recipes_in" (spRin K) := by
  refine cal_of W.d_recipes_in sc_recipes_in (fun vs H Q E h => ?_) (fun f cdv A outer s H vs Q E hr h => ?_)
  · obtain ⟨v, r, rfl, _⟩ := h
    rfl
  obtain ⟨v, r, rfl, hv, hf, k⟩ := h
  refine ⟨_, (pss_one (ps_ret (pe_slice sl_T (pv 0) (po_some pe_int) po_none))), ?_⟩
  cases r with
  | fail w => exact absurd rfl (hf w)
  | say e => exact ⟨_, rfl, _, rfl, _, hv, fun v H' e h => k v H' e h⟩
  | ask p e r => exact ⟨_, rfl, _, rfl, _, hv, fun v H' e h => k v H' e h⟩
  | when_ e a b => exact ⟨_, rfl, _, rfl, _, hv, fun v H' e h => k v H' e h⟩
theorem c_exprs_in (W : Wld K mg) : Cal P w K mg base 1 "exprs_in" (spXin K) := by
  refine cal_of W.d_exprs_in sc_exprs_in (fun vs H Q E h => ?_) (fun f cdv A outer s H vs Q E hr h => ?_)
  · obtain ⟨v, r, rfl, _⟩ := h
    rfl
  obtain ⟨v, e, rfl, hv, k⟩ := h
  obtain ⟨x, d1, rest, he, hl⟩ : ∃ x d1 rest, encX e = .tuple (.str x :: d1 :: rest) ∧ rest.length ≤ 1 := by
    cases e with
    | lf l => cases l with
      | put v => exact ⟨_, _, [], rfl, by decide⟩
      | got k => exact ⟨_, _, [], rfl, by decide⟩
    | many l => exact ⟨_, _, [], rfl, by decide⟩
    | row a b => exact ⟨_, _, [], rfl, by decide⟩
    | bin o a b => exact ⟨_, _, [encL b], rfl, by show 1 ≤ 1; decide⟩
  refine ⟨_, (pss_cons (ps_if (PW.pt (pw_or (pt_not (pt_val (pe_callB call_isiD (by rfl) W.f_isinstance bt_isinstance (pa_cons (pv 0) (pa_cons (pe_bt (by rfl) W.f_tuple bt_tuple) pa_nil))))) (pw_or (pt_cmpR op_lt (pe_callB call_lenDp (by rfl) W.f_len bt_len (pa_cons (pv 0) pa_nil)) pe_int (nomark _)) (pw_or (pt_cmpR op_gt (pe_callB call_lenDp (by rfl) W.f_len bt_len (pa_cons (pv 0) pa_nil)) pe_int (nomark _)) (pw_or1 (pt_not (pt_val (pe_callB call_isiD (by rfl) W.f_isinstance bt_isinstance (pa_cons (pe_ix ix_T (pv 0) pe_int (fun _ _ => rfl)) (pa_cons (pe_bt (by rfl) W.f_str bt_str) pa_nil)))))))))) (pss_one (ps_ret pe_non)) pss_nil)
    (pss_cons (ps_if (pt_cmpR op_eq (pe_callB call_lenDp (by rfl) W.f_len bt_len (pa_cons (pv 0) pa_nil)) pe_int (nomark _)) (pss_cons (ps_if (pt_cmpR op_in_seq (pe_ix ix_T (pv 0) pe_int (fun _ _ => rfl)) (C8.pe_gc (by rfl) W.g_PAIRS) (by rfl)) (pss_one (ps_ret (pe_slice sl_T (pv 0) (po_some pe_int) po_none))) pss_nil)
    (pss_one (ps_ret pe_non))) pss_nil)
    (pss_cons (ps_if (PW.pt (pw_or (pt_cmpR op_eq (pe_ix ix_T (pv 0) pe_int (fun _ _ => rfl)) pe_str (nomark _)) (pw_or1 (pt_cmpR op_eq (pe_ix ix_T (pv 0) pe_int (fun _ _ => rfl)) pe_str (nomark _))))) (pss_one (ps_ret (pe_tup pa_nil))) pss_nil)
    (pss_cons (ps_if (pt_cmpR op_eq (pe_ix ix_T (pv 0) pe_int (fun _ _ => rfl)) pe_str (nomark _)) (pss_one (ps_ret (pe_slice sl_T (pv 0) (po_some pe_int) po_none))) pss_nil)
    (pss_cons (ps_if (PW.pt (pw_and (pt_cmpR op_eq (pe_ix ix_T (pv 0) pe_int (fun _ _ => rfl)) pe_str (nomark _)) (pw_and (pt_val (pe_callB call_isiD (by rfl) W.f_isinstance bt_isinstance (pa_cons (pe_ix ix_T (pv 0) pe_int (fun _ _ => rfl)) (pa_cons (pe_bt (by rfl) W.f_tuple bt_tuple) pa_nil)))) (pw_and1 (pt_cmpR op_le (pe_callB call_lenDp (by rfl) W.f_len bt_len (pa_cons (pe_ix ix_T (pv 0) pe_int (fun _ _ => rfl)) pa_nil)) (C8.pe_gc (by rfl) W.g_MOST_PARTS) (nomark _)))))) (pss_one (ps_ret (pe_ix ix_T (pv 0) pe_int (fun _ _ => rfl)))) pss_nil)
    (pss_one (ps_ret pe_non))))))), ?_⟩
  have hv' := hv
  rw [he] at hv'
  have hsz : lenD (.tuple (.str x :: d1 :: rest)) ≤ sizeLine := by
    show rest.length + 1 + 1 ≤ _
    exact sz100 (by omega)
  refine ⟨_, rfl, _, _, _, rfl, hv', .inr (.inr (.inl rfl)), _, rfl, iteF ⟨_, rfl, _, _, rfl, hv', rfl, hsz, _, _, rfl, rfl, _, rfl, iteD (fun c => ?_) (fun _ => ?_)⟩⟩
  · exfalso
    have c : ((rest.length + 1 + 1 : Nat) : Int) < 2 := c
    omega
  refine ⟨_, rfl, _, _, rfl, hv', rfl, hsz, _, _, rfl, rfl, _, rfl, iteD (fun c => ?_) (fun _ => ?_)⟩
  · exfalso
    have c : (3 : Int) < ((rest.length + 1 + 1 : Nat) : Int) := c
    omega
  refine ⟨_, rfl, _, _, _, rfl, hv', atI_nat (j := 0) rfl, fun v0 hv0 => ⟨_, _, _, rfl, hv0, .inr (.inl rfl), _, rfl, iteF ?_⟩⟩
  cases e with
  | lf l => cases l with
    | put u =>
      refine ⟨_, rfl, _, _, rfl, hv, rfl, (show 2 ≤ sizeLine by decide), rfl, _, rfl, iteF ⟨_, rfl, _, _, _, rfl, hv, atI_nat (j := 0) rfl, fun v0 hv0 => ?_⟩⟩
      obtain rfl := dp_str hv0
      exact ⟨rfl, _, rfl, iteT (iteT ⟨Nat.zero_le _, tup_new .nil fun p H1 e1 h1 => k _ _ e1 h1⟩)⟩
    | got j =>
      refine ⟨_, rfl, _, _, rfl, hv, rfl, (show 2 ≤ sizeLine by decide), rfl, _, rfl, iteF ⟨_, rfl, _, _, _, rfl, hv, atI_nat (j := 0) rfl, fun v0 hv0 => ?_⟩⟩
      obtain rfl := dp_str hv0
      refine ⟨rfl, _, rfl, iteF ⟨_, rfl, _, _, _, rfl, hv, atI_nat (j := 0) rfl, fun v0 hv0 => ?_⟩⟩
      obtain rfl := dp_str hv0
      exact ⟨rfl, _, rfl, iteT ⟨Nat.zero_le _, tup_new .nil fun p H1 e1 h1 => k _ _ e1 h1⟩⟩
  | many l =>
    refine ⟨_, rfl, _, _, rfl, hv, rfl, (show 2 ≤ sizeLine by decide), rfl, _, rfl, iteF ⟨_, rfl, _, _, _, rfl, hv, atI_nat (j := 0) rfl, fun v0 hv0 => ?_⟩⟩
    obtain rfl := dp_str hv0
    refine ⟨rfl, _, rfl, iteF ⟨_, rfl, _, _, _, rfl, hv, atI_nat (j := 0) rfl, fun v0 hv0 => ?_⟩⟩
    obtain rfl := dp_str hv0
    refine ⟨rfl, _, rfl, iteF ⟨_, rfl, _, _, _, rfl, hv, atI_nat (j := 0) rfl, fun v0 hv0 => ?_⟩⟩
    obtain rfl := dp_str hv0
    exact ⟨rfl, _, rfl, iteT ⟨_, rfl, _, rfl, _, hv, fun r H1 e1 h1 => k _ _ e1 h1⟩⟩
  | row a b =>
    refine ⟨_, rfl, _, _, rfl, hv, rfl, (show 2 ≤ sizeLine by decide), rfl, _, rfl, iteF ⟨_, rfl, _, _, _, rfl, hv, atI_nat (j := 0) rfl, fun v0 hv0 => ?_⟩⟩
    obtain rfl := dp_str hv0
    refine ⟨rfl, _, rfl, iteF ⟨_, rfl, _, _, _, rfl, hv, atI_nat (j := 0) rfl, fun v0 hv0 => ?_⟩⟩
    obtain rfl := dp_str hv0
    refine ⟨rfl, _, rfl, iteF ⟨_, rfl, _, _, _, rfl, hv, atI_nat (j := 0) rfl, fun v0 hv0 => ?_⟩⟩
    obtain rfl := dp_str hv0
    refine ⟨rfl, _, rfl, iteF ⟨_, rfl, _, _, _, rfl, hv, atI_nat (j := 0) rfl, fun v0 hv0 => ?_⟩⟩
    obtain rfl := dp_str hv0
    refine ⟨rfl, _, rfl, iteT ⟨_, rfl, _, _, _, rfl, hv, atI_nat (j := 1) rfl, fun v1 hv1 => ⟨_, _, _, rfl, hv1, .inr (.inr (.inl rfl)), _, rfl, iteT ?_⟩⟩⟩
    refine ⟨_, rfl, _, _, _, rfl, hv, atI_nat (j := 1) rfl, fun v2 hv2 => ⟨_, _, rfl, hv2, rfl, (show 2 ≤ sizeLine by decide), _, _, rfl, rfl, _, rfl, iteT ?_⟩⟩
    exact ⟨_, rfl, _, _, _, rfl, hv, atI_nat (j := 1) rfl, fun v3 hv3 => k _ _ (Same.refl _) hv3⟩
  | bin o a b =>
    refine ⟨_, rfl, _, _, rfl, hv, rfl, (show 3 ≤ sizeLine by decide), rfl, _, rfl, iteT ⟨_, rfl, _, _, _, rfl, hv, atI_nat (j := 0) rfl, fun v0 hv0 => ?_⟩⟩
    obtain rfl := dp_str hv0
    refine ⟨_, _, rfl, .inr (W.t_PAIRS _), rfl, rfl, _, rfl, ?_⟩
    rw [show (if false = true then !inV (V.str (opS o)) [V.str "part", V.str "sum", V.str "join", V.str "same", V.str "less"] else inV (V.str (opS o)) [V.str "part", V.str "sum", V.str "join", V.str "same", V.str "less"]) = true by cases o <;> decide +kernel]
    exact iteT ⟨_, rfl, _, rfl, _, hv, fun r H1 e1 h1 => k _ _ e1 h1⟩
end
end Wk
namespace Wk
open PySem PySem.Spec PyProof.Rows L2 SX
theorem wordsL_len (l : Lf) : (wordsL l).length = 2 := by cases l <;> rfl
theorem flat_take_succ {α β : Type} (f : α → List β) {xs : List α} {i : Nat} {x : α} (h : xs[i]? = some x) : ((xs.take (i + 1)).map f).flatten = ((xs.take i).map f).flatten ++ f x := by
  rw [List.take_add_one, h]
  show ((xs.take i ++ [x]).map f).flatten = _
  rw [List.map_append, List.flatten_append]
  simp
theorem headX_len (e : Xp) : (headX e).length ≤ 2 := by
  cases e with
  | lf l => rw [headX, wordsL_len]; exact Nat.le_refl _
  | many l => show 1 ≤ 2; decide
  | row a b => show 2 ≤ 2; decide
  | bin o a b => show 1 ≤ 2; decide
theorem wordsX_lf (l : Lf) : wordsX (.lf l) = wordsL l := by
  unfold wordsX headX subsX
  simp
theorem subsX_len (e : Xp) : (subsX e).length ≤ 2 := by
  cases e <;> first | (show 0 ≤ 2; decide) | (show 1 ≤ 2; decide) | (show 2 ≤ 2; decide)
theorem flat_len {xs : List Lf} : ((xs.map wordsL).flatten).length = 2 * xs.length := by
  induction xs with
  | nil => rfl
  | cons x xs ih => rw [List.map_cons, List.flatten_cons, List.length_append, wordsL_len, ih, List.length_cons]; omega
theorem wordsX_len (e : Xp) : (wordsX e).length ≤ 6 := by
  unfold wordsX
  have h1 := headX_len e
  have h2 := subsX_len e
  rw [List.length_append, flat_len]
  omega
def spXW (K : PySem.W.Frag) (m : Nat) : Sp := fun vs H Q _ => ∃ v e n, vs = [v] ∧ Dp K H v (encX e) ∧ wfX n e = true ∧ n ≤ 13 ∧ depthX e < m ∧ ∀ p H', Ex H H' → H p = none → H' p = some (.lst ((wordsX e).map V.str)) → Q (.ref p) H'
section
variable {P : Program} {w : World} {K : PySem.W.Frag} {mg : Str → Option Value} {base : Heap}
theorem okV_stamp {d : PyData} (h : okV d = true) : vsh 1000 d = true ∧ iOk d = true ∧ d.depth < 5 ∧ (stampL d).length ≤ 100000 := by
  obtain ⟨h1, h2, _⟩ := okV_vp h
  obtain ⟨g1, g2⟩ := vp_vsh d h1
  have := okV_len h
  exact ⟨g1, g2, by omega, by omega⟩
theorem c_expr_words (W : Wld K mg) : ∀ m : Nat, Cal P w K mg base (m + 5) "expr_words" (spXW K m)
  | 0 => (cal_zero W.d_expr_words fun vs H Q E h => by
      obtain ⟨v, e, n, _, _, _, _, h1, _⟩ := h
      omega).mono (by omega)
  | m + 1 => by
    have c_stamp_of : Cal P w K mg base 5 "stamp_of" _ := c_stamp_of W 5
    have c_exprs_in : Cal P w K mg base 1 "exprs_in" _ := c_exprs_in W
    have c_expr_words : Cal P w K mg base (m + 5) "expr_words" (spXW K m) := c_expr_words W m
    refine cal_of W.d_expr_words sc_expr_words (fun vs H Q E h => ?_) (fun f cdv A outer s H vs Q E hr h => ?_)
    · obtain ⟨v, e, n, rfl, _⟩ := h
      rfl
    obtain ⟨v, e, n, rfl, hv, hwf, hn, hm, k⟩ := h
    obtain ⟨u, htl, qtl⟩ : ∃ u, PSs (cxOf CX0 P w K mg base N_expr_words "expr_words" (defScope (top 33)) f cdv A outer s H E).nox ((defBody (top 33)).drop 4) u ∧ ∀ p H', Ex H H' → H p = none → H' p = some (.lst ((headX e).map V.str)) → u { nx := fun _ H' => Q .non H', rt := Q } [some v, some (.ref p), none] H' := by
      refine ⟨_, (pss_cons (ps_for PassesOwn.never rfl (pi_tup (pe_cl c_exprs_in hr (by omega) (by rfl) (pa_cons (pv 0) pa_nil))) (pg_name (i := 2) sc_expr_words.nd rfl (Or.inl rfl)) (pss_one (ps_expr (pe_bm PySem.F.plainAttrs_list PySem.F.slot_list_extend PySem.F.type_list_extend mt_extend (pv 1) (pa_cons (pe_cl c_expr_words hr (by omega) (by rfl) (pa_cons (pv 2) pa_nil)) pa_nil)))))
    (pss_one (ps_ret (pv 1)))), fun p H1 e1 hp h1 => ?_⟩
      refine ⟨_, rfl, v, e, rfl, hv.up e1, fun r H2 e2 h2 => ?_⟩
      obtain ⟨b, xs, rfl, hS, hX⟩ := dp_tup h2
      have hXl := hX.length
      rw [List.length_map] at hXl
      have hsl := subsX_len e
      refine ⟨b, rfl, ⟨xs, hS⟩, for_tup (K := K) (a := b) (xs := xs) (fun i σ H' => Ex H H' ∧ Tu H2 H' ∧ ∃ x, σ = [some v, some (.ref p), x] ∧ H' p = some (.lst ((headX e ++ (((subsX e).take i).map wordsL).flatten).map V.str)))
        ⟨e1.trans e2, Tu.refl _, _, rfl, by rw [List.take_zero, List.map_nil, List.flatten_nil, List.append_nil]; exact e2 _ _ h1⟩ (fun i σ H' _ h => tu_t h.2.1 hS) ?_ ?_⟩
      · rintro i x σ H3 hx ⟨e3, t3, y, rfl, h3⟩
        obtain ⟨d, hd, dx⟩ := hX.getV hx
        rw [List.getElem?_map] at hd
        cases hq : (subsX e)[i]? with
        | none => rw [hq] at hd; cases hd
        | some l =>
          rw [hq] at hd
          obtain rfl : encL l = d := Option.some.inj hd
          have hlm := List.mem_of_getElem? hq
          have hl := wfX_sub hwf l hlm
          have hdx : depthX (.lf l) < m := by
            have : depthX e = 1 := by
              cases e with
              | lf l => cases hlm
              | many l => rfl
              | row a b => rfl
              | bin o a b => rfl
            show 0 < m
            omega
          refine ⟨_, rfl, .inl ⟨rfl, _, SqL.of h3⟩, _, rfl, x, .lf l, n, rfl, Dp.tu t3 _ _ (immL hl) dx, hl, hn, hdx, fun p2 H4 e4 hp2 h4 => ?_⟩
          rw [wordsX_lf] at h4
          have h4p := e4 _ _ h3
          refine ⟨p, p2, _, _, rfl, rfl, h4p, h4, ?_, Ex.mut (e3.trans e4) hp, (t3.trans (Same.tu e4)).trans (Tu.mut h4p), _, rfl, ?_⟩
          · rw [List.length_map, List.length_map, List.length_append, wordsL_len, flat_len, List.length_take]
            have := headX_len e
            exact sz100 (by omega)
          · rw [upd_same, flat_take_succ wordsL hq, ← List.append_assoc, List.map_append, List.map_append, List.map_append]
      · rintro σ H3 ⟨e3, t3, y, rfl, h3⟩
        refine ⟨_, rfl, k p H3 e3 hp ?_⟩
        rw [h3, hXl, List.take_length]
        rfl
    refine ⟨_, (pss_cons (ps_set (i := 1) sc_expr_words.nd rfl (Or.inl rfl) (pe_lst (pa_cons (pe_ix ix_T (pv 0) pe_int (fun _ _ => rfl)) pa_nil)))
    (pss_cons (ps_if (pt_cmpR op_eq (pe_ix ix_T (pv 0) pe_int (fun _ _ => rfl)) pe_str (nomark _)) (pss_one (ps_expr (pe_bm PySem.F.plainAttrs_list PySem.F.slot_list_append PySem.F.type_list_append mt_append (pv 1) (pa_cons (pe_cl c_stamp_of hr (by omega) (by rfl) (pa_cons (pe_ix ix_T (pv 0) pe_int (fun _ _ => rfl)) pa_nil)) pa_nil)))) pss_nil)
    (pss_cons (ps_if (pt_cmpR op_eq (pe_ix ix_T (pv 0) pe_int (fun _ _ => rfl)) pe_str (nomark _)) (pss_one (ps_expr (pe_bm PySem.F.plainAttrs_list PySem.F.slot_list_append PySem.F.type_list_append mt_append (pv 1) (pa_cons (pe_callTy call_str_int (by rfl) W.f_str bt_str (pa_cons (pe_ix ix_T (pv 0) pe_int (fun _ _ => rfl)) pa_nil)) pa_nil)))) pss_nil)
    (pss_cons (ps_if (pt_cmpR op_eq (pe_ix ix_T (pv 0) pe_int (fun _ _ => rfl)) pe_str (nomark _)) (pss_one (ps_expr (pe_bm PySem.F.plainAttrs_list PySem.F.slot_list_append PySem.F.type_list_append mt_append (pv 1) (pa_cons (pe_callTy call_str_int (by rfl) W.f_str bt_str (pa_cons (pe_callB call_lenDp (by rfl) W.f_len bt_len (pa_cons (pe_ix ix_T (pv 0) pe_int (fun _ _ => rfl)) pa_nil)) pa_nil)) pa_nil)))) pss_nil) htl)))), ?_⟩
    cases e with
    | lf l => cases l with
      | put x =>
        refine ⟨_, rfl, _, _, _, rfl, hv, atI_nat (j := 0) rfl, fun v0 hv0 => ⟨(show 1 ≤ sizeLine by decide), fun p hp => ?_⟩⟩
        obtain rfl := dp_str hv0
        have e1 : Ex H (upd H p (.lst [.str "put"])) := Ex.new hp
        have hv1 := hv.up e1
        refine ⟨_, rfl, _, _, _, rfl, hv1, atI_nat (j := 0) rfl, fun v0 hv0 => ?_⟩
        obtain rfl := dp_str hv0
        refine ⟨rfl, _, rfl, iteT ⟨_, rfl, .inl ⟨rfl, _, SqL.of upd_same⟩, _, rfl, _, _, _, rfl, hv1, atI_nat (j := 1) rfl, fun v1 hv1 => ⟨v1, x, rfl, hv1, okV_stamp hwf, fun r H2 e2 hr2 => ?_⟩⟩⟩
        obtain rfl := dp_str hr2
        have h2 := e2 _ _ (upd_same (H := H) (a := p) (o := .lst [.str "put"]))
        refine ⟨p, _, _, rfl, rfl, h2, (show 1 < sizeLine by decide), ?_⟩
        have e3 : Ex H (upd H2 p (.lst ([V.str "put"] ++ [V.str (stampS x)]))) := Ex.mut (e1.trans e2) hp
        refine ⟨_, rfl, _, _, _, rfl, hv.up e3, atI_nat (j := 0) rfl, fun v0 hv0 => ?_⟩
        obtain rfl := dp_str hv0
        refine ⟨rfl, _, rfl, iteF ⟨_, rfl, _, _, _, rfl, hv.up e3, atI_nat (j := 0) rfl, fun v0 hv0 => ?_⟩⟩
        obtain rfl := dp_str hv0
        exact ⟨rfl, _, rfl, iteF (qtl p _ e3 hp upd_same)⟩
      | got j =>
        refine ⟨_, rfl, _, _, _, rfl, hv, atI_nat (j := 0) rfl, fun v0 hv0 => ⟨(show 1 ≤ sizeLine by decide), fun p hp => ?_⟩⟩
        obtain rfl := dp_str hv0
        have e1 : Ex H (upd H p (.lst [.str "got"])) := Ex.new hp
        have hv1 := hv.up e1
        refine ⟨_, rfl, _, _, _, rfl, hv1, atI_nat (j := 0) rfl, fun v0 hv0 => ?_⟩
        obtain rfl := dp_str hv0
        refine ⟨rfl, _, rfl, iteF ⟨_, rfl, _, _, _, rfl, hv1, atI_nat (j := 0) rfl, fun v0 hv0 => ?_⟩⟩
        obtain rfl := dp_str hv0
        refine ⟨rfl, _, rfl, iteT ⟨_, rfl, .inl ⟨rfl, _, SqL.of upd_same⟩, _, rfl, _, _, _, rfl, hv1, atI_nat (j := 1) rfl, fun v1 hv1 => ?_⟩⟩
        obtain rfl := dp_int hv1
        have hj : j < n := of_decide_eq_true hwf
        refine ⟨_, rfl, log2_small (show ((j : Nat) : Int).natAbs ≤ _ from ?_), p, _, _, rfl, rfl, upd_same, (show 1 < sizeLine by decide), ?_⟩
        · rw [Int.natAbs_natCast]
          exact Nat.le_trans (show j ≤ 13 by omega) (by decide)
        have e3 : Ex H (upd (upd H p (.lst [.str "got"])) p (.lst ([V.str "got"] ++ [V.str (Str.ofString (toString ((j : Nat) : Int)))]))) := Ex.mut e1 hp
        refine ⟨_, rfl, _, _, _, rfl, hv.up e3, atI_nat (j := 0) rfl, fun v0 hv0 => ?_⟩
        obtain rfl := dp_str hv0
        refine ⟨rfl, _, rfl, iteF (qtl p _ e3 hp ?_)⟩
        rw [upd_same, num_S]
        rfl
    | many l =>
      refine ⟨_, rfl, _, _, _, rfl, hv, atI_nat (j := 0) rfl, fun v0 hv0 => ⟨(show 1 ≤ sizeLine by decide), fun p hp => ?_⟩⟩
      obtain rfl := dp_str hv0
      have e1 : Ex H (upd H p (.lst [.str "many"])) := Ex.new hp
      have hv1 := hv.up e1
      refine ⟨_, rfl, _, _, _, rfl, hv1, atI_nat (j := 0) rfl, fun v0 hv0 => ?_⟩
      obtain rfl := dp_str hv0
      refine ⟨rfl, _, rfl, iteF ⟨_, rfl, _, _, _, rfl, hv1, atI_nat (j := 0) rfl, fun v0 hv0 => ?_⟩⟩
      obtain rfl := dp_str hv0
      refine ⟨rfl, _, rfl, iteF ⟨_, rfl, _, _, _, rfl, hv1, atI_nat (j := 0) rfl, fun v0 hv0 => ?_⟩⟩
      obtain rfl := dp_str hv0
      exact ⟨rfl, _, rfl, iteF (qtl p _ e1 hp upd_same)⟩
    | row a b =>
      refine ⟨_, rfl, _, _, _, rfl, hv, atI_nat (j := 0) rfl, fun v0 hv0 => ⟨(show 1 ≤ sizeLine by decide), fun p hp => ?_⟩⟩
      obtain rfl := dp_str hv0
      have e1 : Ex H (upd H p (.lst [.str "row"])) := Ex.new hp
      have hv1 := hv.up e1
      refine ⟨_, rfl, _, _, _, rfl, hv1, atI_nat (j := 0) rfl, fun v0 hv0 => ?_⟩
      obtain rfl := dp_str hv0
      refine ⟨rfl, _, rfl, iteF ⟨_, rfl, _, _, _, rfl, hv1, atI_nat (j := 0) rfl, fun v0 hv0 => ?_⟩⟩
      obtain rfl := dp_str hv0
      refine ⟨rfl, _, rfl, iteF ⟨_, rfl, _, _, _, rfl, hv1, atI_nat (j := 0) rfl, fun v0 hv0 => ?_⟩⟩
      obtain rfl := dp_str hv0
      refine ⟨rfl, _, rfl, iteT ⟨_, rfl, .inl ⟨rfl, _, SqL.of upd_same⟩, _, rfl, _, _, _, rfl, hv1, atI_nat (j := 1) rfl, fun v1 hv1 => ⟨_, _, rfl, hv1, rfl, (show 2 ≤ sizeLine by decide), _, rfl, (show ((2 : Nat) : Int).natAbs.log2 < 1920 by decide), p, _, _, rfl, rfl, upd_same, (show 1 < sizeLine by decide), ?_⟩⟩⟩
      refine qtl p _ (Ex.mut e1 hp) hp ?_
      rw [upd_same]
      show some (HO.lst [V.str "row", V.str (Str.ofString (toString ((2 : Nat) : Int)))]) = _
      rw [num_S, TL.numL_lt (by decide)]
      rfl
    | bin o a b =>
      refine ⟨_, rfl, _, _, _, rfl, hv, atI_nat (j := 0) rfl, fun v0 hv0 => ⟨(show 1 ≤ sizeLine by decide), fun p hp => ?_⟩⟩
      obtain rfl := dp_str hv0
      have e1 : Ex H (upd H p (.lst [.str (opS o)])) := Ex.new hp
      have hv1 := hv.up e1
      have n1 : decide (V.str (opS o) = V.str "put") = false := by cases o <;> decide +kernel
      have n2 : decide (V.str (opS o) = V.str "got") = false := by cases o <;> decide +kernel
      have n3 : decide (V.str (opS o) = V.str "row") = false := by cases o <;> decide +kernel
      refine ⟨_, rfl, _, _, _, rfl, hv1, atI_nat (j := 0) rfl, fun v0 hv0 => ?_⟩
      obtain rfl := dp_str hv0
      refine ⟨rfl, _, rfl, ?_⟩
      rw [n1]
      refine iteF ⟨_, rfl, _, _, _, rfl, hv1, atI_nat (j := 0) rfl, fun v0 hv0 => ?_⟩
      obtain rfl := dp_str hv0
      refine ⟨rfl, _, rfl, ?_⟩
      rw [n2]
      refine iteF ⟨_, rfl, _, _, _, rfl, hv1, atI_nat (j := 0) rfl, fun v0 hv0 => ?_⟩
      obtain rfl := dp_str hv0
      refine ⟨rfl, _, rfl, ?_⟩
      rw [n3]
      exact iteF (qtl p _ e1 hp upd_same)
end
end Wk
namespace Wk
open PySem PySem.Spec PyProof.Rows L2 SX
def exprR : Rc → Xp
  | .say e => e
  | .fail _ => .lf (.got 0)
  | .ask _ e _ => e
  | .when_ e _ _ => e
theorem wordsR_eq {r : Rc} (h : ∀ w, r ≠ .fail w) : wordsR r = headR r :: (wordsX (exprR r) ++ ((subsR r).map wordsR).flatten) := by
  cases r with
  | say e => simp [wordsR, headR, exprR, subsR]
  | fail w => exact absurd rfl (h w)
  | ask p e r => simp [wordsR, headR, exprR, subsR]
  | when_ e a b => simp [wordsR, headR, exprR, subsR]
theorem flat_mem_len {α β : Type} (f : α → List β) : ∀ {xs : List α} {x : α}, x ∈ xs → (f x).length ≤ ((xs.map f).flatten).length
  | [], _, m => by cases m
  | y :: ys, x, m => by
    rw [List.map_cons, List.flatten_cons, List.length_append]
    rcases List.mem_cons.mp m with rfl | m
    · omega
    · have := flat_mem_len f m
      omega
theorem flat_take_len {α β : Type} (f : α → List β) : ∀ (xs : List α) (i : Nat), (((xs.take i).map f).flatten).length ≤ ((xs.map f).flatten).length
  | [], i => by simp
  | y :: ys, 0 => by simp
  | y :: ys, i + 1 => by
    have := flat_take_len f ys i
    rw [List.take_succ_cons, List.map_cons, List.map_cons, List.flatten_cons, List.flatten_cons, List.length_append, List.length_append]
    omega
def spRW (K : PySem.W.Frag) (m : Nat) : Sp := fun vs H Q _ => ∃ v r n, vs = [v] ∧ Dp K H v (encR r) ∧ wfR n r = true ∧ n + asksR r ≤ 13 ∧ depthR r < m ∧ (wordsR r).length ≤ 100000 ∧ ∀ p H', Ex H H' → H p = none → H' p = some (.lst ((wordsR r).map V.str)) → Q (.ref p) H'
def spShow (K : PySem.W.Frag) : Sp := fun vs H Q _ => ∃ v r, vs = [v] ∧ Dp K H v (encR r) ∧ wfR 0 r = true ∧ asksR r ≤ 12 ∧ depthR r ≤ 10 ∧ ((wordsR r).map (·.length)).sum + (wordsR r).length ≤ 100000 ∧ ∀ H', Ex H H' → Q (.str (showR r)) H'
theorem encR_head {r : Rc} : ∃ rest, encR r = .tuple (.str (headR r) :: rest) := by
  cases r <;> exact ⟨_, rfl⟩
theorem encR_expr {r : Rc} (h : ∀ w, r ≠ .fail w) : ∃ rest, encR r = .tuple (.str (headR r) :: encX (exprR r) :: rest) := by
  cases r with
  | say e => exact ⟨_, rfl⟩
  | fail w => exact absurd rfl (h w)
  | ask p e r => exact ⟨_, rfl⟩
  | when_ e a b => exact ⟨_, rfl⟩
theorem wfR_expr {n : Nat} {r : Rc} (h : ∀ w, r ≠ .fail w) (hw : wfR n r = true) : wfX n (exprR r) = true := by
  cases r with
  | say e => exact hw
  | fail w => exact absurd rfl (h w)
  | ask p e r => exact ((Bool.and_eq_true _ _).mp (show (wfX n e && wfR (n + 1) r) = true from hw)).1
  | when_ e a b => exact ((Bool.and_eq_true _ _).mp (show (wfX n e && (wfR n a && wfR n b)) = true from hw)).1
theorem wfR_sub {n : Nat} {r s : Rc} (hw : wfR n r = true) (hm : s ∈ subsR r) (ha : n + asksR r ≤ 13) : ∃ n', wfR n' s = true ∧ n' + asksR s ≤ 13 ∧ depthR s < depthR r := by
  cases r with
  | say e => cases hm
  | fail w => cases hm
  | ask p e r =>
    rw [List.mem_singleton.mp hm]
    have h := (Bool.and_eq_true _ _).mp (show (wfX n e && wfR (n + 1) r) = true from hw)
    rw [asksR] at ha
    exact ⟨n + 1, h.2, by omega, by rw [depthR]; omega⟩
  | when_ e a b =>
    have h := (Bool.and_eq_true _ _).mp (show (wfX n e && (wfR n a && wfR n b)) = true from hw)
    have h2 := (Bool.and_eq_true _ _).mp h.2
    rw [asksR] at ha
    rcases List.mem_cons.mp hm with rfl | hm
    · exact ⟨n, h2.1, by omega, by rw [depthR]; omega⟩
    · rw [List.mem_singleton.mp hm]
      exact ⟨n, h2.2, by omega, by rw [depthR]; omega⟩
section
variable {P : Program} {w : World} {K : PySem.W.Frag} {mg : Str → Option Value} {base : Heap}
theorem c_recipe_words (W : Wld K mg) : ∀ m : Nat, Cal P w K mg base (m + 7) "recipe_words" (spRW K m)
  | 0 => (cal_zero W.d_recipe_words fun vs H Q E h => by
      obtain ⟨v, r, n, _, _, _, _, h1, _⟩ := h
      omega).mono (by omega)
  | m + 1 => by
    have c_recipes_in : Cal P w K mg base 1 "recipes_in" _ := c_recipes_in W
    have c_expr_words : Cal P w K mg base 7 "expr_words" _ := c_expr_words W 2
    have c_recipe_words : Cal P w K mg base (m + 7) "recipe_words" (spRW K m) := c_recipe_words W m
    refine cal_of W.d_recipe_words sc_recipe_words (fun vs H Q E h => ?_) (fun f cdv A outer s H vs Q E hr h => ?_)
    · obtain ⟨v, r, n, rfl, _⟩ := h
      rfl
    obtain ⟨v, r, n, rfl, hv, hwf, hn, hm, hl, k⟩ := h
    refine ⟨_, (pss_cons (ps_if (pt_cmpR op_eq (pe_ix ix_T (pv 0) pe_int (fun _ _ => rfl)) pe_str (nomark _)) (pss_one (ps_ret (pe_lst (pa_cons pe_str (pa_cons (pe_ix ix_T (pv 0) pe_int (fun _ _ => rfl)) pa_nil))))) pss_nil)
    (pss_cons (ps_set (i := 1) sc_recipe_words.nd rfl (Or.inl rfl) (pe_op op_cat (pe_lst (pa_cons (pe_ix ix_T (pv 0) pe_int (fun _ _ => rfl)) pa_nil)) (pe_cl c_expr_words hr (by omega) (by rfl) (pa_cons (pe_ix ix_T (pv 0) pe_int (fun _ _ => rfl)) pa_nil))))
    (pss_cons (ps_for PassesOwn.never rfl (pi_tup (pe_cl c_recipes_in hr (by omega) (by rfl) (pa_cons (pv 0) pa_nil))) (pg_name (i := 2) sc_recipe_words.nd rfl (Or.inl rfl)) (pss_one (ps_expr (pe_bm PySem.F.plainAttrs_list PySem.F.slot_list_extend PySem.F.type_list_extend mt_extend (pv 1) (pa_cons (pe_cl c_recipe_words hr (by omega) (by rfl) (pa_cons (pv 2) pa_nil)) pa_nil)))))
    (pss_one (ps_ret (pv 1)))))), ?_⟩
    obtain ⟨d1, he⟩ := encR_head (r := r)
    have hv' := hv
    rw [he] at hv'
    refine ⟨_, rfl, _, _, _, rfl, hv', atI_nat (j := 0) rfl, fun v0 hv0 => ?_⟩
    obtain rfl := dp_str hv0
    refine ⟨rfl, _, rfl, ?_⟩
    by_cases hf : ∃ w, r = .fail w
    · obtain ⟨w', rfl⟩ := hf
      refine iteT ⟨_, rfl, _, _, _, rfl, hv, atI_nat (j := 1) rfl, fun v1 hv1 => ?_⟩
      obtain rfl := dp_str hv1
      exact ⟨(show 2 ≤ sizeLine by decide), fun p hp => k p _ (Ex.new hp) hp upd_same⟩
    have hf : ∀ w, r ≠ .fail w := fun w e => hf ⟨w, e⟩
    rw [show decide (V.str (headR r) = V.str "fail") = false by
      cases r with
      | say e => exact (show decide (V.str "say" = V.str "fail") = false by decide +kernel)
      | fail w => exact absurd rfl (hf w)
      | ask p e r => cases p with
        | false => exact (show decide (V.str "want" = V.str "fail") = false by decide +kernel)
        | true => exact (show decide (V.str "peek" = V.str "fail") = false by decide +kernel)
      | when_ e a b => exact (show decide (V.str "when" = V.str "fail") = false by decide +kernel)]
    refine iteF ?_
    obtain ⟨d2, he2⟩ := encR_expr hf
    have hv' := hv
    rw [he2] at hv'
    rw [wordsR_eq hf] at hl k
    have hxl := wordsX_len (exprR r)
    rw [List.length_cons, List.length_append] at hl
    refine ⟨_, rfl, _, _, _, rfl, hv', atI_nat (j := 0) rfl, fun v0 hv0 => ?_⟩
    obtain rfl := dp_str hv0
    refine ⟨(show 1 ≤ sizeLine by decide), fun p1 hp1 => ?_⟩
    refine ⟨_, rfl, _, _, _, rfl, hv'.up (Ex.new hp1), atI_nat (j := 1) rfl, fun v1 hv1 => ⟨v1, _, n, rfl, hv1, wfR_expr hf hwf, by omega, ?_, fun p2 H2 e2 hp2 h2 => ?_⟩⟩
    · cases exprR r <;> first | (show 0 < 2; decide) | (show 1 < 2; decide)
    have e2' : Ex H H2 := (Ex.new hp1).trans e2
    refine ⟨p1, p2, _, _, rfl, rfl, e2 _ _ upd_same, h2, ?_, fun p hp => ?_⟩
    · rw [List.length_map]
      show 1 + _ ≤ _
      exact sz100 (by omega)
    have hpH : H p = none := e2'.back hp
    have e3 : Ex H (upd H2 p (.lst ([V.str (headR r)] ++ (wordsX (exprR r)).map V.str))) := e2'.trans (Ex.new hp)
    have h3 : (upd H2 p (.lst ([V.str (headR r)] ++ (wordsX (exprR r)).map V.str))) p = some (.lst ((headR r :: wordsX (exprR r)).map V.str)) := by
      rw [upd_same]
      rfl
    generalize upd H2 p (.lst ([V.str (headR r)] ++ (wordsX (exprR r)).map V.str)) = H3 at e3 h3 ⊢
    refine ⟨_, rfl, v, r, rfl, hv.up e3, hf, fun x H4 e4 h4 => ?_⟩
    obtain ⟨b, xs, rfl, hS, hX⟩ := dp_tup h4
    have hXl := hX.length
    rw [List.length_map] at hXl
    refine ⟨b, rfl, ⟨xs, hS⟩, for_tup (K := K) (a := b) (xs := xs) (fun i σ H' => Ex H H' ∧ Tu H4 H' ∧ ∃ x, σ = [some v, some (.ref p), x] ∧ H' p = some (.lst ((headR r :: (wordsX (exprR r) ++ (((subsR r).take i).map wordsR).flatten)).map V.str)))
      ⟨e3.trans e4, Tu.refl _, _, rfl, by rw [List.take_zero, List.map_nil, List.flatten_nil, List.append_nil]; exact e4 _ _ h3⟩ (fun i σ H' _ h => tu_t h.2.1 hS) ?_ ?_⟩
    · rintro i x σ H5 hx ⟨e5, t5, y, rfl, h5⟩
      obtain ⟨d, hd, dx⟩ := hX.getV hx
      rw [List.getElem?_map] at hd
      cases hq : (subsR r)[i]? with
      | none => rw [hq] at hd; cases hd
      | some q =>
        rw [hq] at hd
        obtain rfl : encR q = d := Option.some.inj hd
        have hqm := List.mem_of_getElem? hq
        obtain ⟨n', g1, g2, g3⟩ := wfR_sub hwf hqm hn
        have hql := flat_mem_len wordsR hqm
        refine ⟨_, rfl, .inl ⟨rfl, _, SqL.of h5⟩, _, rfl, x, q, n', rfl, Dp.tu t5 _ _ (immR g1) dx, g1, g2, by omega, by omega, fun p6 H6 e6 hp6 h6 => ?_⟩
        have h6p := e6 _ _ h5
        refine ⟨p, p6, _, _, rfl, rfl, h6p, h6, ?_, Ex.mut (e5.trans e6) hpH, (t5.trans (Same.tu e6)).trans (Tu.mut h6p), _, rfl, ?_⟩
        · have z := flat_take_len wordsR (subsR r) (i + 1)
          rw [flat_take_succ wordsR hq, List.length_append] at z
          rw [List.length_map, List.length_map, List.length_cons, List.length_append]
          exact sz100 (by omega)
        · rw [upd_same, flat_take_succ wordsR hq, ← List.append_assoc, List.map_cons, List.map_cons, List.map_append, List.map_append, List.map_append, List.cons_append, List.append_assoc]
    · rintro σ H5 ⟨e5, t5, y, rfl, h5⟩
      refine ⟨_, rfl, k p H5 e5 hpH ?_⟩
      rw [h5, hXl, List.take_length]
theorem c_show_recipe (W : Wld K mg) : Cal P w K mg base 20 "show_recipe" (spShow K) := by
  have c_recipe_words : Cal P w K mg base 19 "recipe_words" _ := c_recipe_words W 12
  refine cal_of W.d_show_recipe sc_show_recipe (fun vs H Q E h => ?_) (fun f cdv A outer s H vs Q E hr h => ?_)
  · obtain ⟨v, r, rfl, _⟩ := h
    rfl
  obtain ⟨v, r, rfl, hv, hwf, ha, hd, hl, k⟩ := h
  refine ⟨_, (pss_one (ps_ret (pe_join pe_str (pe_cl c_recipe_words hr (by omega) (by rfl) (pa_cons (pv 0) pa_nil))))), ?_⟩
  refine ⟨⟨_, rfl⟩, _, rfl, v, r, 0, rfl, hv, hwf, by omega, by omega, by omega, fun p H1 e1 hp h1 => ?_⟩
  refine ⟨_, p, wordsR r, rfl, rfl, .inl (SqL.of h1), ?_, k _ e1⟩
  show _ + _ * 1 ≤ _
  omega
end
end Wk
namespace Wk
open PySem PySem.Spec PyProof.Rows L2 SX
/-! ### what exprs tell -/
inductive Tld where
  | val (d : PyData) | fails (w : Str)
def encT : Tld → PyData
  | .val d => .tuple [.str "value", d]
  | .fails w => .tuple [.str "fails", .str w]
def asVal (d : PyData) : Tld := if okV d = true then .val d else .fails "great"
def partT : PyData → PyData → Tld
  | .tuple ds, .int i => if i < 0 ∨ (ds.length : Int) ≤ i then .fails "part" else .val (ds.getD i.toNat .none)
  | _, _ => .fails "kind"
def joinT : PyData → PyData → Tld
  | .str a, .str b => asVal (.str (a ++ b))
  | .tuple a, .tuple b => asVal (.tuple (a ++ b))
  | _, _ => .fails "kind"
def sumT : PyData → PyData → Tld
  | .int a, .int b => asVal (.int (a + b))
  | _, _ => .fails "kind"
def lessT : PyData → PyData → Tld
  | .int a, .int b => .val (.int (if decide (a < b) = true then 1 else 0))
  | _, _ => .fails "kind"
def pairT : Bop → PyData → PyData → Tld
  | .part, a, b => partT a b
  | .join, a, b => joinT a b
  | .same, a, b => .val (.int (if PyData.eqv a b = true then 1 else 0))
  | .sum, a, b => sumT a b
  | .less, a, b => lessT a b
def manyT : PyData → Tld
  | .int _ => .fails "kind"
  | d => .val (.int ((lenD d : Nat) : Int))
def lv (gs : List PyData) : Lf → PyData
  | .put v => v
  | .got k => gs.getD k .none
def evalX (gs : List PyData) : Xp → Tld
  | .lf l => .val (lv gs l)
  | .many l => manyT (lv gs l)
  | .row a b => asVal (.tuple [lv gs a, lv gs b])
  | .bin o a b => pairT o (lv gs a) (lv gs b)
def okAll (gs : List PyData) : Prop := ∀ d ∈ gs, okV d = true
theorem okV_int {i : Int} (h : i.natAbs ≤ 10 ^ 18) : okV (.int i) = true := by
  unfold okV
  have hp : plainD (.int i) = true := by
    show (decide (-(10 ^ 18) ≤ i) && decide (i ≤ 10 ^ 18)) = true
    rw [decide_eq_true (show -(10 ^ 18) ≤ i by omega), decide_eq_true (show i ≤ 10 ^ 18 by omega)]
    rfl
  rw [vin, if_pos hp]
  rfl
mutual
theorem vin_shift : ∀ (d : PyData) (a b m : Nat), b ≤ a → a ≤ 4 → vin d a = some m → vin d b = some m
  | .tuple ds, a, b, m, hb, h4, h => by
    rw [vin] at h ⊢
    split at h
    · cases h
    · rename_i hc
      rw [if_neg (by omega)]
      exact vinAll_shift ds (a + 1) (b + 1) 1 m (by omega) (by omega) h
  | .int i, a, b, m, hb, _, h => by rw [vin] at h ⊢; exact h
  | .str z, a, b, m, hb, _, h => by rw [vin] at h ⊢; exact h
  | .none, _, _, _, _, _, h => by cases h
  | .bool _, _, _, _, _, _, h => by cases h
  | .list _, _, _, _, _, _, h => by cases h
  | .dict _, _, _, _, _, _, h => by cases h
theorem vinAll_shift : ∀ (ds : List PyData) (a b m m' : Nat), b ≤ a → a ≤ 4 → vinAll ds a m = some m' → vinAll ds b m = some m'
  | [], a, b, m, m', hb, _, h => by rw [vinAll] at h ⊢; exact h
  | d :: ds, a, b, m, m', hb, h4, h => by
    rw [vinAll] at h ⊢
    cases q : vin d a with
    | none => rw [q] at h; cases h
    | some k =>
      rw [q] at h
      rw [vin_shift d a b k hb h4 q]
      exact vinAll_shift ds a b (m + k) m' hb h4 h
end
theorem vinAll_ge : ∀ {ds : List PyData} {a m m' : Nat}, vinAll ds a m = some m' → m ≤ m'
  | [], a, m, m', h => by rw [vinAll] at h; cases h; exact Nat.le_refl _
  | d :: ds, a, m, m', h => by
    rw [vinAll] at h
    cases q : vin d a with
    | none => rw [q] at h; cases h
    | some k =>
      rw [q] at h
      have := vinAll_ge h
      omega
theorem vinAll_mem : ∀ {ds : List PyData} {a m m' : Nat} {d : PyData}, vinAll ds a m = some m' → d ∈ ds → ∃ k, vin d a = some k ∧ k + m ≤ m'
  | [], _, _, _, _, _, hm => by cases hm
  | x :: xs, a, m, m', d, h, hm => by
    rw [vinAll] at h
    cases q : vin x a with
    | none => rw [q] at h; cases h
    | some k =>
      rw [q] at h
      rcases List.mem_cons.mp hm with rfl | hm
      · have := vinAll_ge h
        exact ⟨k, q, by omega⟩
      · obtain ⟨j, g1, g2⟩ := vinAll_mem h hm
        exact ⟨j, g1, by omega⟩
theorem okV_part {ds : List PyData} {d : PyData} (h : okV (.tuple ds) = true) (hm : d ∈ ds) : okV d = true := by
  unfold okV at h ⊢
  rw [vin] at h
  split at h
  · rename_i n hn
    split at hn
    · cases hn
    · obtain ⟨k, g1, g2⟩ := vinAll_mem hn hm
      rw [vin_shift d 1 0 k (by omega) (by omega) g1]
      have := of_decide_eq_true h
      exact decide_eq_true (by omega)
  · cases h
theorem okV_asVal {d d' : PyData} (h : asVal d = .val d') : okV d' = true := by
  unfold asVal at h
  split at h
  · rename_i hc
    cases h
    exact hc
  · cases h
theorem okV_cases {d : PyData} (h : okV d = true) : (∃ i, d = .int i) ∨ (∃ z, d = .str z) ∨ ∃ ds, d = .tuple ds := vsh_cases (okV_stamp h).1
theorem okV_small {d : PyData} (h : okV d = true) : lenD d ≤ 20 := by
  have h1 := (okV_vp h).1
  rcases okV_cases h with ⟨i, rfl⟩ | ⟨z, rfl⟩ | ⟨ds, rfl⟩
  · exact Nat.zero_le _
  · exact (plain_str h1).1
  · exact Nat.le_trans (vp_tup h1).1 (by decide)
theorem ok_evalX {gs : List PyData} {n : Nat} {e : Xp} {d : PyData} (hg : okAll gs) (hn : n ≤ gs.length) (hw : wfX n e = true) (h : evalX gs e = .val d) : okV d = true := by
  have hl : ∀ l, wfL n l = true → okV (lv gs l) = true := fun l hl => by
    cases l with
    | put v => exact hl
    | got k =>
      have hk : k < n := of_decide_eq_true hl
      show okV (gs.getD k .none) = true
      rw [List.getD_eq_getElem?_getD, List.getElem?_eq_getElem (by omega)]
      exact hg _ (List.getElem_mem _)
  have hs := wfX_sub hw
  cases e with
  | lf l =>
    have e : lv gs l = d := by injection h
    rw [← e]
    exact hl l hw
  | many l =>
    have o := hl l (hs l (by simp [subsX]))
    have z := okV_small o
    have h : manyT (lv gs l) = .val d := h
    rcases okV_cases o with ⟨i, e⟩ | ⟨x, e⟩ | ⟨ds, e⟩ <;> rw [e] at h z
    · cases h
    · have h : Tld.val (.int ((x.length : Nat) : Int)) = .val d := h
      cases h
      exact okV_int (by rw [Int.natAbs_natCast]; exact Nat.le_trans z (by decide))
    · have h : Tld.val (.int ((ds.length : Nat) : Int)) = .val d := h
      cases h
      exact okV_int (by rw [Int.natAbs_natCast]; exact Nat.le_trans z (by decide))
  | row a b => exact okV_asVal h
  | bin o a b =>
    have oa := hl a (hs a (by simp [subsX]))
    have ob := hl b (hs b (by simp [subsX]))
    cases o with
    | part =>
      have h : partT (lv gs a) (lv gs b) = .val d := h
      unfold partT at h
      split at h
      · rename_i ds i q1 q2
        split at h
        · cases h
        · rename_i hc
          cases h
          have : i.toNat < ds.length := by omega
          rw [List.getD_eq_getElem?_getD, List.getElem?_eq_getElem this]
          rw [q1] at oa
          exact okV_part oa (List.getElem_mem _)
      · cases h
    | join =>
      have h : joinT (lv gs a) (lv gs b) = .val d := h
      unfold joinT at h
      split at h
      · exact okV_asVal h
      · exact okV_asVal h
      · cases h
    | sum =>
      have h : sumT (lv gs a) (lv gs b) = .val d := h
      unfold sumT at h
      split at h
      · exact okV_asVal h
      · cases h
    | same =>
      have h : Tld.val (.int (if PyData.eqv (lv gs a) (lv gs b) = true then 1 else 0)) = .val d := h
      cases h
      refine okV_int ?_
      split <;> decide
    | less =>
      have h : lessT (lv gs a) (lv gs b) = .val d := h
      unfold lessT at h
      split at h
      · cases h
        refine okV_int ?_
        split <;> decide
      · cases h
theorem signs_lt {c : Nat} (h : c ∈ signsS.cps.toList) : c < 0x110000 := by
  have all : (signsS.cps.toList.all fun c => decide (c < 0x110000)) = true := by decide +kernel
  have q := List.all_eq_true.mp all c h
  exact of_decide_eq_true q
theorem plain_lay {z : Str} (h : plainD (.str z) = true) : PyData.canLay0 (.str z) = true := by
  rw [PyData.canLay0]
  show z.cps.all (fun c => decide (c < 0x110000)) = true
  rw [← Array.all_toList]
  refine List.all_eq_true.mpr fun c hc => ?_
  exact decide_eq_true (signs_lt (of_decide_eq_true (List.all_eq_true.mp (plain_str h).2 c hc)))
mutual
theorem vp_lay : ∀ d : PyData, vp d = true → d.canLay0 = true
  | .tuple ds, h => by
    rw [PyData.canLay0]
    exact vpAll_lay ds (vp_tup h).2
  | .int i, h => by rw [PyData.canLay0]
  | .str z, h => plain_lay h
  | .none, h => by cases h
  | .bool _, h => by cases h
  | .list _, h => by cases h
  | .dict _, h => by cases h
theorem vpAll_lay : ∀ ds : List PyData, vpAll ds = true → PyData.canLayAll0 ds = true
  | [], _ => by rw [PyData.canLayAll0]
  | d :: ds, h => by
    have q : (vp d && vpAll ds) = true := h
    rw [Bool.and_eq_true] at q
    rw [PyData.canLayAll0, vp_lay d q.1, vpAll_lay ds q.2]
    rfl
end
theorem okV_shaped {d : PyData} (h : okV d = true) : SeqAt.shaped d = true := by
  obtain ⟨h1, h2, _⟩ := okV_vp h
  show (d.canLay0 && decide (d.depth ≤ 64)) = true
  rw [vp_lay d h1, decide_eq_true (by omega)]
  rfl
end Wk
namespace Wk
open PySem PySem.Spec PyProof.Rows L2 SX
section
variable {P : Program} {w : World} {K : PySem.W.Frag} {mg : Str → Option Value} {base : Heap}
theorem fails_dp {H1 H2 : Hp} {x : Str} {Q : V → Hp → Prop} (k : ∀ v H', Ex H1 H' → Dp K H' v (.tuple [.str "fails", .str x]) → Q v H') : ∀ p, H1 p = none → Q (.ref p) (upd H1 p (.tup [.str "fails", .str x])) := tup_new (.cons (.str _) (.one (.str _))) fun p H' e h => k _ _ e h
theorem c_as_value (W : Wld K mg) : Cal P w K mg base 10 "as_value" (spD1 K (fun d => vsh 1000 d = true) fun d => encT (asVal d)) := by
  have c_is_value : Cal P w K mg base 9 "is_value" _ := c_is_value W
  refine cal_of W.d_as_value sc_as_value spD1_len (fun f cdv A outer s H vs Q E hr h => ?_)
  obtain ⟨v, d, rfl, hd, hb, k⟩ := h
  refine ⟨_, (pss_cons (ps_if (pt_val (pe_cl c_is_value hr (by omega) (by rfl) (pa_cons (pv 0) pa_nil))) (pss_one (ps_ret (pe_tup (pa_cons pe_str (pa_cons (pv 0) pa_nil))))) pss_nil)
    (pss_one (ps_ret (pe_tup (pa_cons pe_str (pa_cons pe_str pa_nil)))))), ?_⟩
  refine ⟨_, rfl, v, d, rfl, hd, hb, fun r H1 e1 hr1 => ?_⟩
  obtain rfl := dp_bl hr1
  have k : ∀ r H', Ex H H' → Dp K H' r (encT (asVal d)) → Q r H' := k
  unfold asVal at k
  refine ⟨_, rfl, iteB (fun c => ?_) (fun c => ?_)⟩
  · rw [if_pos c] at k
    exact ⟨_, rfl, (show 2 ≤ sizeLine by decide), tup_new (.cons (.str _) (.one (hd.up e1))) fun p H2 e2 h2 => k _ _ (e1.trans e2) h2⟩
  · rw [if_neg (by rw [c]; exact Bool.false_ne_true)] at k
    exact ⟨(show 2 ≤ sizeLine by decide), tup_new (.cons (.str _) (.one (.str _))) fun p H2 e2 h2 => k _ _ (e1.trans e2) h2⟩
theorem c_part_told (W : Wld K mg) : Cal P w K mg base 2 "part_told" (spD2 K (fun d e => vsh 1000 d = true ∧ vsh 1000 e = true) fun d e => encT (partT d e)) := by
  have c_is_whole : Cal P w K mg base 1 "is_whole" _ := c_is_whole W
  refine cal_of W.d_part_told sc_part_told spD2_len (fun f cdv A outer s H vs Q E hr h => ?_)
  obtain ⟨v, d, u, e, rfl, hd, he, ⟨hb, hb2⟩, k⟩ := h
  refine ⟨_, (pss_cons (ps_if (PW.pt (pw_or (pt_not (pt_val (pe_callB call_isiD (by rfl) W.f_isinstance bt_isinstance (pa_cons (pv 0) (pa_cons (pe_bt (by rfl) W.f_tuple bt_tuple) pa_nil))))) (pw_or1 (pt_not (pt_val (pe_cl c_is_whole hr (by omega) (by rfl) (pa_cons (pv 1) pa_nil))))))) (pss_one (ps_ret (C8.pe_gc (by rfl) W.g_KIND))) pss_nil)
    (pss_cons (ps_if (PW.pt (pw_or (pt_cmpR op_lt (pv 1) pe_int (nomark _)) (pw_or1 (pt_cmpR op_ge (pv 1) (pe_callB call_lenDp (by rfl) W.f_len bt_len (pa_cons (pv 0) pa_nil)) (nomark _))))) (pss_one (ps_ret (pe_tup (pa_cons pe_str (pa_cons pe_str pa_nil))))) pss_nil)
    (pss_one (ps_ret (pe_tup (pa_cons pe_str (pa_cons (pe_ix ix_T (pv 0) (pv 1) (fun _ _ => rfl)) pa_nil))))))), ?_⟩
  have k : ∀ r H', Ex H H' → Dp K H' r (encT (partT d e)) → Q r H' := k
  refine ⟨_, rfl, _, _, _, rfl, hd, .inr (.inr (.inl rfl)), _, rfl, ?_⟩
  by_cases ht : isiD "tuple" d = true
  case neg =>
    have ht' : isiD "tuple" d = false := Bool.eq_false_iff.mpr ht
    rw [ht']
    have ek : partT d e = .fails "kind" := by
      rcases vsh_cases hb with ⟨i, rfl⟩ | ⟨z, rfl⟩ | ⟨ds, rfl⟩
      · rfl
      · rfl
      · exact absurd rfl ht
    rw [ek] at k
    exact iteT (iteT (k _ _ (Same.refl _) (W.t_KIND _)))
  rw [ht]
  obtain ⟨ds, rfl⟩ : ∃ ds, d = .tuple ds := by
    cases d <;> first | exact ⟨_, rfl⟩ | (cases ht)
  refine iteF ⟨_, rfl, u, e, rfl, he, vsh_nb hb2, fun r H1 e1 hr1 => ?_⟩
  obtain rfl := dp_bl hr1
  refine ⟨_, rfl, ?_⟩
  rcases vsh_cases hb2 with ⟨i, rfl⟩ | ⟨z, rfl⟩ | ⟨es, rfl⟩
  · obtain rfl := dp_int he
    refine iteF ⟨_, rfl, _, _, rfl, rfl, _, rfl, iteD (fun c => ?_) (fun c => ?_)⟩
    · have ek : partT (.tuple ds) (.int i) = .fails "part" := by
        show (if i < 0 ∨ (ds.length : Int) ≤ i then Tld.fails "part" else _) = _
        rw [if_pos (.inl c)]
      rw [ek] at k
      exact iteT ⟨(show 2 ≤ sizeLine by decide), tup_new (.cons (.str _) (.one (.str _))) fun p H2 e2 h2 => k _ _ (e1.trans e2) h2⟩
    · refine ⟨_, rfl, _, rfl, _, _, rfl, hd.up e1, rfl, sz100 (Nat.le_trans (vsh_tup hb).1 (by decide)), _, _, rfl, rfl, _, rfl, iteD (fun c2 => ?_) (fun c2 => ?_)⟩
      · have ek : partT (.tuple ds) (.int i) = .fails "part" := by
          show (if i < 0 ∨ (ds.length : Int) ≤ i then Tld.fails "part" else _) = _
          rw [if_pos (.inr c2)]
        rw [ek] at k
        exact ⟨(show 2 ≤ sizeLine by decide), tup_new (.cons (.str _) (.one (.str _))) fun p H2 e2 h2 => k _ _ (e1.trans e2) h2⟩
      · have c2 : ¬ ((ds.length : Nat) : Int) ≤ i := c2
        have hlt : i.toNat < ds.length := by omega
        have ek : partT (.tuple ds) (.int i) = .val ds[i.toNat] := by
          show (if i < 0 ∨ (ds.length : Int) ≤ i then Tld.fails "part" else .val (ds.getD i.toNat .none)) = _
          rw [if_neg (by omega), List.getD_eq_getElem?_getD, List.getElem?_eq_getElem hlt]
          rfl
        rw [ek] at k
        have ea : atI ds i = some ds[i.toNat] := by
          have q := atI_nat (xs := ds) (j := i.toNat) (List.getElem?_eq_getElem hlt)
          rw [show ((i.toNat : Nat) : Int) = i by omega] at q
          exact q
        refine ⟨_, rfl, _, rfl, _, _, _, rfl, hd.up e1, ea, fun v1 hv1 => ⟨(show 2 ≤ sizeLine by decide), tup_new (.cons (.str _) (.one hv1)) fun p H2 e2 h2 => k _ _ (e1.trans e2) h2⟩⟩
  · exact iteT (k _ _ e1 (W.t_KIND _))
  · exact iteT (k _ _ e1 (W.t_KIND _))
theorem c_joined_told (W : Wld K mg) : Cal P w K mg base 11 "joined_told" (spD2 K (fun d e => okV d = true ∧ okV e = true) fun d e => encT (joinT d e)) := by
  have c_as_value : Cal P w K mg base 10 "as_value" _ := c_as_value W
  refine cal_of W.d_joined_told sc_joined_told spD2_len (fun f cdv A outer s H vs Q E hr h => ?_)
  obtain ⟨v, d, u, e, rfl, hd, he, ⟨hb, hb2⟩, k⟩ := h
  refine ⟨_, (pss_cons (ps_if (PW.pt (pw_or (PW.pt (pw_and (pt_val (pe_callB call_isiD (by rfl) W.f_isinstance bt_isinstance (pa_cons (pv 0) (pa_cons (pe_bt (by rfl) W.f_str bt_str) pa_nil)))) (pw_and1 (pt_val (pe_callB call_isiD (by rfl) W.f_isinstance bt_isinstance (pa_cons (pv 1) (pa_cons (pe_bt (by rfl) W.f_str bt_str) pa_nil))))))) (pw_or1 (PW.pt (pw_and (pt_val (pe_callB call_isiD (by rfl) W.f_isinstance bt_isinstance (pa_cons (pv 0) (pa_cons (pe_bt (by rfl) W.f_tuple bt_tuple) pa_nil)))) (pw_and1 (pt_val (pe_callB call_isiD (by rfl) W.f_isinstance bt_isinstance (pa_cons (pv 1) (pa_cons (pe_bt (by rfl) W.f_tuple bt_tuple) pa_nil)))))))))) (pss_one (ps_ret (pe_cl c_as_value hr (by omega) (by rfl) (pa_cons (pe_op (OpR.or op_add_str op_catD) (pv 0) (pv 1)) pa_nil)))) pss_nil)
    (pss_one (ps_ret (C8.pe_gc (by rfl) W.g_KIND)))), ?_⟩
  have k : ∀ r H', Ex H H' → Dp K H' r (encT (joinT d e)) → Q r H' := k
  have s1 := okV_small hb
  have s2 := okV_small hb2
  have v1 := (okV_stamp hb).1
  have v2 := (okV_stamp hb2).1
  refine ⟨_, rfl, _, _, _, rfl, hd, .inr (.inl rfl), _, rfl, ?_⟩
  rcases okV_cases hb with ⟨i, rfl⟩ | ⟨z, rfl⟩ | ⟨ds, rfl⟩
  · exact iteF (iteF ⟨_, rfl, _, _, _, rfl, hd, .inr (.inr (.inl rfl)), _, rfl, iteF (iteF (k _ _ (Same.refl _) (W.t_KIND _)))⟩)
  · refine iteT ⟨_, rfl, _, _, _, rfl, he, .inr (.inl rfl), _, rfl, ?_⟩
    rcases okV_cases hb2 with ⟨j, rfl⟩ | ⟨y, rfl⟩ | ⟨es, rfl⟩
    · exact iteF ⟨_, rfl, _, _, _, rfl, hd, .inr (.inr (.inl rfl)), _, rfl, iteF (iteF (k _ _ (Same.refl _) (W.t_KIND _)))⟩
    · obtain rfl := dp_str hd
      obtain rfl := dp_str he
      have z1 : z.length ≤ 20 := s1
      have z2 : y.length ≤ 20 := s2
      refine iteT (iteT ⟨_, rfl, _, rfl, .inl ⟨z, y, rfl, rfl, sz100 (by omega), _, _, rfl, .str _, ?_, fun r H1 e1 h1 => k r H1 e1 h1⟩⟩)
      show decide ((z ++ y).length ≤ 1000) = true
      rw [Str.length_append]
      exact decide_eq_true (by omega)
    · exact iteF ⟨_, rfl, _, _, _, rfl, hd, .inr (.inr (.inl rfl)), _, rfl, iteF (iteF (k _ _ (Same.refl _) (W.t_KIND _)))⟩
  · refine iteF (iteF ⟨_, rfl, _, _, _, rfl, hd, .inr (.inr (.inl rfl)), _, rfl, iteT ⟨_, rfl, _, _, _, rfl, he, .inr (.inr (.inl rfl)), _, rfl, ?_⟩⟩)
    rcases okV_cases hb2 with ⟨j, rfl⟩ | ⟨y, rfl⟩ | ⟨es, rfl⟩
    · exact iteF (k _ _ (Same.refl _) (W.t_KIND _))
    · exact iteF (k _ _ (Same.refl _) (W.t_KIND _))
    · have z1 : ds.length ≤ 20 := s1
      have z2 : es.length ≤ 20 := s2
      refine iteT ⟨_, rfl, _, rfl, .inr ⟨ds, es, hd, he, sz100 (by omega), fun r0 H0 e0 h0 => ⟨_, _, rfl, h0, ?_, fun r H1 e1 h1 => k r H1 (e0.trans e1) h1⟩⟩⟩
      have g1 := (vsh_tup v1).2
      have g2 := (vsh_tup v2).2
      have ga : ∀ {a b : List PyData}, vshAll 1000 a = true → vshAll 1000 b = true → vshAll 1000 (a ++ b) = true := fun {a b} ha hb => by
        induction a with
        | nil => exact hb
        | cons x xs ih =>
          have q : (vsh 1000 x && vshAll 1000 xs) = true := ha
          rw [Bool.and_eq_true] at q
          show (vsh 1000 x && vshAll 1000 (xs ++ b)) = true
          rw [q.1, ih q.2]
          rfl
      show (decide ((ds ++ es).length ≤ 1000) && vshAll 1000 (ds ++ es)) = true
      rw [ga g1 g2, List.length_append, decide_eq_true (by omega)]
      rfl
def spPair (K : PySem.W.Frag) : Sp := fun vs H Q _ => ∃ o v d u e, vs = [.str (opS o), v, u] ∧ Dp K H v d ∧ Dp K H u e ∧ okV d = true ∧ okV e = true ∧ ∀ r H', Ex H H' → Dp K H' r (encT (pairT o d e)) → Q r H'
theorem c_pair_told (W : Wld K mg) : Cal P w K mg base 12 "pair_told" (spPair K) := by
  have c_is_whole : Cal P w K mg base 1 "is_whole" _ := c_is_whole W
  have c_as_value : Cal P w K mg base 10 "as_value" _ := c_as_value W
  have c_part_told : Cal P w K mg base 2 "part_told" _ := c_part_told W
  have c_joined_told : Cal P w K mg base 11 "joined_told" _ := c_joined_told W
  refine cal_of W.d_pair_told sc_pair_told (fun vs H Q E h => ?_) (fun f cdv A outer s H vs Q E hr h => ?_)
  · obtain ⟨o, v, d, u, e, rfl, _⟩ := h
    rfl
  obtain ⟨o, v, d, u, e, rfl, hd, he, hb, hb2, k⟩ := h
  have v1 := (okV_stamp hb).1
  have v2 := (okV_stamp hb2).1
  refine ⟨_, (pss_cons (ps_if (pt_cmpR op_eq (pv 0) pe_str (nomark _)) (pss_one (ps_ret (pe_cl c_part_told hr (by omega) (by rfl) (pa_cons (pv 1) (pa_cons (pv 2) pa_nil))))) pss_nil)
    (pss_cons (ps_if (pt_cmpR op_eq (pv 0) pe_str (nomark _)) (pss_one (ps_ret (pe_cl c_joined_told hr (by omega) (by rfl) (pa_cons (pv 1) (pa_cons (pv 2) pa_nil))))) pss_nil)
    (pss_cons (ps_if (pt_cmpR op_eq (pv 0) pe_str (nomark _)) (pss_one (ps_ret (pe_tup (pa_cons pe_str (pa_cons (pe_callTy call_int1 (by rfl) W.f_int bt_int (pa_cons (pe_cmpR (op_eqD hr.units) (pv 1) (pv 2) (nomark _)) pa_nil)) pa_nil))))) pss_nil)
    (pss_cons (ps_if (PW.pt (pw_or (pt_not (pt_val (pe_cl c_is_whole hr (by omega) (by rfl) (pa_cons (pv 1) pa_nil)))) (pw_or1 (pt_not (pt_val (pe_cl c_is_whole hr (by omega) (by rfl) (pa_cons (pv 2) pa_nil))))))) (pss_one (ps_ret (C8.pe_gc (by rfl) W.g_KIND))) pss_nil)
    (pss_cons (ps_if (pt_cmpR op_eq (pv 0) pe_str (nomark _)) (pss_one (ps_ret (pe_cl c_as_value hr (by omega) (by rfl) (pa_cons (pe_op op_add (pv 1) (pv 2)) pa_nil)))) pss_nil)
    (pss_one (ps_ret (pe_tup (pa_cons pe_str (pa_cons (pe_callTy call_int1 (by rfl) W.f_int bt_int (pa_cons (pe_cmpR op_lt (pv 1) (pv 2) (nomark _)) pa_nil)) pa_nil)))))))))), ?_⟩
  have eqs : ∀ (a b : Str), a ≠ b → decide (V.str a = V.str b) = false := fun a b h => decide_eq_false fun z => h (by injection z)
  cases o with
  | part => exact ⟨_, rfl, rfl, _, rfl, iteT ⟨_, rfl, _, rfl, v, d, u, e, rfl, hd, he, ⟨v1, v2⟩, fun r H1 e1 h1 => k r H1 e1 h1⟩⟩
  | join => exact ⟨_, rfl, rfl, _, rfl, iteF ⟨_, rfl, rfl, _, rfl, iteT ⟨_, rfl, _, rfl, v, d, u, e, rfl, hd, he, ⟨hb, hb2⟩, fun r H1 e1 h1 => k r H1 e1 h1⟩⟩⟩
  | same =>
    refine ⟨_, rfl, rfl, _, rfl, iteF ⟨_, rfl, rfl, _, rfl, iteF ⟨_, rfl, rfl, _, rfl, iteT ?_⟩⟩⟩
    refine ⟨_, rfl, _, rfl, d, e, hd, he, okV_shaped hb, okV_shaped hb2, .inr ⟨_, rfl, (show 2 ≤ sizeLine by decide), tup_new (.cons (.str _) (.one (.int _))) fun p H2 e2 h2 => k _ _ e2 h2⟩⟩
  | sum =>
    refine ⟨_, rfl, rfl, _, rfl, iteF ⟨_, rfl, rfl, _, rfl, iteF ⟨_, rfl, rfl, _, rfl, iteF ?_⟩⟩⟩
    have k : ∀ r H', Ex H H' → Dp K H' r (encT (sumT d e)) → Q r H' := k
    refine ⟨_, rfl, v, d, rfl, hd, vsh_nb v1, fun r H1 e1 hr1 => ?_⟩
    obtain rfl := dp_bl hr1
    refine ⟨_, rfl, ?_⟩
    rcases okV_cases hb with ⟨i, rfl⟩ | ⟨z, rfl⟩ | ⟨ds, rfl⟩
    · obtain rfl := dp_int hd
      refine iteF ⟨_, rfl, u, e, rfl, he.up e1, vsh_nb v2, fun r H2 e2 hr2 => ?_⟩
      obtain rfl := dp_bl hr2
      refine ⟨_, rfl, ?_⟩
      rcases okV_cases hb2 with ⟨j, rfl⟩ | ⟨y, rfl⟩ | ⟨es, rfl⟩
      · obtain rfl := dp_int he
        exact iteF ⟨_, rfl, rfl, _, rfl, iteT ⟨_, rfl, _, rfl, _, _, rfl, rfl, _, _, rfl, .int _, rfl, fun r H3 e3 h3 => k r H3 ((e1.trans e2).trans e3) h3⟩⟩
      · exact iteT (k _ _ (e1.trans e2) (W.t_KIND _))
      · exact iteT (k _ _ (e1.trans e2) (W.t_KIND _))
    · exact iteT (k _ _ e1 (W.t_KIND _))
    · exact iteT (k _ _ e1 (W.t_KIND _))
  | less =>
    refine ⟨_, rfl, rfl, _, rfl, iteF ⟨_, rfl, rfl, _, rfl, iteF ⟨_, rfl, rfl, _, rfl, iteF ?_⟩⟩⟩
    have k : ∀ r H', Ex H H' → Dp K H' r (encT (lessT d e)) → Q r H' := k
    refine ⟨_, rfl, v, d, rfl, hd, vsh_nb v1, fun r H1 e1 hr1 => ?_⟩
    obtain rfl := dp_bl hr1
    refine ⟨_, rfl, ?_⟩
    rcases okV_cases hb with ⟨i, rfl⟩ | ⟨z, rfl⟩ | ⟨ds, rfl⟩
    · obtain rfl := dp_int hd
      refine iteF ⟨_, rfl, u, e, rfl, he.up e1, vsh_nb v2, fun r H2 e2 hr2 => ?_⟩
      obtain rfl := dp_bl hr2
      refine ⟨_, rfl, ?_⟩
      rcases okV_cases hb2 with ⟨j, rfl⟩ | ⟨y, rfl⟩ | ⟨es, rfl⟩
      · obtain rfl := dp_int he
        exact iteF ⟨_, rfl, rfl, _, rfl, iteF ⟨_, rfl, _, rfl, _, _, rfl, rfl, .inr ⟨_, rfl, (show 2 ≤ sizeLine by decide), tup_new (.cons (.str _) (.one (.int _))) fun p H3 e3 h3 => k _ _ ((e1.trans e2).trans e3) h3⟩⟩⟩
      · exact iteT (k _ _ (e1.trans e2) (W.t_KIND _))
      · exact iteT (k _ _ (e1.trans e2) (W.t_KIND _))
    · exact iteT (k _ _ e1 (W.t_KIND _))
    · exact iteT (k _ _ e1 (W.t_KIND _))
end
end Wk
namespace Wk
open PySem PySem.Spec PyProof.Rows L2 SX
def spTold (K : PySem.W.Frag) (m : Nat) : Sp := fun vs H Q _ => ∃ v e u gs n, vs = [v, u] ∧ Dp K H v (encX e) ∧ Dp K H u (.list gs) ∧ wfX n e = true ∧ n ≤ gs.length ∧ okAll gs ∧ depthX e < m ∧ ∀ r H', Ex H H' → Dp K H' r (encT (evalX gs e)) → Q r H'
theorem ok_lv {gs : List PyData} {n : Nat} {l : Lf} (hg : okAll gs) (hn : n ≤ gs.length) (hl : wfL n l = true) : okV (lv gs l) = true := ok_evalX (e := .lf l) hg hn hl rfl
theorem immAll_lv {gs : List PyData} {n : Nat} (hg : okAll gs) (hn : n ≤ gs.length) : ∀ {ls : List Lf}, (∀ l ∈ ls, wfL n l = true) → immAll (ls.map (lv gs)) = true
  | [], _ => rfl
  | l :: ls, h => by
    show (imm (lv gs l) && immAll (ls.map (lv gs))) = true
    rw [imm_vp (ok_lv hg hn (h l List.mem_cons_self)), immAll_lv hg hn fun x hx => h x (List.mem_cons_of_mem _ hx)]
    rfl
section
variable {P : Program} {w : World} {K : PySem.W.Frag} {mg : Str → Option Value} {base : Heap}
theorem c_told_by (W : Wld K mg) : ∀ m : Nat, Cal P w K mg base (m + 12) "told_by" (spTold K m)
  | 0 => (cal_zero W.d_told_by fun vs H Q E h => by
      obtain ⟨v, e, u, gs, n, _, _, _, _, _, _, h1, _⟩ := h
      omega).mono (by omega)
  | m + 1 => by
    have c_is_whole : Cal P w K mg base 1 "is_whole" _ := c_is_whole W
    have c_as_value : Cal P w K mg base 10 "as_value" _ := c_as_value W
    have c_pair_told : Cal P w K mg base 12 "pair_told" _ := c_pair_told W
    have c_exprs_in : Cal P w K mg base 1 "exprs_in" _ := c_exprs_in W
    have c_told_by : Cal P w K mg base (m + 12) "told_by" (spTold K m) := c_told_by W m
    refine cal_of W.d_told_by sc_told_by (fun vs H Q E h => ?_) (fun f cdv A outer s H vs Q E hr h => ?_)
    · obtain ⟨v, e, u, gs, n, rfl, _⟩ := h
      rfl
    obtain ⟨v, e, u, gs, n, rfl, hv, hu', hwf, hn, hg, hm, k⟩ := h
    -- behind the loop
    obtain ⟨t3, htl, qtl⟩ : ∃ t, PSs (cxOf CX0 P w K mg base N_told_by "told_by" (defScope (top 42)) f cdv A outer s H E).nox ((defBody (top 42)).drop 4) t ∧ ∀ p vals x y H', Ex H H' → H' p = some (.lst vals) → DpAll K H' vals ((subsX e).map (lv gs)) → depthX e = 1 → t { nx := fun _ H' => Q .non H', rt := Q } [some v, some u, some (.ref p), x, y] H' := by
      refine ⟨_, (pss_cons (ps_if (pt_cmpR op_eq (pe_ix ix_T (pv 0) pe_int (fun _ _ => rfl)) pe_str (nomark _)) (pss_one (ps_ret (pe_cl c_as_value hr (by omega) (by rfl) (pa_cons (pe_callTy call_tuple_of (by rfl) W.f_tuple bt_tuple (pa_cons (pv 2) pa_nil)) pa_nil)))) pss_nil)
    (pss_cons (ps_if (pt_cmpR op_eq (pe_ix ix_T (pv 0) pe_int (fun _ _ => rfl)) pe_str (nomark _)) (pss_cons (ps_if (pt_val (pe_cl c_is_whole hr (by omega) (by rfl) (pa_cons (pe_ix ix_list (pv 2) pe_int (fun _ _ => rfl)) pa_nil))) (pss_one (ps_ret (C8.pe_gc (by rfl) W.g_KIND))) pss_nil)
    (pss_one (ps_ret (pe_tup (pa_cons pe_str (pa_cons (pe_callB call_lenDp (by rfl) W.f_len bt_len (pa_cons (pe_ix ix_list (pv 2) pe_int (fun _ _ => rfl)) pa_nil)) pa_nil)))))) pss_nil)
    (pss_one (ps_ret (pe_cl c_pair_told hr (by omega) (by rfl) (pa_cons (pe_ix ix_T (pv 0) pe_int (fun _ _ => rfl)) (pa_cons (pe_ix ix_list (pv 2) pe_int (fun _ _ => rfl)) (pa_cons (pe_ix ix_list (pv 2) pe_int (fun _ _ => rfl)) pa_nil)))))))), fun p vals x y H1 e1 h1 d1 hd1 => ?_⟩
      have hv1 := hv.up e1
      have hs := wfX_sub hwf
      cases e with
      | lf l => cases hd1
      | row a b =>
        have oa := ok_lv hg hn (hs a (by simp [subsX]))
        have ob := ok_lv hg hn (hs b (by simp [subsX]))
        refine ⟨_, rfl, _, _, _, rfl, hv1, atI_nat (j := 0) rfl, fun v0 hv0 => ?_⟩
        obtain rfl := dp_str hv0
        refine ⟨rfl, _, rfl, iteT ⟨_, rfl, p, _, rfl, .inl ⟨SqL.of h1, fun l hl => ?_⟩⟩⟩
        have e2 : Ex H1 (upd H1 l (.tup vals)) := Ex.new hl
        refine ⟨_, .tuple [lv gs a, lv gs b], rfl, .tup (SqT.of upd_same) (d1.up e2), ?_, fun r H3 e3 h3 => k r H3 ((e1.trans e2).trans e3) h3⟩
        show (decide (2 ≤ 1000) && (vsh 1000 (lv gs a) && (vsh 1000 (lv gs b) && true))) = true
        rw [(okV_stamp oa).1, (okV_stamp ob).1]
        rfl
      | many l =>
        have o := ok_lv hg hn (hs l (by simp [subsX]))
        obtain ⟨v1, hv1', hd1'⟩ := d1.get (i := 0) (d := lv gs l) rfl
        have ea : atI vals 0 = some v1 := atI_nat (j := 0) hv1'
        refine ⟨_, rfl, _, _, _, rfl, hv1, atI_nat (j := 0) rfl, fun v0 hv0 => ?_⟩
        obtain rfl := dp_str hv0
        refine ⟨rfl, _, rfl, iteF ⟨_, rfl, _, _, _, rfl, hv1, atI_nat (j := 0) rfl, fun v0 hv0 => ?_⟩⟩
        obtain rfl := dp_str hv0
        refine ⟨rfl, _, rfl, iteT ⟨_, rfl, p, _, _, v1, rfl, rfl, SqL.of h1, ea, v1, _, rfl, hd1', vsh_nb (okV_stamp o).1, fun r H2 e2 hr2 => ?_⟩⟩
        obtain rfl := dp_bl hr2
        have k : ∀ r H', Ex H H' → Dp K H' r (encT (manyT (lv gs l))) → Q r H' := k
        have z := okV_small o
        refine ⟨_, rfl, ?_⟩
        have h2 := e2 _ _ h1
        have hd2 := hd1'.up e2
        rcases okV_cases o with ⟨i, e⟩ | ⟨x, e⟩ | ⟨ds, e⟩ <;> rw [e] at k z hd2 ⊢
        · exact iteT (k _ _ (e1.trans e2) (W.t_KIND _))
        · exact iteF ⟨_, rfl, p, _, _, v1, rfl, rfl, SqL.of h2, ea, _, _, rfl, hd2, rfl, sz100 (Nat.le_trans z (by decide)), (show 2 ≤ sizeLine by decide), tup_new (.cons (.str _) (.one (.int _))) fun p3 H3 e3 h3 => k _ _ ((e1.trans e2).trans e3) h3⟩
        · exact iteF ⟨_, rfl, p, _, _, v1, rfl, rfl, SqL.of h2, ea, _, _, rfl, hd2, rfl, sz100 (Nat.le_trans z (by decide)), (show 2 ≤ sizeLine by decide), tup_new (.cons (.str _) (.one (.int _))) fun p3 H3 e3 h3 => k _ _ ((e1.trans e2).trans e3) h3⟩
      | bin o a b =>
        have oa := ok_lv hg hn (hs a (by simp [subsX]))
        have ob := ok_lv hg hn (hs b (by simp [subsX]))
        obtain ⟨va, hva, da⟩ := d1.get (i := 0) (d := lv gs a) rfl
        obtain ⟨vb, hvb, db⟩ := d1.get (i := 1) (d := lv gs b) rfl
        have n1 : decide (V.str (opS o) = V.str "row") = false := by cases o <;> decide +kernel
        have n2 : decide (V.str (opS o) = V.str "many") = false := by cases o <;> decide +kernel
        refine ⟨_, rfl, _, _, _, rfl, hv1, atI_nat (j := 0) rfl, fun v0 hv0 => ?_⟩
        obtain rfl := dp_str hv0
        refine ⟨rfl, _, rfl, ?_⟩
        rw [n1]
        refine iteF ⟨_, rfl, _, _, _, rfl, hv1, atI_nat (j := 0) rfl, fun v0 hv0 => ?_⟩
        obtain rfl := dp_str hv0
        refine ⟨rfl, _, rfl, ?_⟩
        rw [n2]
        refine iteF ⟨_, rfl, _, _, _, rfl, hv1, atI_nat (j := 0) rfl, fun v0 hv0 => ?_⟩
        obtain rfl := dp_str hv0
        exact ⟨_, rfl, p, _, _, va, rfl, rfl, SqL.of h1, atI_nat (j := 0) hva, _, rfl, p, _, _, vb, rfl, rfl, SqL.of h1, atI_nat (j := 1) hvb, o, va, _, vb, _, rfl, da, db, oa, ob, fun r H3 e3 h3 => k r H3 (e1.trans e3) h3⟩
    refine ⟨_, (pss_cons (ps_if (pt_cmpR op_eq (pe_ix ix_T (pv 0) pe_int (fun _ _ => rfl)) pe_str (nomark _)) (pss_one (ps_ret (pe_tup (pa_cons pe_str (pa_cons (pe_ix ix_T (pv 0) pe_int (fun _ _ => rfl)) pa_nil))))) pss_nil)
    (pss_cons (ps_if (pt_cmpR op_eq (pe_ix ix_T (pv 0) pe_int (fun _ _ => rfl)) pe_str (nomark _)) (pss_one (ps_ret (pe_tup (pa_cons pe_str (pa_cons (pe_ix ix_L (pv 1) (pe_ix ix_T (pv 0) pe_int (fun _ _ => rfl)) (fun _ _ => rfl)) pa_nil))))) pss_nil)
    (pss_cons (ps_set (i := 2) sc_told_by.nd rfl (Or.inl rfl) (pe_lst pa_nil))
    (pss_cons (ps_for PassesOwn.never rfl (pi_tup (pe_cl c_exprs_in hr (by omega) (by rfl) (pa_cons (pv 0) pa_nil))) (pg_name (i := 3) sc_told_by.nd rfl (Or.inl rfl)) (pss_cons (ps_set (i := 4) sc_told_by.nd rfl (Or.inl rfl) (pe_cl c_told_by hr (by omega) (by rfl) (pa_cons (pv 3) (pa_cons (pv 1) pa_nil))))
    (pss_cons (ps_if (pt_cmpR op_eq (pe_ix ix_T (pv 4) pe_int (fun _ _ => rfl)) pe_str (nomark _)) (pss_one (ps_ret (pv 4))) pss_nil)
    (pss_one (ps_expr (pe_bm PySem.F.plainAttrs_list PySem.F.slot_list_append PySem.F.type_list_append mt_append (pv 2) (pa_cons (pe_ix ix_T (pv 4) pe_int (fun _ _ => rfl)) pa_nil))))))) htl)))), ?_⟩
    -- the loop over the exprs within
    have loop : depthX e = 1 → ∀ t0 : TS, (∀ D σ H, t0 D σ H = t3 D σ H) → True := fun _ _ _ => trivial
    by_cases hlf : ∃ l, e = .lf l
    · obtain ⟨l, rfl⟩ := hlf
      cases l with
      | put x =>
        refine ⟨_, rfl, _, _, _, rfl, hv, atI_nat (j := 0) rfl, fun v0 hv0 => ?_⟩
        obtain rfl := dp_str hv0
        refine ⟨rfl, _, rfl, iteT ⟨_, rfl, _, _, _, rfl, hv, atI_nat (j := 1) rfl, fun v1 hv1 => ⟨(show 2 ≤ sizeLine by decide), tup_new (.cons (.str _) (.one hv1)) fun p H1 e1 h1 => k _ _ e1 h1⟩⟩⟩
      | got j =>
        refine ⟨_, rfl, _, _, _, rfl, hv, atI_nat (j := 0) rfl, fun v0 hv0 => ?_⟩
        obtain rfl := dp_str hv0
        refine ⟨rfl, _, rfl, iteF ⟨_, rfl, _, _, _, rfl, hv, atI_nat (j := 0) rfl, fun v0 hv0 => ?_⟩⟩
        obtain rfl := dp_str hv0
        refine ⟨rfl, _, rfl, iteT ⟨_, rfl, _, rfl, _, _, _, rfl, hv, atI_nat (j := 1) rfl, fun v1 hv1 => ?_⟩⟩
        obtain rfl := dp_int hv1
        have hj : j < n := of_decide_eq_true hwf
        have hj2 : j < gs.length := by omega
        have k : ∀ r H', Ex H H' → Dp K H' r (.tuple [.str "value", gs.getD j .none]) → Q r H' := k
        rw [List.getD_eq_getElem?_getD, List.getElem?_eq_getElem hj2] at k
        exact ⟨_, _, gs[j], rfl, hu', atI_nat (List.getElem?_eq_getElem hj2), fun v2 hv2 => ⟨(show 2 ≤ sizeLine by decide), tup_new (.cons (.str _) (.one hv2)) fun p H1 e1 h1 => k _ _ e1 h1⟩⟩
    have hd1 : depthX e = 1 := by
      cases e with
      | lf l => exact absurd ⟨l, rfl⟩ hlf
      | many l => rfl
      | row a b => rfl
      | bin o a b => rfl
    obtain ⟨x0, rest0, he0, n1, n2⟩ : ∃ x0 rest0, encX e = .tuple (.str x0 :: rest0) ∧ decide (V.str x0 = V.str "put") = false ∧ decide (V.str x0 = V.str "got") = false := by
      cases e with
      | lf l => exact absurd ⟨l, rfl⟩ hlf
      | many l => exact ⟨_, _, rfl, by decide +kernel, by decide +kernel⟩
      | row a b => exact ⟨_, _, rfl, by decide +kernel, by decide +kernel⟩
      | bin o a b => exact ⟨_, _, rfl, by cases o <;> decide +kernel, by cases o <;> decide +kernel⟩
    have hv' := hv
    rw [he0] at hv'
    refine ⟨_, rfl, _, _, _, rfl, hv', atI_nat (j := 0) rfl, fun v0 hv0 => ?_⟩
    obtain rfl := dp_str hv0
    refine ⟨rfl, _, rfl, ?_⟩
    rw [n1]
    refine iteF ⟨_, rfl, _, _, _, rfl, hv', atI_nat (j := 0) rfl, fun v0 hv0 => ?_⟩
    obtain rfl := dp_str hv0
    refine ⟨rfl, _, rfl, ?_⟩
    rw [n2]
    refine iteF ⟨Nat.zero_le _, fun p hp => ?_⟩
    have e1 : Ex H (upd H p (.lst [])) := Ex.new hp
    have hp1 : (upd H p (.lst [])) p = some (.lst []) := upd_same
    generalize upd H p (.lst []) = H1 at e1 hp1 ⊢
    refine ⟨_, rfl, v, e, rfl, hv.up e1, fun r H2 e2 h2 => ?_⟩
    obtain ⟨b, xs, rfl, hS, hX⟩ := dp_tup h2
    have hXl := hX.length
    rw [List.length_map] at hXl
    have hsl := subsX_len e
    have hs := wfX_sub hwf
    refine ⟨b, rfl, ⟨xs, hS⟩, for_tup (K := K) (a := b) (xs := xs) (fun i σ H' => Ex H H' ∧ Tu H2 H' ∧ ∃ x y vals, σ = [some v, some u, some (.ref p), x, y] ∧ H' p = some (.lst vals) ∧ DpAll K H' vals (((subsX e).take i).map (lv gs)))
      ⟨e1.trans e2, Tu.refl _, _, _, [], rfl, e2 _ _ hp1, .nil⟩ (fun i σ H' _ h => tu_t h.2.1 hS) ?_ ?_⟩
    · rintro i x σ H3 hx ⟨e3, t3', y1, y2, vals, rfl, h3, d3⟩
      obtain ⟨d, hd, dx⟩ := hX.getV hx
      rw [List.getElem?_map] at hd
      cases hq : (subsX e)[i]? with
      | none => rw [hq] at hd; cases hd
      | some l =>
        rw [hq] at hd
        obtain rfl : encL l = d := Option.some.inj hd
        have hlm := List.mem_of_getElem? hq
        have hl := hs l hlm
        refine ⟨_, rfl, _, rfl, x, .lf l, u, gs, n, rfl, Dp.tu t3' _ _ (immL hl) dx, hu'.up e3, hl, hn, hg, (show 0 < m by omega), fun r H4 e4 h4 => ?_⟩
        have h4 : Dp K H4 r (.tuple [.str "value", lv gs l]) := h4
        obtain ⟨ra, rxs, rfl, hr1, hr2⟩ := dp_tup h4
        refine ⟨_, rfl, _, _, _, rfl, h4, atI_nat (j := 0) rfl, fun v0 hv0 => ?_⟩
        obtain rfl := dp_str hv0
        refine ⟨rfl, _, rfl, iteF ?_⟩
        have h4p := e4 _ _ h3
        refine ⟨_, rfl, .inl ⟨rfl, _, SqL.of h4p⟩, _, rfl, _, _, _, rfl, h4, atI_nat (j := 1) rfl, fun v1 hv1 => ?_⟩
        have vl : vals.length ≤ 2 := by
          rw [d3.length, List.length_map, List.length_take]
          omega
        have t4 : Tu H4 (upd H4 p (.lst (vals ++ [v1]))) := Tu.mut h4p
        have io := imm_vp (ok_lv hg hn hl)
        have iA : immAll (((subsX e).take i).map (lv gs)) = true := immAll_lv hg hn fun l hl => hs l (List.mem_of_mem_take hl)
        refine ⟨p, _, _, rfl, rfl, h4p, szlt (by omega), Ex.mut (e3.trans e4) hp, (t3'.trans (Same.tu e4)).trans t4, _, _, vals ++ [v1], rfl, upd_same, ?_⟩
        rw [List.take_add_one, hq]
        show DpAll K _ (vals ++ [v1]) (((subsX e).take i ++ [l]).map (lv gs))
        rw [List.map_append]
        exact (DpAll.tu ((Same.tu e4).trans t4) _ _ iA d3).append (.one (Dp.tu t4 _ _ io hv1))
    · rintro σ H3 ⟨e3, t3', y1, y2, vals, rfl, h3, d3⟩
      rw [hXl, List.take_length] at d3
      exact qtl p vals y1 y2 H3 e3 h3 d3 hd1
end
end Wk
namespace Wk
open PySem PySem.Spec PyProof.Rows L2 SX
/-! ### replays -/
def nameT (gs : List PyData) (e : Xp) : Tld := match evalX gs e with
  | .val d => if isName d = true then .val d else .fails "name"
  | .fails w => .fails w
def nothD (d : PyData) : Bool := ([.int 0, .str "", .tuple []] : List PyData).any fun z => PyData.eqv z d
def alongM (gs : List PyData) : Rc → Rc
  | .when_ e a b => match evalX gs e with
    | .fails w => .fail w
    | .val d => if nothD d = true then alongM gs b else alongM gs a
  | r => r
inductive Out where
  | made (d : PyData) | fails (w : Str) | wants (n : Str) | peeks (n : Str) | strays (k : Nat)
def encO : Out → PyData
  | .made d => .tuple [.str "made", d]
  | .fails w => .tuple [.str "fails", .str w]
  | .wants n => .tuple [.str "wants", .str n]
  | .peeks n => .tuple [.str "peeks", .str n]
  | .strays k => .tuple [.str "strays", .int ((k : Nat) : Int)]
def optO : Option Out → PyData
  | some o => encO o
  | none => .none
def endM (gs : List PyData) : Rc → Option Out
  | .fail w => some (.fails w)
  | .say e => match evalX gs e with
    | .fails w => some (.fails w)
    | .val d => some (.made d)
  | .ask _ e _ => match nameT gs e with
    | .fails w => some (.fails w)
    | .val _ => none
  | .when_ _ _ _ => none
abbrev Pr := Str × PyData
def encP (p : Pr) : PyData := .tuple [.str p.1, p.2]
def fin (reads : List Pr) (used : Nat) (o : Out) : Out := if reads.isEmpty then o else .strays used
def strD : PyData → Str
  | .str z => z
  | _ => ""
/-- what a recipe comes to: reads, peeks: those that are left; used: how many reads were taken -/
def desc : Rc → List PyData → List Pr → List Pr → Nat → Out
  | .fail w, _, reads, _, used => fin reads used (.fails w)
  | .say e, gs, reads, _, used => match evalX gs e with
    | .fails w => fin reads used (.fails w)
    | .val d => fin reads used (.made d)
  | .when_ e a b, gs, reads, peeks, used => match evalX gs e with
    | .fails w => fin reads used (.fails w)
    | .val d => if nothD d = true then desc b gs reads peeks used else desc a gs reads peeks used
  | .ask p e r, gs, reads, peeks, used => match nameT gs e with
    | .fails w => fin reads used (.fails w)
    | .val d => if p = true then
        (match peeks with
        | [] => fin reads used (.peeks (strD d))
        | q :: ps => if q.1 = strD d then desc r (gs ++ [q.2]) reads ps used else fin reads used (.peeks (strD d)))
      else
        (match reads with
        | [] => .wants (strD d)
        | q :: rs => if q.1 = strD d then desc r (gs ++ [q.2]) rs peeks (used + 1) else .strays used)
def replayM (r : Rc) (reads peeks : List Pr) : Out := desc r [] reads peeks 0
theorem isName_str {d : PyData} (h : isName d = true) : ∃ z, d = .str z ∧ isNameS z = true := by
  cases d with
  | str z => exact ⟨z, rfl, h⟩
  | none => cases h
  | bool b => cases h
  | int i => cases h
  | list x => cases h
  | tuple x => cases h
  | dict x => cases h
theorem nameT_val {gs : List PyData} {e : Xp} {d : PyData} (h : nameT gs e = .val d) : ∃ z, d = .str z ∧ isNameS z = true ∧ evalX gs e = .val (.str z) := by
  unfold nameT at h
  split at h
  · rename_i d' hd
    split at h
    · rename_i hc
      have e : d' = d := by injection h
      subst e
      obtain ⟨z, rfl, hz⟩ := isName_str hc
      exact ⟨z, rfl, hz, hd⟩
    · cases h
  · cases h
/-- along, then the rest -/
theorem desc_along (gs : List PyData) (reads peeks : List Pr) (used : Nat) : ∀ r : Rc, desc r gs reads peeks used = desc (alongM gs r) gs reads peeks used
  | .say e => rfl
  | .fail w => rfl
  | .ask p e r => rfl
  | .when_ e a b => by
    rw [desc, alongM]
    cases h : evalX gs e with
    | fails w => rfl
    | val d =>
      by_cases hn : nothD d = true
      · show (if nothD d = true then _ else _) = desc (if nothD d = true then _ else _) _ _ _ _
        rw [if_pos hn, if_pos hn]
        exact desc_along gs reads peeks used b
      · show (if nothD d = true then _ else _) = desc (if nothD d = true then _ else _) _ _ _ _
        rw [if_neg hn, if_neg hn]
        exact desc_along gs reads peeks used a
theorem alongM_not (gs : List PyData) : ∀ (r : Rc) (e : Xp) (a b : Rc), alongM gs r ≠ .when_ e a b
  | .say e, _, _, _ => fun h => by cases h
  | .fail w, _, _, _ => fun h => by cases h
  | .ask p e r, _, _, _ => fun h => by cases h
  | .when_ e a b, e', a', b' => by
    rw [alongM]
    cases h : evalX gs e with
    | fails w => exact fun h => by cases h
    | val d =>
      show (if nothD d = true then _ else _) ≠ _
      split
      · exact alongM_not gs b e' a' b'
      · exact alongM_not gs a e' a' b'
theorem alongM_depth (gs : List PyData) : ∀ r : Rc, depthR (alongM gs r) ≤ depthR r
  | .say e => Nat.le_refl _
  | .fail w => Nat.le_refl _
  | .ask p e r => Nat.le_refl _
  | .when_ e a b => by
    rw [alongM]
    cases h : evalX gs e with
    | fails w => exact Nat.zero_le _
    | val d =>
      show depthR (if nothD d = true then _ else _) ≤ _
      rw [depthR]
      split
      · have := alongM_depth gs b
        omega
      · have := alongM_depth gs a
        omega
theorem asVal_fails {d : PyData} {w : Str} (h : asVal d = .fails w) : isNameS w = true := by
  unfold asVal at h
  split at h
  · cases h
  · cases h
    decide +kernel
theorem evalX_fails {gs : List PyData} {e : Xp} {w : Str} (h : evalX gs e = .fails w) : isNameS w = true := by
  have kd : isNameS "kind" = true := by decide +kernel
  have pt : isNameS "part" = true := by decide +kernel
  cases e with
  | lf l => cases h
  | many l =>
    have h : manyT (lv gs l) = .fails w := h
    unfold manyT at h
    split at h
    · cases h
      exact kd
    · cases h
  | row a b => exact asVal_fails h
  | bin o a b =>
    cases o with
    | part =>
      have h : partT (lv gs a) (lv gs b) = .fails w := h
      unfold partT at h
      split at h
      · split at h
        · cases h
          exact pt
        · cases h
      · cases h
        exact kd
    | join =>
      have h : joinT (lv gs a) (lv gs b) = .fails w := h
      unfold joinT at h
      split at h
      · exact asVal_fails h
      · exact asVal_fails h
      · cases h
        exact kd
    | sum =>
      have h : sumT (lv gs a) (lv gs b) = .fails w := h
      unfold sumT at h
      split at h
      · exact asVal_fails h
      · cases h
        exact kd
    | same => cases h
    | less =>
      have h : lessT (lv gs a) (lv gs b) = .fails w := h
      unfold lessT at h
      split at h
      · cases h
      · cases h
        exact kd
theorem wf_along {n : Nat} (gs : List PyData) : ∀ r : Rc, wfR n r = true → wfR n (alongM gs r) = true
  | .say e, h => h
  | .fail w, h => h
  | .ask p e r, h => h
  | .when_ e a b, h => by
    have h1 := (Bool.and_eq_true _ _).mp (show (wfX n e && (wfR n a && wfR n b)) = true from h)
    have h2 := (Bool.and_eq_true _ _).mp h1.2
    rw [alongM]
    cases q : evalX gs e with
    | fails w => exact evalX_fails q
    | val d =>
      show wfR n (if nothD d = true then _ else _) = true
      split
      · exact wf_along gs b h2.2
      · exact wf_along gs a h2.1
theorem asks_along (gs : List PyData) : ∀ r : Rc, asksR (alongM gs r) ≤ asksR r
  | .say e => Nat.le_refl _
  | .fail w => Nat.le_refl _
  | .ask p e r => Nat.le_refl _
  | .when_ e a b => by
    rw [alongM]
    cases h : evalX gs e with
    | fails w => exact Nat.zero_le _
    | val d =>
      show asksR (if nothD d = true then _ else _) ≤ _
      rw [asksR]
      split
      · have := asks_along gs b
        omega
      · have := asks_along gs a
        omega
end Wk
namespace Wk
open PySem PySem.Spec PyProof.Rows L2 SX
def spAsked (K : PySem.W.Frag) : Sp := fun vs H Q _ => ∃ v r u gs n, vs = [v, u] ∧ Dp K H v (encR r) ∧ Dp K H u (.list gs) ∧ (∀ w, r ≠ .fail w) ∧ wfX n (exprR r) = true ∧ n ≤ gs.length ∧ okAll gs ∧ ∀ x H', Ex H H' → Dp K H' x (encT (nameT gs (exprR r))) → Q x H'
def spAlong (K : PySem.W.Frag) : Sp := fun vs H Q _ => ∃ v r u gs n, vs = [v, u] ∧ Dp K H v (encR r) ∧ Dp K H u (.list gs) ∧ wfR n r = true ∧ n ≤ gs.length ∧ okAll gs ∧ ∀ x H', Ex H H' → Dp K H' x (encR (alongM gs r)) → Q x H'
def spEndAt (K : PySem.W.Frag) : Sp := fun vs H Q _ => ∃ v r u gs n, vs = [v, u] ∧ Dp K H v (encR r) ∧ Dp K H u (.list gs) ∧ wfR n r = true ∧ (∀ e a b, r ≠ .when_ e a b) ∧ n ≤ gs.length ∧ okAll gs ∧ ∀ x H', Ex H H' → Dp K H' x (optO (endM gs r)) → Q x H'
def nextB (rows : List Pr) (k : Nat) (n : Str) : Bool := match rows[k]? with
  | some q => decide (q.1 = n)
  | none => false
def spNext (K : PySem.W.Frag) : Sp := fun vs H Q _ => ∃ v rows k n, vs = [v, .int ((k : Nat) : Int), .str n] ∧ Dp K H v (.list (rows.map encP)) ∧ rows.length ≤ 1000 ∧ ∀ H', Ex H H' → Q (.bl (nextB rows k n)) H'
section
variable {P : Program} {w : World} {K : PySem.W.Frag} {mg : Str → Option Value} {base : Heap}
theorem vstr_eq {a b : Str} : decide (V.str a = V.str b) = decide (a = b) := by
  by_cases h : a = b
  · subst h
    simp
  · rw [decide_eq_false h, decide_eq_false fun e => h (by injection e)]
theorem c_is_next (W : Wld K mg) : Cal P w K mg base 1 "is_next" (spNext K) := by
  refine cal_of W.d_is_next sc_is_next (fun vs H Q E h => ?_) (fun f cdv A outer s H vs Q E hr h => ?_)
  · obtain ⟨v, rows, k, n, rfl, _⟩ := h
    rfl
  obtain ⟨v, rows, k, n, rfl, hv, hl, kk⟩ := h
  refine ⟨_, (pss_one (ps_ret (pe_and (pe_cmpR op_lt (pv 1) (pe_callB call_lenDp (by rfl) W.f_len bt_len (pa_cons (pv 0) pa_nil)) (nomark _)) (pe_one (pe_cmpR op_eq (pe_ix ix_T (pe_ix ix_L (pv 0) (pv 1) (fun _ _ => rfl)) pe_int (fun _ _ => rfl)) (pv 2) (nomark _)))))), ?_⟩
  have kk := kk H (Same.refl _)
  unfold nextB at kk
  refine ⟨_, rfl, _, rfl, _, _, rfl, hv, rfl, ?_, _, _, rfl, rfl, _, rfl, iteD (fun c => ?_) (fun c => ?_)⟩
  · show (rows.map encP).length ≤ _
    rw [List.length_map]
    exact sz100 (by omega)
  · have c : ((k : Nat) : Int) < (((rows.map encP).length : Nat) : Int) := c
    rw [List.length_map] at c
    have hk : k < rows.length := by omega
    rw [List.getElem?_eq_getElem hk] at kk
    have hd : (rows.map encP)[k]? = some (encP rows[k]) := by rw [List.getElem?_map, List.getElem?_eq_getElem hk]; rfl
    refine ⟨_, rfl, _, rfl, _, _, _, rfl, hv, atI_nat hd, fun v1 hv1 => ⟨_, _, _, rfl, hv1, atI_nat (j := 0) rfl, fun v2 hv2 => ?_⟩⟩
    obtain rfl := dp_str hv2
    refine ⟨_, rfl, rfl, ?_⟩
    rw [vstr_eq]
    exact kk
  · have c : ¬ ((k : Nat) : Int) < (((rows.map encP).length : Nat) : Int) := c
    rw [List.length_map] at c
    rw [List.getElem?_eq_none (by omega)] at kk
    exact kk
theorem c_asked_name (W : Wld K mg) : Cal P w K mg base 15 "asked_name" (spAsked K) := by
  have c_told_by : Cal P w K mg base 14 "told_by" _ := c_told_by W 2
  have c_is_name : Cal P w K mg base 1 "is_name" _ := c_is_name W
  refine cal_of W.d_asked_name sc_asked_name (fun vs H Q E h => ?_) (fun f cdv A outer s H vs Q E hr h => ?_)
  · obtain ⟨v, r, u, gs, n, rfl, _⟩ := h
    rfl
  obtain ⟨v, r, u, gs, n, rfl, hv, hu', hf, hwf, hn, hg, k⟩ := h
  refine ⟨_, (pss_cons (ps_set (i := 2) sc_asked_name.nd rfl (Or.inl rfl) (pe_cl c_told_by hr (by omega) (by rfl) (pa_cons (pe_ix ix_T (pv 0) pe_int (fun _ _ => rfl)) (pa_cons (pv 1) pa_nil))))
    (pss_cons (ps_if (PW.pt (pw_and (pt_cmpR op_eq (pe_ix ix_T (pv 2) pe_int (fun _ _ => rfl)) pe_str (nomark _)) (pw_and1 (pt_not (pt_val (pe_cl c_is_name hr (by omega) (by rfl) (pa_cons (pe_ix ix_T (pv 2) pe_int (fun _ _ => rfl)) pa_nil))))))) (pss_one (ps_ret (pe_tup (pa_cons pe_str (pa_cons pe_str pa_nil))))) pss_nil)
    (pss_one (ps_ret (pv 2))))), ?_⟩
  obtain ⟨d2, he2⟩ := encR_expr hf
  rw [he2] at hv
  have hdx : depthX (exprR r) < 2 := by cases exprR r <;> first | (show 0 < 2; decide) | (show 1 < 2; decide)
  refine ⟨_, rfl, _, _, _, rfl, hv, atI_nat (j := 1) rfl, fun v1 hv1 => ⟨_, rfl, v1, _, u, gs, n, rfl, hv1, hu', hwf, hn, hg, hdx, fun x H1 e1 h1 => ?_⟩⟩
  unfold nameT at k
  cases q : evalX gs (exprR r) with
  | fails w' =>
    rw [q] at h1 k
    obtain ⟨xa, xs, rfl, _, _⟩ := dp_tup h1
    refine ⟨_, rfl, _, _, _, rfl, h1, atI_nat (j := 0) rfl, fun v2 hv2 => ?_⟩
    obtain rfl := dp_str hv2
    exact ⟨rfl, _, rfl, iteF (iteF ⟨_, rfl, k _ _ e1 h1⟩)⟩
  | val d =>
    rw [q] at h1 k
    obtain ⟨xa, xs, rfl, _, _⟩ := dp_tup h1
    have hd := ok_evalX hg hn hwf q
    refine ⟨_, rfl, _, _, _, rfl, h1, atI_nat (j := 0) rfl, fun v2 hv2 => ?_⟩
    obtain rfl := dp_str hv2
    refine ⟨rfl, _, rfl, iteT ⟨_, rfl, _, _, _, rfl, h1, atI_nat (j := 1) rfl, fun v3 hv3 => ⟨v3, d, rfl, hv3, (okV_stamp hd).1, fun y H2 e2 hy => ?_⟩⟩⟩
    obtain rfl := dp_bl hy
    refine ⟨_, rfl, iteNB (fun c => ?_) (fun c => ?_)⟩
    · have k : ∀ x H', Ex H H' → Dp K H' x (encT (if isName d = true then Tld.val d else .fails "name")) → Q x H' := k
      rw [if_neg (by rw [c]; exact Bool.false_ne_true)] at k
      exact ⟨(show 2 ≤ sizeLine by decide), tup_new (.cons (.str _) (.one (.str _))) fun p H3 e3 h3 => k _ _ ((e1.trans e2).trans e3) h3⟩
    · have k : ∀ x H', Ex H H' → Dp K H' x (encT (if isName d = true then Tld.val d else .fails "name")) → Q x H' := k
      rw [if_pos c] at k
      exact ⟨_, rfl, k _ _ (e1.trans e2) (h1.up e2)⟩
theorem c_along (W : Wld K mg) : Cal P w K mg base 15 "along" (spAlong K) := by
  have c_told_by : Cal P w K mg base 14 "told_by" _ := c_told_by W 2
  refine cal_of W.d_along sc_along (fun vs H Q E h => ?_) (fun f cdv A outer s H vs Q E hr h => ?_)
  · obtain ⟨v, r, u, gs, n, rfl, _⟩ := h
    rfl
  obtain ⟨v, r, u, gs, n, rfl, hv, hu', hwf, hn, hg, k⟩ := h
  have hu := hu_of hr
  refine ⟨_, (pss_cons (ps_while PassesOwn.never (pt_cmpR op_eq (pe_ix ix_T (pv 0) pe_int (fun _ _ => rfl)) pe_str (nomark _)) (pss_cons (ps_set (i := 2) sc_along.nd rfl (Or.inl rfl) (pe_cl c_told_by hr (by omega) (by rfl) (pa_cons (pe_ix ix_T (pv 0) pe_int (fun _ _ => rfl)) (pa_cons (pv 1) pa_nil))))
    (pss_cons (ps_if (pt_cmpR op_eq (pe_ix ix_T (pv 2) pe_int (fun _ _ => rfl)) pe_str (nomark _)) (pss_one (ps_ret (pe_tup (pa_cons pe_str (pa_cons (pe_ix ix_T (pv 2) pe_int (fun _ _ => rfl)) pa_nil))))) pss_nil)
    (pss_one (ps_set (i := 0) sc_along.nd rfl (Or.inl rfl) (pe_ifExp (pt_cmpR (op_inT (hu65 hr)) (pe_ix ix_T (pv 2) pe_int (fun _ _ => rfl)) (C8.pe_gc (by rfl) W.g_NOTHINGS) (by rfl)) (pe_ix ix_T (pv 0) pe_int (fun _ _ => rfl)) (pe_ix ix_T (pv 0) pe_int (fun _ _ => rfl))))))))
    (pss_one (ps_ret (pv 0)))), ?_⟩
  refine ⟨fun m σ' H' => ∃ (v' : V) (r' : Rc) (x : Option V), m = depthR r' ∧ Ex H H' ∧ Dp K H' v' (encR r') ∧ wfR n r' = true ∧ alongM gs r' = alongM gs r ∧ σ' = [some v', some u, x], ⟨_, v, r, _, rfl, Same.refl _, hv, hwf, rfl, rfl⟩, ?_⟩
  rintro m _ H1 ⟨v', r', x, rfl, e1, hv', hwf', ha, rfl⟩
  obtain ⟨d1, he⟩ := encR_head (r := r')
  have hv'' := hv'
  rw [he] at hv''
  refine ⟨_, rfl, _, _, _, rfl, hv'', atI_nat (j := 0) rfl, fun v0 hv0 => ?_⟩
  obtain rfl := dp_str hv0
  refine ⟨rfl, _, rfl, ?_⟩
  by_cases hw : ∃ e a b, r' = .when_ e a b
  case neg =>
    have hd : decide (V.str (headR r') = V.str "when") = false := by
      cases r' with
      | say e => exact (show decide (V.str "say" = V.str "when") = false by decide +kernel)
      | fail w => exact (show decide (V.str "fail" = V.str "when") = false by decide +kernel)
      | ask p e r => cases p with
        | false => exact (show decide (V.str "want" = V.str "when") = false by decide +kernel)
        | true => exact (show decide (V.str "peek" = V.str "when") = false by decide +kernel)
      | when_ e a b => exact absurd ⟨e, a, b, rfl⟩ hw
    rw [hd]
    have hr' : alongM gs r' = r' := by
      cases r' with
      | when_ e a b => exact absurd ⟨e, a, b, rfl⟩ hw
      | say e => rfl
      | fail w => rfl
      | ask p e r => rfl
    refine iteF ⟨_, rfl, k _ _ e1 ?_⟩
    rw [← ha, hr']
    exact hv'
  obtain ⟨e, a, b, rfl⟩ := hw
  have h1 := (Bool.and_eq_true _ _).mp (show (wfX n e && (wfR n a && wfR n b)) = true from hwf')
  have h2 := (Bool.and_eq_true _ _).mp h1.2
  have hdx : depthX e < 2 := by cases e <;> first | (show 0 < 2; decide) | (show 1 < 2; decide)
  refine iteT ⟨fun σ' H' => ∃ (v' : V) (r' : Rc) (x : Option V), depthR r' < depthR (.when_ e a b) ∧ Ex H H' ∧ Dp K H' v' (encR r') ∧ wfR n r' = true ∧ alongM gs r' = alongM gs r ∧ σ' = [some v', some u, x], ?_, ?_⟩
  · rintro σ' H' ⟨v', r', x, hm, rest⟩
    exact ⟨_, hm, v', r', x, rfl, rest⟩
  refine ⟨_, rfl, _, _, _, rfl, hv', atI_nat (j := 1) rfl, fun v1 hv1 => ⟨_, rfl, v1, e, u, gs, n, rfl, hv1, hu'.up e1, h1.1, hn, hg, hdx, fun y H2 e2 hy => ?_⟩⟩
  have hvv := hv'.up e2
  rw [alongM] at ha
  cases q : evalX gs e with
  | fails w' =>
    rw [q] at hy ha
    have hy : Dp K H2 y (.tuple [.str "fails", .str w']) := hy
    refine ⟨_, rfl, _, _, _, rfl, hy, atI_nat (j := 0) rfl, fun v2 hv2 => ?_⟩
    obtain rfl := dp_str hv2
    refine ⟨rfl, _, rfl, iteT ⟨_, rfl, _, _, _, rfl, hy, atI_nat (j := 1) rfl, fun v3 hv3 => ⟨(show 2 ≤ sizeLine by decide), tup_new (.cons (.str _) (.one hv3)) fun p H3 e3 h3 => k _ _ ((e1.trans e2).trans e3) ?_⟩⟩⟩
    rw [← ha]
    exact h3
  | val d =>
    rw [q] at hy ha
    have hy : Dp K H2 y (.tuple [.str "value", d]) := hy
    have hd := ok_evalX hg hn h1.1 q
    refine ⟨_, rfl, _, _, _, rfl, hy, atI_nat (j := 0) rfl, fun v2 hv2 => ?_⟩
    obtain rfl := dp_str hv2
    refine ⟨rfl, _, rfl, iteF ⟨_, rfl, _, _, _, rfl, hy, atI_nat (j := 1) rfl, fun v3 hv3 => ⟨d, _, hv3, W.t_NOTHINGS _, okV_shaped hd, by decide +kernel, _, rfl, iteB (fun c => ?_) (fun c => ?_)⟩⟩⟩
    · have ha : (if nothD d = true then alongM gs b else alongM gs a) = alongM gs r := ha
      rw [if_pos (show nothD d = true from c)] at ha
      refine ⟨_, rfl, _, _, _, rfl, hvv, atI_nat (j := 3) rfl, fun v4 hv4 => ?_⟩
      exact ⟨v4, b, _, by rw [depthR]; omega, e1.trans e2, hv4, h2.2, ha, rfl⟩
    · have ha : (if nothD d = true then alongM gs b else alongM gs a) = alongM gs r := ha
      rw [if_neg (show ¬ nothD d = true by rw [show nothD d = false from c]; exact Bool.false_ne_true)] at ha
      refine ⟨_, rfl, _, _, _, rfl, hvv, atI_nat (j := 2) rfl, fun v4 hv4 => ?_⟩
      exact ⟨v4, a, _, by rw [depthR]; omega, e1.trans e2, hv4, h2.1, ha, rfl⟩
theorem c_end_at (W : Wld K mg) : Cal P w K mg base 16 "end_at" (spEndAt K) := by
  have c_told_by : Cal P w K mg base 14 "told_by" _ := c_told_by W 2
  have c_asked_name : Cal P w K mg base 15 "asked_name" _ := c_asked_name W
  refine cal_of W.d_end_at sc_end_at (fun vs H Q E h => ?_) (fun f cdv A outer s H vs Q E hr h => ?_)
  · obtain ⟨v, r, u, gs, n, rfl, _⟩ := h
    rfl
  obtain ⟨v, r, u, gs, n, rfl, hv, hu', hwf, hnw, hn, hg, k⟩ := h
  refine ⟨_, (pss_cons (ps_if (pt_cmpR op_eq (pe_ix ix_T (pv 0) pe_int (fun _ _ => rfl)) pe_str (nomark _)) (pss_one (ps_ret (pe_tup (pa_cons pe_str (pa_cons (pe_ix ix_T (pv 0) pe_int (fun _ _ => rfl)) pa_nil))))) pss_nil)
    (pss_cons (ps_if (pt_cmpR op_eq (pe_ix ix_T (pv 0) pe_int (fun _ _ => rfl)) pe_str (nomark _)) (pss_cons (ps_set (i := 2) sc_end_at.nd rfl (Or.inl rfl) (pe_cl c_told_by hr (by omega) (by rfl) (pa_cons (pe_ix ix_T (pv 0) pe_int (fun _ _ => rfl)) (pa_cons (pv 1) pa_nil))))
    (pss_cons (ps_if (pt_cmpR op_eq (pe_ix ix_T (pv 2) pe_int (fun _ _ => rfl)) pe_str (nomark _)) (pss_one (ps_ret (pv 2))) pss_nil)
    (pss_one (ps_ret (pe_tup (pa_cons pe_str (pa_cons (pe_ix ix_T (pv 2) pe_int (fun _ _ => rfl)) pa_nil))))))) pss_nil)
    (pss_cons (ps_set (i := 2) sc_end_at.nd rfl (Or.inl rfl) (pe_cl c_asked_name hr (by omega) (by rfl) (pa_cons (pv 0) (pa_cons (pv 1) pa_nil))))
    (pss_cons (ps_if (pt_cmpR op_eq (pe_ix ix_T (pv 2) pe_int (fun _ _ => rfl)) pe_str (nomark _)) (pss_one (ps_ret (pv 2))) pss_nil)
    (pss_one (ps_ret pe_non)))))), ?_⟩
  cases r with
  | when_ e a b => exact absurd rfl (hnw e a b)
  | fail w' =>
    refine ⟨_, rfl, _, _, _, rfl, hv, atI_nat (j := 0) rfl, fun v0 hv0 => ?_⟩
    obtain rfl := dp_str hv0
    exact ⟨rfl, _, rfl, iteT ⟨_, rfl, _, _, _, rfl, hv, atI_nat (j := 1) rfl, fun v1 hv1 => ⟨(show 2 ≤ sizeLine by decide), tup_new (.cons (.str _) (.one hv1)) fun p H3 e3 h3 => k _ _ e3 h3⟩⟩⟩
  | say e =>
    have hdx : depthX e < 2 := by cases e <;> first | (show 0 < 2; decide) | (show 1 < 2; decide)
    refine ⟨_, rfl, _, _, _, rfl, hv, atI_nat (j := 0) rfl, fun v0 hv0 => ?_⟩
    obtain rfl := dp_str hv0
    refine ⟨rfl, _, rfl, iteF ⟨_, rfl, _, _, _, rfl, hv, atI_nat (j := 0) rfl, fun v0 hv0 => ?_⟩⟩
    obtain rfl := dp_str hv0
    refine ⟨rfl, _, rfl, iteT ⟨_, rfl, _, _, _, rfl, hv, atI_nat (j := 1) rfl, fun v1 hv1 => ⟨_, rfl, v1, e, u, gs, n, rfl, hv1, hu', hwf, hn, hg, hdx, fun y H2 e2 hy => ?_⟩⟩⟩
    rw [endM] at k
    cases q : evalX gs e with
    | fails w' =>
      rw [q] at hy k
      have hy : Dp K H2 y (.tuple [.str "fails", .str w']) := hy
      refine ⟨_, rfl, _, _, _, rfl, hy, atI_nat (j := 0) rfl, fun v2 hv2 => ?_⟩
      obtain rfl := dp_str hv2
      exact ⟨rfl, _, rfl, iteT ⟨_, rfl, k _ _ e2 hy⟩⟩
    | val d =>
      rw [q] at hy k
      have hy : Dp K H2 y (.tuple [.str "value", d]) := hy
      refine ⟨_, rfl, _, _, _, rfl, hy, atI_nat (j := 0) rfl, fun v2 hv2 => ?_⟩
      obtain rfl := dp_str hv2
      exact ⟨rfl, _, rfl, iteF ⟨_, rfl, _, _, _, rfl, hy, atI_nat (j := 1) rfl, fun v3 hv3 => ⟨(show 2 ≤ sizeLine by decide), tup_new (.cons (.str _) (.one hv3)) fun p H3 e3 h3 => k _ _ (e2.trans e3) h3⟩⟩⟩
  | ask p e r =>
    have h1 := (Bool.and_eq_true _ _).mp (show (wfX n e && wfR (n + 1) r) = true from hwf)
    have n1 : decide (V.str (askS p) = V.str "fail") = false := by
      cases p with
      | false => exact (show decide (V.str "want" = V.str "fail") = false by decide +kernel)
      | true => exact (show decide (V.str "peek" = V.str "fail") = false by decide +kernel)
    have n2 : decide (V.str (askS p) = V.str "say") = false := by
      cases p with
      | false => exact (show decide (V.str "want" = V.str "say") = false by decide +kernel)
      | true => exact (show decide (V.str "peek" = V.str "say") = false by decide +kernel)
    refine ⟨_, rfl, _, _, _, rfl, hv, atI_nat (j := 0) rfl, fun v0 hv0 => ?_⟩
    obtain rfl := dp_str hv0
    refine ⟨rfl, _, rfl, ?_⟩
    rw [n1]
    refine iteF ⟨_, rfl, _, _, _, rfl, hv, atI_nat (j := 0) rfl, fun v0 hv0 => ?_⟩
    obtain rfl := dp_str hv0
    refine ⟨rfl, _, rfl, ?_⟩
    rw [n2]
    refine iteF ⟨_, rfl, _, rfl, v, .ask p e r, u, gs, n, rfl, hv, hu', (fun w z => by cases z), h1.1, hn, hg, fun y H2 e2 hy => ?_⟩
    rw [endM] at k
    have hy : Dp K H2 y (encT (nameT gs e)) := hy
    cases q : nameT gs e with
    | fails w' =>
      rw [q] at hy k
      have hy : Dp K H2 y (.tuple [.str "fails", .str w']) := hy
      refine ⟨_, rfl, _, _, _, rfl, hy, atI_nat (j := 0) rfl, fun v2 hv2 => ?_⟩
      obtain rfl := dp_str hv2
      exact ⟨rfl, _, rfl, iteT ⟨_, rfl, k _ _ e2 hy⟩⟩
    | val d =>
      rw [q] at hy k
      have hy : Dp K H2 y (.tuple [.str "value", d]) := hy
      refine ⟨_, rfl, _, _, _, rfl, hy, atI_nat (j := 0) rfl, fun v2 hv2 => ?_⟩
      obtain rfl := dp_str hv2
      exact ⟨rfl, _, rfl, iteF (k _ _ e2 .non)⟩
end
end Wk
namespace Wk
open PySem PySem.Spec PyProof.Rows L2 SX
theorem desc_end {gs : List PyData} {reads peeks : List Pr} {used : Nat} {r : Rc} {o : Out} (h : endM gs r = some o) : desc r gs reads peeks used = fin reads used o := by
  cases r with
  | when_ e a b => cases h
  | fail w =>
    have e : Out.fails w = o := by
      rw [endM] at h
      injection h
    rw [desc, e]
  | say e =>
    rw [endM] at h
    rw [desc]
    cases q : evalX gs e with
    | fails w => rw [q] at h; injection h with h; rw [← h]
    | val d => rw [q] at h; injection h with h; rw [← h]
  | ask p e r =>
    rw [endM] at h
    rw [desc]
    cases q : nameT gs e with
    | fails w => rw [q] at h; injection h with h; rw [← h]
    | val d => rw [q] at h; cases h
theorem endM_none {gs : List PyData} {r : Rc} (hn : ∀ e a b, r ≠ .when_ e a b) (h : endM gs r = none) : ∃ p e r1 z, r = .ask p e r1 ∧ nameT gs e = .val (.str z) := by
  cases r with
  | when_ e a b => exact absurd rfl (hn e a b)
  | fail w => cases h
  | say e =>
    rw [endM] at h
    cases q : evalX gs e with
    | fails w => rw [q] at h; cases h
    | val d => rw [q] at h; cases h
  | ask p e r =>
    rw [endM] at h
    cases q : nameT gs e with
    | fails w => rw [q] at h; cases h
    | val d =>
      obtain ⟨z, rfl, _⟩ := nameT_val q
      exact ⟨p, e, r, z, rfl, q⟩
theorem nextB_some {rows : List Pr} {k : Nat} {n : Str} (h : nextB rows k n = true) : ∃ q, rows[k]? = some q ∧ q.1 = n := by
  unfold nextB at h
  cases e : rows[k]? with
  | none => rw [e] at h; cases h
  | some q => rw [e] at h; exact ⟨q, rfl, of_decide_eq_true h⟩
theorem dp_newT {K : PySem.W.Frag} {H : Hp} {p : Addr} {xs : List V} {ds : List PyData} (hp : H p = none) (h : DpAll K H xs ds) : Dp K (upd H p (.tup xs)) (.ref p) (.tuple ds) := by
  refine tup_new (Q := fun v H' => Dp K H' v (.tuple ds)) h (fun p H' e d => d) p hp
theorem drop_get {α : Type} {xs : List α} {k : Nat} {q : α} (h : xs[k]? = some q) : xs.drop k = q :: xs.drop (k + 1) := by
  obtain ⟨hk, e⟩ := List.getElem?_eq_some_iff.mp h
  rw [List.drop_eq_getElem_cons hk, e]
theorem desc_peek_yes {gs : List PyData} {e : Xp} {r : Rc} {z : Str} {reads peeks : List Pr} {used k : Nat} {q : Pr} (hz : nameT gs e = .val (.str z)) (h : peeks[k]? = some q) (hq : q.1 = z) :
    desc (.ask true e r) gs reads (peeks.drop k) used = desc r (gs ++ [q.2]) reads (peeks.drop (k + 1)) used := by
  rw [desc, hz, drop_get h]
  show (if q.1 = z then _ else _) = _
  rw [if_pos hq]
theorem desc_peek_no {gs : List PyData} {e : Xp} {r : Rc} {z : Str} {reads peeks : List Pr} {used k : Nat} (hz : nameT gs e = .val (.str z)) (h : nextB peeks k z = false) :
    desc (.ask true e r) gs reads (peeks.drop k) used = fin reads used (.peeks z) := by
  rw [desc, hz]
  unfold nextB at h
  cases q : peeks[k]? with
  | none =>
    rw [List.drop_of_length_le (List.getElem?_eq_none_iff.mp q)]
    rfl
  | some q' =>
    rw [q] at h
    rw [drop_get q]
    show (if q'.1 = z then _ else _) = _
    rw [if_neg (of_decide_eq_false h)]
    rfl
theorem desc_want_none {gs : List PyData} {e : Xp} {r : Rc} {z : Str} {reads peeks : List Pr} {used k : Nat} (hz : nameT gs e = .val (.str z)) (h : reads.length ≤ k) :
    desc (.ask false e r) gs (reads.drop k) peeks used = .wants z := by
  rw [desc, hz, List.drop_of_length_le h]
  rfl
theorem desc_want_no {gs : List PyData} {e : Xp} {r : Rc} {z : Str} {reads peeks : List Pr} {used k : Nat} (hz : nameT gs e = .val (.str z)) (hk : k < reads.length) (h : nextB reads k z = false) :
    desc (.ask false e r) gs (reads.drop k) peeks used = .strays used := by
  rw [desc, hz]
  unfold nextB at h
  have q := List.getElem?_eq_getElem hk
  rw [q] at h
  rw [drop_get q]
  show (if reads[k].1 = z then _ else _) = _
  rw [if_neg (of_decide_eq_false h)]
theorem desc_want_yes {gs : List PyData} {e : Xp} {r : Rc} {z : Str} {reads peeks : List Pr} {used k : Nat} {q : Pr} (hz : nameT gs e = .val (.str z)) (h : reads[k]? = some q) (hq : q.1 = z) :
    desc (.ask false e r) gs (reads.drop k) peeks used = desc r (gs ++ [q.2]) (reads.drop (k + 1)) peeks (used + 1) := by
  rw [desc, hz, drop_get h]
  show (if q.1 = z then _ else _) = _
  rw [if_pos hq]
def prOk (ps : List Pr) : Prop := ∀ q ∈ ps, okV q.2 = true
def spReplay (K : PySem.W.Frag) : Sp := fun vs H Q _ => ∃ v r u reads x peeks, vs = [v, u, x] ∧ Dp K H v (encR r) ∧ Dp K H u (.list (reads.map encP)) ∧ Dp K H x (.list (peeks.map encP)) ∧ wfR 0 r = true ∧ reads.length ≤ 1000 ∧ peeks.length ≤ 1000 ∧ prOk reads ∧ prOk peeks ∧
  ∀ y H', Ex H H' → Dp K H' y (encO (replayM r reads peeks)) → Q y H'
def repInv (K : PySem.W.Frag) (H : Hp) (g : Addr) (u x : V) (reads peeks : List Pr) (tot : Out) (m : Nat) (σ : L2.St) (H' : Hp) : Prop :=
  ∃ (r : Rc) (gs : List PyData) (vals : List V) (used : Nat) (E : Option Out) (name : Option V) (vv ev : V), σ = [some vv, some u, some x, some (.ref g), some (.int ((used : Nat) : Int)), some ev, name] ∧
    Ex H H' ∧ H' g = some (.lst vals) ∧ DpAll K H' vals gs ∧ okAll gs ∧ wfR gs.length r = true ∧ Dp K H' vv (encR r) ∧ Dp K H' ev (optO E) ∧ used ≤ reads.length ∧ used ≤ gs.length ∧ gs.length - used ≤ peeks.length ∧
    ((E = none ∧ m = depthR r + 1 ∧ (∃ p e r1 z, r = .ask p e r1 ∧ nameT gs e = .val (.str z)) ∧ tot = desc r gs (reads.drop used) (peeks.drop (gs.length - used)) used) ∨ ∃ o, E = some o ∧ m = 0 ∧ tot = fin (reads.drop used) used o)
theorem immOut {o : Option Out} (h : ∀ d, o = some (.made d) → okV d = true) : imm (optO o) = true := by
  cases o with
  | none => rfl
  | some o =>
    cases o with
    | made d =>
      show (true && (imm d && true)) = true
      rw [imm_vp (h d rfl)]
      rfl
    | fails w => rfl
    | wants n => rfl
    | peeks n => rfl
    | strays k => rfl
theorem endM_ok {gs : List PyData} {n : Nat} {r : Rc} (hg : okAll gs) (hn : n ≤ gs.length) (hw : wfR n r = true) : ∀ d, endM gs r = some (.made d) → okV d = true := by
  intro d h
  cases r with
  | when_ e a b => cases h
  | fail w => cases h
  | say e =>
    rw [endM] at h
    cases q : evalX gs e with
    | fails w => rw [q] at h; cases h
    | val d' =>
      rw [q] at h
      injection h with h
      injection h with h
      subst h
      exact ok_evalX hg hn hw q
  | ask p e r =>
    rw [endM] at h
    cases q : nameT gs e with
    | fails w => rw [q] at h; cases h
    | val d => rw [q] at h; cases h
theorem immAll_ok : ∀ {gs : List PyData}, okAll gs → immAll gs = true
  | [], _ => rfl
  | d :: ds, h => by
    rw [immAll, imm_vp (h d List.mem_cons_self), immAll_ok fun x hx => h x (List.mem_cons_of_mem _ hx)]
    rfl
section
variable {P : Program} {w : World} {K : PySem.W.Frag} {mg : Str → Option Value} {base : Heap}
theorem c_replay (W : Wld K mg) : Cal P w K mg base 17 "replay" (spReplay K) := by
  have c_along : Cal P w K mg base 15 "along" _ := c_along W
  have c_end_at : Cal P w K mg base 16 "end_at" _ := c_end_at W
  have c_asked_name : Cal P w K mg base 15 "asked_name" _ := c_asked_name W
  have c_is_next : Cal P w K mg base 1 "is_next" _ := c_is_next W
  refine cal_of W.d_replay sc_replay (fun vs H Q E h => ?_) (fun f cdv A outer s H vs Q E hr h => ?_)
  · obtain ⟨v, r, u, reads, x, peeks, rfl, _⟩ := h
    rfl
  obtain ⟨v, r, u, reads, x, peeks, rfl, hv, hu', hx', hwf, hlr, hlp, okr, okp, k⟩ := h
  refine ⟨_, (pss_cons (ps_set (i := 3) sc_replay.nd rfl (Or.inl rfl) (pe_lst pa_nil))
    (pss_cons (ps_set (i := 4) sc_replay.nd rfl (Or.inl rfl) pe_int)
    (pss_cons (ps_set (i := 0) sc_replay.nd rfl (Or.inl rfl) (pe_cl c_along hr (by omega) (by rfl) (pa_cons (pv 0) (pa_cons (pv 3) pa_nil))))
    (pss_cons (ps_set (i := 5) sc_replay.nd rfl (Or.inl rfl) (pe_cl c_end_at hr (by omega) (by rfl) (pa_cons (pv 0) (pa_cons (pv 3) pa_nil))))
    (pss_cons (ps_while PassesOwn.never (pt_cmpR op_isN (pv 5) pe_non (nomark _)) (pss_cons (ps_set (i := 6) sc_replay.nd rfl (Or.inl rfl) (pe_ix ix_T (pe_cl c_asked_name hr (by omega) (by rfl) (pa_cons (pv 0) (pa_cons (pv 3) pa_nil))) pe_int (fun _ _ => rfl)))
    (C8.pss_cut (ps_if (pt_cmpR op_eq (pe_ix ix_T (pv 0) pe_int (fun _ _ => rfl)) pe_str (nomark _)) (pss_one (ps_if (pt_not (pt_val (pe_cl c_is_next hr (by omega) (by rfl) (pa_cons (pv 2) (pa_cons (pe_op op_sub (pe_callB call_lenA (by rfl) W.f_len bt_len (pa_cons (pv 3) pa_nil)) (pv 4)) (pa_cons (pv 6) pa_nil)))))) (pss_one (ps_set (i := 5) sc_replay.nd rfl (Or.inl rfl) (pe_tup (pa_cons pe_str (pa_cons (pv 6) pa_nil))))) (pss_one (ps_expr (pe_bm PySem.F.plainAttrs_list PySem.F.slot_list_append PySem.F.type_list_append mt_append (pv 3) (pa_cons (pe_ix ix_T (pe_ix ix_L (pv 2) (pe_op op_sub (pe_callB call_lenA (by rfl) W.f_len bt_len (pa_cons (pv 3) pa_nil)) (pv 4)) (fun _ _ => rfl)) pe_int (fun _ _ => rfl)) pa_nil)))))) (pss_one (ps_if (pt_cmpR op_eq (pv 4) (pe_callB call_lenDp (by rfl) W.f_len bt_len (pa_cons (pv 1) pa_nil)) (nomark _)) (pss_one (ps_ret (pe_tup (pa_cons pe_str (pa_cons (pv 6) pa_nil))))) (pss_one (ps_if (pt_not (pt_val (pe_cl c_is_next hr (by omega) (by rfl) (pa_cons (pv 1) (pa_cons (pv 4) (pa_cons (pv 6) pa_nil)))))) (pss_one (ps_ret (pe_tup (pa_cons pe_str (pa_cons (pv 4) pa_nil))))) (pss_cons (ps_expr (pe_bm PySem.F.plainAttrs_list PySem.F.slot_list_append PySem.F.type_list_append mt_append (pv 3) (pa_cons (pe_ix ix_T (pe_ix ix_L (pv 1) (pv 4) (fun _ _ => rfl)) pe_int (fun _ _ => rfl)) pa_nil)))
    (pss_one (ps_set (i := 4) sc_replay.nd rfl (Or.inl rfl) (pe_op op_add (pv 4) pe_int)))))))))
    (pss_one (ps_if (pt_cmpR op_isN (pv 5) pe_non (nomark _)) (pss_cons (ps_set (i := 0) sc_replay.nd rfl (Or.inl rfl) (pe_cl c_along hr (by omega) (by rfl) (pa_cons (pe_ix ix_T (pv 0) pe_int (fun _ _ => rfl)) (pa_cons (pv 3) pa_nil))))
    (pss_one (ps_set (i := 5) sc_replay.nd rfl (Or.inl rfl) (pe_cl c_end_at hr (by omega) (by rfl) (pa_cons (pv 0) (pa_cons (pv 3) pa_nil)))))) pss_nil)))))
    (pss_cons (ps_if (pt_cmpR op_lt (pv 4) (pe_callB call_lenDp (by rfl) W.f_len bt_len (pa_cons (pv 1) pa_nil)) (nomark _)) (pss_one (ps_ret (pe_tup (pa_cons pe_str (pa_cons (pv 4) pa_nil))))) pss_nil)
    (pss_one (ps_ret (pv 5))))))))), ?_⟩
  refine ⟨Nat.zero_le _, fun g hg => ?_⟩
  have e1 : Ex H (upd H g (.lst [])) := Ex.new hg
  have h1 : (upd H g (.lst [])) g = some (.lst []) := upd_same
  generalize upd H g (.lst []) = H1 at e1 h1 ⊢
  have nil0 : okAll [] := fun d hd => by cases hd
  refine ⟨_, rfl, _, rfl, v, r, .ref g, [], 0, rfl, hv.up e1, .lst (SqL.of h1) .nil, hwf, Nat.le_refl _, nil0, fun v2 H2 e2 hv2 => ?_⟩
  have h2 := e2 _ _ h1
  have wf2 := wf_along [] r hwf
  refine ⟨_, rfl, _, rfl, v2, alongM [] r, .ref g, [], 0, rfl, hv2, .lst (SqL.of h2) .nil, wf2, alongM_not [] r, Nat.le_refl _, nil0, fun ev H3 e3 hev => ?_⟩
  have h3 := e3 _ _ h2
  have etot : replayM r reads peeks = desc (alongM [] r) [] reads peeks 0 := desc_along [] reads peeks 0 r
  have start : ∃ m, repInv K H g u x reads peeks (replayM r reads peeks) m [some v2, some u, some x, some (.ref g), some (.int 0), some ev, none] H3 := by
    cases q : endM [] (alongM [] r) with
    | none =>
      rw [q] at hev
      exact ⟨_, alongM [] r, [], [], 0, none, _, v2, ev, rfl, (e1.trans e2).trans e3, h3, .nil, nil0, wf2, hv2.up e3, hev, Nat.zero_le _, Nat.zero_le _, Nat.zero_le _, .inl ⟨rfl, rfl, endM_none (alongM_not [] r) q, etot⟩⟩
    | some o =>
      rw [q] at hev
      exact ⟨_, alongM [] r, [], [], 0, some o, _, v2, ev, rfl, (e1.trans e2).trans e3, h3, .nil, nil0, wf2, hv2.up e3, hev, Nat.zero_le _, Nat.zero_le _, Nat.zero_le _, .inr ⟨o, rfl, rfl, by rw [etot, desc_end q]; rfl⟩⟩
  refine ⟨repInv K H g u x reads peeks (replayM r reads peeks), start, ?_⟩
  clear start hev wf2 hv2 h2 h3 e1 e2 e3 h1 etot
  rintro m _ H4 ⟨r', gs, vals, used, E, name, vv, ev, rfl, e4, h4, d4, ok4, wf4, hvv, hev, hur, hug, hgp, hE⟩
  have hlen := d4.length
  have er : reads.length = (reads.map encP).length := (List.length_map _).symm
  have dg : Dp K H4 (.ref g) (.list gs) := .lst (SqL.of h4) d4
  rcases hE with ⟨rfl, rfl, ⟨p, e, r1, z, rfl, hz⟩, htot⟩ | ⟨o, rfl, rfl, htot⟩
  case inr =>
    -- the end
    have hev' : Dp K H4 ev (encO o) := hev
    obtain ⟨fa, fxs, rfl, _, _⟩ : ∃ a xs, ev = .ref a ∧ SqT K H4 a xs ∧ True := by
      cases o <;> (obtain ⟨a, xs, h1, h2, _⟩ := dp_tup hev'; exact ⟨a, xs, h1, h2, trivial⟩)
    refine ⟨_, rfl, rfl, _, rfl, iteF ?_⟩
    refine ⟨_, rfl, _, rfl, _, _, rfl, hu'.up e4, rfl, sz100 (by show (reads.map encP).length ≤ _; omega), _, _, rfl, rfl, _, rfl, iteD (fun c => ?_) (fun c => ?_)⟩
    · have c : ((used : Nat) : Int) < (((reads.map encP).length : Nat) : Int) := c
      have hne : (reads.drop used).isEmpty = false := by
        rw [List.isEmpty_eq_false_iff]
        intro q
        have := congrArg List.length q
        rw [List.length_drop, List.length_nil] at this
        omega
      rw [fin, hne] at htot
      have k : ∀ y H', Ex H H' → Dp K H' y (encO (replayM r reads peeks)) → Q y H' := k
      rw [htot] at k
      exact ⟨_, rfl, (show 2 ≤ sizeLine by decide), tup_new (.cons (.str _) (.one (.int _))) fun p H5 e5 h5 => k _ _ (e4.trans e5) h5⟩
    · have c : ¬ ((used : Nat) : Int) < (((reads.map encP).length : Nat) : Int) := c
      have hne : (reads.drop used).isEmpty = true := by
        rw [List.isEmpty_iff]
        exact List.drop_of_length_le (by omega)
      rw [fin, hne] at htot
      have k : ∀ y H', Ex H H' → Dp K H' y (encO (replayM r reads peeks)) → Q y H' := k
      rw [htot] at k
      exact ⟨_, rfl, k _ _ e4 hev⟩
  -- a want or a peek
  obtain rfl := dp_non hev
  refine ⟨_, rfl, rfl, _, rfl, iteT ⟨fun σ' H' => ∃ m', m' < depthR (.ask p e r1) + 1 ∧ repInv K H g u x reads peeks (replayM r reads peeks) m' σ' H', fun _ _ h => h, ?_⟩⟩
  have hwe := (Bool.and_eq_true _ _).mp (show (wfX gs.length e && wfR (gs.length + 1) r1) = true from wf4)
  refine ⟨_, rfl, _, rfl, vv, .ask p e r1, .ref g, gs, gs.length, rfl, hvv, dg, (fun w z => by cases z), hwe.1, Nat.le_refl _, ok4, fun y5 H5 e5 hy5 => ?_⟩
  have hy5 : Dp K H5 y5 (encT (nameT gs e)) := hy5
  rw [hz] at hy5
  have h5 := e5 _ _ h4
  have d5 := d4.up e5
  have hvv5 := hvv.up e5
  have E5 := e4.trans e5
  clear hvv d4 h4 dg
  refine ⟨_, _, _, rfl, hy5, atI_nat (j := 1) rfl, fun v6 hv6 => ?_⟩
  obtain rfl := dp_str hv6
  have hi := immR wf4
  have isz := (isName_str (show isName (.str z) = true from (by
    obtain ⟨z', q1, q2, _⟩ := nameT_val hz
    cases q1
    exact q2))).choose_spec
  have htot0 := htot
  refine ⟨fun σ' H' => ∃ (gs' : List PyData) (vals' : List V) (used' : Nat) (E : Option Out) (ev' : V), σ' = [some vv, some u, some x, some (.ref g), some (.int ((used' : Nat) : Int)), some ev', some (.str z)] ∧
    Ex H H' ∧ H' g = some (.lst vals') ∧ DpAll K H' vals' gs' ∧ okAll gs' ∧ Dp K H' vv (encR (.ask p e r1)) ∧ Dp K H' ev' (optO E) ∧ used' ≤ reads.length ∧ used' ≤ gs'.length ∧ gs'.length - used' ≤ peeks.length ∧
    ((E = none ∧ gs'.length = gs.length + 1 ∧ replayM r reads peeks = desc r1 gs' (reads.drop used') (peeks.drop (gs'.length - used')) used') ∨ ∃ o, E = some o ∧ gs'.length = gs.length ∧ replayM r reads peeks = fin (reads.drop used') used' o), ?_, ?_⟩
  · -- got grows by one
    have grow : ∀ (H6 : Hp) (q : Pr) (used' : Nat) (y : V), Ex H5 H6 → okV q.2 = true → Dp K H6 y q.2 → used' ≤ reads.length → used' ≤ gs.length + 1 → gs.length + 1 - used' ≤ peeks.length →
        replayM r reads peeks = desc r1 (gs ++ [q.2]) (reads.drop used') (peeks.drop (gs.length + 1 - used')) used' →
        ∃ (gs' : List PyData) (vals' : List V) (used'' : Nat) (E : Option Out) (ev' : V), ([some vv, some u, some x, some (.ref g), some (.int ((used' : Nat) : Int)), some .non, some (.str z)] : L2.St) = [some vv, some u, some x, some (.ref g), some (.int ((used'' : Nat) : Int)), some ev', some (.str z)] ∧
    Ex H (upd H6 g (.lst (vals ++ [y]))) ∧ (upd H6 g (.lst (vals ++ [y]))) g = some (.lst vals') ∧ DpAll K (upd H6 g (.lst (vals ++ [y]))) vals' gs' ∧ okAll gs' ∧ Dp K (upd H6 g (.lst (vals ++ [y]))) vv (encR (.ask p e r1)) ∧ Dp K (upd H6 g (.lst (vals ++ [y]))) ev' (optO E) ∧ used'' ≤ reads.length ∧ used'' ≤ gs'.length ∧ gs'.length - used'' ≤ peeks.length ∧
    ((E = none ∧ gs'.length = gs.length + 1 ∧ replayM r reads peeks = desc r1 gs' (reads.drop used'') (peeks.drop (gs'.length - used'')) used'') ∨ ∃ o, E = some o ∧ gs'.length = gs.length ∧ replayM r reads peeks = fin (reads.drop used'') used'' o) := by
      intro H6 q used' y e6 okq hy hu1 hu2 hu3 ht
      have tt : Tu H6 (upd H6 g (.lst (vals ++ [y]))) := Tu.mut (e6 _ _ h5)
      have hlen' : (gs ++ [q.2]).length = gs.length + 1 := by rw [List.length_append]; rfl
      refine ⟨gs ++ [q.2], vals ++ [y], used', none, .non, rfl, Ex.mut (E5.trans e6) hg, upd_same, ?_, ?_, Dp.tu tt _ _ hi (hvv5.up e6), .non, hu1, by rw [hlen']; exact hu2, by rw [hlen']; exact hu3, .inl ⟨rfl, hlen', by rw [hlen']; exact ht⟩⟩
      · exact (DpAll.tu tt _ _ (immAll_ok ok4) (d5.up e6)).append (.one (Dp.tu tt _ _ (imm_vp okq) hy))
      · intro y hy
        rcases List.mem_append.mp hy with hy | hy
        · exact ok4 y hy
        · rw [List.mem_singleton.mp hy]
          exact okq
    refine ⟨_, rfl, _, _, _, rfl, hvv5, atI_nat (j := 0) rfl, fun v7 hv7 => ?_⟩
    obtain rfl := dp_str hv7
    refine ⟨rfl, _, rfl, ?_⟩
    have ek : (((vals.length : Nat) : Int) - ((used : Nat) : Int)) = (((gs.length - used : Nat) : Nat) : Int) := by rw [hlen]; omega
    cases p with
    | true =>
      rw [show decide (V.str (askS true) = V.str "peek") = true by decide +kernel]
      refine iteT ⟨_, rfl, _, rfl, _, _, rfl, .inl ⟨vals, SqL.of h5, rfl⟩, _, rfl, _, _, rfl, rfl, _, rfl, _, peeks, gs.length - used, z, by show [x, V.int (((vals.length : Nat) : Int) - ((used : Nat) : Int)), V.str z] = _; rw [ek], hx'.up E5, by omega, fun H6 e6 => ⟨_, rfl, iteNB (fun c => ?_) (fun c => ?_)⟩⟩
      · refine ⟨_, rfl, (show 2 ≤ sizeLine by decide), fun p7 hp7 => ?_⟩
        have e7 := Ex.new (o := .tup [.str "peeks", .str z]) hp7
        have h7 := dp_newT (K := K) hp7 (.cons (.str "peeks") (.one (.str z)))
        refine ⟨gs, vals, used, some (.peeks z), _, rfl, (E5.trans e6).trans e7, (e6.trans e7) _ _ h5, d5.up (e6.trans e7), ok4, hvv5.up (e6.trans e7), h7, hur, hug, hgp, .inr ⟨_, rfl, rfl, ?_⟩⟩
        rw [htot0, desc_peek_no hz c]
      · obtain ⟨q, hq0, hqz⟩ := nextB_some c
        have hq : (peeks.map encP)[gs.length - used]? = some (encP q) := by rw [List.getElem?_map, hq0]; rfl
        refine ⟨_, rfl, .inl ⟨rfl, _, SqL.of (e6 _ _ h5)⟩, _, rfl, _, rfl, _, _, rfl, .inl ⟨vals, SqL.of (e6 _ _ h5), rfl⟩, _, rfl, _, _, rfl, rfl, _, _, _, rfl, hx'.up (E5.trans e6), (show atI (peeks.map encP) (((vals.length : Nat) : Int) - ((used : Nat) : Int)) = some (encP q) by rw [ek]; exact atI_nat hq), fun v8 hv8 => ⟨_, _, _, rfl, hv8, atI_nat (j := 1) rfl, fun v9 hv9 => ?_⟩⟩
        refine ⟨g, _, _, rfl, rfl, e6 _ _ h5, szlt (show vals.length < 100000 by omega), ?_⟩
        have okq := okp q (List.mem_of_getElem? hq0)
        refine grow H6 q used v9 e6 okq hv9 hur (by omega) (by have := (List.getElem?_eq_some_iff.mp hq0).1; omega) ?_
        rw [htot0, desc_peek_yes hz hq0 hqz]
        congr 2
        omega
    | false =>
      rw [show decide (V.str (askS false) = V.str "peek") = false by decide +kernel]
      refine iteF ⟨_, rfl, _, rfl, _, _, rfl, hu'.up E5, rfl, sz100 (by show (reads.map encP).length ≤ _; omega), rfl, _, rfl, iteD (fun c => ?_) (fun c => ?_)⟩
      · have c : V.int ((used : Nat) : Int) = V.int (((reads.map encP).length : Nat) : Int) := c
        have c : used = reads.length := by
          injection c with c
          omega
        refine ⟨_, rfl, (show 2 ≤ sizeLine by decide), tup_new (K := K) (.cons (.str "wants") (.one (.str z))) fun p7 H7 e7 h7 => k _ _ (E5.trans e7) ?_⟩
        rw [htot0, desc_want_none hz (by omega)]
        exact h7
      · have c : ¬ V.int ((used : Nat) : Int) = V.int (((reads.map encP).length : Nat) : Int) := c
        have c : used < reads.length := by
          have : used ≠ reads.length := fun q => c (by rw [q, er])
          omega
        refine ⟨_, rfl, _, rfl, _, rfl, _, reads, used, z, rfl, hu'.up E5, by omega, fun H6 e6 => ⟨_, rfl, iteNB (fun c2 => ?_) (fun c2 => ?_)⟩⟩
        · refine ⟨_, rfl, (show 2 ≤ sizeLine by decide), tup_new (K := K) (.cons (.str "strays") (.one (.int _))) fun p7 H7 e7 h7 => k _ _ ((E5.trans e6).trans e7) ?_⟩
          rw [htot0, desc_want_no hz c c2]
          exact h7
        · obtain ⟨q, hq0, hqz⟩ := nextB_some c2
          have hq : (reads.map encP)[used]? = some (encP q) := by rw [List.getElem?_map, hq0]; rfl
          refine ⟨_, rfl, .inl ⟨rfl, _, SqL.of (e6 _ _ h5)⟩, _, rfl, _, rfl, _, _, _, rfl, hu'.up (E5.trans e6), atI_nat hq, fun v8 hv8 => ⟨_, _, _, rfl, hv8, atI_nat (j := 1) rfl, fun v9 hv9 => ?_⟩⟩
          refine ⟨g, _, _, rfl, rfl, e6 _ _ h5, szlt (show vals.length < 100000 by omega), ?_⟩
          have okq := okr q (List.mem_of_getElem? hq0)
          refine ⟨_, rfl, _, _, rfl, rfl, ?_⟩
          refine grow H6 q (used + 1) v9 e6 okq hv9 (by omega) (by omega) (by omega) ?_
          rw [htot0, desc_want_yes hz hq0 hqz]
          congr 2
          omega
  · rintro _ H6 ⟨gs', vals', used', E, ev', rfl, e6, h6, d6, ok6, hvv6, hev6, hu1, hu2, hu3, hE⟩
    rcases hE with ⟨rfl, hl6, ht6⟩ | ⟨o, rfl, hl6, ht6⟩
    case inr =>
      have hev' : Dp K H6 ev' (encO o) := hev6
      obtain ⟨fa, fxs, rfl, _, _⟩ : ∃ a xs, ev' = .ref a ∧ SqT K H6 a xs ∧ True := by
        cases o <;> (obtain ⟨a, xs, h1, h2, _⟩ := dp_tup hev'; exact ⟨a, xs, h1, h2, trivial⟩)
      refine ⟨_, rfl, rfl, _, rfl, iteF ?_⟩
      exact ⟨0, Nat.succ_pos _, .ask p e r1, gs', vals', used', some o, _, vv, _, rfl, e6, h6, d6, ok6, (by rw [hl6]; exact wf4), hvv6, hev6, hu1, hu2, hu3, .inr ⟨o, rfl, rfl, ht6⟩⟩
    obtain rfl := dp_non hev6
    have dg6 : Dp K H6 (.ref g) (.list gs') := .lst (SqL.of h6) d6
    have wf6 : wfR gs'.length r1 = true := by rw [hl6]; exact hwe.2
    refine ⟨_, rfl, rfl, _, rfl, iteT ⟨_, rfl, _, _, _, rfl, hvv6, atI_nat (j := 2) rfl, fun v8 hv8 => ⟨_, rfl, v8, r1, .ref g, gs', gs'.length, rfl, hv8, dg6, wf6, Nat.le_refl _, ok6, fun v2 H7 e7 hv2 => ?_⟩⟩⟩
    have h7 := e7 _ _ h6
    have wf7 := wf_along gs' r1 wf6
    refine ⟨_, rfl, _, rfl, v2, alongM gs' r1, .ref g, gs', gs'.length, rfl, hv2, dg6.up e7, wf7, alongM_not gs' r1, Nat.le_refl _, ok6, fun ev H8 e8 hev8 => ?_⟩
    have hlt : depthR (alongM gs' r1) + 1 < depthR (.ask p e r1) + 1 := by
      have := alongM_depth gs' r1
      rw [depthR]
      omega
    rw [desc_along] at ht6
    cases q : endM gs' (alongM gs' r1) with
    | none =>
      rw [q] at hev8
      exact ⟨_, hlt, alongM gs' r1, gs', vals', used', none, _, v2, ev, rfl, (e6.trans e7).trans e8, e8 _ _ h7, (d6.up e7).up e8, ok6, wf7, hv2.up e8, hev8, hu1, hu2, hu3, .inl ⟨rfl, rfl, endM_none (alongM_not gs' r1) q, ht6⟩⟩
    | some o =>
      rw [q] at hev8
      exact ⟨0, Nat.succ_pos _, alongM gs' r1, gs', vals', used', some o, _, v2, ev, rfl, (e6.trans e7).trans e8, e8 _ _ h7, (d6.up e7).up e8, ok6, wf7, hv2.up e8, hev8, hu1, hu2, hu3, .inr ⟨o, rfl, rfl, by rw [ht6, desc_end q]⟩⟩
end
end Wk
namespace Wk
open PySem PySem.Spec PyProof.Rows L2 SX
theorem ix_listK {X : Cx} {K : PySem.W.Frag} (h : X.K = K) : IxR X (rIxL K) := by
  subst h
  exact ix_list
theorem op_notInK {X : Cx} {K : PySem.W.Frag} (h : X.K = K) : OpR X (compareOp .NotIn) (rIn K true) := by
  subst h
  exact op_notIn_seq
end Wk
namespace Wk
open PySem PySem.Spec PyProof.Rows L2 SX
/-! ### draws -/
/-- each drawn number lies below its size -/
def Dr (sizes xs : List Int) : Prop := xs.length = sizes.length ∧ ∀ (i : Nat) (x s : Int), xs[i]? = some x → sizes[i]? = some s → 0 ≤ x ∧ x < s
theorem Dr.nil : Dr [] [] := ⟨rfl, fun i x s h => by cases h⟩
theorem Dr.snoc {ss xs : List Int} {s x : Int} (h : Dr ss xs) (h0 : 0 ≤ x) (h1 : x < s) : Dr (ss ++ [s]) (xs ++ [x]) := by
  refine ⟨by rw [List.length_append, List.length_append, h.1]; rfl, fun i x' s' hx hs => ?_⟩
  by_cases hi : i < xs.length
  · rw [List.getElem?_append_left hi] at hx
    rw [List.getElem?_append_left (by rw [← h.1]; exact hi)] at hs
    exact h.2 i x' s' hx hs
  · have hl : i = xs.length := by
      have := (List.getElem?_eq_some_iff.mp hx).1
      rw [List.length_append] at this
      have e : [x].length = 1 := rfl
      omega
    subst hl
    rw [List.getElem?_append_right (Nat.le_refl _), Nat.sub_self] at hx
    rw [h.1, List.getElem?_append_right (Nat.le_refl _), Nat.sub_self] at hs
    cases hx
    cases hs
    exact ⟨h0, h1⟩
theorem Dr.at {ss xs : List Int} {i : Nat} {s : Int} (h : Dr ss xs) (hs : ss[i]? = some s) : ∃ x, xs[i]? = some x ∧ 0 ≤ x ∧ x < s := by
  have hi := (List.getElem?_eq_some_iff.mp hs).1
  have hx := List.getElem?_eq_getElem (l := xs) (i := i) (by rw [h.1]; exact hi)
  exact ⟨_, hx, h.2 i _ s hx hs⟩
theorem atI_mod {α : Type} {xs : List α} (i : Int) (h : 0 < xs.length) : ∃ v, atI xs (i % ((xs.length : Nat) : Int)) = some v ∧ v ∈ xs := by
  have h1 : 0 ≤ i % ((xs.length : Nat) : Int) := Int.emod_nonneg _ (by omega)
  have h2 : i % ((xs.length : Nat) : Int) < ((xs.length : Nat) : Int) := Int.emod_lt_of_pos _ (by omega)
  obtain ⟨j, hj⟩ := Int.eq_ofNat_of_zero_le h1
  rw [hj]
  rw [hj] at h2
  have h3 : j < xs.length := by omega
  exact ⟨_, atI_nat (List.getElem?_eq_getElem h3), List.getElem_mem _⟩
theorem em1 (i : Int) : -(2 ^ 64) < i % 2147483629 ∧ i % 2147483629 < 2 ^ 64 := by
  have h1 := Int.emod_nonneg i (show (2147483629 : Int) ≠ 0 by decide)
  have h2 := Int.emod_lt_of_pos i (show (0 : Int) < 2147483629 by decide)
  have e : (2 : Int) ^ 64 = 18446744073709551616 := by decide
  omega
def spDraws (K : PySem.W.Frag) : Sp := fun vs H Q _ => ∃ (v : V) (cells : List Int) (k : Int) (b : Addr) (sizes : List Int), vs = [v, .int k, .ref b] ∧ Dp K H v (.list (cells.map PyData.int)) ∧ cells.length ≤ 1000 ∧ -1000 < k ∧ k < 1000 ∧ SqL K H b (sizes.map V.int) ∧ sizes.length ≤ 1000 ∧ (∀ s ∈ sizes, 0 < s ∧ s < 1000000) ∧
  ∀ (xs : List Int) p H', Ex H H' → H p = none → H' p = some (.lst (xs.map V.int)) → Dr sizes xs → Q (.ref p) H'
section
variable {P : Program} {w : World} {K : PySem.W.Frag} {mg : Str → Option Value} {base : Heap}
theorem c_law_draws (W : Wld K mg) : Cal P w K mg base 1 "_law_draws" (spDraws K) := by
  refine cal_of W.d_law_draws sc_law_draws (fun vs H Q E h => ?_) (fun f cdv A outer s H vs Q E hr h => ?_)
  · obtain ⟨v, cells, k, b, sizes, rfl, _⟩ := h
    rfl
  obtain ⟨v, cells, k, b, sizes, rfl, hv, hcl, hk1, hk2, hb, hsl, hsz, kk⟩ := h
  refine ⟨_, (pss_cons (ps_set (i := 3) sc_law_draws.nd rfl (Or.inl rfl) pe_int)
    (C8.pss_cut (ps_if (pt_cmpR op_gt (pe_callB call_lenDp (by rfl) W.f_len bt_len (pa_cons (pv 0) pa_nil)) pe_int (nomark _)) (pss_one (ps_set (i := 3) sc_law_draws.nd rfl (Or.inl rfl) (pe_ix ix_L (pv 0) (pe_op op_mod (pv 1) (pe_callB call_lenDp (by rfl) W.f_len bt_len (pa_cons (pv 0) pa_nil))) (fun _ _ => rfl)))) pss_nil)
    (pss_cons (ps_set (i := 4) sc_law_draws.nd rfl (Or.inl rfl) (pe_lst pa_nil))
    (pss_cons (ps_if (pt_cmpR op_ge (pv 3) (pe_op op_pow pe_int pe_int) (nomark _)) (pss_cons (ps_for PassesOwn.never rfl (pi_list (pv 2)) (pg_name (i := 5) sc_law_draws.nd rfl (Or.inl rfl)) (pss_cons (ps_expr (pe_bm PySem.F.plainAttrs_list PySem.F.slot_list_append PySem.F.type_list_append mt_append (pv 4) (pa_cons (pe_op op_mod (pv 3) (pv 5)) pa_nil)))
    (pss_one (ps_set (i := 3) sc_law_draws.nd rfl (Or.inl rfl) (pe_op op_fdiv (pv 3) (pv 5))))))
    (pss_one (ps_ret (pv 4)))) pss_nil)
    (pss_cons (ps_for PassesOwn.never rfl (pi_list (pv 2)) (pg_name (i := 5) sc_law_draws.nd rfl (Or.inl rfl)) (pss_cons (ps_set (i := 6) sc_law_draws.nd rfl (Or.inl rfl) (pe_op op_mod (pe_op op_add (pe_op op_add (pv 3) (pe_op op_mul pe_int (pv 1))) (pe_op op_mul pe_int (pe_callB call_lenA (by rfl) W.f_len bt_len (pa_cons (pv 4) pa_nil)))) pe_int))
    (pss_cons (ps_set (i := 6) sc_law_draws.nd rfl (Or.inl rfl) (pe_op op_mod (pe_op op_add (pe_op op_add (pe_op op_mul (pv 6) (pv 6)) (pe_op op_mul pe_int (pv 6))) (pv 1)) pe_int))
    (pss_cons (ps_set (i := 6) sc_law_draws.nd rfl (Or.inl rfl) (pe_op op_mod (pe_op op_add (pe_op op_add (pe_op op_mul (pv 6) (pv 6)) (pe_op op_mul pe_int (pv 6))) (pe_callB call_lenA (by rfl) W.f_len bt_len (pa_cons (pv 4) pa_nil))) pe_int))
    (pss_one (ps_expr (pe_bm PySem.F.plainAttrs_list PySem.F.slot_list_append PySem.F.type_list_append mt_append (pv 4) (pa_cons (pe_op op_mod (pv 6) (pv 5)) pa_nil))))))))
    (pss_one (ps_ret (pv 4)))))))), ?_⟩
  refine ⟨fun σ' H' => H = H' ∧ ∃ cell : Int, σ' = [some v, some (.int k), some (.ref b), some (.int cell), none, none, none], ?_, ?_⟩
  · refine ⟨_, rfl, _, _, rfl, hv, rfl, sz100 (by show (cells.map PyData.int).length ≤ 100000; rw [List.length_map]; omega), _, _, rfl, rfl, _, rfl, iteD (fun c => ?_) (fun c => ?_)⟩
    · have c : (0 : Int) < (((cells.map PyData.int).length : Nat) : Int) := c
      rw [List.length_map] at c
      obtain ⟨cv, hat, _⟩ := atI_mod k (show 0 < (cells.map PyData.int).length by rw [List.length_map]; omega)
      obtain ⟨j, hj⟩ := List.mem_map.mp (by assumption : cv ∈ cells.map PyData.int)
      refine ⟨_, rfl, _, rfl, _, rfl, _, _, rfl, hv, rfl, sz100 (by show (cells.map PyData.int).length ≤ 100000; rw [List.length_map]; omega), _, _, rfl, rfl, ?_, _, _, _, rfl, hv, hat, fun v1 hv1 => ?_⟩
      · show (0 : Int) < (((cells.map PyData.int).length : Nat) : Int)
        rw [List.length_map]
        omega
      · obtain ⟨_, rfl⟩ := hj
        obtain rfl := dp_int hv1
        exact ⟨rfl, _, rfl⟩
    · exact ⟨rfl, 0, rfl⟩
  · rintro _ _ ⟨rfl, cell, rfl⟩
    refine ⟨Nat.zero_le _, fun p hp => ?_⟩
    have e1 : Ex H (upd H p (.lst [])) := Ex.new hp
    have hp1 : (upd H p (.lst [])) p = some (.lst []) := upd_same
    generalize upd H p (.lst []) = H1 at e1 hp1 ⊢
    have pow : (10 : Int) ^ ((18 : Int).toNat) = 10 ^ 18 := rfl
    refine ⟨_, rfl, _, _, rfl, rfl, ?_, _, _, rfl, rfl, _, rfl, iteD (fun c => ?_) (fun c => ?_)⟩
    · exact ⟨by decide, by decide, by decide⟩
    · refine ⟨_, rfl, b, rfl, ⟨_, ex_l e1 hb⟩, for_list (K := K) (a := b) (xs := sizes.map V.int) (fun i σ H' => Ex H H' ∧ ∃ (c : Int) (y z : Option V) (xs : List Int), σ = [some v, some (.int k), some (.ref b), some (.int c), some (.ref p), y, z] ∧ H' p = some (.lst (xs.map V.int)) ∧ Dr (sizes.take i) xs)
        ⟨e1, _, _, _, [], rfl, hp1, Dr.nil⟩ (fun i σ H' _ h => ex_l h.1 hb) ?_ ?_⟩
      · rintro i x σ H2 hx ⟨e2, c2, y, z, xs, rfl, h2, d2⟩
        rw [List.getElem?_map] at hx
        obtain ⟨sz, hsz', rfl⟩ : ∃ sz, sizes[i]? = some sz ∧ x = .int sz := by
          cases q : sizes[i]? with
          | none => rw [q] at hx; cases hx
          | some a => rw [q] at hx; cases hx; exact ⟨a, rfl, rfl⟩
        have hil := (List.getElem?_eq_some_iff.mp hsz').1
        have pos := hsz sz (List.mem_of_getElem? hsz')
        have hlx : xs.length ≤ 1000 := by
          rw [d2.1, List.length_take]
          omega
        have st : ∀ r : Int, Dr (sizes.take (i + 1)) (xs ++ [r % sz]) := fun r => by
          rw [List.take_add_one, hsz']
          exact d2.snoc (Int.emod_nonneg _ (by omega)) (Int.emod_lt_of_pos _ pos.1)
        refine ⟨_, rfl, .inl ⟨rfl, _, SqL.of h2⟩, _, rfl, _, rfl, _, _, rfl, rfl, pos.1, p, _, _, rfl, rfl, h2, szlt (show (xs.map V.int).length < 100000 by rw [List.length_map]; omega), ?_⟩
        refine ⟨_, rfl, _, rfl, _, _, rfl, rfl, ⟨pos.1, by omega⟩, Ex.mut e2 hp, _, _, _, _, rfl, (by rw [upd_same, List.map_append]; rfl), st c2⟩
      · rintro σ H2 ⟨e2, c2, y, z, xs, rfl, h2, d2⟩
        rw [List.length_map, List.take_length] at d2
        exact ⟨_, rfl, kk xs p H2 e2 hp h2 d2⟩
    · refine ⟨_, rfl, b, rfl, ⟨_, ex_l e1 hb⟩, for_list (K := K) (a := b) (xs := sizes.map V.int) (fun i σ H' => Ex H H' ∧ ∃ (c : Int) (y z : Option V) (xs : List Int), σ = [some v, some (.int k), some (.ref b), some (.int c), some (.ref p), y, z] ∧ H' p = some (.lst (xs.map V.int)) ∧ Dr (sizes.take i) xs)
        ⟨e1, _, _, _, [], rfl, hp1, Dr.nil⟩ (fun i σ H' _ h => ex_l h.1 hb) ?_ ?_⟩
      · rintro i x σ H2 hx ⟨e2, c2, y, z, xs, rfl, h2, d2⟩
        rw [List.getElem?_map] at hx
        obtain ⟨sz, hsz', rfl⟩ : ∃ sz, sizes[i]? = some sz ∧ x = .int sz := by
          cases q : sizes[i]? with
          | none => rw [q] at hx; cases hx
          | some a => rw [q] at hx; cases hx; exact ⟨a, rfl, rfl⟩
        have hil := (List.getElem?_eq_some_iff.mp hsz').1
        have pos := hsz sz (List.mem_of_getElem? hsz')
        have hlx : xs.length ≤ 1000 := by
          rw [d2.1, List.length_take]
          omega
        have st : ∀ r : Int, Dr (sizes.take (i + 1)) (xs ++ [r % sz]) := fun r => by
          rw [List.take_add_one, hsz']
          exact d2.snoc (Int.emod_nonneg _ (by omega)) (Int.emod_lt_of_pos _ pos.1)
        refine ⟨_, rfl, _, rfl, _, _, rfl, rfl, .inl ⟨by decide, by decide⟩, _, _, rfl, rfl, _, rfl, _, _, rfl, .inl ⟨_, SqL.of h2, rfl⟩, _, _, rfl, rfl, .inl ⟨by decide, by decide⟩, _, _, rfl, rfl, _, _, rfl, rfl, (show (0 : Int) < 2147483629 by decide), ?_⟩
        refine ⟨_, rfl, _, rfl, _, _, rfl, rfl, .inl (em1 _), _, rfl, _, _, rfl, rfl, .inl ⟨by decide, by decide⟩, _, _, rfl, rfl, _, rfl, _, _, rfl, rfl, _, _, rfl, rfl, (show (0 : Int) < 2147483629 by decide), ?_⟩
        refine ⟨_, rfl, _, rfl, _, _, rfl, rfl, .inl (em1 _), _, rfl, _, _, rfl, rfl, .inl ⟨by decide, by decide⟩, _, _, rfl, rfl, _, rfl, _, _, rfl, .inl ⟨_, SqL.of h2, rfl⟩, _, _, rfl, rfl, _, _, rfl, rfl, (show (0 : Int) < 2147483587 by decide), ?_⟩
        refine ⟨_, rfl, .inl ⟨rfl, _, SqL.of h2⟩, _, rfl, _, rfl, _, _, rfl, rfl, pos.1, p, _, _, rfl, rfl, h2, szlt (show (xs.map V.int).length < 100000 by rw [List.length_map]; omega), ?_⟩
        exact ⟨Ex.mut e2 hp, _, _, _, _, rfl, (by rw [upd_same, List.map_append]; rfl), st _⟩
      · rintro σ H2 ⟨e2, c2, y, z, xs, rfl, h2, d2⟩
        rw [List.length_map, List.take_length] at d2
        exact ⟨_, rfl, kk xs p H2 e2 hp h2 d2⟩
end
end Wk
namespace Wk
open PySem PySem.Spec PyProof.Rows L2 SX
/-! ### names -/
/-- a comprehension, by a word of the heap -/
theorem lcI {J : It} {H1 : Hp} {n : Nat} {G : Nat → V → Prop} {g : TG} {tt : TT} {te : TE} {vs : List Nat} {σ : L2.St} {D : Addr} {Qd : Hp → Prop} (S : Src J H1 n G) (Pv : Nat → Hp → Prop) (h0 : Pv 0 (upd H1 D (.lst []))) (hE : ∀ i H, Pv i H → Ex H1 H)
    (hs : ∀ i x H', i < n → G i x → Pv i H' → g x (wipe σ vs) H' fun σ2 H2 => wipe σ2 vs = wipe σ vs ∧ tt σ2 H2 fun b H3 =>
        if b = true then te σ2 H3 fun y H4 => ∃ acc, H4 D = some (.lst acc) ∧ acc.length < sizeLine ∧ Pv (i + 1) (upd H4 D (.lst (acc ++ [y]))) else Pv (i + 1) H3)
    (hd : ∀ H5, Pv n H5 → Qd H5) :
    ∃ W : Nat → Nat → Hp → Prop, (∃ m, W 0 m (upd H1 D (.lst []))) ∧ ∀ i m H, W i m H →
      (J.stop i H ∧ Qd H) ∨ (J.go i H ∧ ∃ Nx : Hp → Prop, (∀ H', Nx H' → ∃ m', m' < m ∧ W (i + 1) m' H') ∧ ∀ x H', J.yld i H x H' → g x (wipe σ vs) H' fun σ2 H2 => wipe σ2 vs = wipe σ vs ∧ tt σ2 H2 fun b H3 =>
        if b = true then te σ2 H3 fun y H4 => ∃ acc, H4 D = some (.lst acc) ∧ acc.length < sizeLine ∧ Nx (upd H4 D (.lst (acc ++ [y]))) else Nx H3) := by
  refine ⟨fun i m H => m = n - i ∧ i ≤ n ∧ Pv i H, ⟨n, rfl, Nat.zero_le _, h0⟩, ?_⟩
  rintro i m H ⟨rfl, hi, p⟩
  by_cases hlt : i < n
  · refine .inr ⟨S.go i H (hE _ _ p) hlt, Pv (i + 1), fun H' p' => ⟨n - (i + 1), by omega, rfl, hlt, p'⟩, fun x H' y => ?_⟩
    obtain ⟨rfl, y2⟩ := S.yld i H x H' (hE _ _ p) hlt y
    exact hs i x H' hlt y2 p
  · have ei : i = n := by omega
    subst ei
    exact .inl ⟨S.stop H (hE _ _ p), hd H p⟩
theorem cutV_mid (xs : List V) (a b : Nat) (ha : a ≤ b) (hb : b ≤ xs.length) : cutV xs (some ((a : Nat) : Int)) (some ((b : Nat) : Int)) = (xs.drop a).take (b - a) := by
  unfold cutV
  rw [HT.sIx_nat, HT.sIx_nat, show min a xs.length = a by omega, show min b xs.length = b by omega]
theorem Dr.drop {ss xs : List Int} (h : Dr ss xs) (n : Nat) : Dr (ss.drop n) (xs.drop n) := by
  refine ⟨by rw [List.length_drop, List.length_drop, h.1], fun i x s hx hs => ?_⟩
  rw [List.getElem?_drop] at hx hs
  exact h.2 _ x s hx hs
theorem Dr.take {ss xs : List Int} (h : Dr ss xs) (n : Nat) : Dr (ss.take n) (xs.take n) := by
  refine ⟨by rw [List.length_take, List.length_take, h.1], fun i x s hx hs => ?_⟩
  rw [List.getElem?_take] at hx hs
  split at hx
  · rename_i hi
    rw [if_pos hi] at hs
    exact h.2 _ x s hx hs
  · cases hx
def wordsV : List Str := ["told", "made", "want", "say", "a", "b", "wants", "fails", "got", "when", "put", "ab"]
def lastV : List Str := ["u", "v", "w", "x", "y", "z"]
def sz9 : List Int := [8, 26, 26, 26, 26, 26, 26, 26, 26]
theorem sz9_cut : ∀ (n j : Nat), j < n → ((List.replicate n sz9).flatten.drop (9 * j)).take 9 = sz9
  | 0, j, h => by omega
  | n + 1, 0, h => by
    rw [List.replicate_succ, List.flatten_cons]
    rfl
  | n + 1, j + 1, h => by
    rw [List.replicate_succ, List.flatten_cons, show 9 * (j + 1) = sz9.length + 9 * j by show _ = 9 + 9 * j; omega, ← List.drop_drop, List.drop_left]
    exact sz9_cut n j (by omega)
def letterAt (i : Int) : Nat := lettersS.cps.toList.getD i.toNat 0
theorem letterAt_at {i : Int} (h0 : 0 ≤ i) (h1 : i < 26) : atI lettersS.cps.toList i = some (letterAt i) := by
  obtain ⟨j, rfl⟩ := Int.eq_ofNat_of_zero_le h0
  refine atI_nat ?_
  unfold letterAt
  rw [Int.toNat_natCast, List.getD_eq_getElem?_getD, List.getElem?_eq_getElem (show j < lettersS.cps.toList.length by
    have : lettersS.cps.toList.length = 26 := by decide
    omega)]
  rfl
theorem letterAt_mem {i : Int} (h0 : 0 ≤ i) (h1 : i < 26) : letterAt i ∈ lettersS.cps.toList := by
  obtain ⟨j, rfl⟩ := Int.eq_ofNat_of_zero_le h0
  exact List.mem_of_getElem? (by
    unfold letterAt
    rw [Int.toNat_natCast, List.getD_eq_getElem?_getD, List.getElem?_eq_getElem (show j < lettersS.cps.toList.length by
      have : lettersS.cps.toList.length = 26 := by decide
      omega)]
    rfl : lettersS.cps.toList[j]? = _)
theorem words_at {i : Int} (h0 : 0 ≤ i) (h1 : i < 12) : ∃ w, atI (wordsV.map V.str) i = some (V.str w) ∧ isNameS w = true := by
  obtain ⟨j, rfl⟩ := Int.eq_ofNat_of_zero_le h0
  have hj : j < wordsV.length := by
    show j < 12
    omega
  have all : (wordsV.all isNameS) = true := by decide +kernel
  exact ⟨wordsV[j], atI_nat (by rw [List.getElem?_map, List.getElem?_eq_getElem hj]; rfl), List.all_eq_true.mp all _ (List.getElem_mem hj)⟩
theorem nameS_len {z : Str} (h : isNameS z = true) : 1 ≤ z.length ∧ z.length ≤ 8 := by
  unfold isNameS at h
  rw [Bool.and_eq_true, Bool.and_eq_true] at h
  exact ⟨of_decide_eq_true h.1, of_decide_eq_true h.2.1⟩
theorem inS {z : Str} : ∀ {ys : List Str}, inV (.str z) (ys.map V.str) = decide (z ∈ ys)
  | [] => by
    rw [decide_eq_false (by simp)]
    rfl
  | y :: ys => by
    show ((y == z) || inV (.str z) (ys.map V.str)) = _
    rw [inS]
    by_cases h : y = z
    · subst h
      rw [decide_eq_true (List.mem_cons_self), show (y == y) = true from by simp]
      rfl
    · rw [show (y == z) = false from by simpa using h, Bool.false_or]
      congr 1
      refine propext ⟨fun q => List.mem_cons_of_mem _ q, fun q => ?_⟩
      rcases List.mem_cons.mp q with e | e
      · exact absurd e.symm h
      · exact e
theorem flatS : ∀ ys : List Str, (ys.map V.str).all flatV = true
  | [] => rfl
  | y :: ys => by
    show (true && (ys.map V.str).all flatV) = true
    rw [flatS ys]
    rfl
theorem joinL_one : ∀ cs : List Nat, TL.joinL [] (cs.map fun c => [c]) = cs
  | [] => rfl
  | [c] => rfl
  | c :: d :: cs => by
    show [c] ++ ([] ++ TL.joinL [] ((d :: cs).map fun c => [c])) = c :: d :: cs
    rw [joinL_one (d :: cs)]
    rfl
theorem nameS_of {cs : List Nat} (h1 : 1 ≤ cs.length) (h2 : cs.length ≤ 8) (h3 : ∀ c ∈ cs, c ∈ lettersS.cps.toList) : isNameS (S cs) = true := by
  have e : (S cs).length = cs.length := S_len cs
  unfold isNameS
  rw [e, decide_eq_true h1, decide_eq_true h2]
  show allIn (S cs) lettersS = true
  unfold allIn
  refine List.all_eq_true.mpr fun c hc => decide_eq_true (h3 c ?_)
  exact hc
theorem nameS_snoc {z : Str} {c : Nat} (h : isNameS z = true) (hl : z.length < 8) (hc : c ∈ lettersS.cps.toList) : isNameS (z ++ S [c]) = true := by
  have h' := h
  unfold isNameS at h
  rw [Bool.and_eq_true, Bool.and_eq_true] at h
  have e : z ++ S [c] = S (z.cps.toList ++ [c]) := by
    rw [← S_cat, S_tl]
  rw [e]
  have hzl : z.cps.toList.length = z.length := by
    show _ = z.cps.size
    exact Array.length_toList
  refine nameS_of (by rw [List.length_append]; show 1 ≤ _ + 1; omega) (by rw [List.length_append]; show _ + 1 ≤ 8; omega) fun x hx => ?_
  rcases List.mem_append.mp hx with hx | hx
  · exact of_decide_eq_true (List.all_eq_true.mp h.2.2 x hx)
  · rw [List.mem_singleton.mp hx]
    exact hc
theorem nodup_sub {α : Type} [DecidableEq α] : ∀ {l m : List α}, l.Nodup → (∀ x ∈ l, x ∈ m) → l.length ≤ m.length
  | [], m, _, _ => Nat.zero_le _
  | a :: l, m, h, hs => by
    have ha := hs a List.mem_cons_self
    have q := nodup_sub (l := l) (m := m.erase a) (List.nodup_cons.mp h).2 fun x hx => by
      have : x ≠ a := fun e => (List.nodup_cons.mp h).1 (e ▸ hx)
      exact (List.mem_erase_of_ne this).mpr (hs x (List.mem_cons_of_mem _ hx))
    rw [List.length_erase_of_mem ha] at q
    have : 0 < m.length := List.length_pos_of_mem ha
    rw [List.length_cons]
    omega
def spNames (K : PySem.W.Frag) : Sp := fun vs H Q _ => ∃ (v : V) (cells : List Int) (k : Int) (n : Nat), vs = [v, .int k, .int ((n : Nat) : Int)] ∧ Dp K H v (.list (cells.map PyData.int)) ∧ cells.length ≤ 1000 ∧ -1000 < k ∧ k < 1000 ∧ n ≤ 6 ∧
  ∀ (ys : List Str) p H', Ex H H' → H p = none → H' p = some (.lst (ys.map V.str)) → ys.length = n → ys.Nodup → (∀ y ∈ ys, isNameS y = true) → Q (.ref p) H'
section
variable {P : Program} {w : World} {K : PySem.W.Frag} {mg : Str → Option Value} {base : Heap}
theorem c_law_names (W : Wld K mg) : Cal P w K mg base 2 "_law_names" (spNames K) := by
  have c_law_draws : Cal P w K mg base 1 "_law_draws" _ := c_law_draws W
  refine cal_of W.d_law_names sc_law_names (fun vs H Q E h => ?_) (fun f cdv A outer s H vs Q E hr h => ?_)
  · obtain ⟨v, cells, k, n, rfl, _⟩ := h
    rfl
  obtain ⟨v, cells, k, n, rfl, hv, hcl, hk1, hk2, hn, kk⟩ := h
  refine ⟨_, (pss_cons (ps_set (i := 3) sc_law_names.nd rfl (Or.inr rfl) pe_str)
    (pss_cons (ps_set (i := 4) sc_law_names.nd rfl (Or.inl rfl) (pe_lst (pa_cons pe_str (pa_cons pe_str (pa_cons pe_str (pa_cons pe_str (pa_cons pe_str (pa_cons pe_str (pa_cons pe_str (pa_cons pe_str (pa_cons pe_str (pa_cons pe_str (pa_cons pe_str (pa_cons pe_str pa_nil))))))))))))))
    (pss_cons (ps_set (i := 5) sc_law_names.nd rfl (Or.inl rfl) (pe_cl c_law_draws hr (by omega) (by rfl) (pa_cons (pv 0) (pa_cons (pv 1) (pa_cons (pe_op op_cat (pe_lst (pa_cons pe_int pa_nil)) (pe_op op_rep (pe_lst (pa_cons pe_int (pa_cons pe_int (pa_cons pe_int (pa_cons pe_int (pa_cons pe_int (pa_cons pe_int (pa_cons pe_int (pa_cons pe_int (pa_cons pe_int pa_nil)))))))))) (pv 2))) pa_nil)))))
    (pss_cons (ps_set (i := 6) sc_law_names.nd rfl (Or.inr rfl) (pe_lst pa_nil))
    (pss_cons (ps_for PassesOwn.never rfl (pi_range1 (by rfl) W.f_range (pa_cons (pv 2) pa_nil)) (pg_name (i := 7) sc_law_names.nd rfl (Or.inl rfl)) (pss_cons (ps_set (i := 8) sc_law_names.nd rfl (Or.inl rfl) (pe_slice sl_list (pv 5) (po_some (pe_op op_add pe_int (pe_op op_mul pe_int (pv 7)))) (po_some (pe_op op_add pe_int (pe_op op_mul pe_int (pv 7))))))
    (pss_cons (ps_set (i := 9) sc_law_names.nd rfl (Or.inl rfl) (pe_join pe_str (pe_lc (own := [("_law_x", 10)]) (g := gName 10) (tt := tYes) rfl sc_law_names.nd (pi_list (pe_slice sl_list (pv 8) (po_some pe_int) (po_some (pe_op op_add pe_int (pe_ix ix_list (pv 8) pe_int (fun _ _ => rfl)))))) (blkOk_by (own := [("_law_x", 10)]) (N := N_law_names) (sc := defScope (top 55)) (by decide +kernel)) (fun _ _ _ _ _ => (pg_name (i := 10) sc_law_names.nd rfl (Or.inl rfl))) (fun _ _ _ _ _ => pts_nil) (fun _ _ _ _ _ => (pe_ix ix_str (pv 3) (pv 10) (fun _ _ => rfl))))))
    (C8.pss_cut (ps_if (PW.pt (pw_and (pt_cmpR op_eq (pe_ix ix_list (pv 5) pe_int (fun _ _ => rfl)) pe_int (nomark _)) (pw_and (pt_cmpR op_eq (pe_op op_mod (pv 7) pe_int) pe_int (nomark _)) (pw_and1 (pt_cmpR op_lt (pe_callB call_lenDp (by rfl) W.f_len bt_len (pa_cons (pe_ix ix_list (pv 6) (pe_op op_sub (pv 7) pe_int) (fun _ _ => rfl)) pa_nil)) pe_int (nomark _)))))) (pss_one (ps_set (i := 9) sc_law_names.nd rfl (Or.inl rfl) (pe_op op_add_str (pe_ix ix_list (pv 6) (pe_op op_sub (pv 7) pe_int) (fun _ _ => rfl)) (pe_ix ix_str (pv 3) (pe_ix ix_list (pv 8) pe_int (fun _ _ => rfl)) (fun _ _ => rfl))))) pss_nil)
    (C8.pss_cut (ps_if (pt_cmpR op_eq (pe_ix ix_list (pv 5) pe_int (fun _ _ => rfl)) pe_int (nomark _)) (pss_one (ps_set (i := 9) sc_law_names.nd rfl (Or.inl rfl) (pe_ix ix_list (pv 4) (pe_op op_mod (pe_ix ix_list (pv 8) pe_int (fun _ _ => rfl)) pe_int) (fun _ _ => rfl)))) pss_nil)
    (C8.pss_cut (ps_if (pt_cmpR op_in_seq (pv 9) (pv 6) (by rfl)) (pss_one (ps_set (i := 9) sc_law_names.nd rfl (Or.inl rfl) (pe_ix ix_list (pe_lc (own := [("_law_one", 11)]) (g := gName 11) rfl sc_law_names.nd (pi_str pe_str) (blkOk_by (own := [("_law_one", 11)]) (N := N_law_names) (sc := defScope (top 55)) (by decide +kernel)) (fun _ _ _ _ _ => (pg_name (i := 11) sc_law_names.nd rfl (Or.inl rfl))) (fun _ _ _ _ _ => pts_one (pt_cmpR (op_notInK rfl) (pv 11) (pv 6) (by rfl))) (fun _ _ _ _ _ => (pv 11))) pe_int (fun _ _ => rfl)))) pss_nil)
    (pss_one (ps_expr (pe_bm PySem.F.plainAttrs_list PySem.F.slot_list_append PySem.F.type_list_append mt_append (pv 6) (pa_cons (pv 9) pa_nil))))))))))
    (pss_one (ps_ret (pv 6)))))))), ?_⟩
  refine ⟨by decide, fun pw hpw => ?_⟩
  generalize hh : upd H pw _ = H1
  have e1 : Ex H H1 := hh ▸ Ex.new hpw
  have h1 : H1 pw = some (.lst (wordsV.map V.str)) := by rw [← hh]; exact upd_same
  clear hh
  refine ⟨_, rfl, _, rfl, by decide, fun p2 hp2 => ?_⟩
  generalize hh : upd H1 p2 _ = H2
  have e2 : Ex H1 H2 := hh ▸ Ex.new hp2
  have h2 : H2 p2 = some (.lst [V.int 5]) := by rw [← hh]; exact upd_same
  clear hh
  refine ⟨by decide, fun p3 hp3 => ?_⟩
  generalize hh : upd H2 p3 _ = H3
  have e3 : Ex H2 H3 := hh ▸ Ex.new hp3
  have h3 : H3 p3 = some (.lst (sz9.map V.int)) := by rw [← hh]; exact upd_same
  clear hh
  refine ⟨_, rfl, p3, _, _, rfl, rfl, h3, by omega, by omega, ?_, fun p4 hp4 => ?_⟩
  · show 9 * ((n : Nat) : Int).toNat ≤ sizeLine
    exact sz100 (by omega)
  generalize hh : upd H3 p4 _ = H4
  have e4 : Ex H3 H4 := hh ▸ Ex.new hp4
  have h4 : H4 p4 = some (.lst (List.replicate ((n : Nat) : Int).toNat (sz9.map V.int)).flatten) := by rw [← hh]; exact upd_same
  clear hh
  rw [Int.toNat_natCast] at h4
  have hfl : (List.replicate n (sz9.map V.int)).flatten = ((List.replicate n sz9).flatten).map V.int := by
    rw [List.map_flatten, List.map_replicate]
  have hfl2 : ((List.replicate n sz9).flatten).length = 9 * n := by
    rw [List.length_flatten, List.map_replicate, List.sum_replicate_nat]
    show n * 9 = 9 * n
    omega
  rw [hfl] at h4
  refine ⟨p2, p4, _, _, rfl, rfl, e4 _ _ (e3 _ _ h2), h4, ?_, fun p5 hp5 => ?_⟩
  · rw [List.length_map, hfl2]
    exact sz100 (by show 1 + 9 * n ≤ _; omega)
  generalize hh : upd H4 p5 _ = H5
  have e5 : Ex H4 H5 := hh ▸ Ex.new hp5
  have h5 : H5 p5 = some (.lst ((5 :: (List.replicate n sz9).flatten).map V.int)) := by rw [← hh]; exact upd_same
  clear hh
  refine ⟨v, cells, k, p5, 5 :: (List.replicate n sz9).flatten, rfl, hv.up (e1.trans (e2.trans (e3.trans (e4.trans e5)))), hcl, hk1, hk2, SqL.of h5, ?_, ?_, fun xs p6 H6 e6 hp6 h6 d6 => ?_⟩
  · rw [List.length_cons, hfl2]
    omega
  · intro s hs
    rcases List.mem_cons.mp hs with rfl | hs
    · decide
    · obtain ⟨l, hl, hs⟩ := List.mem_flatten.mp hs
      rw [(List.mem_replicate.mp hl).2] at hs
      have all : (sz9.all fun s => decide (0 < s) && decide (s < 1000000)) = true := by decide
      have q := List.all_eq_true.mp all s hs
      rw [Bool.and_eq_true] at q
      exact ⟨of_decide_eq_true q.1, of_decide_eq_true q.2⟩
  have E6 := e1.trans (e2.trans (e3.trans (e4.trans (e5.trans e6))))
  have hw6 := (e2.trans (e3.trans (e4.trans (e5.trans e6)))) _ _ h1
  clear h2 h3 h4 h5
  have hl6 : xs.length = 9 * n + 1 := by rw [d6.1, List.length_cons, hfl2]
  refine ⟨Nat.zero_le _, fun p7 hp7 => ?_⟩
  generalize hh : upd H6 p7 _ = H7
  have e7 : Ex H6 H7 := hh ▸ Ex.new hp7
  have h7 : H7 p7 = some (.lst []) := by rw [← hh]; exact upd_same
  clear hh
  refine ⟨_, rfl, _, rfl, by omega, by omega, for_range (fun i σ H' => Ex H6 H' ∧ ∃ (ys : List Str) (y7 y8 y9 y10 y11 : Option V), σ = [some v, some (.int k), some (.int ((n : Nat) : Int)), some (.str lettersS), some (.ref pw), some (.ref p6), some (.ref p7), y7, y8, y9, y10, y11] ∧ H' p7 = some (.lst (ys.map V.str)) ∧ ys.length = i ∧ ys.Nodup ∧ ∀ y ∈ ys, isNameS y = true)
    ⟨e7, [], _, _, _, _, _, rfl, h7, rfl, List.nodup_nil, fun y hy => by cases hy⟩ ?_ ?_⟩
  · rintro i σ H8 hi ⟨e8, ys, y7, y8, y9, y10, y11, rfl, h8, hyl, hnd, hyn⟩
    rw [Int.toNat_natCast] at hi
    rw [Int.zero_add]
    -- part
    have hD : Dr sz9 ((xs.drop (1 + 9 * i)).take 9) := by
      have q := (d6.drop (1 + 9 * i)).take 9
      rw [show (5 :: (List.replicate n sz9).flatten).drop (1 + 9 * i) = ((List.replicate n sz9).flatten).drop (9 * i) by rw [Nat.add_comm]; rfl, sz9_cut n i hi] at q
      exact q
    refine ⟨_, rfl, _, rfl, _, _, rfl, rfl, .inl ⟨by decide, by decide⟩, _, _, rfl, rfl, _, rfl, _, rfl, _, _, rfl, rfl, .inl ⟨by decide, by decide⟩, _, _, rfl, rfl, _, rfl, _, _, rfl, SqL.of (e8 _ _ h6), fun p9 hp9 => ?_⟩
    have ecut : cutV (xs.map V.int) (some ((1 : Int) + 9 * ((i : Nat) : Int))) (some ((10 : Int) + 9 * ((i : Nat) : Int))) = ((xs.drop (1 + 9 * i)).take 9).map V.int := by
      have q := cutV_mid (xs.map V.int) (1 + 9 * i) (10 + 9 * i) (by omega) (by rw [List.length_map]; omega)
      rw [show 10 + 9 * i - (1 + 9 * i) = 9 by omega, ← List.map_drop, ← List.map_take] at q
      exact q
    generalize hh : upd H8 p9 _ = H9
    have e9 : Ex H8 H9 := hh ▸ Ex.new hp9
    have h9 : H9 p9 = some (.lst (cutV (xs.map V.int) (some ((1 : Int) + 9 * ((i : Nat) : Int))) (some ((10 : Int) + 9 * ((i : Nat) : Int))))) := by rw [← hh]; exact upd_same
    clear hh
    rw [ecut] at h9
    generalize (xs.drop (1 + 9 * i)).take 9 = ps at hD h9
    clear ecut
    obtain ⟨a, ha, ha0, ha1⟩ := hD.at (i := 0) (s := 8) rfl
    obtain ⟨a', rfl⟩ := Int.eq_ofNat_of_zero_le ha0
    have hpl : ps.length = 9 := hD.1
    have hat0 : atI (ps.map V.int) 0 = some (V.int ((a' : Nat) : Int)) := atI_nat (j := 0) (by rw [List.getElem?_map, ha]; rfl)
    have E9 := e8.trans e9
    refine ⟨⟨_, rfl⟩, _, rfl, _, rfl, _, rfl, p9, _, _, _, rfl, rfl, SqL.of h9, hat0, _, _, rfl, rfl, _, rfl, _, _, rfl, SqL.of h9, fun p10 hp10 => ?_⟩
    have ecut : cutV (ps.map V.int) (some (1 : Int)) (some ((2 : Int) + ((a' : Nat) : Int))) = ((ps.drop 1).take (1 + a')).map V.int := by
      have q := cutV_mid (ps.map V.int) 1 (2 + a') (by omega) (by rw [List.length_map]; omega)
      rw [show 2 + a' - 1 = 1 + a' by omega, ← List.map_drop, ← List.map_take] at q
      exact q
    generalize hh : upd H9 p10 _ = H10
    have e10 : Ex H9 H10 := hh ▸ Ex.new hp10
    have h10 : H10 p10 = some (.lst (cutV (ps.map V.int) (some (1 : Int)) (some ((2 : Int) + ((a' : Nat) : Int))))) := by rw [← hh]; exact upd_same
    clear hh
    rw [ecut] at h10
    have hQ : Dr ((sz9.drop 1).take (1 + a')) ((ps.drop 1).take (1 + a')) := (hD.drop 1).take _
    have hql : ((ps.drop 1).take (1 + a')).length = 1 + a' := by
      rw [List.length_take, List.length_drop]
      omega
    have hqb : ∀ q ∈ (ps.drop 1).take (1 + a'), 0 ≤ q ∧ q < 26 := fun q hq => by
      obtain ⟨j, hj⟩ := List.mem_iff_getElem?.mp hq
      have hjl := (List.getElem?_eq_some_iff.mp hj).1
      have : (sz9.drop 1).take (1 + a') = List.replicate (1 + a') 26 := by
        have : a' < 8 := by omega
        have all : ∀ a < 8, (sz9.drop 1).take (1 + a) = List.replicate (1 + a) 26 := by decide
        exact all a' this
      rw [this] at hQ
      exact hQ.2 j q 26 hj (by rw [List.getElem?_replicate, if_pos (by omega)])
    generalize (ps.drop 1).take (1 + a') = qs at hQ hql hqb h10
    clear ecut
    refine ⟨p10, rfl, ⟨_, SqL.of h10⟩, fun D hD10 => lcD (K := K) (src_list (SqL.of h10)) (fun j => .str (S [letterAt (qs.getD j 0)])) hD10 (fun _ => rfl) (by rw [List.length_map]; omega) ?_ ?_⟩
    · intro j x H' Q' hj hx e' k'
      rw [List.length_map] at hj
      rw [List.getElem?_map, List.getElem?_eq_getElem hj] at hx
      cases hx
      have hb := hqb _ (List.getElem_mem hj)
      refine ⟨rfl, _, rfl, _, rfl, _, _, _, rfl, rfl, by decide, letterAt_at hb.1 hb.2, ?_⟩
      refine k' _ _ (Same.refl _) ?_
      rw [List.getD_eq_getElem?_getD, List.getElem?_eq_getElem hj]
      exact .str _
    · intro H11 vs11 e11 h11 d11
      rw [List.length_map, range_get qs (fun q => PyData.str (S [letterAt q])) _ (fun i x hx => by rw [List.getD_eq_getElem?_getD, hx]; rfl)] at d11
      have hys : vs11 = (qs.map fun q => S [letterAt q]).map V.str := by
        refine DpAll.strs_eq (K := K) (H := H11) ?_
        rw [List.map_map]
        exact d11
      subst hys
      refine ⟨_, D, _, rfl, rfl, .inl (SqL.of h11), ?_, ?_⟩
      · rw [List.map_map, show ((fun x : Str => x.length) ∘ fun q => S [letterAt q]) = fun _ => 1 from funext fun q => S_len _, List.map_const', List.sum_replicate_nat, List.length_map]
        show qs.length * 1 + qs.length * 0 ≤ 16777216
        omega
      have hz : isNameS (Txt.join "" (qs.map fun q => S [letterAt q])) = true := by
        rw [show (qs.map fun q => S [letterAt q]) = ((qs.map letterAt).map fun c => [c]).map S by rw [List.map_map, List.map_map]; rfl]
        rw [show ("" : Str) = S [] from rfl, join_S, joinL_one]
        refine nameS_of (by rw [List.length_map]; omega) (by rw [List.length_map]; omega) fun c hc => ?_
        obtain ⟨q, hq, rfl⟩ := List.mem_map.mp hc
        exact letterAt_mem (hqb q hq).1 (hqb q hq).2
      generalize Txt.join "" (qs.map fun q => S [letterAt q]) = z at hz
      have E11 := E9.trans (e10.trans e11)
      have hp9' := e11 _ _ (e10 _ _ h9)
      clear d11 h11 hQ hql hqb h10
      have E8 := e9.trans (e10.trans e11)
      have low : ∀ (H' : Hp) (z' : Str) (y10 y11 : Option V), Ex H11 H' → isNameS z' = true → (fun σ' H' => Ex H11 H' ∧ ∃ (z' : Str) (y10 y11 : Option V), σ' = [some v, some (.int k), some (.int ((n : Nat) : Int)), some (.str lettersS), some (.ref pw), some (.ref p6), some (.ref p7), some (.int ((i : Nat) : Int)), some (.ref p9), some (.str z'), y10, y11] ∧ isNameS z' = true : L2.St → Hp → Prop)
          [some v, some (.int k), some (.int ((n : Nat) : Int)), some (.str lettersS), some (.ref pw), some (.ref p6), some (.ref p7), some (.int ((i : Nat) : Int)), some (.ref p9), some (.str z'), y10, y11] H' := fun H' z' y10 y11 e hz => ⟨e, z', y10, y11, rfl, hz⟩
      obtain ⟨x0, hx0, hx00, hx01⟩ := d6.at (i := 0) (s := 5) rfl
      have hat6 : atI (xs.map V.int) 0 = some (V.int x0) := atI_nat (j := 0) (by rw [List.getElem?_map, hx0]; rfl)
      obtain ⟨b1, hb1, hb10, hb11⟩ := hD.at (i := 1) (s := 26) rfl
      have hat9 : atI (ps.map V.int) 1 = some (V.int b1) := atI_nat (j := 1) (by rw [List.getElem?_map, hb1]; rfl)
      refine ⟨fun σ' H' => Ex H11 H' ∧ ∃ (z' : Str) (y10 y11 : Option V), σ' = [some v, some (.int k), some (.int ((n : Nat) : Int)), some (.str lettersS), some (.ref pw), some (.ref p6), some (.ref p7), some (.int ((i : Nat) : Int)), some (.ref p9), some (.str z'), y10, y11] ∧ isNameS z' = true, ?_, ?_⟩
      · refine ⟨_, rfl, p6, _, _, _, rfl, rfl, SqL.of (E11 _ _ h6), hat6, rfl, _, rfl, iteD (fun c => ?_) (fun c => low H11 z y10 y11 (Same.refl _) hz)⟩
        refine ⟨_, rfl, _, _, rfl, rfl, (show (0 : Int) < 2 by decide), rfl, _, rfl, iteD (fun c2 => ?_) (fun c => low H11 z y10 y11 (Same.refl _) hz)⟩
        have c2 : V.int (((i : Nat) : Int) % 2) = V.int 1 := c2
        have hi1 : 1 ≤ i := by
          injection c2 with c2
          omega
        have hgi : i - 1 < ys.length := by omega
        have hati : atI (ys.map V.str) (((i : Nat) : Int) - 1) = some (V.str ys[i - 1]) := by
          rw [show ((i : Nat) : Int) - 1 = (((i - 1 : Nat) : Nat) : Int) by omega]
          exact atI_nat (by rw [List.getElem?_map, List.getElem?_eq_getElem hgi]; rfl)
        have hni := hyn _ (List.getElem_mem hgi)
        refine ⟨_, rfl, _, rfl, _, _, rfl, rfl, p7, _, _, _, rfl, rfl, SqL.of (E8 _ _ h8), hati, _, _, rfl, .str ys[i - 1], rfl, sz100 (by have := (nameS_len hni).2; show (ys[i - 1]).length ≤ _; omega), _, _, rfl, rfl, _, rfl, iteD (fun c3 => ?_) (fun c => low H11 z y10 y11 (Same.refl _) hz)⟩
        have c3 : (((ys[i - 1]).length : Nat) : Int) < 8 := c3
        refine ⟨_, rfl, _, rfl, _, _, rfl, rfl, p7, _, _, _, rfl, rfl, SqL.of (E8 _ _ h8), hati, _, rfl, _, rfl, p9, _, _, _, rfl, rfl, SqL.of hp9', hat9, _, _, _, rfl, rfl, by decide, letterAt_at hb10 hb11, _, _, rfl, rfl, ?_, low H11 _ y10 y11 (Same.refl _) (nameS_snoc hni (by omega) (letterAt_mem hb10 hb11))⟩
        show (ys[i - 1]).length + (S [letterAt b1]).length ≤ sizeLine
        rw [S_len]
        exact sz100 (Nat.le_trans (Nat.add_le_add (nameS_len hni).2 (Nat.le_refl 1)) (by decide))
      · rintro _ H12 ⟨e12, z2, u10, u11, rfl, hz2⟩
        refine ⟨fun σ' H' => Ex H11 H' ∧ ∃ (z' : Str) (y10 y11 : Option V), σ' = [some v, some (.int k), some (.int ((n : Nat) : Int)), some (.str lettersS), some (.ref pw), some (.ref p6), some (.ref p7), some (.int ((i : Nat) : Int)), some (.ref p9), some (.str z'), y10, y11] ∧ isNameS z' = true, ?_, ?_⟩
        · refine ⟨_, rfl, p6, _, _, _, rfl, rfl, SqL.of (e12 _ _ (E11 _ _ h6)), hat6, rfl, _, rfl, iteD (fun c => ?_) (fun c => low H12 z2 u10 u11 e12 hz2)⟩
          have h12b : 0 ≤ b1 % 12 := Int.emod_nonneg _ (by decide)
          have h12c : b1 % 12 < 12 := Int.emod_lt_of_pos _ (by decide)
          obtain ⟨w', hw', hwn⟩ := words_at h12b h12c
          exact ⟨_, rfl, _, rfl, p9, _, _, _, rfl, rfl, SqL.of (e12 _ _ hp9'), hat9, _, _, rfl, rfl, (show (0 : Int) < 12 by decide), pw, _, _, _, rfl, rfl, SqL.of (e12 _ _ (E11 _ _ hw6)), hw', low H12 w' u10 u11 e12 hwn⟩
        · rintro _ H13 ⟨e13, z3, u10, u11, rfl, hz3⟩
          have E13 : Ex H8 H13 := E8.trans e13
          refine ⟨fun σ' H' => Ex H11 H' ∧ ∃ (z' : Str) (y10 y11 : Option V), σ' = [some v, some (.int k), some (.int ((n : Nat) : Int)), some (.str lettersS), some (.ref pw), some (.ref p6), some (.ref p7), some (.int ((i : Nat) : Int)), some (.ref p9), some (.str z'), y10, y11] ∧ isNameS z' = true ∧ z' ∉ ys, ?_, ?_⟩
          · refine ⟨_, rfl, _, rfl, p7, _, rfl, .inl (SqL.of (E13 _ _ h8)), rfl, flatS ys, _, rfl, iteB (fun c => ?_) (fun c => ⟨e13, z3, u10, u11, rfl, hz3, ?_⟩)⟩
            · refine ⟨_, rfl, fun D hD13 => lcI (src_str _) (fun j H' => Ex H13 H' ∧ H' D = some (.lst (((lastV.take j).filter fun l => !decide (l ∈ ys)).map V.str))) ⟨Ex.new hD13, upd_same⟩ (fun _ _ h => h.1) ?_ ?_⟩
              · rintro j x H' hj ⟨c', hc', rfl⟩ ⟨ej, hDj⟩
                have hLj : lastV[j]? = some (S [c']) := by
                  rw [show lastV = ("uvwxyz" : Str).cps.toList.map (fun c => S [c]) by decide +kernel, List.getElem?_map, Array.getElem?_toList, hc']
                  rfl
                refine ⟨rfl, _, rfl, _, rfl, p7, _, rfl, .inl (SqL.of (ej _ _ (E13 _ _ h8))), rfl, flatS ys, _, rfl, ?_⟩
                have et : (if true = true then !inV (V.str (S [c'])) (ys.map V.str) else inV (V.str (S [c'])) (ys.map V.str)) = !decide (S [c'] ∈ ys) := by
                  rw [if_pos rfl, inS]
                have et2 : (lastV.take (j + 1)).filter (fun l => !decide (l ∈ ys)) = (lastV.take j).filter (fun l => !decide (l ∈ ys)) ++ (if (!decide (S [c'] ∈ ys)) = true then [S [c']] else []) := by
                  rw [List.take_add_one, hLj, List.filter_append]
                  congr 1
                  by_cases hc : S [c'] ∈ ys
                  · simp [hc]
                  · simp [hc]
                have fl : ((lastV.take j).filter fun l => !decide (l ∈ ys)).length ≤ 6 := Nat.le_trans (List.length_filter_le _ _) (by rw [List.length_take]; exact Nat.min_le_right _ _)
                show if (if true = true then !inV (V.str (S [c'])) (ys.map V.str) else inV (V.str (S [c'])) (ys.map V.str)) = true then _ else _
                rw [et]
                refine iteNB (fun hc => ?_) (fun hc => ?_)
                · refine ⟨_, rfl, _, hDj, szlt (by rw [List.length_map]; omega), Ex.mut ej hD13, ?_⟩
                  rw [upd_same, et2, hc, List.map_append]
                  rfl
                · refine ⟨ej, ?_⟩
                  rw [hDj, et2, hc]
                  simp
              · rintro H' ⟨ej, hDj⟩
                rw [show ("uvwxyz" : Str).cps.size = 6 by decide +kernel, show lastV.take 6 = lastV from rfl] at hDj
                cases hfl : lastV.filter (fun l => !decide (l ∈ ys)) with
                | nil =>
                  have h1 : ∀ l ∈ lastV, l ∈ ys := fun l hl => by
                    by_cases hm : l ∈ ys
                    · exact hm
                    · have : l ∈ lastV.filter (fun l => !decide (l ∈ ys)) := List.mem_filter.mpr ⟨hl, by simp [hm]⟩
                      rw [hfl] at this
                      cases this
                  have h2 := nodup_sub (show lastV.Nodup by decide +kernel) h1
                  have h3 : lastV.length = 6 := rfl
                  omega
                | cons l ls =>
                  rw [hfl] at hDj
                  have hl : l ∈ lastV.filter (fun l => !decide (l ∈ ys)) := by
                    rw [hfl]
                    exact List.mem_cons_self
                  have hl2 := List.mem_filter.mp hl
                  have all : (lastV.all isNameS) = true := by decide +kernel
                  exact ⟨D, _, _, _, rfl, rfl, SqL.of hDj, atI_nat (j := 0) rfl, e13.trans ej, l, _, _, rfl, List.all_eq_true.mp all l hl2.1, by simpa using hl2.2⟩
            · have c : inV (V.str z3) (ys.map V.str) = false := c
              rw [inS] at c
              exact of_decide_eq_false c
          · rintro _ H14 ⟨e14, z4, w10, w11, rfl, hz4, hnz⟩
            have h14 : H14 p7 = some (.lst (ys.map V.str)) := (E8.trans e14) _ _ h8
            refine ⟨_, rfl, .inl ⟨rfl, _, SqL.of h14⟩, _, rfl, p7, _, _, rfl, rfl, h14, szlt (show (ys.map V.str).length < 100000 by rw [List.length_map]; omega), ?_⟩
            refine ⟨Ex.mut (E11.trans e14) hp7, ys ++ [z4], _, _, _, _, _, rfl, (by rw [upd_same, List.map_append]; rfl), (by rw [List.length_append, hyl]; rfl), ?_, fun y hy => ?_⟩
            · rw [List.nodup_append]
              refine ⟨hnd, List.nodup_cons.mpr ⟨List.not_mem_nil, List.nodup_nil⟩, fun a ha b hb e => hnz ?_⟩
              rw [List.mem_singleton.mp hb] at e
              exact e ▸ ha
            · rcases List.mem_append.mp hy with hy | hy
              · exact hyn y hy
              · rw [List.mem_singleton.mp hy]
                exact hz4
  · rintro σ H8 ⟨e8, ys, y7, y8, y9, y10, y11, rfl, h8, hyl, hnd, hyn⟩
    rw [Int.toNat_natCast] at hyl
    exact ⟨_, rfl, kk ys p7 H8 (E6.trans e8) (Same.free E6 hp7) h8 hyl hnd hyn⟩
end
end Wk
namespace L2
open PySem PySem.Spec PyProof.Rows
/-- all is as it was but for the objects of l; the tuples are kept -/
structure Fr (l : List Addr) (H H' : Hp) : Prop where
  k : ∀ a o, H a = some o → a ∉ l → H' a = some o
  t : Tu H H'
theorem Fr.refl (l : List Addr) (H : Hp) : Fr l H H := ⟨fun _ _ h _ => h, Tu.refl H⟩
theorem Fr.ex {l : List Addr} {H H' : Hp} (e : Ex H H') : Fr l H H' := ⟨fun a o h _ => e a o h, Same.tu e⟩
theorem Fr.toEx {H H' : Hp} (f : Fr [] H H') : Ex H H' := fun a o h => f.k a o h List.not_mem_nil
theorem Fr.fresh {l : List Addr} {H H' : Hp} (f : Fr l H H') {p : Addr} (h : H' p = none) (hl : ∀ a ∈ l, H a ≠ none → H' a ≠ none) : H p = none := by
  cases q : H p with
  | none => rfl
  | some o =>
    by_cases m : p ∈ l
    · exact absurd h (hl p m (by rw [q]; exact fun z => by cases z))
    · rw [f.k p o q m] at h
      cases h
/-- a step whose objects are of l or new -/
theorem Fr.trans {l l2 : List Addr} {H H1 H2 : Hp} (f : Fr l H H1) (g : Fr l2 H1 H2) (h : ∀ a ∈ l2, a ∈ l ∨ H a = none) : Fr l H H2 :=
  ⟨fun a o e m => g.k a o (f.k a o e m) fun z => (h a z).elim m fun y => (by rw [y] at e; cases e), f.t.trans g.t⟩
theorem Fr.tr {l : List Addr} {H H1 H2 : Hp} (f : Fr l H H1) (g : Fr l H1 H2) : Fr l H H2 := f.trans g fun a h => .inl h
theorem Fr.up {l : List Addr} {H H1 H2 : Hp} (f : Fr l H H1) (e : Ex H1 H2) : Fr l H H2 := f.tr (.ex e)
theorem Fr.mut {H : Hp} {p : Addr} {o o' : HO} (h : H p = some o') (m : mutO o' = true := by rfl) : Fr [p] H (upd H p o) :=
  ⟨fun a u e z => by
    rw [upd_ne fun q => z (by rw [q]; exact List.mem_singleton.mpr rfl)]
    exact e, Tu.mut h m⟩
theorem Fr.sub {l l2 : List Addr} {H H1 : Hp} (f : Fr l H H1) (h : ∀ a ∈ l, a ∈ l2 ∨ H a = none) : Fr l2 H H1 := Fr.trans (Fr.refl l2 H) f h
/-- an object that H does not know may change -/
theorem Fr.mutNew {l : List Addr} {H H1 : Hp} {p : Addr} {o o' : HO} (f : Fr l H H1) (h : H p = none) (h1 : H1 p = some o') (m : mutO o' = true := by rfl) : Fr l H (upd H1 p o) :=
  f.trans (Fr.mut h1 m) fun a z => .inr (by rw [List.mem_singleton.mp z]; exact h)
theorem Fr.mutIn {l : List Addr} {H H1 : Hp} {p : Addr} {o o' : HO} (f : Fr l H H1) (h : p ∈ l) (h1 : H1 p = some o') (m : mutO o' = true := by rfl) : Fr l H (upd H1 p o) :=
  f.trans (Fr.mut h1 m) fun a z => .inl (by rw [List.mem_singleton.mp z]; exact h)
end L2
namespace Wk
open PySem PySem.Spec PyProof.Rows L2 SX
/-! ### digits -/
def Dg (d : Addr) (H : Hp) : Prop := ∃ xs : List Int, H d = some (.lst (xs.map V.int)) ∧ xs.length ≤ 1000
/-- digits taken, things made -/
structure GS (d : Addr) (H H' : Hp) : Prop where
  f : Fr [d] H H'
  g : Dg d H'
theorem GS.refl {d : Addr} {H : Hp} (g : Dg d H) : GS d H H := ⟨.refl _ _, g⟩
theorem GS.trans {d : Addr} {H H1 H2 : Hp} (a : GS d H H1) (b : GS d H1 H2) : GS d H H2 := ⟨a.f.tr b.f, b.g⟩
theorem GS.up {d : Addr} {H H1 H2 : Hp} (a : GS d H H1) (e : Ex H1 H2) : GS d H H2 := ⟨a.f.up e, by
  obtain ⟨xs, h, hl⟩ := a.g
  exact ⟨xs, e _ _ h, hl⟩⟩
theorem GS.keep {d p : Addr} {o : HO} {H H1 : Hp} (a : GS d H H1) (h : H p = some o) (n : p ≠ d) : H1 p = some o := a.f.k p o h fun z => n (List.mem_singleton.mp z)
/-- the names, a list beside the digits -/
structure Nl (d b : Addr) (ns : List Str) (H : Hp) : Prop where
  h : H b = some (.lst (ns.map V.str))
  ne : b ≠ d
  ok : ∀ y ∈ ns, isNameS y = true
  len : ns.length ≤ 6
  pos : 0 < ns.length
theorem Nl.gs {d b : Addr} {ns : List Str} {H H1 : Hp} (n : Nl d b ns H) (a : GS d H H1) : Nl d b ns H1 := ⟨a.keep n.h n.ne, n.ne, n.ok, n.len, n.pos⟩
theorem Nl.up {d b : Addr} {ns : List Str} {H H1 : Hp} (n : Nl d b ns H) (e : Ex H H1) : Nl d b ns H1 := ⟨e _ _ n.h, n.ne, n.ok, n.len, n.pos⟩
def spNextD (K : PySem.W.Frag) : Sp := fun vs H Q _ => ∃ d, vs = [.ref d] ∧ Dg d H ∧ ∀ i H', GS d H H' → Q (.int i) H'
def spValueD (K : PySem.W.Frag) : Sp := fun vs H Q _ => ∃ d b ns, vs = [.ref d, .ref b] ∧ Dg d H ∧ Nl d b ns H ∧ ∀ x v H', GS d H H' → Dp K H' x v → okV v = true → Q x H'
def spLeafD (K : PySem.W.Frag) : Sp := fun vs H Q _ => ∃ d b ns n, vs = [.ref d, .ref b, .int ((n : Nat) : Int)] ∧ Dg d H ∧ Nl d b ns H ∧ ∀ x l H', GS d H H' → Dp K H' x (encL l) → wfL n l = true → Q x H'
def spExprD (K : PySem.W.Frag) : Sp := fun vs H Q _ => ∃ d b ns n, vs = [.ref d, .ref b, .int ((n : Nat) : Int)] ∧ Dg d H ∧ Nl d b ns H ∧ ∀ x e H', GS d H H' → Dp K H' x (encX e) → wfX n e = true → Q x H'
def spRecD (K : PySem.W.Frag) (deep : Nat) : Sp := fun vs H Q _ => ∃ d b ns n pk, vs = [.ref d, .ref b, .int ((n : Nat) : Int), .int ((deep : Nat) : Int), .bl pk] ∧ Dg d H ∧ Nl d b ns H ∧ ∀ x r H', GS d H H' → Dp K H' x (encR r) → wfR n r = true → depthR r ≤ deep → Q x H'
section
variable {P : Program} {w : World} {K : PySem.W.Frag} {mg : Str → Option Value} {base : Heap}
theorem c_law_next (W : Wld K mg) : Cal P w K mg base 1 "_law_next" (spNextD K) := by
  refine cal_of W.d_law_next sc_law_next (fun vs H Q E h => ?_) (fun f cdv A outer s H vs Q E hr h => ?_)
  · obtain ⟨d, rfl, _⟩ := h
    rfl
  obtain ⟨d, rfl, ⟨xs, hd, hl⟩, k⟩ := h
  refine ⟨_, (pss_one (ps_ret (pe_ifExp (pt_cmpR op_gt (pe_callB call_lenA (by rfl) W.f_len bt_len (pa_cons (pv 0) pa_nil)) pe_int (nomark _)) (pe_bm PySem.F.plainAttrs_list PySem.F.slot_list_pop PySem.F.type_list_pop mt_popAt (pv 0) (pa_cons pe_int pa_nil)) pe_int))), ?_⟩
  refine ⟨_, rfl, _, _, rfl, .inl ⟨_, SqL.of hd, rfl⟩, _, _, rfl, rfl, _, rfl, iteD (fun c => ?_) (fun c => ?_)⟩
  · have c : (0 : Int) < (((xs.map V.int).length : Nat) : Int) := c
    cases xs with
    | nil => exact absurd c (by decide)
    | cons i xs =>
      refine ⟨_, rfl, .inl ⟨rfl, _, SqL.of hd⟩, d, _, 0, 0, .int i, rfl, rfl, hd, by decide, by decide, ?_, rfl, ?_⟩
      · unfold seqIndex?
        simp
      · exact k i _ ⟨Fr.mut hd, xs, upd_same, Nat.le_trans (Nat.le_succ _) hl⟩
  · exact k 0 H (GS.refl ⟨xs, hd, hl⟩)
def someD : List PyData := [.int 0, .int 1, .int 2, .int (-1), .int (10 ^ 18), .str "", .str "a", .str "b-1", .tuple [], .tuple [.int 0], .tuple [.int 1, .str "a"], .tuple [.tuple [], .int 3]]
theorem nameS_okV {z : Str} (h : isNameS z = true) : okV (.str z) = true := by
  unfold okV
  have hp : plainD (.str z) = true := by
    obtain ⟨h1, h2⟩ := nameS_len h
    show (decide (z.length ≤ 20) && allIn z signsS) = true
    rw [decide_eq_true (by omega)]
    unfold isNameS at h
    rw [Bool.and_eq_true, Bool.and_eq_true] at h
    refine List.all_eq_true.mpr fun c hc => ?_
    have q := of_decide_eq_true (List.all_eq_true.mp h.2.2 c hc)
    have all : (lettersS.cps.toList.all fun c => decide (c ∈ signsS.cps.toList)) = true := by decide +kernel
    exact List.all_eq_true.mp all c q
  rw [vin, if_pos hp]
  rfl
theorem some_ok {ns : List Str} (h : ∀ y ∈ ns, isNameS y = true) : ∀ d ∈ someD ++ ns.map PyData.str, okV d = true := by
  intro d hd
  rcases List.mem_append.mp hd with hd | hd
  · have all : (someD.all okV) = true := by decide +kernel
    exact List.all_eq_true.mp all d hd
  · obtain ⟨y, hy, rfl⟩ := List.mem_map.mp hd
    exact nameS_okV (h y hy)
theorem c_law_value (W : Wld K mg) : Cal P w K mg base 2 "_law_value" (spValueD K) := by
  have c_law_next : Cal P w K mg base 1 "_law_next" _ := c_law_next W
  refine cal_of W.d_law_value sc_law_value (fun vs H Q E h => ?_) (fun f cdv A outer s H vs Q E hr h => ?_)
  · obtain ⟨d, b, ns, rfl, _⟩ := h
    rfl
  obtain ⟨d, b, ns, rfl, hd, hn, k⟩ := h
  refine ⟨_, (pss_cons (ps_set (i := 2) sc_law_value.nd rfl (Or.inl rfl) (pe_op op_cat (pe_lst (pa_cons pe_int (pa_cons pe_int (pa_cons pe_int (pa_cons (pe_un un_neg pe_int) (pa_cons (pe_op op_pow pe_int pe_int) (pa_cons pe_str (pa_cons pe_str (pa_cons pe_str (pa_cons (pe_tup pa_nil) (pa_cons (pe_tup (pa_cons pe_int pa_nil)) (pa_cons (pe_tup (pa_cons pe_int (pa_cons pe_str pa_nil))) (pa_cons (pe_tup (pa_cons (pe_tup pa_nil) (pa_cons pe_int pa_nil))) pa_nil))))))))))))) (pv 1)))
    (pss_one (ps_ret (pe_ix ix_list (pv 2) (pe_op op_mod (pe_cl c_law_next hr (by omega) (by rfl) (pa_cons (pv 0) pa_nil)) (pe_callB call_lenA (by rfl) W.f_len bt_len (pa_cons (pv 2) pa_nil))) (fun _ _ => rfl))))), ?_⟩
  refine ⟨_, rfl, _, _, rfl, rfl, ⟨by decide, by decide, by decide⟩, Nat.zero_le _, fun p1 hp1 => ?_⟩
  generalize hh : upd H p1 _ = H1
  have e1 : Ex H H1 := hh ▸ Ex.new hp1
  have h1 : H1 p1 = some (.tup []) := by rw [← hh]; exact upd_same
  clear hh
  have d1 : Dp K H1 (.ref p1) (.tuple []) := .tup (SqT.of h1) .nil
  refine ⟨by decide, fun p2 hp2 => ?_⟩
  generalize hh : upd H1 p2 _ = H2
  have e2 : Ex H1 H2 := hh ▸ Ex.new hp2
  have h2 : H2 p2 = some (.tup [.int 0]) := by rw [← hh]; exact upd_same
  clear hh
  have d2 : Dp K H2 (.ref p2) (.tuple [.int 0]) := .tup (SqT.of h2) (.one (.int _))
  refine ⟨by decide, fun p3 hp3 => ?_⟩
  generalize hh : upd H2 p3 _ = H3
  have e3 : Ex H2 H3 := hh ▸ Ex.new hp3
  have h3 : H3 p3 = some (.tup [.int 1, .str "a"]) := by rw [← hh]; exact upd_same
  clear hh
  have d3 : Dp K H3 (.ref p3) (.tuple [.int 1, .str "a"]) := .tup (SqT.of h3) (.cons (.int _) (.one (.str _)))
  refine ⟨Nat.zero_le _, fun p4 hp4 => ?_⟩
  generalize hh : upd H3 p4 _ = H4
  have e4 : Ex H3 H4 := hh ▸ Ex.new hp4
  have h4 : H4 p4 = some (.tup []) := by rw [← hh]; exact upd_same
  clear hh
  refine ⟨(show 2 ≤ sizeLine by decide), fun p5 hp5 => ?_⟩
  generalize hh : upd H4 p5 _ = H5
  have e5 : Ex H4 H5 := hh ▸ Ex.new hp5
  have h5 : H5 p5 = some (.tup [.ref p4, .int 3]) := by rw [← hh]; exact upd_same
  clear hh
  have d5 : Dp K H5 (.ref p5) (.tuple [.tuple [], .int 3]) := .tup (SqT.of h5) (.cons (.tup (SqT.of (e5 _ _ h4)) .nil) (.one (.int _)))
  refine ⟨(show 12 ≤ sizeLine by decide), fun p6 hp6 => ?_⟩
  generalize hh : upd H5 p6 _ = H6
  have e6 : Ex H5 H6 := hh ▸ Ex.new hp6
  have h6 : H6 p6 = some (.lst [.int 0, .int 1, .int 2, .int (-1), .int (10 ^ 18), .str "", .str "a", .str "b-1", .ref p1, .ref p2, .ref p3, .ref p5]) := by rw [← hh]; exact upd_same
  clear hh
  have E6 : Ex H H6 := e1.trans (e2.trans (e3.trans (e4.trans (e5.trans e6))))
  have dA : DpAll K H6 [.int 0, .int 1, .int 2, .int (-1), .int (10 ^ 18), .str "", .str "a", .str "b-1", .ref p1, .ref p2, .ref p3, .ref p5] someD :=
    .cons (.int _) (.cons (.int _) (.cons (.int _) (.cons (.int _) (.cons (.int _) (.cons (.str _) (.cons (.str _) (.cons (.str _) (.cons (d1.up (e2.trans (e3.trans (e4.trans (e5.trans e6))))) (.cons (d2.up (e3.trans (e4.trans (e5.trans e6)))) (.cons (d3.up (e4.trans (e5.trans e6))) (.one (d5.up e6))))))))))))
  refine ⟨_, rfl, p6, b, _, _, rfl, rfl, h6, E6 _ _ hn.h, ?_, fun p7 hp7 => ?_⟩
  · show 12 + (ns.map V.str).length ≤ sizeLine
    rw [List.length_map]
    exact sz100 (by have := hn.len; omega)
  generalize hh : upd H6 p7 _ = H7
  have e7 : Ex H6 H7 := hh ▸ Ex.new hp7
  have h7 : H7 p7 = some (.lst ([.int 0, .int 1, .int 2, .int (-1), .int (10 ^ 18), .str "", .str "a", .str "b-1", .ref p1, .ref p2, .ref p3, .ref p5] ++ ns.map V.str)) := by rw [← hh]; exact upd_same
  clear hh
  have dB : DpAll K H7 _ (someD ++ ns.map PyData.str) := (dA.up e7).append (DpAll.strs ns)
  have nd : p7 ≠ d := fun z => by
    obtain ⟨xs, hx, _⟩ := hd
    rw [z] at hp7
    have := E6 _ _ hx
    rw [this] at hp7
    cases hp7
  have g7 : GS d H H7 := (GS.refl hd).up (E6.trans e7)
  generalize [.int 0, .int 1, .int 2, .int (-1), .int (10 ^ 18), .str "", .str "a", .str "b-1", .ref p1, .ref p2, .ref p3, .ref p5] ++ ns.map V.str = vals at dB h7
  refine ⟨_, rfl, _, rfl, d, rfl, g7.g, fun i H8 g8 => ?_⟩
  have h8 := g8.keep h7 nd
  have hl := dB.length
  have hpos : 0 < vals.length := by
    rw [hl, List.length_append]
    show 0 < 12 + _
    omega
  obtain ⟨x, hx, hm⟩ := atI_mod i hpos
  obtain ⟨j, hj⟩ := List.mem_iff_getElem?.mp hm
  obtain ⟨dd, hdd, hdx⟩ := dB.getV hj
  have ok := some_ok hn.ok dd (List.mem_of_getElem? hdd)
  refine ⟨_, rfl, _, _, rfl, .inl ⟨_, SqL.of h8, rfl⟩, _, _, rfl, rfl, ?_, p7, _, _, _, rfl, rfl, SqL.of h8, hx, ?_⟩
  · show (0 : Int) < ((vals.length : Nat) : Int)
    omega
  · exact k x dd H8 (g7.trans g8) (Dp.tu g8.f.t _ _ (imm_vp ok) hdx) ok
end
end Wk
namespace Wk
open PySem PySem.Spec PyProof.Rows L2 SX
theorem mod_nat (i : Int) {n : Nat} (h : 0 < n) : ∃ j : Nat, i % ((n : Nat) : Int) = ((j : Nat) : Int) ∧ j < n := by
  have h1 : 0 ≤ i % ((n : Nat) : Int) := Int.emod_nonneg _ (by omega)
  have h2 : i % ((n : Nat) : Int) < ((n : Nat) : Int) := Int.emod_lt_of_pos _ (by omega)
  obtain ⟨j, hj⟩ := Int.eq_ofNat_of_zero_le h1
  rw [hj] at h2
  exact ⟨j, hj, by omega⟩
theorem immE {n : Nat} {e : Xp} (h : wfX n e = true) : imm (encX e) = true := immX h
section
variable {P : Program} {w : World} {K : PySem.W.Frag} {mg : Str → Option Value} {base : Heap}
theorem c_law_leaf (W : Wld K mg) : Cal P w K mg base 3 "_law_leaf" (spLeafD K) := by
  have c_law_next : Cal P w K mg base 1 "_law_next" _ := c_law_next W
  have c_law_value : Cal P w K mg base 2 "_law_value" _ := c_law_value W
  refine cal_of W.d_law_leaf sc_law_leaf (fun vs H Q E h => ?_) (fun f cdv A outer s H vs Q E hr h => ?_)
  · obtain ⟨d, b, ns, n, rfl, _⟩ := h
    rfl
  obtain ⟨d, b, ns, n, rfl, hd, hn, k⟩ := h
  refine ⟨_, (pss_cons (ps_if (PW.pt (pw_and (pt_cmpR op_gt (pv 2) pe_int (nomark _)) (pw_and1 (pt_cmpR op_gt (pe_op op_mod (pe_cl c_law_next hr (by omega) (by rfl) (pa_cons (pv 0) pa_nil)) pe_int) pe_int (nomark _))))) (pss_one (ps_ret (pe_tup (pa_cons pe_str (pa_cons (pe_op op_mod (pe_cl c_law_next hr (by omega) (by rfl) (pa_cons (pv 0) pa_nil)) (pv 2)) pa_nil))))) pss_nil)
    (pss_one (ps_ret (pe_tup (pa_cons pe_str (pa_cons (pe_cl c_law_value hr (by omega) (by rfl) (pa_cons (pv 0) (pa_cons (pv 1) pa_nil))) pa_nil)))))), ?_⟩
  have put : ∀ H1, GS d H H1 → spValueD K [.ref d, .ref b] H1 (fun x H2 => 2 ≤ sizeLine ∧ ∀ p, H2 p = none → Q (.ref p) (upd H2 p (.tup [.str "put", x]))) E := fun H1 g1 =>
    ⟨d, b, ns, rfl, g1.g, hn.gs g1, fun x v H2 g2 hx hv => ⟨(show 2 ≤ sizeLine by decide), tup_new (K := K) (.cons (.str "put") (.one hx)) fun p H3 e3 h3 => k _ (.put v) H3 ((g1.trans g2).up e3) h3 hv⟩⟩
  refine ⟨_, rfl, _, _, rfl, rfl, _, rfl, iteD (fun c => ?_) (fun c => ?_)⟩
  · have c : (0 : Int) < ((n : Nat) : Int) := c
    refine ⟨_, rfl, d, rfl, hd, fun i H1 g1 => ⟨_, _, rfl, rfl, (show (0 : Int) < 3 by decide), _, _, rfl, rfl, _, rfl, iteD (fun c2 => ?_) (fun c2 => ?_)⟩⟩
    · refine ⟨_, rfl, d, rfl, g1.g, fun i2 H2 g2 => ?_⟩
      obtain ⟨j, hj, hjn⟩ := mod_nat i2 (show 0 < n by omega)
      have dj : Dp K H2 (V.int (i2 % ((n : Nat) : Int))) (.int ((j : Nat) : Int)) := by
        rw [hj]
        exact .int _
      exact ⟨_, rfl, _, _, rfl, rfl, c, (show 2 ≤ sizeLine by decide), tup_new (K := K) (.cons (.str "got") (.one dj)) fun p H3 e3 h3 => k _ (.got j) H3 ((g1.trans g2).up e3) h3 (decide_eq_true hjn)⟩
    · exact ⟨_, rfl, _, rfl, put H1 g1⟩
  · exact ⟨_, rfl, _, rfl, put H (GS.refl hd)⟩
theorem c_law_expr (W : Wld K mg) : Cal P w K mg base 4 "_law_expr" (spExprD K) := by
  have c_law_next : Cal P w K mg base 1 "_law_next" _ := c_law_next W
  have c_law_leaf : Cal P w K mg base 3 "_law_leaf" _ := c_law_leaf W
  refine cal_of W.d_law_expr sc_law_expr (fun vs H Q E h => ?_) (fun f cdv A outer s H vs Q E hr h => ?_)
  · obtain ⟨d, b, ns, n, rfl, _⟩ := h
    rfl
  obtain ⟨d, b, ns, n, rfl, hd, hn, k⟩ := h
  refine ⟨_, (pss_cons (ps_set (i := 3) sc_law_expr.nd rfl (Or.inl rfl) (pe_op op_mod (pe_cl c_law_next hr (by omega) (by rfl) (pa_cons (pv 0) pa_nil)) pe_int))
    (pss_cons (ps_set (i := 4) sc_law_expr.nd rfl (Or.inl rfl) (pe_cl c_law_leaf hr (by omega) (by rfl) (pa_cons (pv 0) (pa_cons (pv 1) (pa_cons (pv 2) pa_nil)))))
    (pss_cons (ps_if (pt_cmpR op_lt (pv 3) pe_int (nomark _)) (pss_one (ps_ret (pv 4))) pss_nil)
    (pss_cons (ps_if (pt_cmpR op_eq (pv 3) pe_int (nomark _)) (pss_one (ps_ret (pe_tup (pa_cons pe_str (pa_cons (pv 4) pa_nil))))) pss_nil)
    (pss_cons (ps_if (pt_cmpR op_eq (pv 3) pe_int (nomark _)) (pss_one (ps_ret (pe_tup (pa_cons pe_str (pa_cons (pe_tup (pa_cons (pv 4) (pa_cons (pe_tup (pa_cons pe_str (pa_cons pe_int pa_nil))) pa_nil))) pa_nil))))) pss_nil)
    (pss_cons (ps_set (i := 5) sc_law_expr.nd rfl (Or.inl rfl) (pe_ix ix_list (pe_lst (pa_cons pe_str (pa_cons pe_str (pa_cons pe_str (pa_cons pe_str (pa_cons pe_str (pa_cons pe_str pa_nil))))))) (pe_op op_sub (pv 3) pe_int) (fun _ _ => rfl)))
    (pss_one (ps_ret (pe_tup (pa_cons (pv 5) (pa_cons (pv 4) (pa_cons (pe_cl c_law_leaf hr (by omega) (by rfl) (pa_cons (pv 0) (pa_cons (pv 1) (pa_cons (pv 2) pa_nil)))) pa_nil)))))))))))), ?_⟩
  refine ⟨_, rfl, d, rfl, hd, fun i H1 g1 => ⟨_, _, rfl, rfl, (show (0 : Int) < 12 by decide), ?_⟩⟩
  obtain ⟨j, hj, hjn⟩ := mod_nat i (show 0 < 12 by decide)
  have hj : i % 12 = ((j : Nat) : Int) := hj
  show gName 3 (V.int (i % 12)) _ _ _
  rw [hj]
  refine ⟨_, rfl, _, rfl, _, rfl, d, b, ns, n, rfl, g1.g, hn.gs g1, fun x l H2 g2 hx hl => ?_⟩
  have G2 := g1.trans g2
  refine ⟨_, rfl, _, _, rfl, rfl, _, rfl, iteD (fun c => ?_) (fun c => ?_)⟩
  · exact ⟨_, rfl, k x (.lf l) H2 G2 hx hl⟩
  refine ⟨_, rfl, rfl, _, rfl, iteD (fun c4 => ?_) (fun c4 => ?_)⟩
  · exact ⟨_, rfl, (show 2 ≤ sizeLine by decide), tup_new (K := K) (.cons (.str "many") (.one hx)) fun p H3 e3 h3 => k _ (.many l) H3 (G2.up e3) h3 hl⟩
  refine ⟨_, rfl, rfl, _, rfl, iteD (fun c5 => ?_) (fun c5 => ?_)⟩
  · refine ⟨_, rfl, (show 2 ≤ sizeLine by decide), fun p3 hp3 => ?_⟩
    generalize hh : upd H2 p3 _ = H3
    have e3 : Ex H2 H3 := hh ▸ Ex.new hp3
    have h3 : H3 p3 = some (.tup [.str "put", .int 1]) := by rw [← hh]; exact upd_same
    clear hh
    refine ⟨(show 2 ≤ sizeLine by decide), fun p4 hp4 => ?_⟩
    generalize hh : upd H3 p4 _ = H4
    have e4 : Ex H3 H4 := hh ▸ Ex.new hp4
    have h4 : H4 p4 = some (.tup [x, .ref p3]) := by rw [← hh]; exact upd_same
    clear hh
    have d4 : Dp K H4 (.ref p4) (.tuple [encL l, encL (.put (.int 1))]) := .tup (SqT.of h4) (.cons ((hx.up e3).up e4) (.one (.tup (SqT.of (e4 _ _ h3)) (.cons (.str _) (.one (.int _))))))
    refine ⟨(show 2 ≤ sizeLine by decide), tup_new (K := K) (.cons (.str "row") (.one d4)) fun p H5 e5 h5 => k _ (.row l (.put (.int 1))) H5 (G2.up (e3.trans (e4.trans e5))) h5 ?_⟩
    show (wfL n l && wfL n (.put (.int 1))) = true
    rw [hl, show wfL n (.put (.int 1)) = true from by show okV (.int 1) = true; decide +kernel]
    rfl
  · refine ⟨(show 6 ≤ sizeLine by decide), fun p3 hp3 => ?_⟩
    generalize hh : upd H2 p3 _ = H3
    have e3 : Ex H2 H3 := hh ▸ Ex.new hp3
    have h3 : H3 p3 = some (.lst ([Bop.part, .sum, .join, .same, .less, .sum].map fun o => V.str (opS o))) := by rw [← hh]; exact upd_same
    clear hh
    have c : ¬ ((j : Nat) : Int) < 4 := c
    have c4 : ¬ V.int ((j : Nat) : Int) = V.int 4 := c4
    have c5 : ¬ V.int ((j : Nat) : Int) = V.int 5 := c5
    have n4 : j ≠ 4 := fun z => c4 (by rw [z]; rfl)
    have n5 : j ≠ 5 := fun z => c5 (by rw [z]; rfl)
    have hk : j - 6 < ([Bop.part, .sum, .join, .same, .less, .sum] : List Bop).length := by
      show j - 6 < 6
      omega
    have hat : atI (([Bop.part, .sum, .join, .same, .less, .sum] : List Bop).map fun o => V.str (opS o)) (((j : Nat) : Int) - 6) = some (V.str (opS (([Bop.part, .sum, .join, .same, .less, .sum] : List Bop)[j - 6]))) := by
      rw [show ((j : Nat) : Int) - 6 = (((j - 6 : Nat) : Nat) : Int) by omega]
      exact atI_nat (by rw [List.getElem?_map, List.getElem?_eq_getElem hk]; rfl)
    generalize ([Bop.part, .sum, .join, .same, .less, .sum] : List Bop)[j - 6] = o at hat
    refine ⟨_, rfl, _, _, rfl, rfl, p3, _, _, _, rfl, rfl, SqL.of h3, hat, ?_⟩
    have g3 := G2.up e3
    refine ⟨_, rfl, _, rfl, _, rfl, _, rfl, _, rfl, d, b, ns, n, rfl, g3.g, hn.gs g3, fun x2 l2 H4 g4 hx2 hl2 => ?_⟩
    have hx4 := Dp.tu g4.f.t _ _ (immL hl) (hx.up e3)
    refine ⟨(show 3 ≤ sizeLine by decide), tup_new (K := K) (.cons (.str (opS o)) (.cons hx4 (.one hx2))) fun p H5 e5 h5 => k _ (.bin o l l2) H5 ((g3.trans g4).up e5) h5 ?_⟩
    show (wfL n l && wfL n l2) = true
    rw [hl, hl2]
    rfl
end
end Wk
namespace Wk
open PySem PySem.Spec PyProof.Rows L2 SX
def spRec (K : PySem.W.Frag) (m : Nat) : Sp := fun vs H Q _ => ∃ d b ns n deep pk, vs = [.ref d, .ref b, .int ((n : Nat) : Int), .int ((deep : Nat) : Int), .bl pk] ∧ deep < m ∧ Dg d H ∧ Nl d b ns H ∧ ∀ x r H', GS d H H' → Dp K H' x (encR r) → wfR n r = true → depthR r ≤ deep → Q x H'
theorem iteK {p A C : Prop} [Decidable p] (h1 : A) (h2 : A → ¬ p → C) : if decide p = true then A else C := by
  by_cases h : p
  · rw [if_pos (decide_eq_true h)]
    exact h1
  · rw [if_neg (by rw [decide_eq_false h]; exact Bool.false_ne_true)]
    exact h2 h1 h
section
variable {P : Program} {w : World} {K : PySem.W.Frag} {mg : Str → Option Value} {base : Heap}
theorem names_at {d b : Addr} {ns : List Str} {H : Hp} (h : Nl d b ns H) (i : Int) : ∃ z, atI (ns.map V.str) (i % (((ns.map V.str).length : Nat) : Int)) = some (V.str z) ∧ isNameS z = true := by
  obtain ⟨v, h1, h2⟩ := atI_mod (xs := ns.map V.str) i (by rw [List.length_map]; exact h.pos)
  obtain ⟨z, hz, rfl⟩ := List.mem_map.mp h2
  exact ⟨z, h1, h.ok z hz⟩
theorem c_law_recipe (W : Wld K mg) : ∀ m : Nat, Cal P w K mg base (m + 5) "_law_recipe" (spRec K m)
  | 0 => (cal_zero W.d_law_recipe fun vs H Q E h => by
      obtain ⟨d, b, ns, n, deep, pk, _, h, _⟩ := h
      omega).mono (by omega)
  | m + 1 => by
    have c_law_next : Cal P w K mg base 1 "_law_next" _ := c_law_next W
    have c_law_expr : Cal P w K mg base 4 "_law_expr" _ := c_law_expr W
    have c_law_recipe : Cal P w K mg base (m + 5) "_law_recipe" (spRec K m) := c_law_recipe W m
    refine cal_of W.d_law_recipe sc_law_recipe (fun vs H Q E h => ?_) (fun f cdv A outer s H vs Q E hr h => ?_)
    · obtain ⟨d, b, ns, n, deep, pk, rfl, _⟩ := h
      rfl
    obtain ⟨d, b, ns, n, deep, pk, rfl, hdm, hd, hn, k⟩ := h
    refine ⟨_, (pss_cons (ps_set (i := 5) sc_law_recipe.nd rfl (Or.inl rfl) (pe_op op_mod (pe_cl c_law_next hr (by omega) (by rfl) (pa_cons (pv 0) pa_nil)) pe_int))
    (pss_cons (ps_if (PW.pt (pw_or (pt_cmpR op_eq (pv 3) pe_int (nomark _)) (pw_or1 (pt_cmpR op_lt (pv 5) pe_int (nomark _))))) (pss_cons (ps_if (PW.pt (pw_and (pt_cmpR op_eq (pv 5) pe_int (nomark _)) (pw_and1 (pt_cmpR op_eq (pe_op op_mod (pe_cl c_law_next hr (by omega) (by rfl) (pa_cons (pv 0) pa_nil)) pe_int) pe_int (nomark _))))) (pss_one (ps_ret (pe_tup (pa_cons pe_str (pa_cons (pe_ix ix_list (pv 1) (pe_op op_mod (pe_cl c_law_next hr (by omega) (by rfl) (pa_cons (pv 0) pa_nil)) (pe_callB call_lenA (by rfl) W.f_len bt_len (pa_cons (pv 1) pa_nil))) (fun _ _ => rfl)) pa_nil))))) pss_nil)
    (pss_one (ps_ret (pe_tup (pa_cons pe_str (pa_cons (pe_cl c_law_expr hr (by omega) (by rfl) (pa_cons (pv 0) (pa_cons (pv 1) (pa_cons (pv 2) pa_nil)))) pa_nil)))))) pss_nil)
    (pss_cons (ps_if (pt_cmpR op_lt (pv 5) pe_int (nomark _)) (pss_cons (ps_set (i := 6) sc_law_recipe.nd rfl (Or.inl rfl) (pe_cl c_law_expr hr (by omega) (by rfl) (pa_cons (pv 0) (pa_cons (pv 1) (pa_cons (pv 2) pa_nil)))))
    (pss_cons (ps_set (i := 7) sc_law_recipe.nd rfl (Or.inl rfl) (pe_cl c_law_recipe hr (by omega) (by rfl) (pa_cons (pv 0) (pa_cons (pv 1) (pa_cons (pv 2) (pa_cons (pe_op op_sub (pv 3) pe_int) (pa_cons (pv 4) pa_nil)))))))
    (pss_one (ps_ret (pe_tup (pa_cons pe_str (pa_cons (pv 6) (pa_cons (pv 7) (pa_cons (pe_cl c_law_recipe hr (by omega) (by rfl) (pa_cons (pv 0) (pa_cons (pv 1) (pa_cons (pv 2) (pa_cons (pe_op op_sub (pv 3) pe_int) (pa_cons (pv 4) pa_nil)))))) pa_nil))))))))) pss_nil)
    (pss_cons (ps_set (i := 8) sc_law_recipe.nd rfl (Or.inl rfl) (pe_tup (pa_cons pe_str (pa_cons (pe_ix ix_list (pv 1) (pe_op op_mod (pe_cl c_law_next hr (by omega) (by rfl) (pa_cons (pv 0) pa_nil)) (pe_callB call_lenA (by rfl) W.f_len bt_len (pa_cons (pv 1) pa_nil))) (fun _ _ => rfl)) pa_nil))))
    (C8.pss_cut (ps_if (PW.pt (pw_and (pt_cmpR op_gt (pv 2) pe_int (nomark _)) (pw_and1 (pt_cmpR op_eq (pv 5) pe_int (nomark _))))) (pss_one (ps_set (i := 8) sc_law_recipe.nd rfl (Or.inl rfl) (pe_cl c_law_expr hr (by omega) (by rfl) (pa_cons (pv 0) (pa_cons (pv 1) (pa_cons (pv 2) pa_nil)))))) pss_nil)
    (pss_cons (ps_set (i := 9) sc_law_recipe.nd rfl (Or.inl rfl) pe_str)
    (C8.pss_cut (ps_if (PW.pt (pw_and (pt_val (pv 4)) (pw_and1 (pt_cmpR op_eq (pv 5) pe_int (nomark _))))) (pss_one (ps_set (i := 9) sc_law_recipe.nd rfl (Or.inl rfl) pe_str)) pss_nil)
    (pss_one (ps_ret (pe_tup (pa_cons (pv 9) (pa_cons (pv 8) (pa_cons (pe_cl c_law_recipe hr (by omega) (by rfl) (pa_cons (pv 0) (pa_cons (pv 1) (pa_cons (pe_op op_add (pv 2) pe_int) (pa_cons (pe_op op_sub (pv 3) pe_int) (pa_cons (pv 4) pa_nil)))))) pa_nil))))))))))))), ?_⟩
    refine ⟨_, rfl, d, rfl, hd, fun i H1 g1 => ⟨_, _, rfl, rfl, (show (0 : Int) < 12 by decide), ?_⟩⟩
    obtain ⟨j, hj, hjn⟩ := mod_nat i (show 0 < 12 by decide)
    have hj : i % 12 = ((j : Nat) : Int) := hj
    show gName 5 (V.int (i % 12)) _ _ _
    rw [hj]
    have hn1 := hn.gs g1
    have leaf : ∀ H1, GS d H H1 → (spExprD K [.ref d, .ref b, .int ((n : Nat) : Int)] H1 (fun x H2 => 2 ≤ sizeLine ∧ ∀ p, H2 p = none → Q (.ref p) (upd H2 p (.tup [.str "say", x]))) E) := fun H1 g1 =>
      ⟨d, b, ns, n, rfl, g1.g, hn.gs g1, fun x e H2 g2 hx he => ⟨(show 2 ≤ sizeLine by decide), tup_new (K := K) (.cons (.str "say") (.one hx)) fun p H3 e3 h3 => k _ (.say e) H3 ((g1.trans g2).up e3) h3 he (Nat.zero_le _)⟩⟩
    refine ⟨_, rfl, rfl, _, rfl, iteK ?_ fun hA c0 => ⟨_, rfl, _, _, rfl, rfl, _, rfl, iteD (fun _ => hA) fun c2 => ?_⟩⟩
    · refine ⟨_, rfl, rfl, _, rfl, iteD (fun c1 => ?_) (fun _ => ⟨_, rfl, _, rfl, _, rfl, leaf H1 g1⟩)⟩
      refine ⟨_, rfl, d, rfl, g1.g, fun i2 H2 g2 => ⟨_, _, rfl, rfl, (show (0 : Int) < 2 by decide), rfl, _, rfl, iteD (fun c2 => ?_) (fun _ => ⟨_, rfl, _, rfl, _, rfl, leaf H2 (g1.trans g2)⟩)⟩⟩
      refine ⟨_, rfl, _, rfl, d, rfl, g2.g, fun i3 H3 g3 => ?_⟩
      have hn3 := (hn1.gs g2).gs g3
      obtain ⟨z, hz, hzn⟩ := names_at hn3 i3
      refine ⟨_, rfl, _, _, rfl, .inl ⟨_, SqL.of hn3.h, rfl⟩, _, _, rfl, rfl, ?_, b, _, _, _, rfl, rfl, SqL.of hn3.h, hz, (show 2 ≤ sizeLine by decide), tup_new (K := K) (.cons (.str "fail") (.one (.str z))) fun p H4 e4 h4 => k _ (.fail z) H4 (((g1.trans g2).trans g3).up e4) h4 hzn (Nat.zero_le _)⟩
      show (0 : Int) < (((ns.map V.str).length : Nat) : Int)
      rw [List.length_map]
      exact Int.natCast_pos.mpr hn.pos
    have c0 : ¬ V.int ((deep : Nat) : Int) = V.int 0 := c0
    have hdeep : 0 < deep := by
      rcases Nat.eq_zero_or_pos deep with z | z
      · exact absurd (by rw [z]; rfl) c0
      · exact z
    have edeep : V.int (((deep : Nat) : Int) - 1) = V.int (((deep - 1 : Nat) : Nat) : Int) := by
      congr 1
      omega
    refine ⟨_, rfl, _, _, rfl, rfl, _, rfl, iteD (fun c4 => ?_) (fun c4 => ?_)⟩
    · refine ⟨_, rfl, _, rfl, _, rfl, d, b, ns, n, rfl, g1.g, hn1, fun x e H2 g2 hx he => ?_⟩
      have G2 := g1.trans g2
      refine ⟨_, rfl, _, rfl, _, rfl, _, rfl, _, _, rfl, rfl, _, rfl, d, b, ns, n, deep - 1, pk, (by show [V.ref d, V.ref b, V.int ((n : Nat) : Int), V.int (((deep : Nat) : Int) - 1), V.bl pk] = _; rw [edeep]), by omega, G2.g, hn.gs G2, fun y r1 H3 g3 hy hr1 hd1 => ?_⟩
      have G3 := G2.trans g3
      refine ⟨_, rfl, _, rfl, _, rfl, _, rfl, _, rfl, _, rfl, _, _, rfl, rfl, _, rfl, d, b, ns, n, deep - 1, pk, (by show [V.ref d, V.ref b, V.int ((n : Nat) : Int), V.int (((deep : Nat) : Int) - 1), V.bl pk] = _; rw [edeep]), by omega, G3.g, hn.gs G3, fun z r2 H4 g4 hz hr2 hd2 => ?_⟩
      have hx4 := Dp.tu (g3.f.t.trans g4.f.t) _ _ (immX he) hx
      have hy4 := Dp.tu g4.f.t _ _ (immR hr1) hy
      refine ⟨(show 4 ≤ sizeLine by decide), tup_new (K := K) (.cons (.str "when") (.cons hx4 (.cons hy4 (.one hz)))) fun p H5 e5 h5 => k _ (.when_ e r1 r2) H5 ((G3.trans g4).up e5) h5 ?_ ?_⟩
      · show (wfX n e && (wfR n r1 && wfR n r2)) = true
        rw [he, hr1, hr2]
        rfl
      · rw [depthR]
        omega
    · refine ⟨_, rfl, _, rfl, d, rfl, g1.g, fun i3 H3 g3 => ?_⟩
      have hn3 := hn1.gs g3
      have G3 := g1.trans g3
      obtain ⟨z, hz, hzn⟩ := names_at hn3 i3
      refine ⟨_, rfl, _, _, rfl, .inl ⟨_, SqL.of hn3.h, rfl⟩, _, _, rfl, rfl, ?_, b, _, _, _, rfl, rfl, SqL.of hn3.h, hz, (show 2 ≤ sizeLine by decide), fun p4 hp4 => ?_⟩
      · show (0 : Int) < (((ns.map V.str).length : Nat) : Int)
        rw [List.length_map]
        exact Int.natCast_pos.mpr hn.pos
      generalize hh : upd H3 p4 _ = H4
      have e4 : Ex H3 H4 := hh ▸ Ex.new hp4
      have h4 : H4 p4 = some (.tup [.str "put", .str z]) := by rw [← hh]; exact upd_same
      clear hh
      have d4 : Dp K H4 (.ref p4) (encX (.lf (.put (.str z)))) := .tup (SqT.of h4) (.cons (.str _) (.one (.str _)))
      have w4 : wfX n (.lf (.put (.str z))) = true := nameS_okV hzn
      have G4 := G3.up e4
      refine ⟨fun σ' H' => ∃ (x : V) (e : Xp) (y6 y7 y9 : Option V), σ' = [some (.ref d), some (.ref b), some (.int ((n : Nat) : Int)), some (.int ((deep : Nat) : Int)), some (.bl pk), some (.int ((j : Nat) : Int)), y6, y7, some x, y9] ∧ GS d H H' ∧ Dp K H' x (encX e) ∧ wfX n e = true, ?_, ?_⟩
      · refine ⟨_, rfl, _, _, rfl, rfl, _, rfl, iteD (fun c => ?_) (fun c => ⟨_, _, _, _, _, rfl, G4, d4, w4⟩)⟩
        refine ⟨_, rfl, rfl, _, rfl, iteD (fun c5 => ?_) (fun c5 => ⟨_, _, _, _, _, rfl, G4, d4, w4⟩)⟩
        exact ⟨_, rfl, _, rfl, _, rfl, d, b, ns, n, rfl, G4.g, hn.gs G4, fun x e H5 g5 hx he => ⟨_, _, _, _, _, rfl, G4.trans g5, hx, he⟩⟩
      · rintro _ H5 ⟨x, e, y6, y7, y9, rfl, G5, hx, he⟩
        refine ⟨fun σ' H' => ∃ (p : Bool), σ' = [some (.ref d), some (.ref b), some (.int ((n : Nat) : Int)), some (.int ((deep : Nat) : Int)), some (.bl pk), some (.int ((j : Nat) : Int)), y6, y7, some x, some (.str (askS p))] ∧ H5 = H', ?_, ?_⟩
        · refine ⟨_, rfl, _, rfl, iteB (fun c => ⟨_, rfl, rfl, _, rfl, iteD (fun c5 => ⟨true, rfl, rfl⟩) (fun c5 => ⟨false, rfl, rfl⟩)⟩) (fun c => ⟨false, rfl, rfl⟩)⟩
        · rintro _ _ ⟨p, rfl, rfl⟩
          refine ⟨_, rfl, _, rfl, _, rfl, _, rfl, _, rfl, _, _, rfl, rfl, _, rfl, _, _, rfl, rfl, _, rfl, d, b, ns, n + 1, deep - 1, pk, (by show [V.ref d, V.ref b, V.int (((n : Nat) : Int) + 1), V.int (((deep : Nat) : Int) - 1), V.bl pk] = _; rw [edeep]; rfl), by omega, G5.g, hn.gs G5, fun y r1 H6 g6 hy hr1 hd1 => ?_⟩
          refine ⟨(show 3 ≤ sizeLine by decide), tup_new (K := K) (.cons (.str (askS p)) (.cons (Dp.tu g6.f.t _ _ (immX he) hx) (.one hy))) fun p7 H7 e7 h7 => k _ (.ask p e r1) H7 ((G5.trans g6).up e7) h7 ?_ ?_⟩
          · show (wfX n e && wfR (n + 1) r1) = true
            rw [he, hr1]
            rfl
          · rw [depthR]
            omega
end
end Wk
namespace Wk
open PySem PySem.Spec PyProof.Rows L2
/-! ### tables by name -/
abbrev As (α : Type) := List (Str × α)
section
variable {α : Type}
def lk (l : As α) (n : Str) : Option α := (l.find? fun p => decide (p.1 = n)).map (·.2)
def pt (l : As α) (n : Str) (a : α) : As α := if (l.any fun p => decide (p.1 = n)) = true then l.map (fun p => if p.1 = n then (p.1, a) else p) else l ++ [(n, a)]
def dr (l : As α) (n : Str) : As α := l.filter fun p => decide (p.1 ≠ n)
def ks (l : As α) : List Str := l.map (·.1)
theorem lk_nil {n : Str} : lk ([] : As α) n = none := rfl
theorem lk_pos {p : Str × α} {r : As α} {n : Str} (e : p.1 = n) : lk (p :: r) n = some p.2 := by simp [lk, List.find?_cons, e]
theorem lk_neg {p : Str × α} {r : As α} {n : Str} (e : ¬ p.1 = n) : lk (p :: r) n = lk r n := by simp [lk, List.find?_cons, e]
theorem lk_any (n : Str) : ∀ l : As α, (l.any fun p => decide (p.1 = n)) = (lk l n).isSome
  | [] => rfl
  | p :: r => by
    rw [List.any_cons, lk_any n r]
    by_cases e : p.1 = n
    · rw [lk_pos e, decide_eq_true e]
      rfl
    · rw [lk_neg e, decide_eq_false e]
      rfl
theorem lk_mem : ∀ {l : As α} {n : Str} {a : α}, lk l n = some a → (n, a) ∈ l
  | [], _, _, h => by cases h
  | p :: r, n, a, h => by
    by_cases e : p.1 = n
    · rw [lk_pos e] at h
      cases h
      subst e
      exact List.mem_cons_self
    · rw [lk_neg e] at h
      exact List.mem_cons_of_mem _ (lk_mem h)
theorem lk_ks : ∀ {l : As α} {n : Str}, (lk l n).isSome = true ↔ n ∈ ks l
  | [], n => by
    show false = true ↔ n ∈ ([] : List Str)
    simp
  | p :: r, n => by
    by_cases e : p.1 = n
    · rw [lk_pos e]
      subst e
      show true = true ↔ p.1 ∈ p.1 :: ks r
      simp
    · rw [lk_neg e, lk_ks]
      show n ∈ ks r ↔ n ∈ p.1 :: ks r
      rw [List.mem_cons]
      exact ⟨fun h => .inr h, fun h => h.elim (fun q => absurd q.symm e) id⟩
theorem lk_none {l : As α} {n : Str} : lk l n = none ↔ n ∉ ks l := by
  rw [← lk_ks]
  cases lk l n <;> simp
theorem lk_of_mem : ∀ {l : As α} {n : Str} {a : α}, (ks l).Nodup → (n, a) ∈ l → lk l n = some a
  | [], _, _, _, h => by cases h
  | p :: r, n, a, hn, h => by
    have hn' := List.nodup_cons.mp (show (p.1 :: ks r).Nodup from hn)
    rcases List.mem_cons.mp h with e | h
    · subst e
      exact lk_pos rfl
    · have e : ¬ p.1 = n := fun e => hn'.1 (by rw [e]; exact List.mem_map.mpr ⟨(n, a), h, rfl⟩)
      rw [lk_neg e]
      exact lk_of_mem hn'.2 h
theorem lk_mp (n m : Str) (a : α) : ∀ l : As α, lk (l.map fun p => if p.1 = n then (p.1, a) else p) m = if m = n then (lk l m).map (fun _ => a) else lk l m
  | [] => by
    rw [List.map_nil, lk_nil]
    split <;> rfl
  | p :: r => by
    rw [List.map_cons]
    by_cases e : p.1 = m
    · by_cases e2 : p.1 = n
      · rw [if_pos e2, lk_pos (p := (p.1, a)) e, lk_pos e, if_pos (e.symm.trans e2)]
        rfl
      · rw [if_neg e2, lk_pos e, lk_pos e, if_neg fun z => e2 (e.trans z)]
    · by_cases e2 : p.1 = n
      · rw [if_pos e2, lk_neg (p := (p.1, a)) e, lk_neg e, lk_mp n m a r]
      · rw [if_neg e2, lk_neg e, lk_neg e, lk_mp n m a r]
theorem lk_sn (n m : Str) (a : α) : ∀ l : As α, lk l n = none → lk (l ++ [(n, a)]) m = if m = n then some a else lk l m
  | [], _ => by
    rw [List.nil_append]
    by_cases e : n = m
    · rw [lk_pos e, if_pos e.symm]
    · rw [lk_neg e, if_neg fun z => e z.symm]
  | p :: r, h => by
    rw [List.cons_append]
    have e : ¬ p.1 = n := fun e => by rw [lk_pos e] at h; cases h
    rw [lk_neg e] at h
    by_cases e2 : p.1 = m
    · rw [lk_pos e2, lk_pos e2, if_neg fun z => e (e2.trans z)]
    · rw [lk_neg e2, lk_neg e2, lk_sn n m a r h]
theorem lk_pt (l : As α) (n m : Str) (a : α) : lk (pt l n a) m = if m = n then some a else lk l m := by
  unfold pt
  rw [lk_any]
  by_cases h : (lk l n).isSome = true
  · rw [if_pos h, lk_mp]
    by_cases e : m = n
    · rw [if_pos e, if_pos e, e]
      cases q : lk l n with
      | none => rw [q] at h; cases h
      | some x => rfl
    · rw [if_neg e, if_neg e]
  · rw [if_neg h]
    refine lk_sn n m a l ?_
    cases q : lk l n with
    | none => rfl
    | some x => rw [q] at h; exact absurd rfl h
theorem lk_dr (n m : Str) : ∀ l : As α, lk (dr l n) m = if m = n then none else lk l m
  | [] => by
    show lk [] m = _
    rw [lk_nil]
    split <;> rfl
  | p :: r => by
    unfold dr
    rw [List.filter_cons]
    have ih := lk_dr n m r
    unfold dr at ih
    by_cases e : p.1 = n
    · rw [if_neg (by simp [e]), ih]
      by_cases e2 : m = n
      · rw [if_pos e2, if_pos e2]
      · rw [if_neg e2, if_neg e2, lk_neg fun z => e2 (z.symm.trans e)]
    · rw [if_pos (by simp [e])]
      by_cases e2 : p.1 = m
      · rw [lk_pos e2, lk_pos e2, if_neg fun z => e (e2.trans z)]
      · rw [lk_neg e2, lk_neg e2, ih]
theorem ks_pt_in {l : As α} {n : Str} {a : α} (h : n ∈ ks l) : ks (pt l n a) = ks l := by
  unfold pt
  rw [lk_any, if_pos (lk_ks.mpr h)]
  unfold ks
  rw [List.map_map]
  refine List.map_congr_left fun p _ => ?_
  show (if p.1 = n then (p.1, a) else p).1 = p.1
  split <;> rfl
theorem pt_new {l : As α} {n : Str} {a : α} (h : n ∉ ks l) : pt l n a = l ++ [(n, a)] := by
  unfold pt
  rw [lk_any, if_neg fun z => h (lk_ks.mp z)]
theorem ks_pt_new {l : As α} {n : Str} {a : α} (h : n ∉ ks l) : ks (pt l n a) = ks l ++ [n] := by
  rw [pt_new h]
  unfold ks
  rw [List.map_append]
  rfl
theorem mem_ks_pt {l : As α} {n m : Str} {a : α} : m ∈ ks (pt l n a) ↔ m = n ∨ m ∈ ks l := by
  rw [← lk_ks, lk_pt, ← lk_ks]
  by_cases e : m = n
  · rw [if_pos e]
    simp [e]
  · rw [if_neg e]
    simp [e]
theorem mem_ks_dr {l : As α} {n m : Str} : m ∈ ks (dr l n) ↔ m ≠ n ∧ m ∈ ks l := by
  rw [← lk_ks, lk_dr, ← lk_ks]
  by_cases e : m = n
  · rw [if_pos e]
    simp [e]
  · rw [if_neg e]
    simp [e]
theorem nd_pt {l : As α} {n : Str} {a : α} (h : (ks l).Nodup) : (ks (pt l n a)).Nodup := by
  by_cases e : n ∈ ks l
  · rw [ks_pt_in e]
    exact h
  · rw [ks_pt_new e, List.nodup_append]
    refine ⟨h, List.nodup_cons.mpr ⟨List.not_mem_nil, List.nodup_nil⟩, fun x hx y hy z => e ?_⟩
    rw [← List.mem_singleton.mp hy, ← z]
    exact hx
theorem nd_dr {l : As α} {n : Str} (h : (ks l).Nodup) : (ks (dr l n)).Nodup := by
  unfold ks dr at *
  exact List.Sublist.nodup (List.Sublist.map _ (List.filter_sublist ..)) h
theorem pt_mem {l : As α} {n : Str} {a : α} {p : Str × α} (h : p ∈ pt l n a) : p ∈ l ∨ p = (n, a) := by
  unfold pt at h
  split at h
  · obtain ⟨q, hq, e⟩ := List.mem_map.mp h
    by_cases c : q.1 = n
    · rw [if_pos c] at e
      rw [← e, c]
      exact .inr rfl
    · rw [if_neg c] at e
      rw [← e]
      exact .inl hq
  · rcases List.mem_append.mp h with h | h
    · exact .inl h
    · exact .inr (List.mem_singleton.mp h)
theorem dr_mem {l : As α} {n : Str} {p : Str × α} (h : p ∈ dr l n) : p ∈ l := (List.mem_filter.mp h).1
theorem pt_len {l : As α} {n : Str} {a : α} : (pt l n a).length ≤ l.length + 1 := by
  unfold pt
  split
  · rw [List.length_map]
    omega
  · rw [List.length_append]
    exact Nat.le_refl _
end
/-! ### a dict that is a table -/
section
variable {α : Type} {R R' : V → α → Prop} {kvs : List (Key × V)} {l : As α}
abbrev DRel (R : V → α → Prop) (kvs : List (Key × V)) (l : As α) : Prop := Paired (fun kv p => kv.1 = Sum.inr p.1 ∧ R kv.2 p.2) kvs l
theorem DRel.lk (r : DRel R kvs l) (n : Str) : (valV kvs (Sum.inr n : Key) = none ∧ lk l n = none) ∨ ∃ v a, valV kvs (Sum.inr n : Key) = some v ∧ Wk.lk l n = some a ∧ R v a := by
  unfold DRel at r
  induction r with
  | nil => exact .inl ⟨rfl, rfl⟩
  | @cons kv p kvs l h t ih =>
    obtain ⟨h1, h2⟩ := h
    by_cases e : p.1 = n
    · exact .inr ⟨_, _, valV_pos (by rw [h1, e]), lk_pos e, h2⟩
    · have e' : ¬ kv.1 = Sum.inr n := fun z => e (by rw [h1] at z; cases z; rfl)
      rw [valV_neg e', lk_neg e]
      exact ih
theorem DRel.any (r : DRel R kvs l) (n : Str) : (kvs.any fun kv => decide (kv.1 = (Sum.inr n : Key))) = l.any fun p => decide (p.1 = n) := by
  rw [valV_any, lk_any]
  rcases r.lk n with ⟨h1, h2⟩ | ⟨v, a, h1, h2, _⟩ <;> rw [h1, h2] <;> rfl
theorem DRel.put (r : DRel R kvs l) (n : Str) {v : V} {a : α} (h : R v a) : DRel R (putK kvs (Sum.inr n) v) (pt l n a) := by
  unfold putK pt
  rw [r.any n]
  split
  · rename_i hc
    clear hc
    unfold DRel at r ⊢
    induction r with
    | nil => exact .nil
    | @cons kv p kvs l hh t ih =>
      obtain ⟨h1, h2⟩ := hh
      rw [List.map_cons, List.map_cons]
      refine .cons ?_ ih
      by_cases e : p.1 = n
      · rw [if_pos e, if_pos (by rw [h1, e])]
        exact ⟨h1, h⟩
      · rw [if_neg e, if_neg fun z => e (by rw [h1] at z; cases z; rfl)]
        exact ⟨h1, h2⟩
  · exact Paired.snoc r ⟨rfl, h⟩
theorem DRel.drop (r : DRel R kvs l) (n : Str) : DRel R (dropK kvs (Sum.inr n)) (dr l n) := by
  unfold DRel at r ⊢
  unfold dropK dr
  induction r with
  | nil => exact .nil
  | @cons kv p kvs l hh t ih =>
    obtain ⟨h1, h2⟩ := hh
    rw [List.filter_cons, List.filter_cons]
    by_cases e : p.1 = n
    · rw [if_neg (by simp [h1, e]), if_neg (by simp [e])]
      exact ih
    · have e' : ¬ kv.1 = Sum.inr n := fun z => e (by rw [h1] at z; cases z; rfl)
      rw [if_pos (by simp [e']), if_pos (by simp [e])]
      exact .cons ⟨h1, h2⟩ ih
theorem DRel.len (r : DRel R kvs l) : kvs.length = l.length := Paired.length r
theorem DRel.keys (r : DRel R kvs l) : kvs.map (·.1) = (ks l).map Sum.inr := by
  unfold DRel at r
  induction r with
  | nil => rfl
  | @cons kv p kvs l hh t ih =>
    rw [List.map_cons, ih, hh.1]
    rfl
theorem DRel.mono (r : DRel R kvs l) (h : ∀ v p, p ∈ l → R v p.2 → R' v p.2) : DRel R' kvs l := by
  unfold DRel at r ⊢
  induction r with
  | nil => exact .nil
  | @cons kv p kvs l hh t ih => exact .cons ⟨hh.1, h _ _ List.mem_cons_self hh.2⟩ (ih fun v q hq => h v q (List.mem_cons_of_mem _ hq))
theorem DRel.isSome (r : DRel R kvs l) (n : Str) : (valV kvs (Sum.inr n : Key)).isSome = (Wk.lk l n).isSome := by
  rcases r.lk n with ⟨h1, h2⟩ | ⟨v, a, h1, h2, _⟩ <;> rw [h1, h2] <;> rfl
end
/-- a dict at a whose values are data -/
def DT (K : PySem.W.Frag) (H : Hp) (a : Addr) {α : Type} (enc : α → PyData) (l : As α) : Prop := ∃ kvs, H a = some (.dK kvs) ∧ DRel (fun v x => Dp K H v (enc x)) kvs l
section
variable {K : PySem.W.Frag} {H H' : Hp} {a : Addr} {α : Type} {enc : α → PyData} {l : As α}
theorem DT.up (h : DT K H a enc l) (e : Ex H H') : DT K H' a enc l := by
  obtain ⟨kvs, h1, h2⟩ := h
  exact ⟨kvs, e _ _ h1, h2.mono fun v p _ d => d.up e⟩
theorem DT.tu (h : DT K H a enc l) (t : Tu H H') (k : ∀ o, H a = some o → H' a = some o) (hi : ∀ p ∈ l, imm (enc p.2) = true) : DT K H' a enc l := by
  obtain ⟨kvs, h1, h2⟩ := h
  exact ⟨kvs, k _ h1, h2.mono fun v p hp d => Dp.tu t _ _ (hi p hp) d⟩
theorem DT.nil (h : H a = some (.dK [])) : DT K H a enc [] := ⟨[], h, .nil⟩
end
end Wk
namespace Wk
open PySem PySem.Spec PyProof.Rows L2 SX
/-! ### things, books -/
def okR (r : Rc) : Bool := wfR 0 r && decide (depthR r ≤ 3)
inductive Th where
  | lacks | told (v : PyData) | made (r : Rc)
def encTh : Th → PyData
  | .lacks => .tuple [.str "lacks", .int 0]
  | .told v => .tuple [.str "told", v]
  | .made r => .tuple [.str "made", encR r]
def okTh : Th → Bool
  | .lacks => true
  | .told v => okV v
  | .made r => okR r
theorem okR_wf {r : Rc} (h : okR r = true) : wfR 0 r = true ∧ depthR r ≤ 3 := by
  unfold okR at h
  rw [Bool.and_eq_true] at h
  exact ⟨h.1, of_decide_eq_true h.2⟩
theorem okR_of {r : Rc} (h : wfR 0 r = true) (h2 : depthR r ≤ 3) : okR r = true := by
  unfold okR
  rw [h, decide_eq_true h2]
  rfl
theorem immTh {t : Th} (h : okTh t = true) : imm (encTh t) = true := by
  cases t with
  | lacks => rfl
  | told v =>
    show (true && (imm v && true)) = true
    rw [imm_vp h]
    rfl
  | made r =>
    show (true && (imm (encR r) && true)) = true
    rw [immR (okR_wf h).1]
    rfl
/-- the names, a list -/
structure Ns (b : Addr) (ns : List Str) (H : Hp) : Prop where
  h : H b = some (.lst (ns.map V.str))
  ok : ∀ y ∈ ns, isNameS y = true
  len : ns.length ≤ 6
  pos : 0 < ns.length
  nd : ns.Nodup
theorem Ns.up {b : Addr} {ns : List Str} {H H1 : Hp} (n : Ns b ns H) (e : Ex H H1) : Ns b ns H1 := ⟨e _ _ n.h, n.ok, n.len, n.pos, n.nd⟩
theorem Ns.nl {b d : Addr} {ns : List Str} {H : Hp} (n : Ns b ns H) (h : b ≠ d) : Nl d b ns H := ⟨n.h, h, n.ok, n.len, n.pos⟩
def spThing (K : PySem.W.Frag) : Sp := fun vs H Q _ => ∃ (v : V) (cells : List Int) (k : Int) (b : Addr) (ns : List Str) (pk : Bool), vs = [v, .int k, .ref b, .bl pk] ∧ Dp K H v (.list (cells.map PyData.int)) ∧ cells.length ≤ 1000 ∧ -1000 < k ∧ k < 1000 ∧ Ns b ns H ∧
  ∀ x t H', Ex H H' → Dp K H' x (encTh t) → okTh t = true → Q x H'
structure BkOk (ns : List Str) (told : As PyData) (made : As Rc) : Prop where
  nt : (ks told).Nodup
  nm : (ks made).Nodup
  st : ∀ n ∈ ks told, n ∈ ns
  sm : ∀ n ∈ ks made, n ∈ ns
  dj : ∀ n ∈ ks told, n ∉ ks made
  ov : ∀ p ∈ told, okV p.2 = true
  orr : ∀ p ∈ made, okR p.2 = true
theorem BkOk.nil : BkOk [] [] [] := ⟨List.nodup_nil, List.nodup_nil, fun _ h => (by cases h), fun _ h => (by cases h), fun _ h => (by cases h), fun _ h => (by cases h), fun _ h => (by cases h)⟩
theorem BkOk.more {ns : List Str} {told : As PyData} {made : As Rc} (b : BkOk ns told made) (n : Str) : BkOk (ns ++ [n]) told made :=
  ⟨b.nt, b.nm, fun m h => List.mem_append_left _ (b.st m h), fun m h => List.mem_append_left _ (b.sm m h), b.dj, b.ov, b.orr⟩
theorem BkOk.told {ns : List Str} {told : As PyData} {made : As Rc} (b : BkOk ns told made) {n : Str} {v : PyData} (hn : n ∉ ns) (hv : okV v = true) : BkOk (ns ++ [n]) (pt told n v) made := by
  refine ⟨nd_pt b.nt, b.nm, fun m h => ?_, fun m h => List.mem_append_left _ (b.sm m h), fun m h h2 => ?_, fun p h => ?_, b.orr⟩
  · rcases mem_ks_pt.mp h with rfl | h
    · exact List.mem_append_right _ (List.mem_singleton.mpr rfl)
    · exact List.mem_append_left _ (b.st m h)
  · rcases mem_ks_pt.mp h with rfl | h
    · exact hn (b.sm _ h2)
    · exact b.dj m h h2
  · rcases pt_mem h with h | rfl
    · exact b.ov p h
    · exact hv
theorem BkOk.made {ns : List Str} {told : As PyData} {made : As Rc} (b : BkOk ns told made) {n : Str} {r : Rc} (hn : n ∉ ns) (hv : okR r = true) : BkOk (ns ++ [n]) told (pt made n r) := by
  refine ⟨b.nt, nd_pt b.nm, fun m h => List.mem_append_left _ (b.st m h), fun m h => ?_, fun m h h2 => ?_, b.ov, fun p h => ?_⟩
  · rcases mem_ks_pt.mp h with rfl | h
    · exact List.mem_append_right _ (List.mem_singleton.mpr rfl)
    · exact List.mem_append_left _ (b.sm m h)
  · rcases mem_ks_pt.mp h2 with rfl | h2
    · exact hn (b.st _ h)
    · exact b.dj m h h2
  · rcases pt_mem h with h | rfl
    · exact b.orr p h
    · exact hv
/-- a book as it stands: a tuple of two dicts -/
structure Bk (K : PySem.W.Frag) (H : Hp) (p ta ma : Addr) (told : As PyData) (made : As Rc) : Prop where
  p : H p = some (.tup [.ref ta, .ref ma])
  t : DT K H ta (fun v : PyData => v) told
  m : DT K H ma encR made
theorem Bk.up {K : PySem.W.Frag} {H H' : Hp} {p ta ma : Addr} {told : As PyData} {made : As Rc} (b : Bk K H p ta ma told made) (e : Ex H H') : Bk K H' p ta ma told made := ⟨e _ _ b.p, b.t.up e, b.m.up e⟩
def spBookOf (K : PySem.W.Frag) : Sp := fun vs H Q _ => ∃ (b : Addr) (ns : List Str) (tb : Addr) (vals : List V) (ts : List Th), vs = [.ref b, .ref tb] ∧ Ns b ns H ∧ SqL K H tb vals ∧ DpAll K H vals (ts.map encTh) ∧ (∀ t ∈ ts, okTh t = true) ∧ ts.length = ns.length ∧
  ∀ p ta ma told made H', Ex H H' → Bk K H' p ta ma told made → ta ≠ ma → H ta = none → H ma = none → BkOk ns told made → Q (.ref p) H'
section
variable {P : Program} {w : World} {K : PySem.W.Frag} {mg : Str → Option Value} {base : Heap}
theorem c_law_thing (W : Wld K mg) : Cal P w K mg base 10 "_law_thing" (spThing K) := by
  have c_law_next : Cal P w K mg base 1 "_law_next" _ := c_law_next W
  have c_law_draws : Cal P w K mg base 1 "_law_draws" _ := c_law_draws W
  have c_law_value : Cal P w K mg base 2 "_law_value" _ := c_law_value W
  have c_law_recipe : Cal P w K mg base 9 "_law_recipe" _ := c_law_recipe W 4
  refine cal_of W.d_law_thing sc_law_thing (fun vs H Q E h => ?_) (fun f cdv A outer s H vs Q E hr h => ?_)
  · obtain ⟨v, cells, k, b, ns, pk, rfl, _⟩ := h
    rfl
  obtain ⟨v, cells, k, b, ns, pk, rfl, hv, hcl, hk1, hk2, hn, kk⟩ := h
  refine ⟨_, (pss_cons (ps_set (i := 4) sc_law_thing.nd rfl (Or.inl rfl) (pe_cl c_law_draws hr (by omega) (by rfl) (pa_cons (pv 0) (pa_cons (pv 1) (pa_cons (pe_op op_rep (pe_lst (pa_cons pe_int pa_nil)) pe_int) pa_nil)))))
    (pss_cons (ps_set (i := 5) sc_law_thing.nd rfl (Or.inl rfl) (pe_op op_mod (pe_cl c_law_next hr (by omega) (by rfl) (pa_cons (pv 4) pa_nil)) pe_int))
    (pss_cons (ps_if (pt_cmpR op_eq (pv 5) pe_int (nomark _)) (pss_one (ps_ret (pe_tup (pa_cons pe_str (pa_cons pe_int pa_nil))))) pss_nil)
    (pss_cons (ps_if (pt_cmpR op_lt (pv 5) pe_int (nomark _)) (pss_one (ps_ret (pe_tup (pa_cons pe_str (pa_cons (pe_cl c_law_value hr (by omega) (by rfl) (pa_cons (pv 4) (pa_cons (pv 2) pa_nil))) pa_nil))))) pss_nil)
    (pss_one (ps_ret (pe_tup (pa_cons pe_str (pa_cons (pe_cl c_law_recipe hr (by omega) (by rfl) (pa_cons (pv 4) (pa_cons (pv 2) (pa_cons pe_int (pa_cons pe_int (pa_cons (pv 3) pa_nil)))))) pa_nil))))))))), ?_⟩
  refine ⟨_, rfl, _, rfl, (show 1 ≤ sizeLine by decide), fun p1 hp1 => ?_⟩
  generalize hh : upd H p1 _ = H1
  have e1 : Ex H H1 := hh ▸ Ex.new hp1
  have h1 : H1 p1 = some (.lst [.int 60]) := by rw [← hh]; exact upd_same
  clear hh
  refine ⟨p1, _, _, rfl, rfl, h1, by decide, by decide, (show 1 * 40 ≤ sizeLine by decide), fun p2 hp2 => ?_⟩
  generalize hh : upd H1 p2 _ = H2
  have e2 : Ex H1 H2 := hh ▸ Ex.new hp2
  have h2 : H2 p2 = some (.lst ((List.replicate 40 (60 : Int)).map V.int)) := by rw [← hh]; exact upd_same
  clear hh
  refine ⟨v, cells, k, p2, List.replicate 40 60, rfl, (hv.up e1).up e2, hcl, hk1, hk2, SqL.of h2, by rw [List.length_replicate]; decide, ?_, fun xs d H3 e3 hd h3 dx => ?_⟩
  · intro s hs
    rw [(List.mem_replicate.mp hs).2]
    decide
  have E3 := e1.trans (e2.trans e3)
  have hdn : H d = none := e1.back (e2.back hd)
  have nbd : b ≠ d := fun z => by
    have := hn.h
    rw [z, hdn] at this
    cases this
  have hl : xs.length ≤ 1000 := by
    rw [dx.1, List.length_replicate]
    decide
  have ex : ∀ {H' : Hp}, GS d H3 H' → Ex H H' := fun g a o h => g.keep (E3 a o h) fun z => by
    rw [z, hdn] at h
    cases h
  have hnl : Nl d b ns H3 := (hn.up E3).nl nbd
  refine ⟨_, rfl, d, rfl, ⟨xs, h3, hl⟩, fun i H4 g4 => ⟨_, _, rfl, rfl, (show (0 : Int) < 8 by decide), ?_⟩⟩
  refine ⟨_, rfl, rfl, _, rfl, iteD (fun c => ?_) (fun c => ⟨_, rfl, _, _, rfl, rfl, _, rfl, iteD (fun c => ?_) (fun c => ?_)⟩)⟩
  · exact ⟨(show 2 ≤ sizeLine by decide), tup_new (K := K) (.cons (.str "lacks") (.one (.int 0))) fun p H5 e5 h5 => kk _ .lacks H5 ((ex g4).trans e5) h5 rfl⟩
  · exact ⟨_, rfl, _, rfl, d, b, ns, rfl, g4.g, hnl.gs g4, fun x v H5 g5 hx hv => ⟨(show 2 ≤ sizeLine by decide), tup_new (K := K) (.cons (.str "told") (.one hx)) fun p H6 e6 h6 => kk _ (.told v) H6 ((ex (g4.trans g5)).trans e6) h6 hv⟩⟩
  · exact ⟨_, rfl, _, rfl, _, rfl, d, b, ns, 0, 3, pk, rfl, by decide, g4.g, hnl.gs g4, fun x r H5 g5 hx hr1 hr2 => ⟨(show 2 ≤ sizeLine by decide), tup_new (K := K) (.cons (.str "made") (.one hx)) fun p H6 e6 h6 => kk _ (.made r) H6 ((ex (g4.trans g5)).trans e6) h6 (okR_of hr1 hr2)⟩⟩
theorem c_law_book_of (W : Wld K mg) : Cal P w K mg base 1 "_law_book_of" (spBookOf K) := by
  refine cal_of W.d_law_book_of sc_law_book_of (fun vs H Q E h => ?_) (fun f cdv A outer s H vs Q E hr h => ?_)
  · obtain ⟨b, ns, tb, vals, ts, rfl, _⟩ := h
    rfl
  obtain ⟨b, ns, tb, vals, ts, rfl, hn, hb, hd, hok, hl, kk⟩ := h
  have hu := hu_of hr
  refine ⟨_, (pss_cons (ps_set (i := 2) sc_law_book_of.nd rfl (Or.inl rfl) (pe_tup (pa_cons pe_dnewK (pa_cons pe_dnewK pa_nil))))
    (pss_cons (ps_for PassesOwn.never rfl (pi_range1 (by rfl) W.f_range (pa_cons (pe_callB call_lenA (by rfl) W.f_len bt_len (pa_cons (pv 0) pa_nil)) pa_nil)) (pg_name (i := 3) sc_law_book_of.nd rfl (Or.inl rfl)) (pss_cons (ps_if (pt_cmpR op_eq (pe_ix ix_T (pe_ix ix_list (pv 1) (pv 3) (fun _ _ => rfl)) pe_int (fun _ _ => rfl)) pe_str (nomark _)) (pss_one (ps_dput hu (pe_ix ix_tup (pv 2) pe_int (fun _ _ => rfl)) (pe_ix ix_list (pv 0) (pv 3) (fun _ _ => rfl)) (pe_ix ix_T (pe_ix ix_list (pv 1) (pv 3) (fun _ _ => rfl)) pe_int (fun _ _ => rfl)) rfl)) pss_nil)
    (pss_one (ps_if (pt_cmpR op_eq (pe_ix ix_T (pe_ix ix_list (pv 1) (pv 3) (fun _ _ => rfl)) pe_int (fun _ _ => rfl)) pe_str (nomark _)) (pss_one (ps_dput hu (pe_ix ix_tup (pv 2) pe_int (fun _ _ => rfl)) (pe_ix ix_list (pv 0) (pv 3) (fun _ _ => rfl)) (pe_ix ix_T (pe_ix ix_list (pv 1) (pv 3) (fun _ _ => rfl)) pe_int (fun _ _ => rfl)) rfl)) pss_nil))))
    (pss_one (ps_ret (pv 2))))), ?_⟩
  refine fun p1 hp1 => ?_
  generalize hh : upd H p1 _ = H1
  have e1 : Ex H H1 := hh ▸ Ex.new hp1
  have h1 : H1 p1 = some (.dK []) := by rw [← hh]; exact upd_same
  clear hh
  refine fun p2 hp2 => ?_
  generalize hh : upd H1 p2 _ = H2
  have e2 : Ex H1 H2 := hh ▸ Ex.new hp2
  have h2 : H2 p2 = some (.dK []) := by rw [← hh]; exact upd_same
  clear hh
  refine ⟨(show 2 ≤ sizeLine by decide), fun p3 hp3 => ?_⟩
  generalize hh : upd H2 p3 _ = H3
  have e3 : Ex H2 H3 := hh ▸ Ex.new hp3
  have h3 : H3 p3 = some (.tup [.ref p1, .ref p2]) := by rw [← hh]; exact upd_same
  clear hh
  have E3 := e1.trans (e2.trans e3)
  have n12 : p1 ≠ p2 := fun z => by rw [z, hp2] at h1; cases h1
  have hq2 : H p2 = none := e1.back hp2
  refine ⟨_, rfl, _, _, rfl, .inl ⟨_, SqL.of (E3 _ _ hn.h), rfl⟩, _, rfl, by omega, ?_, for_range (fun i σ H' => Fr [p1, p2] H3 H' ∧ ∃ (told : As PyData) (made : As Rc) (y : Option V), σ = [some (.ref b), some (.ref tb), some (.ref p3), y] ∧ DT K H' p1 (fun v : PyData => v) told ∧ DT K H' p2 encR made ∧ told.length ≤ i ∧ made.length ≤ i ∧ BkOk (ns.take i) told made)
    ⟨Fr.refl _ _, [], [], _, rfl, .nil ((e2.trans e3) _ _ h1), .nil (e3 _ _ h2), Nat.le_refl _, Nat.le_refl _, BkOk.nil⟩ ?_ ?_⟩
  · have := hn.len
    rw [List.length_map]
    omega
  · rintro i σ H4 hi ⟨f4, told, made, y, rfl, dt, dm, lt, lm, bk⟩
    rw [Int.toNat_natCast, List.length_map] at hi
    rw [Int.zero_add]
    have eh : ∀ a o, H a = some o → H4 a = some o := fun a o h => f4.k a o (E3 a o h) fun z => by
      rcases List.mem_cons.mp z with z | z
      · rw [z, hp1] at h
        cases h
      · rw [List.mem_singleton.mp z, hq2] at h
        cases h
    have hts : ts[i]? = some ts[i] := List.getElem?_eq_getElem (by omega)
    obtain ⟨tv, htv, hdt⟩ := hd.get (i := i) (d := encTh ts[i]) (by rw [List.getElem?_map, hts]; rfl)
    have hok := hok _ (List.getElem_mem (show i < ts.length by omega))
    have hdt := hdt.up eh
    generalize ts[i] = t at hdt hok
    have hni : ns[i]? = some ns[i] := List.getElem?_eq_getElem hi
    have hat : atI (ns.map V.str) ((i : Nat) : Int) = some (V.str ns[i]) := atI_nat (by rw [List.getElem?_map, hni]; rfl)
    have htk : ns.take (i + 1) = ns.take i ++ [ns[i]] := by rw [List.take_add_one, hni]; rfl
    have hnot : ns[i] ∉ ns.take i := fun z => by
      have q := hn.nd
      rw [← List.take_append_drop (i + 1) ns, htk] at q
      have q2 := (List.nodup_append.mp (List.nodup_append.mp q).1).2.2
      exact q2 _ z _ (List.mem_singleton.mpr rfl) rfl
    generalize ns[i] = n at hat htk hnot
    have hb4 := ex_l eh hb
    have hn4 := eh _ _ hn.h
    have h34 : H4 p3 = some (.tup [.ref p1, .ref p2]) := f4.t.1 _ _ h3
    have hlen := hn.len
    cases t with
    | lacks =>
      refine ⟨_, rfl, _, rfl, tb, _, _, _, rfl, rfl, hb4, atI_nat htv, _, _, _, rfl, hdt, atI_nat (j := 0) rfl, fun v0 hv0 => ?_⟩
      obtain rfl := dp_str hv0
      refine ⟨rfl, _, rfl, iteF ⟨_, rfl, _, rfl, tb, _, _, _, rfl, rfl, hb4, atI_nat htv, _, _, _, rfl, hdt, atI_nat (j := 0) rfl, fun v0 hv0 => ?_⟩⟩
      obtain rfl := dp_str hv0
      refine ⟨rfl, _, rfl, iteF ⟨f4, told, made, _, rfl, dt, dm, by omega, by omega, ?_⟩⟩
      rw [htk]
      exact bk.more n
    | told v =>
      refine ⟨_, rfl, _, rfl, tb, _, _, _, rfl, rfl, hb4, atI_nat htv, _, _, _, rfl, hdt, atI_nat (j := 0) rfl, fun v0 hv0 => ?_⟩
      obtain rfl := dp_str hv0
      refine ⟨rfl, _, rfl, iteT ⟨_, rfl, _, rfl, tb, _, _, _, rfl, rfl, hb4, atI_nat htv, _, _, _, rfl, hdt, atI_nat (j := 1) rfl, fun v1 hv1 => ?_⟩⟩
      obtain ⟨kvs, hk, dr1⟩ := dt
      refine ⟨_, rfl, p3, _, _, _, rfl, rfl, SqT.of h34, atI_nat (j := 0) rfl, _, rfl, _, rfl, b, _, _, _, rfl, rfl, SqL.of hn4, hat, p1, _, rfl, DPut.k (k := Sum.inr n) hk (szlt (by rw [dr1.len]; omega)), ?_⟩
      have f5 : Fr [p1, p2] H3 (upd H4 p1 (.dK (putK kvs (Sum.inr n) v1))) := f4.mutIn List.mem_cons_self hk
      have t5 : Tu H4 (upd H4 p1 (.dK (putK kvs (Sum.inr n) v1))) := Tu.mut hk
      have k5 : ∀ a o, H4 a = some o → a ≠ p1 → (upd H4 p1 (.dK (putK kvs (Sum.inr n) v1))) a = some o := fun a o h ne => by
        rw [upd_ne ne]
        exact h
      have hk5 : (upd H4 p1 (.dK (putK kvs (Sum.inr n) v1))) p1 = some (.dK (putK kvs (Sum.inr n) v1)) := upd_same
      generalize upd H4 p1 (.dK (putK kvs (Sum.inr n) v1)) = H5 at f5 t5 k5 hk5 ⊢
      have eh5 : ∀ a o, H a = some o → H5 a = some o := fun a o h => k5 a o (eh a o h) fun z => by rw [z, hp1] at h; cases h
      have hdt5 := Dp.tu t5 _ _ (immTh (t := .told v) hok) hdt
      refine ⟨_, rfl, _, rfl, tb, _, _, _, rfl, rfl, ex_l eh5 hb, atI_nat htv, _, _, _, rfl, hdt5, atI_nat (j := 0) rfl, fun v0 hv0 => ?_⟩
      obtain rfl := dp_str hv0
      refine ⟨rfl, _, rfl, iteF ⟨f5, pt told n v, made, _, rfl, ⟨_, hk5, ?_⟩, dm.tu t5 (fun o h => k5 _ _ h fun z => n12 z.symm) (fun p hp => immR (okR_wf (bk.orr p hp)).1), Nat.le_trans pt_len (by omega), by omega, ?_⟩⟩
      · exact (dr1.mono fun v' p hp d => Dp.tu t5 _ _ (imm_vp (bk.ov p hp)) d).put n (Dp.tu t5 _ _ (imm_vp hok) hv1)
      · rw [htk]
        exact bk.told hnot hok
    | made r =>
      refine ⟨_, rfl, _, rfl, tb, _, _, _, rfl, rfl, hb4, atI_nat htv, _, _, _, rfl, hdt, atI_nat (j := 0) rfl, fun v0 hv0 => ?_⟩
      obtain rfl := dp_str hv0
      refine ⟨rfl, _, rfl, iteF ⟨_, rfl, _, rfl, tb, _, _, _, rfl, rfl, hb4, atI_nat htv, _, _, _, rfl, hdt, atI_nat (j := 0) rfl, fun v0 hv0 => ?_⟩⟩
      obtain rfl := dp_str hv0
      refine ⟨rfl, _, rfl, iteT ⟨_, rfl, _, rfl, tb, _, _, _, rfl, rfl, hb4, atI_nat htv, _, _, _, rfl, hdt, atI_nat (j := 1) rfl, fun v1 hv1 => ?_⟩⟩
      obtain ⟨kvs, hk, dr1⟩ := dm
      refine ⟨_, rfl, p3, _, _, _, rfl, rfl, SqT.of h34, atI_nat (j := 1) rfl, _, rfl, _, rfl, b, _, _, _, rfl, rfl, SqL.of hn4, hat, p2, _, rfl, DPut.k (k := Sum.inr n) hk (szlt (by rw [dr1.len]; omega)), ?_⟩
      have f5 : Fr [p1, p2] H3 (upd H4 p2 (.dK (putK kvs (Sum.inr n) v1))) := f4.mutIn (List.mem_cons_of_mem _ List.mem_cons_self) hk
      have t5 : Tu H4 (upd H4 p2 (.dK (putK kvs (Sum.inr n) v1))) := Tu.mut hk
      have k5 : ∀ a o, H4 a = some o → a ≠ p2 → (upd H4 p2 (.dK (putK kvs (Sum.inr n) v1))) a = some o := fun a o h ne => by
        rw [upd_ne ne]
        exact h
      refine ⟨f5, told, pt made n r, _, rfl, dt.tu t5 (fun o h => k5 _ _ h n12) (fun p hp => imm_vp (bk.ov p hp)), ⟨_, upd_same, ?_⟩, by omega, Nat.le_trans pt_len (by omega), ?_⟩
      · exact (dr1.mono fun v' p hp d => Dp.tu t5 _ _ (immR (okR_wf (bk.orr p hp)).1) d).put n (Dp.tu t5 _ _ (immR (okR_wf hok).1) hv1)
      · rw [htk]
        exact bk.made hnot hok
  · rintro σ H4 ⟨f4, told, made, y, rfl, dt, dm, lt, lm, bk⟩
    rw [Int.toNat_natCast, List.length_map, List.take_length] at bk
    have eh : ∀ a o, H a = some o → H4 a = some o := fun a o h => f4.k a o (E3 a o h) fun z => by
      rcases List.mem_cons.mp z with z | z
      · rw [z, hp1] at h
        cases h
      · rw [List.mem_singleton.mp z, hq2] at h
        cases h
    exact ⟨_, rfl, kk p3 p1 p2 told made H4 eh ⟨f4.t.1 _ _ h3, dt, dm⟩ n12 hp1 hq2 bk⟩
end
end Wk
namespace Wk
open PySem PySem.Spec PyProof.Rows L2 SX
/-- a list of things -/
structure Tl (K : PySem.W.Frag) (H : Hp) (n : Nat) (tb : Addr) (vals : List V) (ts : List Th) : Prop where
  h : SqL K H tb vals
  d : DpAll K H vals (ts.map encTh)
  ok : ∀ t ∈ ts, okTh t = true
  len : ts.length = n
theorem Tl.up {K : PySem.W.Frag} {H H' : Hp} {n : Nat} {tb : Addr} {vals : List V} {ts : List Th} (t : Tl K H n tb vals ts) (e : Ex H H') : Tl K H' n tb vals ts := ⟨ex_l e t.h, t.d.up e, t.ok, t.len⟩
theorem immTl {ts : List Th} (h : ∀ t ∈ ts, okTh t = true) : immAll (ts.map encTh) = true := by
  induction ts with
  | nil => rfl
  | cons t ts ih =>
    show (imm (encTh t) && immAll (ts.map encTh)) = true
    rw [immTh (h t List.mem_cons_self), ih fun x hx => h x (List.mem_cons_of_mem _ hx)]
    rfl
def spRung (K : PySem.W.Frag) : Sp := fun vs H Q _ => ∃ (v : V) (cells : List Int) (b : Addr) (ns : List Str) (tb : Addr) (vals : List V) (ts : List Th), vs = [v, .ref b, .ref tb] ∧ Dp K H v (.list (cells.map PyData.int)) ∧ cells.length ≤ 1000 ∧ Ns b ns H ∧ Tl K H ns.length tb vals ts ∧
  ∀ tb' vals' ts' H', Ex H H' → Tl K H' ns.length tb' vals' ts' → Q (.ref tb') H'
theorem DpAll.set {K : PySem.W.Frag} {H : Hp} : ∀ {vs : List V} {ds : List PyData} (i : Nat) {v : V} {d : PyData}, DpAll K H vs ds → Dp K H v d → DpAll K H (vs.set i v) (ds.set i d)
  | _, _, _, _, _, .nil, _ => .nil
  | _, _, 0, _, _, .cons _ t, h => .cons h t
  | _, _, i + 1, _, _, .cons a t, h => .cons a (DpAll.set i t h)
section
variable {P : Program} {w : World} {K : PySem.W.Frag} {mg : Str → Option Value} {base : Heap}
theorem c_law_rung (W : Wld K mg) : Cal P w K mg base 2 "_law_rung" (spRung K) := by
  have c_law_draws : Cal P w K mg base 1 "_law_draws" _ := c_law_draws W
  refine cal_of W.d_law_rung sc_law_rung (fun vs H Q E h => ?_) (fun f cdv A outer s H vs Q E hr h => ?_)
  · obtain ⟨v, cells, b, ns, tb, vals, ts, rfl, _⟩ := h
    rfl
  obtain ⟨v, cells, b, ns, tb, vals, ts, rfl, hv, hcl, hn, ht, kk⟩ := h
  refine ⟨_, (pss_cons (ps_set (i := 3) sc_law_rung.nd rfl (Or.inl rfl) (pe_cl c_law_draws hr (by omega) (by rfl) (pa_cons (pv 0) (pa_cons pe_int (pa_cons (pe_lst (pa_cons pe_int (pa_cons pe_int (pa_cons pe_int (pa_cons pe_int pa_nil))))) pa_nil)))))
    (pss_cons (ps_if (pt_cmpR op_ne (pe_ix ix_list (pv 3) pe_int (fun _ _ => rfl)) pe_int (nomark _)) (pss_one (ps_ret (pv 2))) pss_nil)
    (pss_cons (ps_set (i := 4) sc_law_rung.nd rfl (Or.inl rfl) (pe_callB (call_min2 rfl) (by rfl) W.f_min bt_min (pa_cons (pe_callB call_lenA (by rfl) W.f_len bt_len (pa_cons (pv 1) pa_nil)) (pa_cons (pe_op op_add pe_int (pe_ix ix_list (pv 3) pe_int (fun _ _ => rfl))) pa_nil))))
    (pss_cons (ps_set (i := 5) sc_law_rung.nd rfl (Or.inl rfl) (pe_callTy call_list_of (by rfl) W.f_list bt_list (pa_cons (pv 2) pa_nil)))
    (pss_cons (ps_for PassesOwn.never rfl (pi_range1 (by rfl) W.f_range (pa_cons (pv 4) pa_nil)) (pg_name (i := 6) sc_law_rung.nd rfl (Or.inl rfl)) (pss_cons (ps_set (i := 7) sc_law_rung.nd rfl (Or.inl rfl) (pe_tup (pa_cons pe_str (pa_cons (pe_ix ix_list (pv 1) (pe_op op_mod (pe_op op_add (pv 6) pe_int) (pv 4)) (fun _ _ => rfl)) pa_nil))))
    (pss_cons (ps_set (i := 8) sc_law_rung.nd rfl (Or.inl rfl) (pe_tup (pa_cons pe_str (pa_cons (pv 7) (pa_cons (pe_tup (pa_cons pe_str (pa_cons (pe_tup (pa_cons pe_str (pa_cons (pe_tup (pa_cons (pe_tup (pa_cons pe_str (pa_cons pe_int pa_nil))) (pa_cons (pe_tup (pa_cons pe_str (pa_cons pe_int pa_nil))) pa_nil))) pa_nil))) pa_nil))) pa_nil)))))
    (C8.pss_cut (ps_if (PW.pt (pw_and (pt_cmpR op_eq (pe_ix ix_list (pv 3) pe_int (fun _ _ => rfl)) pe_int (nomark _)) (pw_and1 (pt_cmpR op_eq (pv 6) (pe_op op_mod (pe_ix ix_list (pv 3) pe_int (fun _ _ => rfl)) (pv 4)) (nomark _))))) (pss_cons (ps_set (i := 9) sc_law_rung.nd rfl (Or.inl rfl) (pe_tup (pa_cons pe_str (pa_cons (pv 7) (pa_cons (pe_tup (pa_cons pe_str (pa_cons (pe_tup (pa_cons pe_str (pa_cons pe_int pa_nil))) pa_nil))) pa_nil)))))
    (pss_one (ps_set (i := 8) sc_law_rung.nd rfl (Or.inl rfl) (pe_tup (pa_cons pe_str (pa_cons (pe_tup (pa_cons pe_str (pa_cons (pe_ix ix_list (pv 1) (pe_un un_neg pe_int) (fun _ _ => rfl)) pa_nil))) (pa_cons (pe_tup (pa_cons pe_str (pa_cons (pe_tup (pa_cons pe_str (pa_cons pe_int pa_nil))) (pa_cons (pv 9) (pa_cons (pe_tup (pa_cons pe_str (pa_cons (pe_tup (pa_cons pe_str (pa_cons (pv 6) pa_nil))) pa_nil))) pa_nil))))) pa_nil))))))) pss_nil)
    (pss_one (ps_asg (pe_tup (pa_cons pe_str (pa_cons (pv 8) pa_nil))) (pg_sub (pv 5) (pv 6) set_list)))))))
    (pss_one (ps_ret (pv 5)))))))), ?_⟩
  refine ⟨_, rfl, (show 4 ≤ sizeLine by decide), fun p1 hp1 => ?_⟩
  generalize hh : upd H p1 _ = H1
  have e1 : Ex H H1 := hh ▸ Ex.new hp1
  have h1 : H1 p1 = some (.lst (([3, 3, 2, 6] : List Int).map V.int)) := by rw [← hh]; exact upd_same
  clear hh
  refine ⟨v, cells, 9, p1, [3, 3, 2, 6], rfl, hv.up e1, hcl, by decide, by decide, SqL.of h1, by decide, by decide, fun xs p2 H2 e2 hp2 h2 dx => ?_⟩
  have E2 := e1.trans e2
  obtain ⟨x0, hx0, _, _⟩ := dx.at (i := 0) (s := 3) rfl
  obtain ⟨x1, hx1, g10, g11⟩ := dx.at (i := 1) (s := 3) rfl
  obtain ⟨x2, hx2, _, _⟩ := dx.at (i := 2) (s := 2) rfl
  obtain ⟨x3, hx3, _, _⟩ := dx.at (i := 3) (s := 6) rfl
  have at0 : atI (xs.map V.int) 0 = some (V.int x0) := atI_nat (j := 0) (by rw [List.getElem?_map, hx0]; rfl)
  have at1 : atI (xs.map V.int) 1 = some (V.int x1) := atI_nat (j := 1) (by rw [List.getElem?_map, hx1]; rfl)
  have at2 : atI (xs.map V.int) 2 = some (V.int x2) := atI_nat (j := 2) (by rw [List.getElem?_map, hx2]; rfl)
  have at3 : atI (xs.map V.int) 3 = some (V.int x3) := atI_nat (j := 3) (by rw [List.getElem?_map, hx3]; rfl)
  refine ⟨_, rfl, p2, _, _, _, rfl, rfl, SqL.of h2, at0, rfl, _, rfl, iteND (fun c => ⟨_, rfl, kk tb vals ts H2 E2 (ht.up E2)⟩) (fun c => ?_)⟩
  have hn2 := hn.up E2
  refine ⟨_, rfl, _, _, rfl, .inl ⟨_, SqL.of hn2.h, rfl⟩, _, rfl, p2, _, _, _, rfl, rfl, SqL.of h2, at1, _, _, rfl, rfl, _, _, rfl, ?_⟩
  obtain ⟨many, hm, hm1, hm2⟩ : ∃ many : Nat, (if 1 + x1 < (((ns.map V.str).length : Nat) : Int) then 1 + x1 else (((ns.map V.str).length : Nat) : Int)) = ((many : Nat) : Int) ∧ 1 ≤ many ∧ many ≤ ns.length := by
    rw [List.length_map]
    have := hn.pos
    by_cases h : 1 + x1 < ((ns.length : Nat) : Int)
    · rw [if_pos h]
      exact ⟨(1 + x1).toNat, by omega, by omega, by omega⟩
    · rw [if_neg h]
      exact ⟨ns.length, rfl, this, Nat.le_refl _⟩
  show gName 4 (V.int (if 1 + x1 < (((ns.map V.str).length : Nat) : Int) then 1 + x1 else (((ns.map V.str).length : Nat) : Int))) _ _ _
  rw [hm]
  refine ⟨_, rfl, _, _, rfl, .inl (ht.up E2).h, fun p3 hp3 => ?_⟩
  generalize hh : upd H2 p3 _ = H3
  have e3 : Ex H2 H3 := hh ▸ Ex.new hp3
  have h3 : H3 p3 = some (.lst vals) := by rw [← hh]; exact upd_same
  clear hh
  have E3 := E2.trans e3
  have hl6 := hn.len
  refine ⟨_, rfl, _, rfl, by omega, by omega, for_range (fun i σ H' => Ex H2 H' ∧ ∃ (vals' : List V) (ts' : List Th) (y6 y7 y8 y9 : Option V), σ = [some v, some (.ref b), some (.ref tb), some (.ref p2), some (.int ((many : Nat) : Int)), some (.ref p3), y6, y7, y8, y9] ∧ H' p3 = some (.lst vals') ∧ Tl K H' ns.length p3 vals' ts')
    ⟨e3, vals, ts, _, _, _, _, rfl, h3, SqL.of h3, ht.d.up E3, ht.ok, ht.len⟩ ?_ ?_⟩
  · rintro i σ H4 hi ⟨e4, vals', ts', y6, y7, y8, y9, rfl, h4, t4⟩
    rw [Int.toNat_natCast] at hi
    rw [Int.zero_add]
    have hn4 := hn2.up e4
    obtain ⟨j, hj, hjn⟩ := mod_nat (((i : Nat) : Int) + 1) (show 0 < many by omega)
    have hat : atI (ns.map V.str) ((((i : Nat) : Int) + 1) % ((many : Nat) : Int)) = some (V.str (ns[j]'(by omega))) := by
      rw [hj]
      exact atI_nat (by rw [List.getElem?_map, List.getElem?_eq_getElem (show j < ns.length by omega)]; rfl)
    have hzn := hn.ok _ (List.getElem_mem (show j < ns.length by omega))
    generalize ns[j]'(by omega) = z at hat hzn
    have w0 : wfX 0 (.lf (.put (.str z))) = true := nameS_okV hzn
    have w1 : wfX 1 (.lf (.put (.str z))) = true := nameS_okV hzn
    refine ⟨_, rfl, _, rfl, _, _, rfl, rfl, _, rfl, _, _, rfl, rfl, (show (0 : Int) < ((many : Nat) : Int) by omega), b, _, _, _, rfl, rfl, SqL.of hn4.h, hat, (show 2 ≤ sizeLine by decide), fun p5 hp5 => ?_⟩
    generalize hh : upd H4 p5 _ = H5
    have e5 : Ex H4 H5 := hh ▸ Ex.new hp5
    have h5 : H5 p5 = some (.tup [.str "put", .str z]) := by rw [← hh]; exact upd_same
    clear hh
    have d5 : Dp K H5 (.ref p5) (encX (.lf (.put (.str z)))) := .tup (SqT.of h5) (.cons (.str _) (.one (.str _)))
    refine ⟨_, rfl, (show 2 ≤ sizeLine by decide), fun p6 hp6 => ?_⟩
    generalize hh : upd H5 p6 _ = H6
    have e6 : Ex H5 H6 := hh ▸ Ex.new hp6
    have h6 : H6 p6 = some (.tup [.str "got", .int 0]) := by rw [← hh]; exact upd_same
    clear hh
    refine ⟨(show 2 ≤ sizeLine by decide), fun p7 hp7 => ?_⟩
    generalize hh : upd H6 p7 _ = H7
    have e7 : Ex H6 H7 := hh ▸ Ex.new hp7
    have h7 : H7 p7 = some (.tup [.str "put", .int 1]) := by rw [← hh]; exact upd_same
    clear hh
    refine ⟨(show 2 ≤ sizeLine by decide), fun p8 hp8 => ?_⟩
    generalize hh : upd H7 p8 _ = H8
    have e8 : Ex H7 H8 := hh ▸ Ex.new hp8
    have h8 : H8 p8 = some (.tup [.ref p6, .ref p7]) := by rw [← hh]; exact upd_same
    clear hh
    have d8 : Dp K H8 (.ref p8) (.tuple [encL (.got 0), encL (.put (.int 1))]) := .tup (SqT.of h8) (.cons (.tup (SqT.of ((e7.trans e8) _ _ h6)) (.cons (.str _) (.one (.int _)))) (.one (.tup (SqT.of (e8 _ _ h7)) (.cons (.str _) (.one (.int _))))))
    refine ⟨(show 2 ≤ sizeLine by decide), fun p9 hp9 => ?_⟩
    generalize hh : upd H8 p9 _ = H9
    have e9 : Ex H8 H9 := hh ▸ Ex.new hp9
    have h9 : H9 p9 = some (.tup [.str "row", .ref p8]) := by rw [← hh]; exact upd_same
    clear hh
    have d9 : Dp K H9 (.ref p9) (encX (.row (.got 0) (.put (.int 1)))) := .tup (SqT.of h9) (.cons (.str _) (.one (d8.up e9)))
    refine ⟨(show 2 ≤ sizeLine by decide), fun p10 hp10 => ?_⟩
    generalize hh : upd H9 p10 _ = H10
    have e10 : Ex H9 H10 := hh ▸ Ex.new hp10
    have h10 : H10 p10 = some (.tup [.str "say", .ref p9]) := by rw [← hh]; exact upd_same
    clear hh
    have d10 : Dp K H10 (.ref p10) (encR (.say (.row (.got 0) (.put (.int 1))))) := .tup (SqT.of h10) (.cons (.str _) (.one (d9.up e10)))
    have E10 := e6.trans (e7.trans (e8.trans (e9.trans e10)))
    refine ⟨(show 3 ≤ sizeLine by decide), fun p11 hp11 => ?_⟩
    generalize hh : upd H10 p11 _ = H11
    have e11 : Ex H10 H11 := hh ▸ Ex.new hp11
    have h11 : H11 p11 = some (.tup [.str "want", .ref p5, .ref p10]) := by rw [← hh]; exact upd_same
    clear hh
    have d11 : Dp K H11 (.ref p11) (encR (.ask false (.lf (.put (.str z))) (.say (.row (.got 0) (.put (.int 1)))))) := .tup (SqT.of h11) (.cons (.str _) (.cons ((d5.up E10).up e11) (.one (d10.up e11))))
    have E11 := E10.trans e11
    have ok11 : okR (.ask false (.lf (.put (.str z))) (.say (.row (.got 0) (.put (.int 1))))) = true := by
      refine okR_of ?_ (show 1 ≤ 3 by decide)
      show (wfX 0 (.lf (.put (.str z))) && wfR 1 (.say (.row (.got 0) (.put (.int 1))))) = true
      rw [w0]
      decide +kernel
    refine ⟨fun σ' H' => ∃ (r : Rc) (x : V) (y9 : Option V), σ' = [some v, some (.ref b), some (.ref tb), some (.ref p2), some (.int ((many : Nat) : Int)), some (.ref p3), some (.int ((i : Nat) : Int)), some (.ref p5), some x, y9] ∧ Ex H5 H' ∧ Dp K H' x (encR r) ∧ okR r = true, ?_, ?_⟩
    · have E45 := e4.trans (e5.trans E11)
      refine ⟨_, rfl, p2, _, _, _, rfl, rfl, SqL.of (E45 _ _ h2), at2, rfl, _, rfl, iteD (fun c => ?_) (fun c => ⟨_, _, _, rfl, E11, d11, ok11⟩)⟩
      refine ⟨_, rfl, _, rfl, p2, _, _, _, rfl, rfl, SqL.of (E45 _ _ h2), at3, _, rfl, _, _, rfl, rfl, (show (0 : Int) < ((many : Nat) : Int) by omega), rfl, _, rfl, iteD (fun c => ?_) (fun c => ⟨_, _, _, rfl, E11, d11, ok11⟩)⟩
      refine ⟨_, rfl, (show 2 ≤ sizeLine by decide), fun p12 hp12 => ?_⟩
      generalize hh : upd H11 p12 _ = H12
      have e12 : Ex H11 H12 := hh ▸ Ex.new hp12
      have h12 : H12 p12 = some (.tup [.str "got", .int 1]) := by rw [← hh]; exact upd_same
      clear hh
      refine ⟨(show 2 ≤ sizeLine by decide), fun p13 hp13 => ?_⟩
      generalize hh : upd H12 p13 _ = H13
      have e13 : Ex H12 H13 := hh ▸ Ex.new hp13
      have h13 : H13 p13 = some (.tup [.str "say", .ref p12]) := by rw [← hh]; exact upd_same
      clear hh
      have d13 : Dp K H13 (.ref p13) (encR (.say (.lf (.got 1)))) := .tup (SqT.of h13) (.cons (.str _) (.one (.tup (SqT.of (e13 _ _ h12)) (.cons (.str _) (.one (.int _))))))
      refine ⟨(show 3 ≤ sizeLine by decide), fun p14 hp14 => ?_⟩
      generalize hh : upd H13 p14 _ = H14
      have e14 : Ex H13 H14 := hh ▸ Ex.new hp14
      have h14 : H14 p14 = some (.tup [.str "want", .ref p5, .ref p13]) := by rw [← hh]; exact upd_same
      clear hh
      have E14 := E11.trans (e12.trans (e13.trans e14))
      have d14 : Dp K H14 (.ref p14) (encR (.ask false (.lf (.put (.str z))) (.say (.lf (.got 1))))) := .tup (SqT.of h14) (.cons (.str _) (.cons (d5.up E14) (.one (d13.up e14))))
      have hlast : atI (ns.map V.str) (-1) = some (V.str (ns[ns.length - 1]'(by have := hn.pos; omega))) := by
        have hp := hn.pos
        have q : ixN (ns.map V.str).length (-1) = some (ns.length - 1) := by
          unfold ixN
          rw [List.length_map, if_neg (by omega), if_pos (by omega)]
          congr 1
          omega
        unfold atI
        rw [q]
        show (ns.map V.str)[ns.length - 1]? = _
        rw [List.getElem?_map, List.getElem?_eq_getElem (by omega)]
        rfl
      have hz2 := hn.ok _ (List.getElem_mem (show ns.length - 1 < ns.length by have := hn.pos; omega))
      generalize ns[ns.length - 1]'(by have := hn.pos; omega) = z2 at hlast hz2
      refine ⟨_, rfl, _, rfl, b, _, _, _, rfl, rfl, SqL.of ((e5.trans E14) _ _ hn4.h), hlast, (show 2 ≤ sizeLine by decide), fun p15 hp15 => ?_⟩
      generalize hh : upd H14 p15 _ = H15
      have e15 : Ex H14 H15 := hh ▸ Ex.new hp15
      have h15 : H15 p15 = some (.tup [.str "put", .str z2]) := by rw [← hh]; exact upd_same
      clear hh
      have d15 : Dp K H15 (.ref p15) (encX (.lf (.put (.str z2)))) := .tup (SqT.of h15) (.cons (.str _) (.one (.str _)))
      refine ⟨(show 2 ≤ sizeLine by decide), fun p16 hp16 => ?_⟩
      generalize hh : upd H15 p16 _ = H16
      have e16 : Ex H15 H16 := hh ▸ Ex.new hp16
      have h16 : H16 p16 = some (.tup [.str "got", .int 0]) := by rw [← hh]; exact upd_same
      clear hh
      have d16 : Dp K H16 (.ref p16) (encX (.lf (.got 0))) := .tup (SqT.of h16) (.cons (.str _) (.one (.int _)))
      refine ⟨_, rfl, _, rfl, (show 2 ≤ sizeLine by decide), fun p17 hp17 => ?_⟩
      generalize hh : upd H16 p17 _ = H17
      have e17 : Ex H16 H17 := hh ▸ Ex.new hp17
      have h17 : H17 p17 = some (.tup [.str "put", .int ((i : Nat) : Int)]) := by rw [← hh]; exact upd_same
      clear hh
      refine ⟨(show 2 ≤ sizeLine by decide), fun p18 hp18 => ?_⟩
      generalize hh : upd H17 p18 _ = H18
      have e18 : Ex H17 H18 := hh ▸ Ex.new hp18
      have h18 : H18 p18 = some (.tup [.str "say", .ref p17]) := by rw [← hh]; exact upd_same
      clear hh
      have d18 : Dp K H18 (.ref p18) (encR (.say (.lf (.put (.int ((i : Nat) : Int)))))) := .tup (SqT.of h18) (.cons (.str _) (.one (.tup (SqT.of (e18 _ _ h17)) (.cons (.str _) (.one (.int _))))))
      refine ⟨(show 4 ≤ sizeLine by decide), fun p19 hp19 => ?_⟩
      generalize hh : upd H18 p19 _ = H19
      have e19 : Ex H18 H19 := hh ▸ Ex.new hp19
      have h19 : H19 p19 = some (.tup [.str "when", .ref p16, .ref p14, .ref p18]) := by rw [← hh]; exact upd_same
      clear hh
      have E19 := e15.trans (e16.trans (e17.trans (e18.trans e19)))
      have d19 : Dp K H19 (.ref p19) (encR (.when_ (.lf (.got 0)) (.ask false (.lf (.put (.str z))) (.say (.lf (.got 1)))) (.say (.lf (.put (.int ((i : Nat) : Int))))))) :=
        .tup (SqT.of h19) (.cons (.str _) (.cons (d16.up (e17.trans (e18.trans e19))) (.cons (d14.up E19) (.one (d18.up e19)))))
      refine ⟨(show 3 ≤ sizeLine by decide), fun p20 hp20 => ?_⟩
      generalize hh : upd H19 p20 _ = H20
      have e20 : Ex H19 H20 := hh ▸ Ex.new hp20
      have h20 : H20 p20 = some (.tup [.str "want", .ref p15, .ref p19]) := by rw [← hh]; exact upd_same
      clear hh
      have d20 : Dp K H20 (.ref p20) (encR (.ask false (.lf (.put (.str z2))) (.when_ (.lf (.got 0)) (.ask false (.lf (.put (.str z))) (.say (.lf (.got 1)))) (.say (.lf (.put (.int ((i : Nat) : Int)))))))) :=
        .tup (SqT.of h20) (.cons (.str _) (.cons ((d15.up (e16.trans (e17.trans (e18.trans e19)))).up e20) (.one (d19.up e20))))
      refine ⟨_, _, _, rfl, E14.trans (E19.trans e20), d20, okR_of ?_ (show 3 ≤ 3 by decide)⟩
      show (okV (.str z2) && (decide (0 < 1) && ((okV (.str z) && decide (1 < 1 + 1)) && okV (.int ((i : Nat) : Int))))) = true
      rw [nameS_okV hz2, nameS_okV hzn, okV_int (show ((i : Nat) : Int).natAbs ≤ 10 ^ 18 by rw [Int.natAbs_natCast]; exact Nat.le_trans (Nat.le_trans (Nat.le_of_lt hi) (Nat.le_trans hm2 hl6)) (by decide))]
      rfl
    · rintro _ H12 ⟨r, x, y9', rfl, E12, dx12, okx⟩
      refine ⟨_, rfl, (show 2 ≤ sizeLine by decide), fun p21 hp21 => ?_⟩
      have E412 := e5.trans E12
      have d21 : Dp K (upd H12 p21 (.tup [.str "made", x])) (.ref p21) (encTh (.made r)) := dp_newT hp21 (.cons (.str _) (.one dx12))
      have e21 : Ex H12 (upd H12 p21 (.tup [.str "made", x])) := Ex.new hp21
      generalize hh : upd H12 p21 _ = H21
      have d21 : Dp K H21 (.ref p21) (encTh (.made r)) := hh ▸ d21
      have e21 : Ex H12 H21 := hh ▸ e21
      have h21 := (E412.trans e21) _ _ h4
      have t21 := t4.up (E412.trans e21)
      have hvl : vals'.length = ns.length := by rw [t4.d.length, List.length_map, t4.len]
      refine ⟨_, rfl, _, rfl, p3, _, _, i, rfl, rfl, h21, ?_, Ex.mut (e4.trans (E412.trans e21)) hp3, vals'.set i (.ref p21), ts'.set i (.made r), _, _, _, _, rfl, upd_same, ?_⟩
      · unfold ixN
        rw [hvl, if_pos (by omega), if_pos (by omega)]
        simp
      have tt : Tu H21 (upd H21 p3 (.lst (vals'.set i (.ref p21)))) := Tu.mut h21
      refine ⟨SqL.of upd_same, ?_, fun t h => ?_, by rw [List.length_set]; exact t4.len⟩
      · rw [List.map_set]
        exact DpAll.set i (DpAll.tu tt _ _ (immTl t4.ok) t21.d) (Dp.tu tt _ _ (immTh (t := .made r) okx) d21)
      · rcases List.mem_or_eq_of_mem_set h with h | rfl
        · exact t4.ok t h
        · exact okx
  · rintro σ H4 ⟨e4, vals', ts', y6, y7, y8, y9, rfl, h4, t4⟩
    exact ⟨_, rfl, kk p3 vals' ts' H4 (E2.trans e4) t4⟩
end
end Wk
namespace Wk
open PySem PySem.Spec PyProof.Rows L2 SX
def spBooks (K : PySem.W.Frag) : Sp := fun vs H Q _ => ∃ (v : V) (cells : List Int) (b : Addr) (ns : List Str) (pk : Bool), vs = [v, .ref b, .bl pk] ∧ Dp K H v (.list (cells.map PyData.int)) ∧ cells.length ≤ 1000 ∧ Ns b ns H ∧
  ∀ p b1 t1 m1 told1 made1 b2 t2 m2 told2 made2 H', Ex H H' → H p = none → H' p = some (.tup [.ref b1, .ref b2]) → Bk K H' b1 t1 m1 told1 made1 → BkOk ns told1 made1 → Bk K H' b2 t2 m2 told2 made2 → BkOk ns told2 made2 → Q (.ref p) H'
section
variable {P : Program} {w : World} {K : PySem.W.Frag} {mg : Str → Option Value} {base : Heap}
theorem c_law_books (W : Wld K mg) : Cal P w K mg base 11 "_law_books" (spBooks K) := by
  have c_law_draws : Cal P w K mg base 1 "_law_draws" _ := c_law_draws W
  have c_law_thing : Cal P w K mg base 10 "_law_thing" _ := c_law_thing W
  have c_law_rung : Cal P w K mg base 2 "_law_rung" _ := c_law_rung W
  have c_law_book_of : Cal P w K mg base 1 "_law_book_of" _ := c_law_book_of W
  refine cal_of W.d_law_books sc_law_books (fun vs H Q E h => ?_) (fun f cdv A outer s H vs Q E hr h => ?_)
  · obtain ⟨v, cells, b, ns, pk, rfl, _⟩ := h
    rfl
  obtain ⟨v, cells, b, ns, pk, rfl, hv, hcl, hn, kk⟩ := h
  refine ⟨_, (pss_cons (ps_setLc (i := 4) (own := [("_law_k", 3)]) (g := gName 3) (tt := tYes) rfl sc_law_books.nd rfl rfl (sw_true rfl rfl rfl (by decide +kernel)) (pi_range1 (by rfl) W.f_range (pa_cons (pe_callB call_lenA (by rfl) W.f_len bt_len (pa_cons (pv 1) pa_nil)) pa_nil)) (blkOk_by (own := [("_law_k", 3)]) (N := N_law_books) (sc := defScope (top 64)) (by decide +kernel)) (fun _ _ _ _ _ => (pg_name (i := 3) sc_law_books.nd rfl (Or.inl rfl))) (fun _ _ _ _ _ => pts_nil) (fun _ _ _ _ _ => (pe_cl c_law_thing hr (by omega) (by rfl) (pa_cons (pv 0) (pa_cons (pe_op op_add pe_int (pv 3)) (pa_cons (pv 1) (pa_cons (pv 2) pa_nil)))))))
    (pss_cons (ps_set (i := 5) sc_law_books.nd rfl (Or.inl rfl) (pe_lst pa_nil))
    (pss_cons (ps_for PassesOwn.never rfl (pi_range1 (by rfl) W.f_range (pa_cons (pe_callB call_lenA (by rfl) W.f_len bt_len (pa_cons (pv 1) pa_nil)) pa_nil)) (pg_name (i := 3) sc_law_books.nd rfl (Or.inl rfl)) (pss_cons (ps_set (i := 6) sc_law_books.nd rfl (Or.inl rfl) (pe_ix ix_list (pv 4) (pv 3) (fun _ _ => rfl)))
    (C8.pss_cut (ps_if (pt_cmpR op_eq (pe_ix ix_list (pe_cl c_law_draws hr (by omega) (by rfl) (pa_cons (pv 0) (pa_cons (pe_op op_add pe_int (pv 3)) (pa_cons (pe_lst (pa_cons pe_int pa_nil)) pa_nil)))) pe_int (fun _ _ => rfl)) pe_int (nomark _)) (pss_one (ps_set (i := 6) sc_law_books.nd rfl (Or.inl rfl) (pe_cl c_law_thing hr (by omega) (by rfl) (pa_cons (pv 0) (pa_cons (pe_op op_add pe_int (pv 3)) (pa_cons (pv 1) (pa_cons (pv 2) pa_nil))))))) pss_nil)
    (pss_one (ps_expr (pe_bm PySem.F.plainAttrs_list PySem.F.slot_list_append PySem.F.type_list_append mt_append (pv 5) (pa_cons (pv 6) pa_nil)))))))
    (pss_cons (ps_set (i := 7) sc_law_books.nd rfl (Or.inl rfl) (pe_ix ix_list (pe_cl c_law_draws hr (by omega) (by rfl) (pa_cons (pv 0) (pa_cons pe_int (pa_cons (pe_lst (pa_cons pe_int pa_nil)) pa_nil)))) pe_int (fun _ _ => rfl)))
    (C8.pss_cut (ps_if (pt_cmpR op_gt (pv 7) pe_int (nomark _)) (pss_one (ps_set (i := 4) sc_law_books.nd rfl (Or.inl rfl) (pe_cl c_law_rung hr (by omega) (by rfl) (pa_cons (pv 0) (pa_cons (pv 1) (pa_cons (pv 4) pa_nil)))))) pss_nil)
    (C8.pss_cut (ps_if (pt_cmpR op_lt (pv 7) pe_int (nomark _)) (pss_one (ps_set (i := 5) sc_law_books.nd rfl (Or.inl rfl) (pe_cl c_law_rung hr (by omega) (by rfl) (pa_cons (pv 0) (pa_cons (pv 1) (pa_cons (pv 5) pa_nil)))))) pss_nil)
    (pss_one (ps_ret (pe_tup (pa_cons (pe_cl c_law_book_of hr (by omega) (by rfl) (pa_cons (pv 1) (pa_cons (pv 4) pa_nil))) (pa_cons (pe_cl c_law_book_of hr (by omega) (by rfl) (pa_cons (pv 1) (pa_cons (pv 5) pa_nil))) pa_nil))))))))))), ?_⟩
  have hlen := hn.len
  have rng : ∀ (H' : Hp), Ex H H' → -(2 ^ 62) ≤ (((ns.map V.str).length : Nat) : Int) ∧ (((ns.map V.str).length : Nat) : Int) < 2 ^ 62 := fun H' _ => by
    rw [List.length_map]
    omega
  refine ⟨_, rfl, _, _, rfl, .inl ⟨_, SqL.of hn.h, rfl⟩, _, rfl, (rng H (Same.refl _)).1, (rng H (Same.refl _)).2, fun D hD => lcI (src_rng 0 _) (fun j H' => Ex H H' ∧ ∃ vals ts, H' D = some (.lst vals) ∧ Tl K H' j D vals ts) ⟨Ex.new hD, [], [], upd_same, SqL.of upd_same, .nil, fun t h => (by cases h), rfl⟩ (fun _ _ h => h.1) ?_ ?_⟩
  · rintro j x H1 hj rfl ⟨e1, vals, ts, h1, t1⟩
    rw [Int.toNat_natCast, List.length_map] at hj
    refine ⟨rfl, ?_⟩
    refine ⟨_, rfl, _, rfl, _, _, rfl, rfl, _, rfl, _, rfl, v, cells, 10 + (0 + ((j : Nat) : Int)), b, ns, pk, rfl, hv.up e1, hcl, by omega, by omega, hn.up e1, fun x t H2 e2 hx ht => ?_⟩
    have h2 := e2 _ _ h1
    have hvl : vals.length = j := by rw [t1.d.length, List.length_map, t1.len]
    refine ⟨vals, h2, szlt (by omega), Ex.mut (e1.trans e2) hD, vals ++ [x], ts ++ [t], upd_same, SqL.of upd_same, ?_, ?_, ?_⟩
    · have tt : Tu H2 (upd H2 D (.lst (vals ++ [x]))) := Tu.mut h2
      rw [List.map_append]
      exact (DpAll.tu ((Same.tu e2).trans tt) _ _ (immTl t1.ok) t1.d).append (.one (Dp.tu tt _ _ (immTh ht) hx))
    · intro t' h'
      rcases List.mem_append.mp h' with h' | h'
      · exact t1.ok t' h'
      · rw [List.mem_singleton.mp h']
        exact ht
    · rw [List.length_append, t1.len]
      rfl
  rintro H1 ⟨e1, vals, ts, h1, t1⟩
  rw [Int.toNat_natCast, List.length_map] at t1
  have hn1 := hn.up e1
  refine ⟨Nat.zero_le _, fun p2 hp2 => ?_⟩
  generalize hh : upd H1 p2 _ = H2
  have e2 : Ex H1 H2 := hh ▸ Ex.new hp2
  have h2 : H2 p2 = some (.lst []) := by rw [← hh]; exact upd_same
  clear hh
  have t2 := t1.up e2
  have hn2 := hn1.up e2
  have E2 := e1.trans e2
  refine ⟨_, rfl, _, _, rfl, .inl ⟨_, SqL.of hn2.h, rfl⟩, _, rfl, (rng H (Same.refl _)).1, (rng H (Same.refl _)).2, for_range (fun i σ H' => Ex H1 H' ∧ Ex H H' ∧ ∃ (vals' : List V) (ts' : List Th) (y3 y6 y7 : Option V), σ = [some v, some (.ref b), some (.bl pk), y3, some (.ref D), some (.ref p2), y6, y7] ∧ H' p2 = some (.lst vals') ∧ Tl K H' i p2 vals' ts')
    ⟨e2, E2, [], [], _, _, _, rfl, h2, SqL.of h2, .nil, fun t h => (by cases h), rfl⟩ ?_ ?_⟩
  · rintro i σ H3 hi ⟨e3, E3, vals', ts', y3, y6, y7, rfl, h3, t3⟩
    rw [Int.toNat_natCast, List.length_map] at hi
    rw [Int.zero_add]
    have tD := t1.up e3
    have hits : i < ts.length := by rw [t1.len]; exact hi
    have htd : ts[i]? = some ts[i] := List.getElem?_eq_getElem hits
    obtain ⟨x, hx, hdx⟩ := tD.d.get (i := i) (d := encTh ts[i]) (by rw [List.getElem?_map, htd]; rfl)
    have hok := tD.ok _ (List.getElem_mem (show i < ts.length by rw [t1.len]; exact hi))
    generalize ts[i] = t at hdx hok
    refine ⟨_, rfl, _, rfl, D, _, _, _, rfl, rfl, tD.h, atI_nat hx, ?_⟩
    refine ⟨fun σ' H' => ∃ (x' : V) (t' : Th), σ' = [some v, some (.ref b), some (.bl pk), some (.int ((i : Nat) : Int)), some (.ref D), some (.ref p2), some x', y7] ∧ Ex H3 H' ∧ Dp K H' x' (encTh t') ∧ okTh t' = true, ?_, ?_⟩
    · refine ⟨_, rfl, _, rfl, _, _, rfl, rfl, (show 1 ≤ sizeLine by decide), fun p4 hp4 => ?_⟩
      generalize hh : upd H3 p4 _ = H4
      have e4 : Ex H3 H4 := hh ▸ Ex.new hp4
      have h4 : H4 p4 = some (.lst (([4] : List Int).map V.int)) := by rw [← hh]; exact upd_same
      clear hh
      refine ⟨v, cells, 20 + ((i : Nat) : Int), p4, [4], rfl, hv.up (E3.trans e4), hcl, by omega, by omega, SqL.of h4, by decide, by decide, fun xs p5 H5 e5 hp5 h5 dx => ?_⟩
      obtain ⟨x0, hx0, _, _⟩ := dx.at (i := 0) (s := 4) rfl
      have at0 : atI (xs.map V.int) 0 = some (V.int x0) := atI_nat (j := 0) (by rw [List.getElem?_map, hx0]; rfl)
      have e35 := e4.trans e5
      refine ⟨p5, _, _, _, rfl, rfl, SqL.of h5, at0, rfl, _, rfl, iteD (fun c => ?_) (fun c => ⟨x, t, rfl, e35, hdx.up e35, hok⟩)⟩
      exact ⟨_, rfl, _, rfl, _, _, rfl, rfl, _, rfl, _, rfl, v, cells, 30 + ((i : Nat) : Int), b, ns, pk, rfl, hv.up (E3.trans e35), hcl, by omega, by omega, hn.up (E3.trans e35), fun x' t' H6 e6 hx' ht' => ⟨x', t', rfl, e35.trans e6, hx', ht'⟩⟩
    · rintro _ H4 ⟨x', t', rfl, e4, hx', ht'⟩
      have h4 := e4 _ _ h3
      have hvl : vals'.length = i := by rw [t3.d.length, List.length_map, t3.len]
      have hp2H : H p2 = none := e1.back hp2
      refine ⟨_, rfl, .inl ⟨rfl, _, SqL.of h4⟩, _, rfl, p2, _, _, rfl, rfl, h4, szlt (by omega), Ex.mut (e3.trans e4) hp2, Ex.mut (E3.trans e4) hp2H, vals' ++ [x'], ts' ++ [t'], _, _, _, rfl, upd_same, SqL.of upd_same, ?_, ?_, ?_⟩
      · have tt : Tu H4 (upd H4 p2 (.lst (vals' ++ [x']))) := Tu.mut h4
        rw [List.map_append]
        exact (DpAll.tu ((Same.tu e4).trans tt) _ _ (immTl t3.ok) t3.d).append (.one (Dp.tu tt _ _ (immTh ht') hx'))
      · intro t'' h'
        rcases List.mem_append.mp h' with h' | h'
        · exact t3.ok _ h'
        · rw [List.mem_singleton.mp h']
          exact ht'
      · rw [List.length_append, t3.len]
        rfl
  rintro σ H3 ⟨e3, E3, vals', ts', y3, y6, y7, rfl, h3, t3⟩
  rw [Int.toNat_natCast, List.length_map] at t3
  have tD := t1.up e3
  refine ⟨_, rfl, (show 1 ≤ sizeLine by decide), fun p4 hp4 => ?_⟩
  generalize hh : upd H3 p4 _ = H4
  have e4 : Ex H3 H4 := hh ▸ Ex.new hp4
  have h4 : H4 p4 = some (.lst (([3] : List Int).map V.int)) := by rw [← hh]; exact upd_same
  clear hh
  refine ⟨v, cells, 8, p4, [3], rfl, hv.up (E3.trans e4), hcl, by decide, by decide, SqL.of h4, by decide, by decide, fun xs p5 H5 e5 hp5 h5 dx => ?_⟩
  obtain ⟨x0, hx0, _, _⟩ := dx.at (i := 0) (s := 3) rfl
  have at0 : atI (xs.map V.int) 0 = some (V.int x0) := atI_nat (j := 0) (by rw [List.getElem?_map, hx0]; rfl)
  have E5 := E3.trans (e4.trans e5)
  refine ⟨p5, _, _, _, rfl, rfl, SqL.of h5, at0, ?_⟩
  have tD5 := tD.up (e4.trans e5)
  have t5 := t3.up (e4.trans e5)
  refine ⟨fun σ' H' => Ex H5 H' ∧ ∃ (D' : Addr) (va : List V) (ta : List Th), σ' = [some v, some (.ref b), some (.bl pk), y3, some (.ref D'), some (.ref p2), y6, some (.int x0)] ∧ Tl K H' ns.length D' va ta, ?_, ?_⟩
  · refine ⟨_, rfl, _, _, rfl, rfl, _, rfl, iteD (fun c => ?_) (fun c => ⟨Same.refl _, D, vals, ts, rfl, tD5⟩)⟩
    exact ⟨_, rfl, _, rfl, _, rfl, v, cells, b, ns, D, vals, ts, rfl, hv.up E5, hcl, hn.up E5, tD5, fun tb' vals'' ts'' H' e' t' => ⟨e', tb', vals'', ts'', rfl, t'⟩⟩
  rintro _ H6 ⟨e6, D', va, ta, rfl, t6⟩
  refine ⟨fun σ' H' => Ex H6 H' ∧ ∃ (p' : Addr) (vb : List V) (tb : List Th), σ' = [some v, some (.ref b), some (.bl pk), y3, some (.ref D'), some (.ref p'), y6, some (.int x0)] ∧ Tl K H' ns.length p' vb tb, ?_, ?_⟩
  · refine ⟨_, rfl, _, _, rfl, rfl, _, rfl, iteD (fun c => ?_) (fun c => ⟨Same.refl _, p2, vals', ts', rfl, t5.up e6⟩)⟩
    exact ⟨_, rfl, _, rfl, _, rfl, v, cells, b, ns, p2, vals', ts', rfl, hv.up (E5.trans e6), hcl, hn.up (E5.trans e6), t5.up e6, fun tb' vals'' ts'' H' e' t' => ⟨e', tb', vals'', ts'', rfl, t'⟩⟩
  rintro _ H7 ⟨e7, p', vb, tb, rfl, t7⟩
  have E7 := E5.trans (e6.trans e7)
  have t6' := t6.up e7
  refine ⟨_, rfl, _, rfl, b, ns, D', va, ta, rfl, hn.up E7, t6'.h, t6'.d, t6'.ok, t6'.len, fun b1 t1 m1 told1 made1 H8 e8 bk1 _ _ _ ok1 => ?_⟩
  have t8 := t7.up e8
  refine ⟨_, rfl, _, rfl, b, ns, p', vb, tb, rfl, hn.up (E7.trans e8), t8.h, t8.d, t8.ok, t8.len, fun b2 t2 m2 told2 made2 H9 e9 bk2 _ _ _ ok2 => ?_⟩
  have E9 := E7.trans (e8.trans e9)
  exact ⟨(show 2 ≤ sizeLine by decide), fun p hp => kk p b1 t1 m1 told1 made1 b2 t2 m2 told2 made2 _ (E9.trans (Ex.new hp)) (Ex.back E9 hp) upd_same ((bk1.up e9).up (Ex.new hp)) ok1 (bk2.up (Ex.new hp)) ok2⟩
end
end Wk
namespace Wk
open PySem PySem.Spec PyProof.Rows L2 SX
/-! ### what replay answers to reads and peeks that it asked for itself -/
def Fit : Rc → List PyData → List Pr → List Pr → Prop
  | .fail _, _, reads, peeks => reads = [] ∧ peeks = []
  | .say _, _, reads, peeks => reads = [] ∧ peeks = []
  | .when_ e a b, gs, reads, peeks => match evalX gs e with
    | .fails _ => reads = [] ∧ peeks = []
    | .val d => if nothD d = true then Fit b gs reads peeks else Fit a gs reads peeks
  | .ask p e r, gs, reads, peeks => (reads = [] ∧ peeks = []) ∨ match nameT gs e with
    | .fails _ => False
    | .val d => if p = true then
        (match peeks with
        | [] => False
        | q :: ps => q.1 = strD d ∧ Fit r (gs ++ [q.2]) reads ps)
      else
        (match reads with
        | [] => False
        | q :: rs => q.1 = strD d ∧ Fit r (gs ++ [q.2]) rs peeks)
theorem fit_nil : ∀ (r : Rc) (gs : List PyData), Fit r gs [] []
  | .fail _, _ => ⟨rfl, rfl⟩
  | .say _, _ => ⟨rfl, rfl⟩
  | .ask _ _ _, _ => .inl ⟨rfl, rfl⟩
  | .when_ e a b, gs => by
    rw [Fit]
    cases evalX gs e with
    | fails w => exact ⟨rfl, rfl⟩
    | val d =>
      show if nothD d = true then _ else _
      split
      · exact fit_nil b gs
      · exact fit_nil a gs
/-- the cases of an ask that is not the last -/
theorem fit_ask {p : Bool} {e : Xp} {r : Rc} {gs : List PyData} {reads peeks : List Pr} (h : Fit (.ask p e r) gs reads peeks) : (reads = [] ∧ peeks = []) ∨
    ∃ z q, nameT gs e = .val (.str z) ∧ q.1 = z ∧ ((p = true ∧ ∃ ps, peeks = q :: ps ∧ Fit r (gs ++ [q.2]) reads ps) ∨ (p = false ∧ ∃ rs, reads = q :: rs ∧ Fit r (gs ++ [q.2]) rs peeks)) := by
  rw [Fit] at h
  rcases h with h | h
  · exact .inl h
  · cases q : nameT gs e with
    | fails w =>
      rw [q] at h
      exact h.elim
    | val d =>
      rw [q] at h
      obtain ⟨z, rfl, _⟩ := nameT_val q
      cases p with
      | true =>
        cases peeks with
        | nil => exact h.elim
        | cons x ps => exact .inr ⟨z, x, rfl, h.1, .inl ⟨rfl, ps, rfl, h.2⟩⟩
      | false =>
        cases reads with
        | nil => exact h.elim
        | cons x rs => exact .inr ⟨z, x, rfl, h.1, .inr ⟨rfl, rs, rfl, h.2⟩⟩
theorem fit_peek {e : Xp} {r : Rc} {gs : List PyData} {reads ps : List Pr} {z : Str} {v : PyData} (hz : nameT gs e = .val (.str z)) (h : Fit r (gs ++ [v]) reads ps) : Fit (.ask true e r) gs reads ((z, v) :: ps) := by
  rw [Fit, hz]
  exact .inr ⟨rfl, h⟩
theorem fit_want {e : Xp} {r : Rc} {gs : List PyData} {rs peeks : List Pr} {z : Str} {v : PyData} (hz : nameT gs e = .val (.str z)) (h : Fit r (gs ++ [v]) rs peeks) : Fit (.ask false e r) gs ((z, v) :: rs) peeks := by
  rw [Fit, hz]
  exact .inr ⟨rfl, h⟩
theorem desc_peek {e : Xp} {r : Rc} {gs : List PyData} {reads ps : List Pr} {used : Nat} {z : Str} {v : PyData} (hz : nameT gs e = .val (.str z)) : desc (.ask true e r) gs reads ((z, v) :: ps) used = desc r (gs ++ [v]) reads ps used := by
  rw [desc, hz]
  show (if z = z then _ else _) = _
  rw [if_pos rfl]
theorem desc_want {e : Xp} {r : Rc} {gs : List PyData} {rs peeks : List Pr} {used : Nat} {z : Str} {v : PyData} (hz : nameT gs e = .val (.str z)) : desc (.ask false e r) gs ((z, v) :: rs) peeks used = desc r (gs ++ [v]) rs peeks (used + 1) := by
  rw [desc, hz]
  show (if z = z then _ else _) = _
  rw [if_pos rfl]
/-- all that is wanted of replay, at reads and peeks that fit -/
theorem fit_desc : ∀ (r : Rc) (gs : List PyData) (reads peeks : List Pr) (used n : Nat), Fit r gs reads peeks → wfR n r = true → n ≤ gs.length → okAll gs → (∀ q ∈ reads, okV q.2 = true) → (∀ q ∈ peeks, okV q.2 = true) →
    reads.length + peeks.length ≤ asksR r ∧ match desc r gs reads peeks used with
    | .made d => okV d = true
    | .fails _ => True
    | .strays _ => False
    | .wants z => reads.length + peeks.length < asksR r ∧ ∀ v, Fit r gs (reads ++ [(z, v)]) peeks
    | .peeks z => reads.length + peeks.length < asksR r ∧ ∀ v, Fit r gs reads (peeks ++ [(z, v)])
  | .fail w, gs, reads, peeks, used, n, h, hw, hn, hg, hr, hp => by
    obtain ⟨rfl, rfl⟩ := h
    exact ⟨Nat.zero_le _, trivial⟩
  | .say e, gs, reads, peeks, used, n, h, hw, hn, hg, hr, hp => by
    obtain ⟨rfl, rfl⟩ := h
    refine ⟨Nat.zero_le _, ?_⟩
    rw [desc]
    cases q : evalX gs e with
    | fails w => exact trivial
    | val d => exact ok_evalX hg hn hw q
  | .when_ e a b, gs, reads, peeks, used, n, h, hw, hn, hg, hr, hp => by
    have h1 := (Bool.and_eq_true _ _).mp (show (wfX n e && (wfR n a && wfR n b)) = true from hw)
    have h2 := (Bool.and_eq_true _ _).mp h1.2
    have key : ∀ z v, (Fit (.when_ e a b) gs z v ↔ match evalX gs e with
      | .fails _ => z = [] ∧ v = []
      | .val d => if nothD d = true then Fit b gs z v else Fit a gs z v) := fun z v => by rw [Fit]
    rw [Fit] at h
    rw [desc, asksR]
    cases q : evalX gs e with
    | fails w =>
      rw [q] at h
      obtain ⟨rfl, rfl⟩ := h
      exact ⟨Nat.zero_le _, trivial⟩
    | val d =>
      rw [q] at h
      by_cases hd : nothD d = true
      · have h : Fit b gs reads peeks := by
          have h : (if nothD d = true then Fit b gs reads peeks else Fit a gs reads peeks) := h
          rw [if_pos hd] at h
          exact h
        have key : ∀ z v, (Fit (.when_ e a b) gs z v ↔ Fit b gs z v) := fun z v => by
          rw [key z v, q]
          show (if nothD d = true then _ else _) ↔ _
          rw [if_pos hd]
        obtain ⟨g1, g2⟩ := fit_desc b gs reads peeks used n h h2.2 hn hg hr hp
        show _ ∧ match (if nothD d = true then _ else _ : Out) with | .made d => _ | .fails _ => _ | .strays _ => _ | .wants z => _ | .peeks z => _
        rw [if_pos hd]
        refine ⟨by omega, ?_⟩
        cases o : desc b gs reads peeks used with
        | made d => rw [o] at g2; exact g2
        | fails w => exact trivial
        | strays k => rw [o] at g2; exact g2
        | wants z =>
          rw [o] at g2
          exact ⟨by have := g2.1; omega, fun v => (key _ _).mpr (g2.2 v)⟩
        | peeks z =>
          rw [o] at g2
          exact ⟨by have := g2.1; omega, fun v => (key _ _).mpr (g2.2 v)⟩
      · have h : Fit a gs reads peeks := by
          have h : (if nothD d = true then Fit b gs reads peeks else Fit a gs reads peeks) := h
          rw [if_neg hd] at h
          exact h
        have key : ∀ z v, (Fit (.when_ e a b) gs z v ↔ Fit a gs z v) := fun z v => by
          rw [key z v, q]
          show (if nothD d = true then _ else _) ↔ _
          rw [if_neg hd]
        obtain ⟨g1, g2⟩ := fit_desc a gs reads peeks used n h h2.1 hn hg hr hp
        show _ ∧ match (if nothD d = true then _ else _ : Out) with | .made d => _ | .fails _ => _ | .strays _ => _ | .wants z => _ | .peeks z => _
        rw [if_neg hd]
        refine ⟨by omega, ?_⟩
        cases o : desc a gs reads peeks used with
        | made d => rw [o] at g2; exact g2
        | fails w => exact trivial
        | strays k => rw [o] at g2; exact g2
        | wants z =>
          rw [o] at g2
          exact ⟨by have := g2.1; omega, fun v => (key _ _).mpr (g2.2 v)⟩
        | peeks z =>
          rw [o] at g2
          exact ⟨by have := g2.1; omega, fun v => (key _ _).mpr (g2.2 v)⟩
  | .ask p e r, gs, reads, peeks, used, n, h, hw, hn, hg, hr, hp => by
    have h1 := (Bool.and_eq_true _ _).mp (show (wfX n e && wfR (n + 1) r) = true from hw)
    have up : ∀ d, okV d = true → okAll (gs ++ [d]) := fun d hd y hy => by
      rcases List.mem_append.mp hy with hy | hy
      · exact hg y hy
      · rw [List.mem_singleton.mp hy]
        exact hd
    have ln : ∀ d : PyData, n + 1 ≤ (gs ++ [d]).length := fun d => by
      rw [List.length_append]
      show n + 1 ≤ _ + 1
      omega
    rw [asksR]
    rcases fit_ask h with ⟨rfl, rfl⟩ | ⟨z, ⟨q1, q2⟩, hz, rfl, ⟨rfl, ps, rfl, hf⟩ | ⟨rfl, rs, rfl, hf⟩⟩
    · refine ⟨Nat.zero_le _, ?_⟩
      rw [desc]
      cases q : nameT gs e with
      | fails w => exact trivial
      | val d =>
        obtain ⟨z, rfl, _⟩ := nameT_val q
        cases p with
        | true => exact ⟨by show 0 < 1 + _; omega, fun v => fit_peek q (fit_nil r _)⟩
        | false => exact ⟨by show 0 < 1 + _; omega, fun v => fit_want q (fit_nil r _)⟩
    · rw [desc_peek hz]
      have oq := hp (q1, q2) List.mem_cons_self
      obtain ⟨g1, g2⟩ := fit_desc r (gs ++ [q2]) reads ps used (n + 1) hf h1.2 (ln _) (up _ oq) hr fun x hx => hp x (List.mem_cons_of_mem _ hx)
      rw [List.length_cons]
      refine ⟨by omega, ?_⟩
      cases o : desc r (gs ++ [q2]) reads ps used with
      | made d => rw [o] at g2; exact g2
      | fails w => exact trivial
      | strays k => rw [o] at g2; exact g2
      | wants z =>
        rw [o] at g2
        exact ⟨by have := g2.1; omega, fun v => fit_peek hz (g2.2 v)⟩
      | peeks z =>
        rw [o] at g2
        exact ⟨by have := g2.1; omega, fun v => fit_peek hz (g2.2 v)⟩
    · rw [desc_want hz]
      have oq := hr (q1, q2) List.mem_cons_self
      obtain ⟨g1, g2⟩ := fit_desc r (gs ++ [q2]) rs peeks (used + 1) (n + 1) hf h1.2 (ln _) (up _ oq) (fun x hx => hr x (List.mem_cons_of_mem _ hx)) hp
      rw [List.length_cons]
      refine ⟨by omega, ?_⟩
      cases o : desc r (gs ++ [q2]) rs peeks (used + 1) with
      | made d => rw [o] at g2; exact g2
      | fails w => exact trivial
      | strays k => rw [o] at g2; exact g2
      | wants z =>
        rw [o] at g2
        exact ⟨by have := g2.1; omega, fun v => fit_want hz (g2.2 v)⟩
      | peeks z =>
        rw [o] at g2
        exact ⟨by have := g2.1; omega, fun v => fit_want hz (g2.2 v)⟩
theorem asks_depth : ∀ r : Rc, asksR r ≤ depthR r
  | .say _ => Nat.le_refl _
  | .fail _ => Nat.le_refl _
  | .ask _ _ r => by
    have := asks_depth r
    rw [asksR, depthR]
    omega
  | .when_ _ a b => by
    have := asks_depth a
    have := asks_depth b
    rw [asksR, depthR]
    omega
end Wk
namespace Wk
open PySem PySem.Spec PyProof.Rows L2 SX
/-! ### lines -/
inductive EndM where
  | made (v : PyData) | fails (w : Str) | wants (n : Str)
def encE : EndM → PyData
  | .made v => .tuple [.str "made", .str (stampS v)]
  | .fails w => .tuple [.str "fails", .str w]
  | .wants n => .tuple [.str "wants", .str n]
structure Line where
  nm : Str
  rd : List Pr
  en : EndM
/-- a read as it stands: the name, the value's stamp -/
def encS (q : Pr) : PyData := .tuple [.str q.1, .str (stampS q.2)]
def encLn (l : Line) : PyData := .tuple [.str l.nm, .tuple (l.rd.map encS), encE l.en]
def okE : EndM → Prop
  | .made v => okV v = true
  | _ => True
structure OkLn (l : Line) : Prop where
  n : l.rd.length ≤ 3
  r : prOk l.rd
  e : okE l.en
theorem immE' (e : EndM) : imm (encE e) = true := by cases e <;> rfl
theorem immS (q : Pr) : imm (encS q) = true := rfl
theorem immSs (qs : List Pr) : immAll (qs.map encS) = true := by
  induction qs with
  | nil => rfl
  | cons q qs ih =>
    show (true && immAll (qs.map encS)) = true
    rw [ih]
    rfl
theorem immLn (l : Line) : imm (encLn l) = true := by
  show (true && (immAll (l.rd.map encS) && (imm (encE l.en) && true))) = true
  rw [immSs, immE']
  rfl
theorem immP {q : Pr} (h : okV q.2 = true) : imm (encP q) = true := by
  show (true && (imm q.2 && true)) = true
  rw [imm_vp h]
  rfl
theorem immPs {qs : List Pr} (h : prOk qs) : immAll (qs.map encP) = true := by
  induction qs with
  | nil => rfl
  | cons q qs ih =>
    show (imm (encP q) && immAll (qs.map encP)) = true
    rw [immP (h q List.mem_cons_self), ih fun x hx => h x (List.mem_cons_of_mem _ hx)]
    rfl
theorem prOk.snoc {qs : List Pr} {q : Pr} (h : prOk qs) (hq : okV q.2 = true) : prOk (qs ++ [q]) := fun x hx => by
  rcases List.mem_append.mp hx with hx | hx
  · exact h x hx
  · rw [List.mem_singleton.mp hx]
    exact hq
/-- what came of a run, told as an end -/
def endOf : Out → EndM
  | .made v => .made v
  | .fails w => .fails w
  | .wants n => .wants n
  | .peeks n => .wants n
  | .strays _ => .fails ""
def nameO : Out → Str
  | .made _ => "made"
  | .fails _ => "fails"
  | .wants _ => "wants"
  | .peeks _ => "peeks"
  | .strays _ => "strays"
theorem encO_head (o : Out) : ∃ d, encO o = .tuple [.str (nameO o), d] := by cases o <;> exact ⟨_, rfl⟩
def okO : Out → Prop
  | .made v => okV v = true
  | .strays _ => False
  | _ => True
theorem immO {o : Out} (h : okO o) : imm (encO o) = true := by
  cases o with
  | made v =>
    show (true && (imm v && true)) = true
    rw [imm_vp h]
    rfl
  | fails w => rfl
  | wants n => rfl
  | peeks n => rfl
  | strays k => exact h.elim
/-- reads and peeks that a recipe asked for -/
structure FitR (r : Rc) (reads peeks : List Pr) : Prop where
  f : Fit r [] reads peeks
  r : prOk reads
  p : prOk peeks
theorem FitR.nil (r : Rc) : FitR r [] [] := ⟨fit_nil r [], fun q h => (by cases h), fun q h => (by cases h)⟩
theorem FitR.out {r : Rc} {reads peeks : List Pr} (h : FitR r reads peeks) (ok : okR r = true) : reads.length + peeks.length ≤ 3 ∧ okO (replayM r reads peeks) ∧
    (∀ z, replayM r reads peeks = .wants z → reads.length + peeks.length < 3 ∧ ∀ v, okV v = true → FitR r (reads ++ [(z, v)]) peeks) ∧
    (∀ z, replayM r reads peeks = .peeks z → reads.length + peeks.length < 3 ∧ ∀ v, okV v = true → FitR r reads (peeks ++ [(z, v)])) := by
  obtain ⟨w1, w2⟩ := okR_wf ok
  have ha := asks_depth r
  obtain ⟨g1, g2⟩ := fit_desc r [] reads peeks 0 0 h.f w1 (Nat.le_refl _) (fun d hd => (by cases hd)) h.r h.p
  refine ⟨by omega, ?_, fun z hz => ?_, fun z hz => ?_⟩
  · unfold replayM
    cases q : desc r [] reads peeks 0 with
    | made d => rw [q] at g2; exact g2
    | fails w => exact trivial
    | strays k => rw [q] at g2; exact g2
    | wants z => exact trivial
    | peeks z => exact trivial
  · unfold replayM at hz
    rw [hz] at g2
    exact ⟨by have := g2.1; omega, fun v hv => ⟨g2.2 v, h.r.snoc hv, h.p⟩⟩
  · unfold replayM at hz
    rw [hz] at g2
    exact ⟨by have := g2.1; omega, fun v hv => ⟨g2.2 v, h.r, h.p.snoc hv⟩⟩
theorem okE_out {o : Out} (h : okO o) : okE (endOf o) := by
  cases o with
  | made v => exact h
  | fails w => exact trivial
  | wants n => exact trivial
  | peeks n => exact trivial
  | strays k => exact h.elim
def spRun (K : PySem.W.Frag) : Sp := spReplay K
def spLine (K : PySem.W.Frag) : Sp := fun vs H Q _ => ∃ name v r g good, vs = [.str name, v, .ref g] ∧ Dp K H v (encR r) ∧ okR r = true ∧ DT K H g (fun d : PyData => d) good ∧ (∀ q ∈ good, okV q.2 = true) ∧
  ∀ x l o H', Ex H H' → Dp K H' x (.tuple [.str l.nm, .tuple (l.rd.map encS), encE l.en, encO o]) → OkLn l → l.nm = name → okO o → l.en = endOf o → Q x H'
section
variable {P : Program} {w : World} {K : PySem.W.Frag} {mg : Str → Option Value} {base : Heap}
theorem c_law_run (W : Wld K mg) : Cal P w K mg base 18 "_law_run" (spRun K) := by
  have c_replay : Cal P w K mg base 17 "replay" _ := c_replay W
  refine cal_of W.d_law_run sc_law_run (fun vs H Q E h => ?_) (fun f cdv A outer s H vs Q E hr h => ?_)
  · obtain ⟨v, r, u, reads, x, peeks, rfl, _⟩ := h
    rfl
  obtain ⟨v, r, u, reads, x, peeks, rfl, hv, hu', hx', rest⟩ := h
  obtain ⟨hwf, hlr, hlp, okr, okp, k⟩ := rest
  refine ⟨_, (pss_one (ps_ret (pe_cl c_replay hr (by omega) (by rfl) (pa_cons (pv 0) (pa_cons (pe_callTy call_list_of (by rfl) W.f_list bt_list (pa_cons (pv 1) pa_nil)) (pa_cons (pe_callTy call_list_of (by rfl) W.f_list bt_list (pa_cons (pv 2) pa_nil)) pa_nil)))))), ?_⟩
  obtain ⟨ra, rx, rfl, hra, dra⟩ := dp_lst hu'
  obtain ⟨pa, px, rfl, hpa, dpa⟩ := dp_lst hx'
  refine ⟨_, rfl, _, rfl, _, _, rfl, .inl hra, fun p1 hp1 => ?_⟩
  generalize hh : upd H p1 _ = H1
  have e1 : Ex H H1 := hh ▸ Ex.new hp1
  have h1 : H1 p1 = some (.lst rx) := by rw [← hh]; exact upd_same
  clear hh
  refine ⟨_, rfl, _, _, rfl, .inl (ex_l e1 hpa), fun p2 hp2 => ?_⟩
  generalize hh : upd H1 p2 _ = H2
  have e2 : Ex H1 H2 := hh ▸ Ex.new hp2
  have h2 : H2 p2 = some (.lst px) := by rw [← hh]; exact upd_same
  clear hh
  exact ⟨v, r, .ref p1, reads, .ref p2, peeks, rfl, hv.up (e1.trans e2), .lst (SqL.of (e2 _ _ h1)) (dra.up (e1.trans e2)), .lst (SqL.of h2) (dpa.up (e1.trans e2)), hwf, hlr, hlp, okr, okp, fun y H' e' hy => k y H' ((e1.trans e2).trans e') hy⟩
end
end Wk
namespace Wk
open PySem PySem.Spec PyProof.Rows L2 SX
def toS : PyData → PyData
  | .tuple [.str n, v] => .tuple [.str n, .str (stampS v)]
  | _ => .none
theorem toS_imm (d : PyData) : imm (toS d) = true := by
  unfold toS
  split <;> rfl
theorem toS_map (qs : List Pr) : (qs.map encP).map toS = qs.map encS := by
  rw [List.map_map]
  rfl
def lnInv (K : PySem.W.Frag) (H : Hp) (name : Str) (v : V) (g pr pp : Addr) (r : Rc) (σ' : L2.St) (H' : Hp) (reads peeks : List Pr) : Prop := ∃ (x : V) (vr vp : List V) (y6 y7 y8 : Option V), σ' = [some (.str name), some v, some (.ref g), some (.ref pr), some (.ref pp), some x, y6, y7, y8] ∧ Ex H H' ∧
    H' pr = some (.lst vr) ∧ DpAll K H' vr (reads.map encP) ∧ H' pp = some (.lst vp) ∧ DpAll K H' vp (peeks.map encP) ∧ FitR r reads peeks ∧ Dp K H' x (encO (replayM r reads peeks))
def inW (z : Str) : Bool := if false = true then !inV (V.str z) [V.str "wants", V.str "peeks"] else inV (V.str z) [V.str "wants", V.str "peeks"]
theorem inW_made : inW "made" = false := by decide +kernel
theorem inW_fails : inW "fails" = false := by decide +kernel
theorem inW_wants : inW "wants" = true := by decide +kernel
theorem inW_peeks : inW "peeks" = true := by decide +kernel
section
variable {P : Program} {w : World} {K : PySem.W.Frag} {mg : Str → Option Value} {base : Heap}
theorem c_law_line (W : Wld K mg) : Cal P w K mg base 19 "_law_line" (spLine K) := by
  have c_law_run : Cal P w K mg base 18 "_law_run" _ := c_law_run W
  have c_law_stamp : Cal P w K mg base 5 "_law_stamp" _ := c_law_stamp W 5
  refine cal_of W.d_law_line sc_law_line (fun vs H Q E h => ?_) (fun f cdv A outer s H vs Q E hr h => ?_)
  · obtain ⟨name, v, r, g, good, rfl, _⟩ := h
    rfl
  obtain ⟨name, v, r, g, good, rfl, hv, okr, hg, okg, k⟩ := h
  have hu := hu_of hr
  refine ⟨_, (pss_cons (ps_set (i := 3) sc_law_line.nd rfl (Or.inl rfl) (pe_lst pa_nil))
    (pss_cons (ps_set (i := 4) sc_law_line.nd rfl (Or.inl rfl) (pe_lst pa_nil))
    (pss_cons (ps_set (i := 5) sc_law_line.nd rfl (Or.inl rfl) (pe_cl c_law_run hr (by omega) (by rfl) (pa_cons (pv 1) (pa_cons (pv 3) (pa_cons (pv 4) pa_nil)))))
    (C8.pss_cut (ps_while PassesOwn.never (PW.pt (pw_and (pt_cmpR op_in_seq (pe_ix ix_T (pv 5) pe_int (fun _ _ => rfl)) (pe_tup (pa_cons pe_str (pa_cons pe_str pa_nil))) (by rfl)) (pw_and1 (pt_cmp (pc_din hu (pe_ix ix_T (pv 5) pe_int (fun _ _ => rfl)) (pv 2)) (by rfl))))) (pss_cons (ps_if (pt_cmpR op_eq (pe_ix ix_T (pv 5) pe_int (fun _ _ => rfl)) pe_str (nomark _)) (pss_one (ps_expr (pe_bm PySem.F.plainAttrs_list PySem.F.slot_list_append PySem.F.type_list_append mt_append (pv 3) (pa_cons (pe_tup (pa_cons (pe_ix ix_T (pv 5) pe_int (fun _ _ => rfl)) (pa_cons (pe_dget hu (pv 2) (pe_ix ix_T (pv 5) pe_int (fun _ _ => rfl)) (fun _ _ => rfl)) pa_nil))) pa_nil)))) (pss_one (ps_expr (pe_bm PySem.F.plainAttrs_list PySem.F.slot_list_append PySem.F.type_list_append mt_append (pv 4) (pa_cons (pe_tup (pa_cons (pe_ix ix_T (pv 5) pe_int (fun _ _ => rfl)) (pa_cons (pe_dget hu (pv 2) (pe_ix ix_T (pv 5) pe_int (fun _ _ => rfl)) (fun _ _ => rfl)) pa_nil))) pa_nil)))))
    (pss_one (ps_set (i := 5) sc_law_line.nd rfl (Or.inl rfl) (pe_cl c_law_run hr (by omega) (by rfl) (pa_cons (pv 1) (pa_cons (pv 3) (pa_cons (pv 4) pa_nil))))))))
    (pss_cons (ps_set (i := 6) sc_law_line.nd rfl (Or.inl rfl) (pe_tup (pa_cons pe_str (pa_cons (pe_ix ix_T (pv 5) pe_int (fun _ _ => rfl)) pa_nil))))
    (C8.pss_cut (ps_if (pt_cmpR op_eq (pe_ix ix_T (pv 5) pe_int (fun _ _ => rfl)) pe_str (nomark _)) (pss_one (ps_set (i := 6) sc_law_line.nd rfl (Or.inl rfl) (pv 5))) pss_nil)
    (C8.pss_cut (ps_if (pt_cmpR op_eq (pe_ix ix_T (pv 5) pe_int (fun _ _ => rfl)) pe_str (nomark _)) (pss_one (ps_set (i := 6) sc_law_line.nd rfl (Or.inl rfl) (pe_tup (pa_cons pe_str (pa_cons (pe_cl c_law_stamp hr (by omega) (by rfl) (pa_cons (pe_ix ix_T (pv 5) pe_int (fun _ _ => rfl)) pa_nil)) pa_nil))))) pss_nil)
    (pss_one (ps_ret (pe_tup (pa_cons (pv 0) (pa_cons (pe_callTy call_tuple_of (by rfl) W.f_tuple bt_tuple (pa_cons (pe_lc (own := [("_law_one", 7), ("_law_value_here", 8)]) (g := gTup K 2 (gCons (gName 7) (gCons (gName 8) (gNil)))) (tt := tYes) rfl sc_law_line.nd (pi_list (pv 3)) (blkOk_by (own := [("_law_one", 7), ("_law_value_here", 8)]) (N := N_law_line) (sc := defScope (top 67)) (by decide +kernel)) (fun _ _ _ _ _ => (pg_tup rfl (pgs_cons (pg_name (i := 7) sc_law_line.nd rfl (Or.inl rfl)) (pgs_cons (pg_name (i := 8) sc_law_line.nd rfl (Or.inl rfl)) pgs_nil)))) (fun _ _ _ _ _ => pts_nil) (fun _ _ _ _ _ => (pe_tup (pa_cons (pv 7) (pa_cons (pe_cl c_law_stamp hr (by omega) (by rfl) (pa_cons (pv 8) pa_nil)) pa_nil))))) pa_nil)) (pa_cons (pv 6) (pa_cons (pv 5) pa_nil)))))))))))))), ?_⟩
  refine ⟨Nat.zero_le _, fun pr hpr => ?_⟩
  generalize hh : upd H pr _ = H1
  have e1 : Ex H H1 := hh ▸ Ex.new hpr
  have h1 : H1 pr = some (.lst []) := by rw [← hh]; exact upd_same
  clear hh
  refine ⟨Nat.zero_le _, fun pp hpp => ?_⟩
  generalize hh : upd H1 pp _ = H2
  have e2 : Ex H1 H2 := hh ▸ Ex.new hpp
  have h2 : H2 pp = some (.lst []) := by rw [← hh]; exact upd_same
  clear hh
  have E2 := e1.trans e2
  have h12 := e2 _ _ h1
  have npp : pr ≠ pp := fun z => by rw [z, hpp] at h1; cases h1
  have hppH : H pp = none := e1.back hpp
  obtain ⟨w1, w2⟩ := okR_wf okr
  have nil' : prOk [] := fun q h => (by cases h)
  refine ⟨_, rfl, _, rfl, _, rfl, v, r, .ref pr, [], .ref pp, [], rfl, hv.up E2, .lst (SqL.of h12) .nil, .lst (SqL.of h2) .nil, w1, by decide, by decide, nil', nil', fun x H3 e3 hx => ?_⟩
  refine ⟨fun σ' H' => ∃ reads peeks, lnInv K H name v g pr pp r σ' H' reads peeks, ⟨fun m σ' H' => ∃ reads peeks, m = 4 - (reads.length + peeks.length) ∧ lnInv K H name v g pr pp r σ' H' reads peeks,
    ⟨4, [], [], rfl, x, [], [], _, _, _, rfl, E2.trans e3, e3 _ _ h12, .nil, e3 _ _ h2, .nil, FitR.nil r, hx⟩, ?_⟩, ?_⟩
  · rintro m _ H4 ⟨reads, peeks, rfl, x, vr, vp, y6, y7, y8, rfl, e4, hr4, dr4, hp4, dp4, hf, hx4⟩
    obtain ⟨f1, f2, f3, f4⟩ := hf.out okr
    obtain ⟨od, hod⟩ := encO_head (replayM r reads peeks)
    have hxo := hx4
    rw [hod] at hxo
    refine ⟨_, rfl, _, _, _, rfl, hxo, atI_nat (j := 0) rfl, fun v0 hv0 => ?_⟩
    obtain rfl := dp_str hv0
    refine ⟨(show 2 ≤ sizeLine by decide), fun p5 hp5 => ?_⟩
    generalize hh : upd H4 p5 _ = H5
    have e5 : Ex H4 H5 := hh ▸ Ex.new hp5
    have h5 : H5 p5 = some (.tup [.str "wants", .str "peeks"]) := by rw [← hh]; exact upd_same
    clear hh
    refine ⟨p5, _, rfl, .inr (SqT.of h5), rfl, rfl, _, rfl, ?_⟩
    have E5 := e4.trans e5
    have out : ∃ reads peeks, lnInv K H name v g pr pp r [some (.str name), some v, some (.ref g), some (.ref pr), some (.ref pp), some x, y6, y7, y8] H5 reads peeks :=
      ⟨reads, peeks, x, vr, vp, y6, y7, y8, rfl, E5, e5 _ _ hr4, dr4.up e5, e5 _ _ hp4, dp4.up e5, hf, hx4.up e5⟩
    have hx5 := hx4.up e5
    cases ho : replayM r reads peeks with
    | made d =>
      show if inW "made" = true then _ else _
      rw [inW_made]
      exact iteF out
    | fails w =>
      show if inW "fails" = true then _ else _
      rw [inW_fails]
      exact iteF out
    | strays k => rw [ho] at f2; exact f2.elim
    | wants z =>
      show if inW "wants" = true then _ else _
      rw [inW_wants]
      rw [ho] at hx5
      obtain ⟨l1, l2⟩ := f3 z ho
      obtain ⟨kvs, hk, dk⟩ := hg.up E5
      refine iteT ⟨_, rfl, _, _, _, rfl, hx5, atI_nat (j := 1) rfl, fun v1 hv1 => ?_⟩
      obtain rfl := dp_str hv1
      refine ⟨_, rfl, g, _, rfl, DGet.k (k := Sum.inr z) hk, _, rfl, ?_⟩
      rcases dk.lk z with ⟨g1, g2⟩ | ⟨gv, gd, g1, g2, gh⟩
      · rw [g1]
        exact iteF out
      · rw [g1]
        refine iteT ⟨fun σ' H' => ∃ m', m' < 4 - (reads.length + peeks.length) ∧ ∃ reads peeks, m' = 4 - (reads.length + peeks.length) ∧ lnInv K H name v g pr pp r σ' H' reads peeks, fun _ _ h => h, ?_⟩
        refine ⟨_, rfl, _, _, _, rfl, hx5, atI_nat (j := 0) rfl, fun v0 hv0 => ?_⟩
        obtain rfl := dp_str hv0
        refine ⟨rfl, _, rfl, iteT ?_⟩
        refine ⟨_, rfl, .inl ⟨rfl, _, SqL.of (e5 _ _ hr4)⟩, _, rfl, _, _, _, rfl, hx5, atI_nat (j := 1) rfl, fun v1 hv1 => ?_⟩
        obtain rfl := dp_str hv1
        refine ⟨_, rfl, _, rfl, _, _, _, rfl, hx5, atI_nat (j := 1) rfl, fun v2 hv2 => ?_⟩
        obtain rfl := dp_str hv2
        refine ⟨g, gv, rfl, (by rw [← g1]; exact DGet.k (k := Sum.inr z) hk), (show 2 ≤ sizeLine by decide), fun p6 hp6 => ?_⟩
        have okgd := okg _ (lk_mem g2)
        have fit := l2 gd okgd
        have hvl : vr.length ≤ 3 := by rw [dr4.length, List.length_map]; omega
        generalize hh : upd H5 p6 _ = H6
        have e6 : Ex H5 H6 := hh ▸ Ex.new hp6
        have h6 : H6 p6 = some (.tup [.str z, gv]) := by rw [← hh]; exact upd_same
        clear hh
        have h6r : H6 pr = some (.lst vr) := (e5.trans e6) _ _ hr4
        have h6p : H6 pp = some (.lst vp) := (e5.trans e6) _ _ hp4
        refine ⟨pr, _, _, rfl, rfl, h6r, szlt (show vr.length < 100000 by omega), ?_⟩
        have d6 : Dp K H6 (.ref p6) (encP (z, gd)) := .tup (SqT.of h6) (.cons (.str _) (.one (gh.up e6)))
        have tt : Tu H6 (upd H6 pr (.lst (vr ++ [.ref p6]))) := Tu.mut h6r
        have e7 : Ex H (upd H6 pr (.lst (vr ++ [.ref p6]))) := Ex.mut (E5.trans e6) hpr
        have h7r : (upd H6 pr (.lst (vr ++ [.ref p6]))) pr = some (.lst (vr ++ [.ref p6])) := upd_same
        have h7p : (upd H6 pr (.lst (vr ++ [.ref p6]))) pp = some (.lst vp) := by rw [upd_ne fun q => npp q.symm]; exact h6p
        have d7r : DpAll K (upd H6 pr (.lst (vr ++ [.ref p6]))) (vr ++ [.ref p6]) ((reads ++ [(z, gd)]).map encP) := by
          rw [List.map_append]
          exact (DpAll.tu ((Same.tu (e5.trans e6)).trans tt) _ _ (immPs hf.r) dr4).append (.one (Dp.tu tt _ _ (immP (q := (z, gd)) okgd) d6))
        have d7p : DpAll K (upd H6 pr (.lst (vr ++ [.ref p6]))) vp (peeks.map encP) := DpAll.tu ((Same.tu (e5.trans e6)).trans tt) _ _ (immPs hf.p) dp4
        generalize upd H6 pr (.lst (vr ++ [.ref p6])) = H7 at e7 h7r h7p d7r d7p ⊢
        refine ⟨_, rfl, _, rfl, _, rfl, v, r, .ref pr, reads ++ [(z, gd)], .ref pp, peeks, rfl, hv.up e7, .lst (SqL.of h7r) d7r, .lst (SqL.of h7p) d7p, w1, by rw [List.length_append]; show _ + 1 ≤ _; omega, by omega, fit.r, fit.p, fun x8 H8 e8 hx8 => ?_⟩
        refine ⟨4 - ((reads ++ [(z, gd)]).length + peeks.length), by rw [List.length_append]; show _ - (_ + 1 + _) < _; omega, reads ++ [(z, gd)], peeks, rfl, x8, _, _, _, _, _, rfl, e7.trans e8, e8 _ _ h7r, d7r.up e8, e8 _ _ h7p, d7p.up e8, fit, hx8⟩
    | peeks z =>
      show if inW "peeks" = true then _ else _
      rw [inW_peeks]
      rw [ho] at hx5
      obtain ⟨l1, l2⟩ := f4 z ho
      obtain ⟨kvs, hk, dk⟩ := hg.up E5
      refine iteT ⟨_, rfl, _, _, _, rfl, hx5, atI_nat (j := 1) rfl, fun v1 hv1 => ?_⟩
      obtain rfl := dp_str hv1
      refine ⟨_, rfl, g, _, rfl, DGet.k (k := Sum.inr z) hk, _, rfl, ?_⟩
      rcases dk.lk z with ⟨g1, g2⟩ | ⟨gv, gd, g1, g2, gh⟩
      · rw [g1]
        exact iteF out
      · rw [g1]
        refine iteT ⟨fun σ' H' => ∃ m', m' < 4 - (reads.length + peeks.length) ∧ ∃ reads peeks, m' = 4 - (reads.length + peeks.length) ∧ lnInv K H name v g pr pp r σ' H' reads peeks, fun _ _ h => h, ?_⟩
        refine ⟨_, rfl, _, _, _, rfl, hx5, atI_nat (j := 0) rfl, fun v0 hv0 => ?_⟩
        obtain rfl := dp_str hv0
        refine ⟨rfl, _, rfl, iteF ?_⟩
        refine ⟨_, rfl, .inl ⟨rfl, _, SqL.of (e5 _ _ hp4)⟩, _, rfl, _, _, _, rfl, hx5, atI_nat (j := 1) rfl, fun v1 hv1 => ?_⟩
        obtain rfl := dp_str hv1
        refine ⟨_, rfl, _, rfl, _, _, _, rfl, hx5, atI_nat (j := 1) rfl, fun v2 hv2 => ?_⟩
        obtain rfl := dp_str hv2
        refine ⟨g, gv, rfl, (by rw [← g1]; exact DGet.k (k := Sum.inr z) hk), (show 2 ≤ sizeLine by decide), fun p6 hp6 => ?_⟩
        have okgd := okg _ (lk_mem g2)
        have fit := l2 gd okgd
        have hvl : vp.length ≤ 3 := by rw [dp4.length, List.length_map]; omega
        generalize hh : upd H5 p6 _ = H6
        have e6 : Ex H5 H6 := hh ▸ Ex.new hp6
        have h6 : H6 p6 = some (.tup [.str z, gv]) := by rw [← hh]; exact upd_same
        clear hh
        have h6r : H6 pr = some (.lst vr) := (e5.trans e6) _ _ hr4
        have h6p : H6 pp = some (.lst vp) := (e5.trans e6) _ _ hp4
        refine ⟨pp, _, _, rfl, rfl, h6p, szlt (show vp.length < 100000 by omega), ?_⟩
        have d6 : Dp K H6 (.ref p6) (encP (z, gd)) := .tup (SqT.of h6) (.cons (.str _) (.one (gh.up e6)))
        have tt : Tu H6 (upd H6 pp (.lst (vp ++ [.ref p6]))) := Tu.mut h6p
        have e7 : Ex H (upd H6 pp (.lst (vp ++ [.ref p6]))) := Ex.mut (E5.trans e6) hppH
        have h7p : (upd H6 pp (.lst (vp ++ [.ref p6]))) pp = some (.lst (vp ++ [.ref p6])) := upd_same
        have h7r : (upd H6 pp (.lst (vp ++ [.ref p6]))) pr = some (.lst vr) := by rw [upd_ne npp]; exact h6r
        have d7p : DpAll K (upd H6 pp (.lst (vp ++ [.ref p6]))) (vp ++ [.ref p6]) ((peeks ++ [(z, gd)]).map encP) := by
          rw [List.map_append]
          exact (DpAll.tu ((Same.tu (e5.trans e6)).trans tt) _ _ (immPs hf.p) dp4).append (.one (Dp.tu tt _ _ (immP (q := (z, gd)) okgd) d6))
        have d7r : DpAll K (upd H6 pp (.lst (vp ++ [.ref p6]))) vr (reads.map encP) := DpAll.tu ((Same.tu (e5.trans e6)).trans tt) _ _ (immPs hf.r) dr4
        generalize upd H6 pp (.lst (vp ++ [.ref p6])) = H7 at e7 h7r h7p d7r d7p ⊢
        refine ⟨_, rfl, _, rfl, _, rfl, v, r, .ref pr, reads, .ref pp, peeks ++ [(z, gd)], rfl, hv.up e7, .lst (SqL.of h7r) d7r, .lst (SqL.of h7p) d7p, w1, by omega, by rw [List.length_append]; show _ + 1 ≤ _; omega, fit.r, fit.p, fun x8 H8 e8 hx8 => ?_⟩
        refine ⟨4 - (reads.length + (peeks ++ [(z, gd)]).length), by rw [List.length_append]; show _ - (_ + (_ + 1)) < _; omega, reads, peeks ++ [(z, gd)], rfl, x8, _, _, _, _, _, rfl, e7.trans e8, e8 _ _ h7r, d7r.up e8, e8 _ _ h7p, d7p.up e8, fit, hx8⟩
  · rintro σ H4 ⟨reads, peeks, x, vr, vp, y6, y7, y8, rfl, e4, hr4, dr4, hp4, dp4, hf, hx4⟩
    obtain ⟨f1, f2, f3, f4⟩ := hf.out okr
    clear f3 f4
    generalize replayM r reads peeks = o at f2 hx4
    obtain ⟨od, hod⟩ := encO_head o
    have hxo := hx4
    rw [hod] at hxo
    refine ⟨_, rfl, _, _, _, rfl, hxo, atI_nat (j := 1) rfl, fun v1 hv1 => ⟨(show 2 ≤ sizeLine by decide), fun p5 hp5 => ?_⟩⟩
    have d5 := dp_newT (K := K) hp5 (.cons (.str "wants") (.one hv1))
    have e5 := Ex.new (o := .tup [.str "wants", v1]) hp5
    generalize hh : upd H4 p5 _ = H5
    have d5 : Dp K H5 (.ref p5) (.tuple [.str "wants", od]) := hh ▸ d5
    have e5 : Ex H4 H5 := hh ▸ e5
    clear hh
    refine ⟨fun σ' H' => ∃ y : V, σ' = [some (.str name), some v, some (.ref g), some (.ref pr), some (.ref pp), some x, some y, y7, y8] ∧ Ex H4 H' ∧ ((∀ d, o ≠ .made d) → Dp K H' y (encE (endOf o))), ?_, ?_⟩
    · have hx5 := hx4.up e5
      have hxo5 := hxo.up e5
      refine ⟨_, rfl, _, _, _, rfl, hxo5, atI_nat (j := 0) rfl, fun v0 hv0 => ?_⟩
      obtain rfl := dp_str hv0
      refine ⟨rfl, _, rfl, ?_⟩
      cases o with
      | made d =>
        rw [show decide (V.str (nameO (.made d)) = V.str "fails") = false from (show decide (V.str "made" = V.str "fails") = false by decide +kernel)]
        exact iteF ⟨_, rfl, e5, fun h => absurd rfl (h d)⟩
      | fails w' =>
        rw [show decide (V.str (nameO (.fails w')) = V.str "fails") = true from (show decide (V.str "fails" = V.str "fails") = true by decide +kernel)]
        exact iteT ⟨_, rfl, _, rfl, e5, fun _ => hx5⟩
      | wants z =>
        rw [show decide (V.str (nameO (.wants z)) = V.str "fails") = false from (show decide (V.str "wants" = V.str "fails") = false by decide +kernel)]
        cases hod
        exact iteF ⟨_, rfl, e5, fun _ => d5⟩
      | peeks z =>
        rw [show decide (V.str (nameO (.peeks z)) = V.str "fails") = false from (show decide (V.str "peeks" = V.str "fails") = false by decide +kernel)]
        cases hod
        exact iteF ⟨_, rfl, e5, fun _ => d5⟩
      | strays k => exact f2.elim
    rintro _ H6 ⟨y, rfl, e6, hy⟩
    refine ⟨fun σ' H' => ∃ y : V, σ' = [some (.str name), some v, some (.ref g), some (.ref pr), some (.ref pp), some x, some y, y7, y8] ∧ Ex H4 H' ∧ Dp K H' y (encE (endOf o)), ?_, ?_⟩
    · have hx6 := hx4.up e6
      have hxo6 := hxo.up e6
      refine ⟨_, rfl, _, _, _, rfl, hxo6, atI_nat (j := 0) rfl, fun v0 hv0 => ?_⟩
      obtain rfl := dp_str hv0
      refine ⟨rfl, _, rfl, ?_⟩
      cases o with
      | made d =>
        rw [show decide (V.str (nameO (.made d)) = V.str "made") = true from (show decide (V.str "made" = V.str "made") = true by decide +kernel)]
        refine iteT ⟨_, rfl, _, _, _, rfl, hx6, atI_nat (j := 1) rfl, fun v2 hv2 => ⟨v2, d, rfl, hv2, okV_stamp f2, fun y2 H7 e7 hy2 => ?_⟩⟩
        obtain rfl := dp_str hy2
        exact ⟨(show 2 ≤ sizeLine by decide), fun p7 hp7 => ⟨_, rfl, (e6.trans e7).trans (Ex.new hp7), dp_newT hp7 (.cons (.str "made") (.one (.str _)))⟩⟩
      | fails w' =>
        rw [show decide (V.str (nameO (.fails w')) = V.str "made") = false from (show decide (V.str "fails" = V.str "made") = false by decide +kernel)]
        exact iteF ⟨_, rfl, e6, hy fun d h => by cases h⟩
      | wants z =>
        rw [show decide (V.str (nameO (.wants z)) = V.str "made") = false from (show decide (V.str "wants" = V.str "made") = false by decide +kernel)]
        exact iteF ⟨_, rfl, e6, hy fun d h => by cases h⟩
      | peeks z =>
        rw [show decide (V.str (nameO (.peeks z)) = V.str "made") = false from (show decide (V.str "peeks" = V.str "made") = false by decide +kernel)]
        exact iteF ⟨_, rfl, e6, hy fun d h => by cases h⟩
      | strays k => exact f2.elim
    rintro _ H7 ⟨y, rfl, e7, hy⟩
    have dr7 := dr4.up e7
    have hr7 := e7 _ _ hr4
    refine ⟨_, rfl, _, rfl, pr, rfl, ⟨_, SqL.of hr7⟩, fun D hD => lcMap (K := K) (src_list (SqL.of hr7)) dr7 toS hD toS_imm (by rw [List.length_map]; omega) ?_ ?_⟩
    · intro x' d' H' Q' hd hx' e' k'
      obtain ⟨q, hq, rfl⟩ := List.mem_map.mp hd
      obtain ⟨a, xs, rfl, hS, hX⟩ := dp_tup hx'
      cases hX with
      | cons hX1 hX2 =>
        cases hX2 with
        | cons hX2 hX3 =>
          cases hX3
          obtain rfl := dp_str hX1
          refine ⟨a, _, rfl, hS, rfl, _, _, rfl, _, _, rfl, rfl, rfl, _, rfl, _, rfl, _, q.2, rfl, hX2, okV_stamp (hf.r q hq), fun y2 H8 e8 hy2 => ?_⟩
          obtain rfl := dp_str hy2
          exact ⟨(show 2 ≤ sizeLine by decide), fun p9 hp9 => k' _ _ (e8.trans (Ex.new hp9)) (dp_newT hp9 (.cons (.str q.1) (.one (.str _))))⟩
    · intro H8 ys e8 h8 d8
      rw [toS_map] at d8
      refine ⟨D, _, rfl, .inl ⟨SqL.of h8, fun l hl => ?_⟩⟩
      have d9 := dp_newT hl d8
      have e9 := Ex.new (o := .tup ys) hl
      generalize hh : upd H8 l _ = H9
      have d9 : Dp K H9 (.ref l) (.tuple (reads.map encS)) := hh ▸ d9
      have e9 : Ex H8 H9 := hh ▸ e9
      clear hh
      have e79 := e8.trans e9
      exact ⟨_, rfl, _, rfl, (show 4 ≤ sizeLine by decide), tup_new (K := K) (.cons (.str name) (.cons d9 (.cons (hy.up e79) (.one (hx4.up (e7.trans e79)))))) fun p10 H10 e10 h10 => k _ ⟨name, reads, endOf o⟩ o H10 (e4.trans (e7.trans (e79.trans e10))) h10 ⟨by show reads.length ≤ 3; omega, hf.r, okE_out f2⟩ rfl f2 rfl⟩
end
end Wk
namespace L2
open PySem PySem.Spec PyProof.Rows
theorem Fr.toExN {l : List Addr} {H H1 H' : Hp} (f : Fr l H1 H') (e : Ex H H1) (h : ∀ a ∈ l, H a = none) : Ex H H' := fun a o q => f.k a o (e a o q) fun z => by
  rw [h a z] at q
  cases q
end L2
namespace Wk
open PySem PySem.Spec PyProof.Rows L2 SX
structure OkLns (made : As Rc) (lines : As Line) : Prop where
  o : ∀ q ∈ lines, OkLn q.2
  n : ∀ q ∈ lines, q.2.nm = q.1
  d : (ks lines).Nodup
  s : ∀ n ∈ ks lines, n ∈ ks made
theorem OkLns.nil {made : As Rc} : OkLns made [] := ⟨fun q h => (by cases h), fun q h => (by cases h), List.nodup_nil, fun q h => (by cases h)⟩
theorem OkLns.put {made : As Rc} {lines : As Line} (h : OkLns made lines) {n : Str} {l : Line} (ok : OkLn l) (hn : l.nm = n) (hm : n ∈ ks made) : OkLns made (pt lines n l) := by
  refine ⟨fun q hq => ?_, fun q hq => ?_, nd_pt h.d, fun m hm' => ?_⟩
  · rcases pt_mem hq with hq | rfl
    · exact h.o q hq
    · exact ok
  · rcases pt_mem hq with hq | rfl
    · exact h.n q hq
    · exact hn
  · rcases mem_ks_pt.mp hm' with rfl | h'
    · exact hm
    · exact h.s m h'
/-- what is good so far, and the lines so far -/
structure LLi (K : PySem.W.Frag) (H : Hp) (ns : List Str) (made : As Rc) (g L : Addr) (good : As PyData) (lines : As Line) : Prop where
  dg : DT K H g (fun d : PyData => d) good
  dl : DT K H L encLn lines
  og : ∀ q ∈ good, okV q.2 = true
  ng : (ks good).Nodup
  sg : ∀ n ∈ ks good, n ∈ ns
  ol : OkLns made lines
theorem LLi.len {K : PySem.W.Frag} {H : Hp} {ns : List Str} {made : As Rc} {g L : Addr} {good : As PyData} {lines : As Line} (h : LLi K H ns made g L good lines) (hn : ns.length ≤ 6) : good.length ≤ 6 := by
  have := nodup_sub h.ng h.sg
  have e : (ks good).length = good.length := List.length_map _
  omega
theorem LLi.up {K : PySem.W.Frag} {H H' : Hp} {ns : List Str} {made : As Rc} {g L : Addr} {good : As PyData} {lines : As Line} (h : LLi K H ns made g L good lines) (e : Ex H H') : LLi K H' ns made g L good lines := ⟨h.dg.up e, h.dl.up e, h.og, h.ng, h.sg, h.ol⟩
theorem ks_len {α : Type} {l : As α} : (ks l).length = l.length := List.length_map _
theorem BkOk.mlen {ns : List Str} {told : As PyData} {made : As Rc} (b : BkOk ns told made) (h : ns.length ≤ 6) : made.length ≤ 6 := by
  have := nodup_sub b.nm b.sm
  rw [ks_len] at this
  omega
theorem DT.put {K : PySem.W.Frag} {H : Hp} {a : Addr} {α : Type} {enc : α → PyData} {l : As α} {kvs : List (Key × V)} {n : Str} {v : V} {x : α} (hk : H a = some (.dK kvs)) (dk : DRel (fun v x => Dp K H v (enc x)) kvs l) (hi : ∀ p ∈ l, imm (enc p.2) = true) (hx : Dp K H v (enc x)) (ix : imm (enc x) = true) :
    DT K (upd H a (.dK (putK kvs (Sum.inr n) v))) a enc (pt l n x) := by
  have tt : Tu H (upd H a (.dK (putK kvs (Sum.inr n) v))) := Tu.mut hk
  exact ⟨_, upd_same, (dk.mono fun v' p hp d => Dp.tu tt _ _ (hi p hp) d).put n (Dp.tu tt _ _ ix hx)⟩
theorem DT.other {K : PySem.W.Frag} {H : Hp} {a b : Addr} {o o' : HO} {α : Type} {enc : α → PyData} {l : As α} (h : DT K H b enc l) (hk : H a = some o) (ne : b ≠ a) (hi : ∀ p ∈ l, imm (enc p.2) = true) (m : mutO o = true := by rfl) : DT K (upd H a o') b enc l := by
  refine h.tu (Tu.mut hk m) (fun u hu => ?_) hi
  rw [upd_ne ne]
  exact hu
def spLines (K : PySem.W.Frag) : Sp := fun vs H Q _ => ∃ p ta ma told made ns, vs = [.ref p] ∧ Bk K H p ta ma told made ∧ BkOk ns told made ∧ ns.length ≤ 6 ∧
  ∀ L lines H', Ex H H' → H L = none → DT K H' L encLn lines → OkLns made lines → Q (.ref L) H'
section
variable {P : Program} {w : World} {K : PySem.W.Frag} {mg : Str → Option Value} {base : Heap}
theorem c_law_lines (W : Wld K mg) : Cal P w K mg base 20 "_law_lines" (spLines K) := by
  have c_law_line : Cal P w K mg base 19 "_law_line" _ := c_law_line W
  refine cal_of W.d_law_lines sc_law_lines (fun vs H Q E h => ?_) (fun f cdv A outer s H vs Q E hr h => ?_)
  · obtain ⟨p, ta, ma, told, made, ns, rfl, _⟩ := h
    rfl
  obtain ⟨p, ta, ma, told, made, ns, rfl, bk, bo, hns, k⟩ := h
  have hu := hu_of hr
  refine ⟨_, (pss_cons (ps_set (i := 1) sc_law_lines.nd rfl (Or.inl rfl) (pe_callTy call_copyD (by rfl) W.f_dict bt_dict (pa_cons (pe_ix ix_tup (pv 0) pe_int (fun _ _ => rfl)) pa_nil)))
    (pss_cons (ps_set (i := 2) sc_law_lines.nd rfl (Or.inl rfl) pe_dnewK)
    (pss_cons (ps_set (i := 3) sc_law_lines.nd rfl (Or.inl rfl) (pe_un un_neg pe_int))
    (C8.pss_cut (ps_while PassesOwn.never (pt_cmpR op_lt (pv 3) (pe_callB call_lenA (by rfl) W.f_len bt_len (pa_cons (pv 1) pa_nil)) (nomark _)) (pss_cons (ps_set (i := 3) sc_law_lines.nd rfl (Or.inl rfl) (pe_callB call_lenA (by rfl) W.f_len bt_len (pa_cons (pv 1) pa_nil)))
    (pss_one (ps_for PassesOwn.never rfl (pi_list (pe_callB (call_sortedD rfl) (by rfl) W.f_sorted bt_sorted (pa_cons (pe_ix ix_tup (pv 0) pe_int (fun _ _ => rfl)) pa_nil))) (pg_name (i := 4) sc_law_lines.nd rfl (Or.inl rfl)) (pss_cons (ps_set (i := 5) sc_law_lines.nd rfl (Or.inl rfl) (pe_cl c_law_line hr (by omega) (by rfl) (pa_cons (pv 4) (pa_cons (pe_dget hu (pe_ix ix_tup (pv 0) pe_int (fun _ _ => rfl)) (pv 4) (fun _ _ => rfl)) (pa_cons (pv 1) pa_nil)))))
    (pss_cons (ps_dput hu (pv 2) (pv 4) (pe_slice sl_T (pv 5) po_none (po_some pe_int)) rfl)
    (pss_one (ps_if (pt_cmpR op_eq (pe_ix ix_T (pe_ix ix_T (pv 5) pe_int (fun _ _ => rfl)) pe_int (fun _ _ => rfl)) pe_str (nomark _)) (pss_one (ps_dput hu (pv 1) (pv 4) (pe_ix ix_T (pe_ix ix_T (pv 5) pe_int (fun _ _ => rfl)) pe_int (fun _ _ => rfl)) rfl)) pss_nil))))))))
    (pss_cons (ps_for PassesOwn.never rfl (pi_list (pe_callB (call_sortedD rfl) (by rfl) W.f_sorted bt_sorted (pa_cons (pe_ix ix_tup (pv 0) pe_int (fun _ _ => rfl)) pa_nil))) (pg_name (i := 4) sc_law_lines.nd rfl (Or.inl rfl)) (pss_one (ps_dput hu (pv 2) (pv 4) (pe_slice sl_T (pe_cl c_law_line hr (by omega) (by rfl) (pa_cons (pv 4) (pa_cons (pe_dget hu (pe_ix ix_tup (pv 0) pe_int (fun _ _ => rfl)) (pv 4) (fun _ _ => rfl)) (pa_cons (pv 1) pa_nil)))) po_none (po_some pe_int)) rfl)))
    (pss_one (ps_ret (pv 2)))))))), ?_⟩
  obtain ⟨kt, hkt, dkt⟩ := bk.t
  refine ⟨_, rfl, p, _, _, _, rfl, rfl, SqT.of bk.p, atI_nat (j := 0) rfl, _, _, rfl, .inl hkt, fun g hg => ?_⟩
  generalize hh : upd H g _ = H1
  have e1 : Ex H H1 := hh ▸ Ex.new hg
  have h1 : H1 g = some (.dK kt) := by rw [← hh]; exact upd_same
  clear hh
  refine fun L hL => ?_
  generalize hh : upd H1 L _ = H2
  have e2 : Ex H1 H2 := hh ▸ Ex.new hL
  have h2 : H2 L = some (.dK []) := by rw [← hh]; exact upd_same
  clear hh
  have E2 := e1.trans e2
  have hLH : H L = none := e1.back hL
  have ngL : g ≠ L := fun z => by rw [z, hL] at h1; cases h1
  have i2 : LLi K H2 ns made g L told [] := ⟨⟨kt, e2 _ _ h1, dkt.mono fun v q _ d => (d.up e1).up e2⟩, .nil h2, bo.ov, bo.nt, bo.st, .nil⟩
  have fresh : ∀ a ∈ [g, L], H a = none := fun a z => by
    rcases List.mem_cons.mp z with z | z
    · rw [z]; exact hg
    · rw [List.mem_singleton.mp z]; exact hLH
  -- one line, put in its place
  refine ⟨_, rfl, ?_⟩
  refine ⟨fun σ' H' => ∃ (many : Int) (y4 y5 : Option V) (good : As PyData) (lines : As Line), σ' = [some (.ref p), some (.ref g), some (.ref L), some (.int many), y4, y5] ∧ Fr [g, L] H2 H' ∧ LLi K H' ns made g L good lines, ?_, ?_⟩
  · refine ⟨fun m σ' H' => ∃ (many : Int) (y4 y5 : Option V) (good : As PyData) (lines : As Line), σ' = [some (.ref p), some (.ref g), some (.ref L), some (.int many), y4, y5] ∧ m = (7 - many).toNat ∧ -1 ≤ many ∧ Fr [g, L] H2 H' ∧ LLi K H' ns made g L good lines,
      ⟨_, -1, _, _, _, _, rfl, rfl, by decide, Fr.refl _ _, i2⟩, ?_⟩
    rintro m _ H3 ⟨many, y4, y5, good, lines, rfl, rfl, hmany, f3, i3⟩
    have e3 : Ex H H3 := f3.toExN E2 fresh
    have gl := i3.len hns
    have bk3 := bk.up e3
    obtain ⟨kg, hkg, dkg⟩ := i3.dg
    refine ⟨_, rfl, _, rfl, _, _, rfl, .inr (.inr ⟨kg, hkg, rfl⟩), _, _, rfl, rfl, _, rfl, iteD (fun c => ?_) (fun c => ⟨_, _, _, _, _, rfl, f3, i3⟩)⟩
    have c : many < ((kg.length : Nat) : Int) := c
    have hgl := dkg.len
    refine ⟨fun σ' H' => ∃ m', m' < (7 - many).toNat ∧ ∃ (many : Int) (y4 y5 : Option V) (good : As PyData) (lines : As Line), σ' = [some (.ref p), some (.ref g), some (.ref L), some (.int many), y4, y5] ∧ m' = (7 - many).toNat ∧ -1 ≤ many ∧ Fr [g, L] H2 H' ∧ LLi K H' ns made g L good lines, fun _ _ h => h, ?_⟩
    refine ⟨_, rfl, _, _, rfl, .inr (.inr ⟨kg, hkg, rfl⟩), ?_⟩
    obtain ⟨km, hkm, dkm⟩ := bk3.m
    have hml := bo.mlen hns
    refine ⟨_, rfl, p, _, _, _, rfl, rfl, SqT.of bk3.p, atI_nat (j := 1) rfl, _, _, ks made, rfl, .inl hkm, dkm.keys, by rw [ks_len]; omega, fun ys q hperm _ hq => ?_⟩
    generalize hh : upd H3 q _ = H4
    have e4 : Ex H3 H4 := hh ▸ Ex.new hq
    have h4 : H4 q = some (.lst (ys.map V.str)) := by rw [← hh]; exact upd_same
    clear hh
    have f4 := f3.up e4
    refine ⟨q, rfl, ⟨_, SqL.of h4⟩, for_list (K := K) (a := q) (xs := ys.map V.str) (fun i σ' H' => Fr [g, L] H4 H' ∧ ∃ (y4 y5 : Option V) (good : As PyData) (lines : As Line), σ' = [some (.ref p), some (.ref g), some (.ref L), some (.int ((kg.length : Nat) : Int)), y4, y5] ∧ LLi K H' ns made g L good lines)
      ⟨Fr.refl _ _, _, _, good, lines, rfl, i3.up e4⟩ ?_ ?_ ?_⟩
    · intro i σ' H' _ h
      refine SqL.of (h.1.k q _ h4 fun z => ?_)
      rcases List.mem_cons.mp z with z | z
      · rw [z] at hq
        rw [hq] at hkg
        cases hkg
      · rw [List.mem_singleton.mp z] at hq
        obtain ⟨_, hl, _⟩ := i3.dl
        rw [hq] at hl
        cases hl
    · rintro i x σ' H5 hx ⟨f5, y4, y5, good, lines, rfl, i5⟩
      rw [List.getElem?_map] at hx
      obtain ⟨n, hn, rfl⟩ : ∃ n, ys[i]? = some n ∧ x = .str n := by
        cases q : ys[i]? with
        | none => rw [q] at hx; cases hx
        | some a => rw [q] at hx; cases hx; exact ⟨a, rfl, rfl⟩
      have hnm : n ∈ ks made := hperm.mem_iff.mp (List.mem_of_getElem? hn)
      have e5 : Ex H H5 := (f4.tr f5).toExN E2 fresh
      have bk5 := bk.up e5
      obtain ⟨km5, hkm5, dkm5⟩ := bk5.m
      rcases dkm5.lk n with ⟨_, g2⟩ | ⟨rv, r, g1, g2, gh⟩
      · exact absurd hnm (lk_none.mp g2)
      have okr := bo.orr _ (lk_mem g2)
      refine ⟨_, rfl, _, rfl, p, _, _, _, rfl, rfl, SqT.of bk5.p, atI_nat (j := 1) rfl, _, rfl, ma, rv, rfl, (by rw [← g1]; exact DGet.k (k := Sum.inr n) hkm5), _, rfl, n, rv, r, g, good, rfl, gh, okr, i5.dg, i5.og, fun x l o H6 e6 hx okl hnl oko hen => ?_⟩
      have i6 := i5.up e6
      obtain ⟨kl, hkl, dkl⟩ := i6.dl
      have hll : lines.length ≤ 6 := by
        have := nodup_sub i5.ol.d fun n h => bo.sm n (i5.ol.s n h)
        rw [ks_len] at this
        omega
      refine ⟨_, rfl, _, rfl, _, hx, fun v7 H7 e7 hv7 => ?_⟩
      have hv7 : Dp K H7 v7 (encLn l) := hv7
      have i7 := i6.up e7
      have hkl7 := e7 _ _ hkl
      have dkl7 : DRel (fun v l => Dp K H7 v (encLn l)) kl lines := dkl.mono fun v' q _ d => d.up e7
      refine ⟨_, rfl, _, rfl, L, _, rfl, DPut.k (k := Sum.inr n) hkl7 (szlt (by rw [dkl7.len]; omega)), ?_⟩
      have hx7 := hx.up e7
      have ixl : imm (.tuple [.str l.nm, .tuple (l.rd.map encS), encE l.en, encO o]) = true := by
        show (true && (immAll (l.rd.map encS) && (imm (encE l.en) && (imm (encO o) && true)))) = true
        rw [immSs, immE', immO oko]
        rfl
      have dl8 := DT.put (n := n) hkl7 dkl7 (fun q _ => immLn q.2) hv7 (immLn l)
      have dg8 := DT.other (o' := .dK (putK kl (Sum.inr n) v7)) i7.dg hkl7 ngL (fun q hq => imm_vp (i7.og q hq))
      have f8 : Fr [g, L] H4 (upd H7 L (.dK (putK kl (Sum.inr n) v7))) := ((f5.up e6).up e7).mutIn (List.mem_cons_of_mem _ List.mem_cons_self) hkl7
      have hx8 := Dp.tu (Tu.mut (o := .dK (putK kl (Sum.inr n) v7)) hkl7) _ _ ixl hx7
      generalize upd H7 L (.dK (putK kl (Sum.inr n) v7)) = H8 at dl8 dg8 f8 hx8 ⊢
      have i8 : LLi K H8 ns made g L good (pt lines n l) := ⟨dg8, dl8, i7.og, i7.ng, i7.sg, i7.ol.put okl hnl hnm⟩
      obtain ⟨od, hod⟩ := encO_head o
      have out := f8
      refine ⟨_, rfl, _, _, _, rfl, hx8, atI_nat (j := 2) rfl, fun v9 hv9 => ?_⟩
      cases o with
      | made d =>
        rw [hen] at hv9
        have hv9 : Dp K H8 v9 (.tuple [.str "made", .str (stampS d)]) := hv9
        refine ⟨_, _, _, rfl, hv9, atI_nat (j := 0) rfl, fun v10 hv10 => ?_⟩
        obtain rfl := dp_str hv10
        refine ⟨rfl, _, rfl, iteT ⟨_, rfl, _, _, _, rfl, hx8, atI_nat (j := 3) rfl, fun v11 hv11 => ⟨_, _, _, rfl, hv11, atI_nat (j := 1) rfl, fun v12 hv12 => ?_⟩⟩⟩
        obtain ⟨kg8, hkg8, dkg8⟩ := i8.dg
        have gl8 := i8.len hns
        refine ⟨_, rfl, _, rfl, g, _, rfl, DPut.k (k := Sum.inr n) hkg8 (szlt (by rw [dkg8.len]; omega)), f8.mutIn List.mem_cons_self hkg8, _, _, pt good n d, pt lines n l, rfl, ?_⟩
        refine ⟨DT.put hkg8 dkg8 (fun q hq => imm_vp (i8.og q hq)) hv12 (imm_vp oko), DT.other i8.dl hkg8 (fun z => ngL z.symm) (fun q _ => immLn q.2), fun q hq => ?_, nd_pt i8.ng, fun m hm => ?_, i8.ol⟩
        · rcases pt_mem hq with hq | rfl
          · exact i8.og q hq
          · exact oko
        · rcases mem_ks_pt.mp hm with rfl | hm
          · exact bo.sm _ hnm
          · exact i8.sg m hm
      | fails w' =>
        rw [hen] at hv9
        have hv9 : Dp K H8 v9 (.tuple [.str "fails", .str w']) := hv9
        refine ⟨_, _, _, rfl, hv9, atI_nat (j := 0) rfl, fun v10 hv10 => ?_⟩
        obtain rfl := dp_str hv10
        exact ⟨rfl, _, rfl, iteF ⟨f8, _, _, good, _, rfl, i8⟩⟩
      | wants z =>
        rw [hen] at hv9
        have hv9 : Dp K H8 v9 (.tuple [.str "wants", .str z]) := hv9
        refine ⟨_, _, _, rfl, hv9, atI_nat (j := 0) rfl, fun v10 hv10 => ?_⟩
        obtain rfl := dp_str hv10
        exact ⟨rfl, _, rfl, iteF ⟨f8, _, _, good, _, rfl, i8⟩⟩
      | peeks z =>
        rw [hen] at hv9
        have hv9 : Dp K H8 v9 (.tuple [.str "wants", .str z]) := hv9
        refine ⟨_, _, _, rfl, hv9, atI_nat (j := 0) rfl, fun v10 hv10 => ?_⟩
        obtain rfl := dp_str hv10
        exact ⟨rfl, _, rfl, iteF ⟨f8, _, _, good, _, rfl, i8⟩⟩
      | strays k => exact oko.elim
    · rintro σ' H5 ⟨f5, y4, y5, good5, lines5, rfl, i5⟩
      exact ⟨_, by omega, _, _, _, good5, lines5, rfl, rfl, by omega, f4.tr f5, i5⟩
  · rintro _ H3 ⟨many, y4, y5, good, lines, rfl, f3, i3⟩
    have e3 : Ex H H3 := f3.toExN E2 fresh
    have bk3 := bk.up e3
    obtain ⟨km, hkm, dkm⟩ := bk3.m
    have hml := bo.mlen hns
    refine ⟨_, rfl, p, _, _, _, rfl, rfl, SqT.of bk3.p, atI_nat (j := 1) rfl, _, _, ks made, rfl, .inl hkm, dkm.keys, by rw [ks_len]; omega, fun ys q hperm _ hq => ?_⟩
    generalize hh : upd H3 q _ = H4
    have e4 : Ex H3 H4 := hh ▸ Ex.new hq
    have h4 : H4 q = some (.lst (ys.map V.str)) := by rw [← hh]; exact upd_same
    clear hh
    have f4 := f3.up e4
    refine ⟨q, rfl, ⟨_, SqL.of h4⟩, for_list (K := K) (a := q) (xs := ys.map V.str) (fun i σ' H' => Fr [g, L] H4 H' ∧ ∃ (y4 y5 : Option V) (lines : As Line), σ' = [some (.ref p), some (.ref g), some (.ref L), some (.int many), y4, y5] ∧ LLi K H' ns made g L good lines)
      ⟨Fr.refl _ _, _, _, lines, rfl, i3.up e4⟩ ?_ ?_ ?_⟩
    · intro i σ' H' _ h
      refine SqL.of (h.1.k q _ h4 fun z => ?_)
      rcases List.mem_cons.mp z with z | z
      · rw [z] at hq
        obtain ⟨_, hl, _⟩ := i3.dg
        rw [hq] at hl
        cases hl
      · rw [List.mem_singleton.mp z] at hq
        obtain ⟨_, hl, _⟩ := i3.dl
        rw [hq] at hl
        cases hl
    · rintro i x σ' H5 hx ⟨f5, y4, y5, lines, rfl, i5⟩
      rw [List.getElem?_map] at hx
      obtain ⟨n, hn, rfl⟩ : ∃ n, ys[i]? = some n ∧ x = .str n := by
        cases q : ys[i]? with
        | none => rw [q] at hx; cases hx
        | some a => rw [q] at hx; cases hx; exact ⟨a, rfl, rfl⟩
      have hnm : n ∈ ks made := hperm.mem_iff.mp (List.mem_of_getElem? hn)
      have e5 : Ex H H5 := (f4.tr f5).toExN E2 fresh
      have bk5 := bk.up e5
      obtain ⟨km5, hkm5, dkm5⟩ := bk5.m
      rcases dkm5.lk n with ⟨_, g2⟩ | ⟨rv, r, g1, g2, gh⟩
      · exact absurd hnm (lk_none.mp g2)
      have okr := bo.orr _ (lk_mem g2)
      refine ⟨_, rfl, _, rfl, p, _, _, _, rfl, rfl, SqT.of bk5.p, atI_nat (j := 1) rfl, _, rfl, ma, rv, rfl, (by rw [← g1]; exact DGet.k (k := Sum.inr n) hkm5), _, rfl, n, rv, r, g, good, rfl, gh, okr, i5.dg, i5.og, fun x l o H6 e6 hx okl hnl oko hen => ?_⟩
      have i6 := i5.up e6
      obtain ⟨kl, hkl, dkl⟩ := i6.dl
      have hll : lines.length ≤ 6 := by
        have := nodup_sub i5.ol.d fun n h => bo.sm n (i5.ol.s n h)
        rw [ks_len] at this
        omega
      refine ⟨_, rfl, _, hx, fun v7 H7 e7 hv7 => ?_⟩
      have hv7 : Dp K H7 v7 (encLn l) := hv7
      have i7 := i6.up e7
      have hkl7 := e7 _ _ hkl
      have dkl7 : DRel (fun v l => Dp K H7 v (encLn l)) kl lines := dkl.mono fun v' q _ d => d.up e7
      refine ⟨_, rfl, _, rfl, L, _, rfl, DPut.k (k := Sum.inr n) hkl7 (szlt (by rw [dkl7.len]; omega)), ?_⟩
      have dl8 := DT.put (n := n) hkl7 dkl7 (fun q _ => immLn q.2) hv7 (immLn l)
      have dg8 := DT.other (o' := .dK (putK kl (Sum.inr n) v7)) i7.dg hkl7 ngL (fun q hq => imm_vp (i7.og q hq))
      have f8 : Fr [g, L] H4 (upd H7 L (.dK (putK kl (Sum.inr n) v7))) := ((f5.up e6).up e7).mutIn (List.mem_cons_of_mem _ List.mem_cons_self) hkl7
      exact ⟨f8, _, _, pt lines n l, rfl, ⟨dg8, dl8, i7.og, i7.ng, i7.sg, i7.ol.put okl hnl hnm⟩⟩
    · rintro σ' H5 ⟨f5, y4, y5, lines5, rfl, i5⟩
      exact ⟨_, rfl, k L lines5 H5 ((f4.tr f5).toExN E2 fresh) hLH i5.dl i5.ol⟩
end
end Wk
namespace Wk
open PySem PySem.Spec PyProof.Rows L2 SX
/-! ### the size of a recipe's text -/
def wtW (ws : List Str) : Nat := (ws.map (·.length)).sum + ws.length
theorem wt_app (a b : List Str) : wtW (a ++ b) = wtW a + wtW b := by
  unfold wtW
  rw [List.map_append, List.sum_append, List.length_append]
  omega
theorem wt_cons (x : Str) (b : List Str) : wtW (x :: b) = x.length + 1 + wtW b := by
  unfold wtW
  rw [List.map_cons, List.sum_cons, List.length_cons]
  omega
theorem wt_nil : wtW [] = 0 := rfl
theorem wtL {n : Nat} {l : Lf} (h : wfL n l = true) (hn : n ≤ 10) : wtW (wordsL l) ≤ 1010 := by
  cases l with
  | put v =>
    have e0 : ("put" : Str).length = 3 := by decide
    have e1 : (stampS v).length = (stampL v).length := S_len _
    have := okV_len (show okV v = true from h)
    rw [wordsL, wt_cons, wt_cons, wt_nil, e0, e1]
    omega
  | got k =>
    have hk : k < n := of_decide_eq_true h
    have all : ∀ k < 10, (TL.numL k).length ≤ 10 := by decide +kernel
    have := all k (by omega)
    have e0 : ("got" : Str).length = 3 := by decide
    have e1 : (S (TL.numL k)).length = (TL.numL k).length := S_len _
    rw [wordsL, wt_cons, wt_cons, wt_nil, e0, e1]
    omega
theorem wtX {n : Nat} {e : Xp} (h : wfX n e = true) (hn : n ≤ 10) : wtW (wordsX e) ≤ 2100 := by
  unfold wordsX
  rw [wt_app]
  have hs := wfX_sub h
  cases e with
  | lf l =>
    have := wtL (l := l) h hn
    show wtW (wordsL l) + wtW ([] : List Str) ≤ _
    rw [wt_nil]
    omega
  | many l =>
    have := wtL (hs l (by simp [subsX])) hn
    show wtW ["many"] + wtW (([l].map wordsL).flatten) ≤ _
    simp only [List.map_cons, List.map_nil, List.flatten_cons, List.flatten_nil, List.append_nil]
    have : wtW ["many"] = 5 := by decide
    omega
  | row a b =>
    have := wtL (hs a (by simp [subsX])) hn
    have := wtL (hs b (by simp [subsX])) hn
    show wtW ["row", "2"] + wtW (([a, b].map wordsL).flatten) ≤ _
    simp only [List.map_cons, List.map_nil, List.flatten_cons, List.flatten_nil, List.append_nil]
    rw [wt_app]
    have : wtW ["row", "2"] = 6 := by decide
    omega
  | bin o a b =>
    have := wtL (hs a (by simp [subsX])) hn
    have := wtL (hs b (by simp [subsX])) hn
    show wtW [opS o] + wtW (([a, b].map wordsL).flatten) ≤ _
    simp only [List.map_cons, List.map_nil, List.flatten_cons, List.flatten_nil, List.append_nil]
    rw [wt_app]
    have : wtW [opS o] ≤ 5 := by cases o <;> decide
    omega
theorem wtR : ∀ {r : Rc} {n : Nat}, wfR n r = true → n + depthR r ≤ 10 → wtW (wordsR r) + 2200 ≤ 2200 * 2 ^ (depthR r + 1)
  | .say e, n, h, hd => by
    have := wtX (e := e) h (by omega)
    rw [wordsR, wt_cons]
    have : ("say" : Str).length = 3 := by decide
    show _ ≤ 2200 * 2 ^ 1
    omega
  | .fail w, n, h, hd => by
    have := nameS_len (z := w) h
    rw [wordsR, wt_cons, wt_cons, wt_nil]
    have : ("fail" : Str).length = 4 := by decide
    show _ ≤ 2200 * 2 ^ 1
    omega
  | .ask p e r, n, h, hd => by
    have h1 := (Bool.and_eq_true _ _).mp (show (wfX n e && wfR (n + 1) r) = true from h)
    rw [depthR] at hd ⊢
    have := wtX h1.1 (by omega)
    have := wtR (r := r) h1.2 (by omega)
    rw [wordsR_eq (fun w z => by cases z), wt_cons, wt_app]
    have : (headR (.ask p e r)).length = 4 := (show (askS p).length = 4 by cases p <;> decide)
    have hx : exprR (.ask p e r) = e := rfl
    have hs : ((subsR (.ask p e r)).map wordsR).flatten = wordsR r := by simp [subsR]
    rw [hx, hs, show 2 ^ (1 + depthR r + 1) = 2 * 2 ^ (depthR r + 1) by rw [show 1 + depthR r + 1 = (depthR r + 1) + 1 by omega, Nat.pow_succ]; omega]
    omega
  | .when_ e a b, n, h, hd => by
    have h1 := (Bool.and_eq_true _ _).mp (show (wfX n e && (wfR n a && wfR n b)) = true from h)
    have h2 := (Bool.and_eq_true _ _).mp h1.2
    rw [depthR] at hd ⊢
    have := wtX h1.1 (by omega)
    have ha := wtR (r := a) h2.1 (by omega)
    have hb := wtR (r := b) h2.2 (by omega)
    rw [wordsR_eq (fun w z => by cases z), wt_cons, wt_app]
    have : (headR (.when_ e a b)).length = 4 := (show ("when" : Str).length = 4 by decide)
    have hx : exprR (.when_ e a b) = e := rfl
    have hs : ((subsR (.when_ e a b)).map wordsR).flatten = wordsR a ++ wordsR b := by simp [subsR]
    have pa : 2 ^ (depthR a + 1) ≤ 2 ^ (max (depthR a) (depthR b) + 1) := Nat.pow_le_pow_right (by decide) (by omega)
    have pb : 2 ^ (depthR b + 1) ≤ 2 ^ (max (depthR a) (depthR b) + 1) := Nat.pow_le_pow_right (by decide) (by omega)
    rw [hx, hs, wt_app, show 2 ^ (1 + max (depthR a) (depthR b) + 1) = 2 * 2 ^ (max (depthR a) (depthR b) + 1) by rw [show 1 + max (depthR a) (depthR b) + 1 = (max (depthR a) (depthR b) + 1) + 1 by omega, Nat.pow_succ]; omega]
    omega
theorem okR_show {r : Rc} (h : okR r = true) : wfR 0 r = true ∧ asksR r ≤ 12 ∧ depthR r ≤ 10 ∧ ((wordsR r).map (·.length)).sum + (wordsR r).length ≤ 100000 := by
  obtain ⟨h1, h2⟩ := okR_wf h
  have := asks_depth r
  have w := wtR (n := 0) h1 (by omega)
  have p : 2 ^ (depthR r + 1) ≤ 2 ^ 4 := Nat.pow_le_pow_right (by decide) (by omega)
  have e : (2 : Nat) ^ 4 = 16 := by decide
  refine ⟨h1, by omega, by omega, ?_⟩
  show wtW (wordsR r) ≤ 100000
  omega
end Wk
namespace Wk
open PySem PySem.Spec PyProof.Rows L2 SX
def zzz : Str := "zzzzzzz"
abbrev Hd := Str × Line
def encHd (h : Hd) : PyData := .tuple [.str h.1, encLn h.2]
theorem immHd (h : Hd) : imm (encHd h) = true := by
  show (true && (imm (encLn h.2) && true)) = true
  rw [immLn]
  rfl
structure OkHd (ns : List Str) (held : As Hd) : Prop where
  o : ∀ q ∈ held, OkLn q.2.2
  d : (ks held).Nodup
  s : ∀ n ∈ ks held, n ∈ ns
theorem OkHd.put {ns : List Str} {held : As Hd} (h : OkHd ns held) {n : Str} {x : Hd} (ok : OkLn x.2) (hn : n ∈ ns) : OkHd ns (pt held n x) := by
  refine ⟨fun q hq => ?_, nd_pt h.d, fun m hm => ?_⟩
  · rcases pt_mem hq with hq | rfl
    · exact h.o q hq
    · exact ok
  · rcases mem_ks_pt.mp hm with rfl | hm
    · exact hn
    · exact h.s m hm
theorem OkHd.len {ns : List Str} {held : As Hd} (h : OkHd ns held) (hn : ns.length ≤ 6) : held.length ≤ 6 := by
  have := nodup_sub h.d h.s
  rw [ks_len] at this
  omega
def spHeld (K : PySem.W.Frag) : Sp := fun vs H Q _ => ∃ (v : V) (cells : List Int) (k : Int) (p ta ma : Addr) (told : As PyData) (made : As Rc) (ns : List Str), vs = [v, .int k, .ref p] ∧ Dp K H v (.list (cells.map PyData.int)) ∧ cells.length ≤ 1000 ∧ -1000 < k ∧ k < 1000 ∧ Bk K H p ta ma told made ∧ BkOk ns told made ∧ ns.length ≤ 6 ∧
  ∀ L held H', Ex H H' → H L = none → DT K H' L encHd held → OkHd ns held → Q (.ref L) H'
def spAsk (K : PySem.W.Frag) : Sp := fun vs H Q _ => ∃ (v : V) (cells : List Int) (k : Int) (b : Addr) (ns : List Str), vs = [v, .int k, .ref b] ∧ Dp K H v (.list (cells.map PyData.int)) ∧ cells.length ≤ 1000 ∧ -1000 < k ∧ k < 1000 ∧ Ns b ns H ∧
  ∀ p (xs : List Str) H', Ex H H' → H p = none → H' p = some (.lst (xs.map V.str)) → xs.length ≤ 6 → Q (.ref p) H'
section
variable {P : Program} {w : World} {K : PySem.W.Frag} {mg : Str → Option Value} {base : Heap}
theorem c_law_asked (W : Wld K mg) : Cal P w K mg base 2 "_law_asked" (spAsk K) := by
  have c_law_draws : Cal P w K mg base 1 "_law_draws" _ := c_law_draws W
  refine cal_of W.d_law_asked sc_law_asked (fun vs H Q E h => ?_) (fun f cdv A outer s H vs Q E hr h => ?_)
  · obtain ⟨v, cells, k, b, ns, rfl, _⟩ := h
    rfl
  obtain ⟨v, cells, k, b, ns, rfl, hv, hcl, hk1, hk2, hn, kk⟩ := h
  refine ⟨_, (pss_cons (ps_set (i := 3) sc_law_asked.nd rfl (Or.inl rfl) (pe_cl c_law_draws hr (by omega) (by rfl) (pa_cons (pv 0) (pa_cons (pv 1) (pa_cons (pe_op op_cat (pe_lst (pa_cons pe_int pa_nil)) (pe_op op_rep (pe_lst (pa_cons (pe_op op_add (pe_callB call_lenA (by rfl) W.f_len bt_len (pa_cons (pv 2) pa_nil)) pe_int) pa_nil)) pe_int)) pa_nil)))))
    (pss_cons (ps_set (i := 4) sc_law_asked.nd rfl (Or.inr rfl) (pe_op op_cat (pv 2) (pe_lst (pa_cons pe_str pa_nil))))
    (pss_one (ps_ret (pe_lc (own := [("_law_x", 5)]) (g := gName 5) (tt := tYes) rfl sc_law_asked.nd (pi_list (pe_slice sl_list (pv 3) (po_some pe_int) (po_some (pe_op op_add pe_int (pe_ix ix_list (pv 3) pe_int (fun _ _ => rfl)))))) (blkOk_by (own := [("_law_x", 5)]) (N := N_law_asked) (sc := defScope (top 70)) (by decide +kernel)) (fun _ _ _ _ _ => (pg_name (i := 5) sc_law_asked.nd rfl (Or.inl rfl))) (fun _ _ _ _ _ => pts_nil) (fun _ _ _ _ _ => (pe_ix (ix_listK rfl) (pv 4) (pv 5) (fun _ _ => rfl)))))))), ?_⟩
  have hlen := hn.len
  refine ⟨_, rfl, _, rfl, (show 1 ≤ sizeLine by decide), fun p1 hp1 => ?_⟩
  generalize hh : upd H p1 _ = H1
  have e1 : Ex H H1 := hh ▸ Ex.new hp1
  have h1 : H1 p1 = some (.lst [.int 7]) := by rw [← hh]; exact upd_same
  clear hh
  refine ⟨_, rfl, _, _, rfl, .inl ⟨_, SqL.of (e1 _ _ hn.h), rfl⟩, _, _, rfl, rfl, (show 1 ≤ sizeLine by decide), fun p2 hp2 => ?_⟩
  generalize hh : upd H1 p2 _ = H2
  have e2 : Ex H1 H2 := hh ▸ Ex.new hp2
  have h2 : H2 p2 = some (.lst [.int ((((ns.map V.str).length : Nat) : Int) + 1)]) := by rw [← hh]; exact upd_same
  clear hh
  refine ⟨p2, _, _, rfl, rfl, h2, by decide, by decide, (show 1 * 6 ≤ sizeLine by decide), fun p3 hp3 => ?_⟩
  generalize hh : upd H2 p3 _ = H3
  have e3 : Ex H2 H3 := hh ▸ Ex.new hp3
  have h3 : H3 p3 = some (.lst (List.replicate 6 (V.int ((((ns.map V.str).length : Nat) : Int) + 1)))) := by rw [← hh]; exact upd_same
  clear hh
  refine ⟨p1, p3, _, _, rfl, rfl, (e2.trans e3) _ _ h1, h3, (show 1 + 6 ≤ sizeLine by decide), fun p4 hp4 => ?_⟩
  generalize hh : upd H3 p4 _ = H4
  have e4 : Ex H3 H4 := hh ▸ Ex.new hp4
  have h4 : H4 p4 = some (.lst ([V.int 7] ++ List.replicate 6 (V.int ((((ns.map V.str).length : Nat) : Int) + 1)))) := by rw [← hh]; exact upd_same
  clear hh
  rw [List.length_map] at h4
  have E4 := e1.trans (e2.trans (e3.trans e4))
  refine ⟨v, cells, k, p4, 7 :: List.replicate 6 (((ns.length : Nat) : Int) + 1), rfl, hv.up E4, hcl, hk1, hk2, SqL.of h4, by rw [List.length_cons, List.length_replicate]; decide, ?_, fun xs p5 H5 e5 hp5 h5 dx => ?_⟩
  · intro s hs
    rcases List.mem_cons.mp hs with rfl | hs
    · decide
    · rw [(List.mem_replicate.mp hs).2]
      omega
  have E5 := E4.trans e5
  refine ⟨_, rfl, (show 1 ≤ sizeLine by decide), fun p6 hp6 => ?_⟩
  generalize hh : upd H5 p6 _ = H6
  have e6 : Ex H5 H6 := hh ▸ Ex.new hp6
  have h6 : H6 p6 = some (.lst [.str "zzzzzzz"]) := by rw [← hh]; exact upd_same
  clear hh
  refine ⟨b, p6, _, _, rfl, rfl, (E5.trans e6) _ _ hn.h, h6, ?_, fun p7 hp7 => ?_⟩
  · rw [List.length_map]
    exact sz100 (by show _ + 1 ≤ _; omega)
  generalize hh : upd H6 p7 _ = H7
  have e7 : Ex H6 H7 := hh ▸ Ex.new hp7
  have h7 : H7 p7 = some (.lst (ns.map V.str ++ [.str zzz])) := by rw [← hh]; exact upd_same
  clear hh
  rw [show ns.map V.str ++ [V.str zzz] = (ns ++ [zzz]).map V.str by rw [List.map_append]; rfl] at h7
  have hxl : xs.length = 7 := by rw [dx.1, List.length_cons, List.length_replicate]
  obtain ⟨x0, hx0, g0, g1⟩ := dx.at (i := 0) (s := 7) rfl
  obtain ⟨m, rfl⟩ := Int.eq_ofNat_of_zero_le g0
  have at0 : atI (xs.map V.int) 0 = some (V.int ((m : Nat) : Int)) := atI_nat (j := 0) (by rw [List.getElem?_map, hx0]; rfl)
  have h57 := (e6.trans e7) _ _ h5
  refine ⟨_, rfl, _, rfl, _, rfl, p5, _, _, _, rfl, rfl, SqL.of h57, at0, _, _, rfl, rfl, _, rfl, _, _, rfl, SqL.of h57, fun p8 hp8 => ?_⟩
  have ecut : cutV (xs.map V.int) (some (1 : Int)) (some ((1 : Int) + ((m : Nat) : Int))) = ((xs.drop 1).take m).map V.int := by
    have q := cutV_mid (xs.map V.int) 1 (1 + m) (by omega) (by rw [List.length_map]; omega)
    rw [show 1 + m - 1 = m by omega, ← List.map_drop, ← List.map_take] at q
    exact q
  generalize hh : upd H7 p8 _ = H8
  have e8 : Ex H7 H8 := hh ▸ Ex.new hp8
  have h8 : H8 p8 = some (.lst (cutV (xs.map V.int) (some (1 : Int)) (some ((1 : Int) + ((m : Nat) : Int))))) := by rw [← hh]; exact upd_same
  clear hh
  rw [ecut] at h8
  have hql : ((xs.drop 1).take m).length = m := by
    rw [List.length_take, List.length_drop]
    omega
  have hqb : ∀ q ∈ (xs.drop 1).take m, 0 ≤ q ∧ q < ((ns.length : Nat) : Int) + 1 := fun q hq => by
    obtain ⟨j, hj⟩ := List.mem_iff_getElem?.mp hq
    have hjl := (List.getElem?_eq_some_iff.mp hj).1
    have hQ := (dx.drop 1).take m
    refine hQ.2 j q _ hj ?_
    rw [List.drop_one, List.tail_cons, List.getElem?_take, if_pos (by omega), List.getElem?_replicate, if_pos (by omega)]
  generalize (xs.drop 1).take m = qs at hql hqb h8
  clear ecut
  have E8 := E5.trans (e6.trans (e7.trans e8))
  refine ⟨p8, rfl, ⟨_, SqL.of h8⟩, fun D hD => lcD (K := K) (src_list (SqL.of h8)) (fun j => .str ((ns ++ [zzz]).getD (qs.getD j 0).toNat "")) hD (fun _ => rfl) (by rw [List.length_map]; omega) ?_ ?_⟩
  · intro j x H' Q' hj hx e' k'
    rw [List.length_map] at hj
    rw [List.getElem?_map, List.getElem?_eq_getElem hj] at hx
    cases hx
    have hb := hqb _ (List.getElem_mem hj)
    obtain ⟨i, hi⟩ := Int.eq_ofNat_of_zero_le hb.1
    have hil : i < (ns ++ [zzz]).length := by
      rw [List.length_append]
      show i < _ + 1
      omega
    have hat : atI ((ns ++ [zzz]).map V.str) qs[j] = some (V.str (ns ++ [zzz])[i]) := by
      rw [hi]
      exact atI_nat (by rw [List.getElem?_map, List.getElem?_eq_getElem hil]; rfl)
    refine ⟨rfl, _, rfl, _, rfl, p7, _, _, _, rfl, rfl, SqL.of ((e8.trans e') _ _ h7), hat, ?_⟩
    refine k' _ _ (Same.refl _) ?_
    have eg : (ns ++ [zzz]).getD (qs.getD j 0).toNat "" = (ns ++ [zzz])[i] := by
      rw [List.getD_eq_getElem?_getD (l := qs), List.getElem?_eq_getElem hj]
      show (ns ++ [zzz]).getD (qs[j]).toNat "" = _
      rw [hi, Int.toNat_natCast, List.getD_eq_getElem?_getD, List.getElem?_eq_getElem hil]
      rfl
    rw [eg]
    exact .str _
  · intro H9 ys e9 h9 d9
    rw [List.length_map, range_get qs (fun q => PyData.str ((ns ++ [zzz]).getD q.toNat "")) _ (fun i x hx => by rw [List.getD_eq_getElem?_getD (l := qs), hx]; rfl)] at d9
    have hys : ys = (qs.map fun q => (ns ++ [zzz]).getD q.toNat "").map V.str := by
      refine DpAll.strs_eq (K := K) (H := H9) ?_
      rw [List.map_map]
      exact d9
    subst hys
    exact kk D _ H9 (E8.trans e9) (Ex.back E8 hD) h9 (by rw [List.length_map]; omega)
theorem c_law_held (W : Wld K mg) : Cal P w K mg base 21 "_law_held" (spHeld K) := by
  have c_law_draws : Cal P w K mg base 1 "_law_draws" _ := c_law_draws W
  have c_law_lines : Cal P w K mg base 20 "_law_lines" _ := c_law_lines W
  have c_show_recipe : Cal P w K mg base 20 "show_recipe" _ := c_show_recipe W
  refine cal_of W.d_law_held sc_law_held (fun vs H Q E h => ?_) (fun f cdv A outer s H vs Q E hr h => ?_)
  · obtain ⟨v, cells, k, p, ta, ma, told, made, ns, rfl, _⟩ := h
    rfl
  obtain ⟨v, cells, k, p, ta, ma, told, made, ns, rfl, hv, hcl, hk1, hk2, bk, bo, hns, kk⟩ := h
  have hu := hu_of hr
  refine ⟨_, (pss_cons (ps_set (i := 3) sc_law_held.nd rfl (Or.inl rfl) (pe_cl c_law_lines hr (by omega) (by rfl) (pa_cons (pv 2) pa_nil)))
    (pss_cons (ps_set (i := 4) sc_law_held.nd rfl (Or.inl rfl) (pe_cl c_law_draws hr (by omega) (by rfl) (pa_cons (pv 0) (pa_cons (pv 1) (pa_cons (pe_op op_rep (pe_lst (pa_cons pe_int pa_nil)) pe_int) pa_nil)))))
    (pss_cons (ps_set (i := 5) sc_law_held.nd rfl (Or.inl rfl) pe_dnewK)
    (pss_cons (ps_set (i := 6) sc_law_held.nd rfl (Or.inl rfl) pe_int)
    (pss_cons (ps_for PassesOwn.never rfl (pi_list (pe_callB (call_sortedD rfl) (by rfl) W.f_sorted bt_sorted (pa_cons (pv 3) pa_nil))) (pg_name (i := 7) sc_law_held.nd rfl (Or.inl rfl)) (C8.pss_cut (ps_if (pt_cmpR op_gt (pe_ix ix_list (pv 4) (pv 6) (fun _ _ => rfl)) pe_int (nomark _)) (pss_one (ps_dput hu (pv 5) (pv 7) (pe_tup (pa_cons (pe_cl c_show_recipe hr (by omega) (by rfl) (pa_cons (pe_dget hu (pe_ix ix_tup (pv 2) pe_int (fun _ _ => rfl)) (pv 7) (fun _ _ => rfl)) pa_nil)) (pa_cons (pe_dget hu (pv 3) (pv 7) (fun _ _ => rfl)) pa_nil))) rfl)) pss_nil)
    (pss_one (ps_set (i := 6) sc_law_held.nd rfl (Or.inl rfl) (pe_op op_add (pv 6) pe_int)))))
    (pss_one (ps_ret (pv 5)))))))), ?_⟩
  refine ⟨_, rfl, p, ta, ma, told, made, ns, rfl, bk, bo, hns, fun F lines H1 e1 hF dF okF => ?_⟩
  refine ⟨_, rfl, _, rfl, (show 1 ≤ sizeLine by decide), fun p2 hp2 => ?_⟩
  generalize hh : upd H1 p2 _ = H2
  have e2 : Ex H1 H2 := hh ▸ Ex.new hp2
  have h2 : H2 p2 = some (.lst [.int 4]) := by rw [← hh]; exact upd_same
  clear hh
  refine ⟨p2, _, _, rfl, rfl, h2, by decide, by decide, (show 1 * 8 ≤ sizeLine by decide), fun p3 hp3 => ?_⟩
  generalize hh : upd H2 p3 _ = H3
  have e3 : Ex H2 H3 := hh ▸ Ex.new hp3
  have h3 : H3 p3 = some (.lst ((List.replicate 8 (4 : Int)).map V.int)) := by rw [← hh]; exact upd_same
  clear hh
  have E3 := e1.trans (e2.trans e3)
  refine ⟨v, cells, k, p3, List.replicate 8 4, rfl, hv.up E3, hcl, hk1, hk2, SqL.of h3, by decide, by decide, fun xs p4 H4 e4 hp4 h4 dx => ?_⟩
  have hxl : xs.length = 8 := by rw [dx.1, List.length_replicate]
  refine fun L hL => ?_
  generalize hh : upd H4 L _ = H5
  have e5 : Ex H4 H5 := hh ▸ Ex.new hL
  have h5 : H5 L = some (.dK []) := by rw [← hh]; exact upd_same
  clear hh
  have E5 := E3.trans (e4.trans e5)
  have hLH : H L = none := Ex.back (E3.trans e4) hL
  have dF5 := dF.up (e2.trans (e3.trans (e4.trans e5)))
  obtain ⟨kf, hkf, dkf⟩ := dF5
  have hll : lines.length ≤ 6 := by
    have := nodup_sub okF.d fun n h => bo.sm n (okF.s n h)
    rw [ks_len] at this
    omega
  refine ⟨_, rfl, _, _, ks lines, rfl, .inl hkf, dkf.keys, by rw [ks_len]; omega, fun ys q hperm _ hq => ?_⟩
  generalize hh : upd H5 q _ = H6
  have e6 : Ex H5 H6 := hh ▸ Ex.new hq
  have h6 : H6 q = some (.lst (ys.map V.str)) := by rw [← hh]; exact upd_same
  clear hh
  have E6 := E5.trans e6
  have hyl : ys.length ≤ 6 := by
    rw [hperm.length_eq, ks_len]
    exact hll
  refine ⟨q, rfl, ⟨_, SqL.of h6⟩, for_list (K := K) (a := q) (xs := ys.map V.str) (fun i σ' H' => Fr [L] H6 H' ∧ ∃ (y7 : Option V) (held : As Hd), σ' = [some v, some (.int k), some (.ref p), some (.ref F), some (.ref p4), some (.ref L), some (.int ((i : Nat) : Int)), y7] ∧ DT K H' L encHd held ∧ OkHd ns held)
    ⟨Fr.refl _ _, _, [], rfl, .nil (e6 _ _ h5), ⟨fun q h => (by cases h), List.nodup_nil, fun q h => (by cases h)⟩⟩ ?_ ?_ ?_⟩
  · intro i σ' H' _ h
    refine SqL.of (h.1.k q _ h6 fun z => ?_)
    rw [List.mem_singleton.mp z] at hq
    rw [hq] at h5
    cases h5
  · rintro i x σ' H7 hx ⟨f7, y7, held, rfl, dh, oh⟩
    rw [List.getElem?_map] at hx
    obtain ⟨n, hn, rfl⟩ : ∃ n, ys[i]? = some n ∧ x = .str n := by
      cases q : ys[i]? with
      | none => rw [q] at hx; cases hx
      | some a => rw [q] at hx; cases hx; exact ⟨a, rfl, rfl⟩
    have hil := (List.getElem?_eq_some_iff.mp hn).1
    have hnl : n ∈ ks lines := hperm.mem_iff.mp (List.mem_of_getElem? hn)
    have hnm := okF.s n hnl
    have e7 : Ex H H7 := f7.toExN E6 fun a z => by rw [List.mem_singleton.mp z]; exact hLH
    have kp : ∀ {a o}, H6 a = some o → a ≠ L → H7 a = some o := fun {a o} h ne => f7.k a o h fun z => ne (List.mem_singleton.mp z)
    have n4L : p4 ≠ L := fun z => by rw [z] at h4; rw [h4] at hL; cases hL
    have nFL : F ≠ L := fun z => by
      obtain ⟨_, hd, _⟩ := dF.up (e2.trans (e3.trans e4))
      rw [z, hL] at hd
      cases hd
    have h47 := kp ((e5.trans e6) _ _ h4) n4L
    have hat : atI (xs.map V.int) ((i : Nat) : Int) = some (V.int xs[i]) := atI_nat (by rw [List.getElem?_map, List.getElem?_eq_getElem (show i < xs.length by omega)]; rfl)
    refine ⟨fun σ' H' => Fr [L] H6 H' ∧ ∃ (y7 : Option V) (held : As Hd), σ' = [some v, some (.int k), some (.ref p), some (.ref F), some (.ref p4), some (.ref L), some (.int ((i : Nat) : Int)), y7] ∧ DT K H' L encHd held ∧ OkHd ns held, ?_, ?_⟩
    · refine ⟨_, rfl, _, rfl, p4, _, _, _, rfl, rfl, SqL.of h47, hat, _, _, rfl, rfl, _, rfl, iteD (fun c => ?_) (fun c => ⟨f7, _, held, rfl, dh, oh⟩)⟩
      have bk7 := bk.up e7
      obtain ⟨km, hkm, dkm⟩ := bk7.m
      rcases dkm.lk n with ⟨_, g2⟩ | ⟨rv, r, g1, g2, gh⟩
      · exact absurd hnm (lk_none.mp g2)
      obtain ⟨s1, s2, s3, s4⟩ := okR_show (bo.orr _ (lk_mem g2))
      refine ⟨_, rfl, p, _, _, _, rfl, rfl, SqT.of bk7.p, atI_nat (j := 1) rfl, _, rfl, ma, rv, rfl, (by rw [← g1]; exact DGet.k (k := Sum.inr n) hkm), rv, r, rfl, gh, s1, s2, s3, s4, fun H8 e8 => ?_⟩
      have hkf7 := kp (e6 _ _ hkf) nFL
      have dkf7 : DRel (fun v l => Dp K H7 v (encLn l)) kf lines := dkf.mono fun v' q _ d => Dp.tu ((Same.tu e6).trans f7.t) _ _ (immLn q.2) d
      rcases dkf7.lk n with ⟨_, g3⟩ | ⟨lv, l, g3, g4, gl⟩
      · exact absurd hnl (lk_none.mp g3)
      refine ⟨_, rfl, _, rfl, F, lv, rfl, (by rw [← g3]; exact DGet.k (k := Sum.inr n) (e8 _ _ hkf7)), (show 2 ≤ sizeLine by decide), fun p9 hp9 => ?_⟩
      have d9 : Dp K (upd H8 p9 (.tup [.str (showR r), lv])) (.ref p9) (encHd (showR r, l)) := dp_newT hp9 (.cons (.str _) (.one (gl.up e8)))
      have e9 : Ex H8 (upd H8 p9 (.tup [.str (showR r), lv])) := Ex.new hp9
      generalize hh : upd H8 p9 _ = H9
      have d9 : Dp K H9 (.ref p9) (encHd (showR r, l)) := hh ▸ d9
      have e9 : Ex H8 H9 := hh ▸ e9
      clear hh
      obtain ⟨kh, hkh, dkh⟩ := dh.up (e8.trans e9)
      have hhl := oh.len hns
      refine ⟨_, rfl, _, rfl, L, _, rfl, DPut.k (k := Sum.inr n) hkh (szlt (by rw [dkh.len]; omega)), (f7.up (e8.trans e9)).mutIn List.mem_cons_self hkh, _, _, rfl, DT.put hkh dkh (fun q _ => immHd q.2) d9 (immHd _), oh.put (okF.o (n, l) (lk_mem g4)) (bo.sm n hnm)⟩
    · rintro _ H8 ⟨f8, y7, held, rfl, dh, oh⟩
      exact ⟨_, rfl, _, _, rfl, rfl, f8, _, held, rfl, dh, oh⟩
  · rintro σ' H7 ⟨f7, y7, held, rfl, dh, oh⟩
    exact ⟨_, rfl, kk L held H7 (f7.toExN E6 fun a z => by rw [List.mem_singleton.mp z]; exact hLH) hLH dh oh⟩
end
end Wk
namespace Wk
open PySem PySem.Spec PyProof.Rows L2 SX
/-! ### sorting -/
def leS (a b : Str) : Bool := !ltCps b.cps.toList a.cps.toList
theorem leS_iff {a b : Str} : leS a b = true ↔ a.cps.toList ≤ b.cps.toList := by
  unfold leS
  rw [ltCps_eq, ← List.not_lt]
  by_cases h : b.cps.toList < a.cps.toList
  · simp [h]
  · simp [h]
theorem leS_trans (a b c : Str) (h1 : leS a b = true) (h2 : leS b c = true) : leS a c = true := leS_iff.mpr (List.le_trans (leS_iff.mp h1) (leS_iff.mp h2))
theorem leS_total (a b : Str) : (leS a b || leS b a) = true := by
  rcases List.le_total a.cps.toList b.cps.toList with h | h
  · rw [leS_iff.mpr h]
    rfl
  · rw [leS_iff.mpr h, Bool.or_true]
theorem leS_anti {a b : Str} (h1 : leS a b = true) (h2 : leS b a = true) : a = b := TL.ext_tl (List.le_antisymm (leS_iff.mp h1) (leS_iff.mp h2))
def sortM (l : List Str) : List Str := l.mergeSort leS
theorem rising_pw : ∀ (p : Str) (l : List Str), risingS p l = true → (p :: l).Pairwise (fun a b => leS a b = true)
  | p, [], _ => List.pairwise_singleton _ _
  | p, x :: r, h => by
    have h1 : (leS p x && risingS x r) = true := h
    rw [Bool.and_eq_true] at h1
    have ih := rising_pw x r h1.2
    refine List.pairwise_cons.mpr ⟨fun y hy => ?_, ih⟩
    rcases List.mem_cons.mp hy with rfl | hy
    · exact h1.1
    · exact leS_trans _ _ _ h1.1 ((List.pairwise_cons.mp ih).1 y hy)
theorem sorted_pw : ∀ {l : List Str}, sortedS l = true → l.Pairwise (fun a b => leS a b = true)
  | [], _ => .nil
  | x :: r, h => rising_pw x r h
theorem sortM_eq {l ys : List Str} (hp : ys.Perm l) (hs : sortedS ys = true) : ys = sortM l :=
  List.Perm.eq_of_pairwise (fun a b _ _ h1 h2 => leS_anti h1 h2) (sorted_pw hs) (List.pairwise_mergeSort leS_trans leS_total l) (hp.trans (List.mergeSort_perm l leS).symm)
theorem sortM_perm (l : List Str) : (sortM l).Perm l := List.mergeSort_perm l leS
theorem sortM_filter (l : List Str) (p : Str → Bool) : sortM (l.filter p) = (sortM l).filter p :=
  List.Perm.eq_of_pairwise (fun a b _ _ h1 h2 => leS_anti h1 h2) (List.pairwise_mergeSort leS_trans leS_total _) ((List.pairwise_mergeSort leS_trans leS_total l).filter p) ((sortM_perm _).trans ((sortM_perm l).symm.filter p))
theorem sortM_len (l : List Str) : (sortM l).length = l.length := (sortM_perm l).length_eq
theorem mem_sortM {l : List Str} {x : Str} : x ∈ sortM l ↔ x ∈ l := (sortM_perm l).mem_iff
/-! ### tasks, worlds -/
structure Tk where
  look : Bool
  ln : Line
  rd : List Pr
  pk : List Pr
  wt : Option Str
  py : Bool
structure Sm where
  ly : As Hd
  en : As EndM
  tk : As Tk
  rw : List (Str × Str)
inductive Rs where
  | on (t : Tk) | shut (w : Str) (l : Line)
def nowM (told : As PyData) (en : As EndM) (n : Str) : Option PyData := match lk told n with
  | some v => some v
  | none => match lk en n with
    | some (.made v) => some v
    | _ => none
def noLine : Line := ⟨"", [], .fails ""⟩
def freshM (made : As Rc) (ly : As Hd) (n : Str) : Tk := match lk ly n, lk made n with
  | some h, some r => if h.1 = showR r then ⟨true, h.2, [], [], none, false⟩ else ⟨false, noLine, [], [], none, false⟩
  | _, _ => ⟨false, noLine, [], [], none, false⟩
def opensM (made : As Rc) (n : Str) (s : Sm) : Sm := if n ∉ ks made ∨ n ∈ ks s.en ∨ n ∈ ks s.tk then s else { s with tk := pt s.tk n (freshM made s.ly n) }
def textM (made : As Rc) (n : Str) : Str := match lk made n with
  | some r => showR r
  | none => ""
def closesM (made : As Rc) (n : Str) (w : Str) (l : Line) (s : Sm) : Sm := ⟨pt s.ly n (textM made n, l), pt s.en n l.en, dr s.tk n, s.rw ++ [(w, n)]⟩
/-- go on -/
def goT (n : Str) (r : Rc) (t : Tk) : Rs :=
  if t.look = true then
    match t.ln.rd[t.rd.length]? with
    | some q => .on { t with wt := some q.1 }
    | none => match t.ln.en with
      | .wants z => .on { t with wt := some z }
      | _ => .shut "kept" t.ln
  else match replayM r t.rd t.pk with
    | .wants z => .on { t with wt := some z, py := false }
    | .peeks z => .on { t with wt := some z, py := true }
    | .made v => .shut "done" ⟨n, t.rd, .made v⟩
    | .fails w => .shut "done" ⟨n, t.rd, .fails w⟩
    | .strays _ => .shut "done" ⟨n, t.rd, .fails ""⟩
def anewT (t : Tk) : Tk := { t with wt := none, rd := [], look := false }
/-- take the value of what was waited for -/
def takeT (n : Str) (z : Str) (v : Option PyData) (t : Tk) : Rs :=
  if t.look = true then
    match t.ln.rd[t.rd.length]?, v with
    | some q, some d => if stampS d = stampS q.2 then .on { t with wt := none, rd := t.rd ++ [(z, d)] } else .on (anewT t)
    | some _, none => .on (anewT t)
    | none, none => .shut "kept" t.ln
    | none, some _ => .on (anewT t)
  else match v with
    | none => .shut "done" ⟨n, t.rd, .wants z⟩
    | some d => if t.py = true then .on { t with wt := none, pk := t.pk ++ [(z, d)] } else .on { t with wt := none, rd := t.rd ++ [(z, d)] }
def roundT (n : Str) (t : Tk) : Str × Line := if t.look = true ∧ t.rd.length = t.ln.rd.length then ("kept", t.ln) else ("done", ⟨n, t.rd, .wants (t.wt.getD "")⟩)
def readyM (made : As Rc) (en : As EndM) (t : Tk) : Bool := match t.wt with
  | none => true
  | some z => !decide (z ∈ ks made) || decide (z ∈ ks en)
def readyN (made : As Rc) (s : Sm) (n : Str) : Bool := match lk s.tk n with
  | some t => readyM made s.en t
  | none => false
def ableM (made : As Rc) (s : Sm) : List Str := (sortM (ks s.tk)).filter (readyN made s)
def setM (n : Str) (t : Tk) (s : Sm) : Sm := { s with tk := pt s.tk n t }
def appM (made : As Rc) (n : Str) (x : Rs) (s : Sm) : Sm := match x with
  | .on t => setM n t s
  | .shut w l => closesM made n w l s
def roundM (made : As Rc) (n : Str) (s : Sm) : Sm := match lk s.tk n with
  | some t => closesM made n (roundT n t).1 (roundT n t).2 s
  | none => s
def ringsM (made : As Rc) (s : Sm) : Sm := if ableM made s = [] then (sortM (ks s.tk)).foldl (fun s n => roundM made n s) s else s
/-- what a move does to its task -/
def stepT (told : As PyData) (en : As EndM) (n : Str) (r : Rc) (t : Tk) : Rs :=
  match (match t.wt with
    | some z => takeT n z (nowM told en z) t
    | none => .on t) with
  | .on t' => goT n r t'
  | x => x
def afterM (made : As Rc) (n : Str) (x : Rs) (s : Sm) : Sm := match x with
  | .on t => opensM made (t.wt.getD "") (setM n t s)
  | .shut w l => closesM made n w l s
def movesM (told : As PyData) (made : As Rc) (n : Str) (s : Sm) : Sm := match lk s.tk n, lk made n with
  | some t, some r => ringsM made (afterM made n (stepT told s.en n r t) s)
  | _, _ => s
/-! ### what stays true -/
structure OkTk (r : Rc) (t : Tk) : Prop where
  ln : t.look = true → OkLn t.ln ∧ t.rd.length ≤ t.ln.rd.length ∧ prOk t.rd ∧ t.pk = []
  fit : t.look = false → FitR r t.rd t.pk
  wait : t.look = false → ∀ z, t.wt = some z → replayM r t.rd t.pk = (if t.py = true then .peeks z else .wants z)
  none : t.look = false → t.wt = none → t.rd = [] ∧ t.pk = []
structure OkSm (ns : List Str) (told : As PyData) (made : As Rc) (s : Sm) : Prop where
  hd : OkHd ns s.ly
  ne : (ks s.en).Nodup
  se : ∀ n ∈ ks s.en, n ∈ ks made
  oe : ∀ q ∈ s.en, okE q.2
  nt : (ks s.tk).Nodup
  st : ∀ n ∈ ks s.tk, n ∈ ks made
  dj : ∀ n ∈ ks s.tk, n ∉ ks s.en
  ot : ∀ n t r, lk s.tk n = some t → lk made n = some r → OkTk r t
  rl : s.rw.length ≤ s.en.length
/-- a task in the middle of a move: it waits for nothing -/
structure MidT (r : Rc) (t : Tk) : Prop where
  ln : t.look = true → OkLn t.ln ∧ t.rd.length ≤ t.ln.rd.length ∧ prOk t.rd ∧ t.pk = []
  fit : t.look = false → FitR r t.rd t.pk
def muT (t : Tk) : Nat := if t.look = true then (if t.wt = none then 1 else 0) + 4 + (t.ln.rd.length - t.rd.length) else if t.wt = none then 4 else 3 - (t.rd.length + t.pk.length)
theorem pt_old {α : Type} {l : As α} {n : Str} {a : α} (h : n ∈ ks l) : pt l n a = l.map (fun p => if p.1 = n then (p.1, a) else p) := by
  unfold pt
  rw [lk_any, if_pos (lk_ks.mpr h)]
theorem pt_pt {α : Type} (l : As α) (n : Str) (a b : α) : pt (pt l n a) n b = pt l n b := by
  by_cases h : n ∈ ks l
  · have h2 : n ∈ ks (pt l n a) := by rw [ks_pt_in h]; exact h
    rw [pt_old h2, pt_old h, pt_old h, List.map_map]
    refine List.map_congr_left fun p _ => ?_
    show (if (if p.1 = n then (p.1, a) else p).1 = n then _ else _) = _
    by_cases e : p.1 = n
    · rw [if_pos e, if_pos e, if_pos e]
      show ((if p.1 = n then (p.1, a) else p).1, b) = _
      rw [if_pos e]
    · rw [if_neg e, if_neg e, if_neg e]
  · rw [pt_new h, pt_new h]
    have h2 : n ∈ ks (l ++ [(n, a)]) := by
      unfold ks
      rw [List.map_append]
      exact List.mem_append_right _ (List.mem_singleton.mpr rfl)
    rw [pt_old h2, List.map_append]
    congr 1
    · refine (List.map_congr_left fun p hp => ?_).trans (List.map_id l)
      have : ¬ p.1 = n := fun e => h (e ▸ List.mem_map.mpr ⟨p, hp, rfl⟩)
      rw [if_neg this]
      rfl
    · show [if n = n then (n, b) else (n, a)] = _
      rw [if_pos rfl]
theorem dr_pt {α : Type} (l : As α) (n : Str) (a : α) : dr (pt l n a) n = dr l n := by
  by_cases h : n ∈ ks l
  · unfold pt dr
    rw [lk_any, if_pos (lk_ks.mpr h)]
    clear h
    induction l with
    | nil => rfl
    | cons p l ih =>
      rw [List.map_cons, List.filter_cons, List.filter_cons, ih]
      by_cases e : p.1 = n
      · rw [if_pos e, if_neg (by simp [e]), if_neg (by simp [e])]
      · rw [if_neg e]
  · rw [pt_new h]
    unfold dr
    rw [List.filter_append]
    simp
theorem appM_two {made : As Rc} {n : Str} {t : Tk} {x : Rs} {s : Sm} : appM made n x (setM n t s) = appM made n x s := by
  cases x with
  | on t' =>
    show ({ s with tk := pt (pt s.tk n t) n t' } : Sm) = { s with tk := pt s.tk n t' }
    rw [pt_pt]
  | shut w l =>
    show (⟨_, _, dr (pt s.tk n t) n, _⟩ : Sm) = ⟨_, _, dr s.tk n, _⟩
    rw [dr_pt]
    rfl
end Wk
namespace Wk
open PySem PySem.Spec PyProof.Rows L2 SX
/-! ### one task -/
theorem go_ok {n : Str} {r : Rc} {t : Tk} (ok : okR r = true) (m : MidT r t) : match goT n r t with
    | .on t' => OkTk r t' ∧ (∃ z, t'.wt = some z) ∧ t'.rd = t.rd ∧ t'.pk = t.pk ∧ t'.look = t.look ∧ t'.ln = t.ln ∧ (t.look = false → t.rd.length + t.pk.length < 3)
    | .shut _ l => OkLn l := by
  unfold goT
  by_cases hl : t.look = true
  · rw [if_pos hl]
    obtain ⟨m1, m2, m3, m4⟩ := m.ln hl
    have hf : ∀ {P : Prop}, t.look = false → P := fun h => by rw [hl] at h; cases h
    cases q : t.ln.rd[t.rd.length]? with
    | some p => exact ⟨⟨fun _ => ⟨m1, m2, m3, m4⟩, fun h => hf h, fun h => hf h, fun h => hf h⟩, ⟨_, rfl⟩, rfl, rfl, rfl, rfl, fun h => hf h⟩
    | none =>
      cases q2 : t.ln.en with
      | wants z => exact ⟨⟨fun _ => ⟨m1, m2, m3, m4⟩, fun h => hf h, fun h => hf h, fun h => hf h⟩, ⟨_, rfl⟩, rfl, rfl, rfl, rfl, fun h => hf h⟩
      | made v => exact m1
      | fails w => exact m1
  · rw [if_neg hl]
    have hl' : t.look = false := by simpa using hl
    have ft := m.fit hl'
    obtain ⟨f1, f2, f3, f4⟩ := ft.out ok
    have hf : ∀ {P : Prop}, t.look = true → P := fun h => absurd h hl
    cases q : replayM r t.rd t.pk with
    | wants z => exact ⟨⟨fun h => hf h, fun _ => ft, fun _ z' hz => by cases hz; exact q, fun _ h => by cases h⟩, ⟨_, rfl⟩, rfl, rfl, rfl, rfl, fun _ => (f3 z q).1⟩
    | peeks z => exact ⟨⟨fun h => hf h, fun _ => ft, fun _ z' hz => by cases hz; exact q, fun _ h => by cases h⟩, ⟨_, rfl⟩, rfl, rfl, rfl, rfl, fun _ => (f4 z q).1⟩
    | made v =>
      rw [q] at f2
      exact ⟨by show t.rd.length ≤ 3; omega, ft.r, f2⟩
    | fails w => exact ⟨by show t.rd.length ≤ 3; omega, ft.r, trivial⟩
    | strays k =>
      rw [q] at f2
      exact f2.elim
theorem take_ok {n z : Str} {r : Rc} {t : Tk} {v : Option PyData} (ok : okR r = true) (o : OkTk r t) (hz : t.wt = some z) (hv : ∀ d, v = some d → okV d = true) : match takeT n z v t with
    | .on t' => MidT r t' ∧ t'.wt = none ∧ ((t'.look = true ∧ t.look = true ∧ t'.ln = t.ln ∧ t'.rd.length = t.rd.length + 1 ∧ t'.rd.length ≤ t.ln.rd.length) ∨ (t'.look = false ∧ t.look = true ∧ t'.rd = [] ∧ t'.pk = []) ∨ (t'.look = false ∧ t.look = false ∧ t'.rd.length + t'.pk.length = t.rd.length + t.pk.length + 1))
    | .shut _ l => OkLn l := by
  unfold takeT
  by_cases hl : t.look = true
  · rw [if_pos hl]
    obtain ⟨m1, m2, m3, m4⟩ := o.ln hl
    have anew : MidT r (anewT t) ∧ (anewT t).wt = none ∧ (((anewT t).look = true ∧ t.look = true ∧ (anewT t).ln = t.ln ∧ (anewT t).rd.length = t.rd.length + 1 ∧ (anewT t).rd.length ≤ t.ln.rd.length) ∨ ((anewT t).look = false ∧ t.look = true ∧ (anewT t).rd = [] ∧ (anewT t).pk = []) ∨ ((anewT t).look = false ∧ t.look = false ∧ (anewT t).rd.length + (anewT t).pk.length = t.rd.length + t.pk.length + 1)) := by
      refine ⟨⟨fun h => (by cases h), fun _ => ?_⟩, rfl, .inr (.inl ⟨rfl, hl, rfl, m4⟩)⟩
      have e : (anewT t).pk = [] := m4
      rw [e]
      exact FitR.nil r
    cases q : t.ln.rd[t.rd.length]? with
    | some p =>
      have hlt := (List.getElem?_eq_some_iff.mp q).1
      cases v with
      | none => exact anew
      | some d =>
        show match (if stampS d = stampS p.2 then _ else _ : Rs) with | .on t' => _ | .shut _ l => _
        by_cases c : stampS d = stampS p.2
        · rw [if_pos c]
          have e : (t.rd ++ [(z, d)]).length = t.rd.length + 1 := by rw [List.length_append]; rfl
          refine ⟨⟨fun _ => ⟨m1, ?_, m3.snoc (hv d rfl), m4⟩, fun h => ?_⟩, rfl, .inl ⟨hl, hl, rfl, e, ?_⟩⟩
          · exact Nat.le_trans (Nat.le_of_eq e) hlt
          · have h : t.look = false := h
            rw [hl] at h
            cases h
          · exact Nat.le_trans (Nat.le_of_eq e) hlt
        · rw [if_neg c]
          exact anew
    | none =>
      cases v with
      | none => exact m1
      | some d => exact anew
  · rw [if_neg hl]
    have hl' : t.look = false := by simpa using hl
    have ft := o.fit hl'
    obtain ⟨f1, f2, f3, f4⟩ := ft.out ok
    have w := o.wait hl' z hz
    cases v with
    | none => exact ⟨by show t.rd.length ≤ 3; omega, ft.r, trivial⟩
    | some d =>
      have hd := hv d rfl
      show match (if t.py = true then _ else _ : Rs) with | .on t' => _ | .shut _ l => _
      by_cases c : t.py = true
      · rw [if_pos c] at w ⊢
        exact ⟨⟨fun h => absurd h hl, fun _ => (f4 z w).2 d hd⟩, rfl, .inr (.inr ⟨hl', hl', by show t.rd.length + (t.pk ++ [(z, d)]).length = _; rw [List.length_append]; rfl⟩)⟩
      · rw [if_neg c] at w ⊢
        exact ⟨⟨fun h => absurd h hl, fun _ => (f3 z w).2 d hd⟩, rfl, .inr (.inr ⟨hl', hl', by show (t.rd ++ [(z, d)]).length + t.pk.length = _; rw [List.length_append]; show _ + 1 + _ = _; omega⟩)⟩
theorem mu_wait {t : Tk} {z : Str} (h : t.wt = some z) : muT t = if t.look = true then 4 + (t.ln.rd.length - t.rd.length) else 3 - (t.rd.length + t.pk.length) := by
  unfold muT
  rw [h]
  split
  · rw [if_neg (fun e => by cases e)]
    try omega
  · rw [if_neg (fun e => by cases e)]
theorem step_ok {told : As PyData} {en : As EndM} {n : Str} {r : Rc} {t : Tk} (ok : okR r = true) (o : OkTk r t) (hn : ∀ z d, nowM told en z = some d → okV d = true) : match stepT told en n r t with
    | .on t' => OkTk r t' ∧ (∃ z, t'.wt = some z) ∧ muT t' < muT t
    | .shut _ l => OkLn l := by
  unfold stepT
  cases hw : t.wt with
  | none =>
    show match goT n r t with | .on t' => _ | .shut _ l => _
    have m : MidT r t := ⟨o.ln, o.fit⟩
    have g := go_ok (n := n) ok m
    cases q : goT n r t with
    | shut w l => rw [q] at g; exact g
    | on t' =>
      rw [q] at g
      obtain ⟨g1, ⟨z, g2⟩, g3, g4, g5, g6, g7⟩ := g
      refine ⟨g1, ⟨z, g2⟩, ?_⟩
      rw [mu_wait g2, g5, g3, g4, g6]
      unfold muT
      rw [hw]
      by_cases hl : t.look = true
      · rw [if_pos hl, if_pos hl, if_pos rfl]
        omega
      · rw [if_neg hl, if_neg hl, if_pos rfl]
        omega
  | some z =>
    have tk := take_ok (n := n) (v := nowM told en z) ok o hw (hn z)
    show match (match takeT n z (nowM told en z) t with | .on t' => goT n r t' | x => x) with | .on t' => _ | .shut _ l => _
    cases q : takeT n z (nowM told en z) t with
    | shut w l => rw [q] at tk; exact tk
    | on t1 =>
      rw [q] at tk
      obtain ⟨k1, k2, k3⟩ := tk
      show match goT n r t1 with | .on t' => _ | .shut _ l => _
      have g := go_ok (n := n) ok k1
      cases q2 : goT n r t1 with
      | shut w l => rw [q2] at g; exact g
      | on t' =>
        rw [q2] at g
        obtain ⟨g1, ⟨z', g2⟩, g3, g4, g5, g6, g7⟩ := g
        refine ⟨g1, ⟨z', g2⟩, ?_⟩
        rw [mu_wait g2, mu_wait hw, g5, g3, g4, g6]
        rcases k3 with ⟨a1, a2, a3, a4, a5⟩ | ⟨a1, a2, a3, a4⟩ | ⟨a1, a2, a3⟩
        · rw [if_pos a1, if_pos a2, a3]
          omega
        · rw [if_neg (by rw [a1]; exact Bool.false_ne_true), if_pos a2]
          omega
        · rw [if_neg (by rw [a1]; exact Bool.false_ne_true), if_neg (by rw [a2]; exact Bool.false_ne_true)]
          have := g7 a1
          omega
theorem round_ok {n : Str} {r : Rc} {t : Tk} (ok : okR r = true) (o : OkTk r t) : OkLn (roundT n t).2 := by
  unfold roundT
  by_cases c : t.look = true ∧ t.rd.length = t.ln.rd.length
  · rw [if_pos c]
    exact (o.ln c.1).1
  · rw [if_neg c]
    by_cases hl : t.look = true
    · obtain ⟨m1, m2, m3, m4⟩ := o.ln hl
      exact ⟨Nat.le_trans m2 m1.n, m3, trivial⟩
    · have hl' : t.look = false := by simpa using hl
      have ft := o.fit hl'
      obtain ⟨f1, _⟩ := ft.out ok
      exact ⟨by show t.rd.length ≤ 3; omega, ft.r, trivial⟩
/-! ### all tasks -/
def sumK (l : As Tk) : Nat := (l.map fun p => muT p.2).sum
theorem sum_new {l : As Tk} {n : Str} {t : Tk} (h : n ∉ ks l) : sumK (pt l n t) = sumK l + muT t := by
  unfold sumK
  rw [pt_new h, List.map_append, List.sum_append]
  simp
theorem sum_none {l : As Tk} {n : Str} {t' : Tk} (h : n ∉ ks l) : l.map (fun p => if p.1 = n then (p.1, t') else p) = l := by
  refine (List.map_congr_left fun p hp => ?_).trans (List.map_id l)
  have : ¬ p.1 = n := fun e => h (e ▸ List.mem_map.mpr ⟨p, hp, rfl⟩)
  rw [if_neg this]
  rfl
theorem sum_set : ∀ {l : As Tk} {n : Str} {t t' : Tk}, (ks l).Nodup → lk l n = some t → sumK (l.map fun p => if p.1 = n then (p.1, t') else p) + muT t = sumK l + muT t'
  | [], _, _, _, _, h => by cases h
  | p :: l, n, t, t', hd, h => by
    have hd' := List.nodup_cons.mp (show (p.1 :: ks l).Nodup from hd)
    unfold sumK
    by_cases e : p.1 = n
    · rw [lk_pos e] at h
      cases h
      have hn : n ∉ ks l := e ▸ hd'.1
      rw [List.map_cons, if_pos e, sum_none hn]
      simp only [List.map_cons, List.sum_cons]
      omega
    · rw [lk_neg e] at h
      have ih := sum_set (t' := t') hd'.2 h
      unfold sumK at ih
      rw [List.map_cons, if_neg e]
      simp only [List.map_cons, List.sum_cons]
      omega
theorem sum_pt {l : As Tk} {n : Str} {t t' : Tk} (hd : (ks l).Nodup) (h : lk l n = some t) : sumK (pt l n t') + muT t = sumK l + muT t' := by
  rw [pt_old (lk_ks.mp (by rw [h]; rfl))]
  exact sum_set hd h
theorem dr_none {α : Type} {l : As α} {n : Str} (h : n ∉ ks l) : dr l n = l := by
  unfold dr
  refine List.filter_eq_self.mpr fun p hp => ?_
  have : ¬ p.1 = n := fun e => h (e ▸ List.mem_map.mpr ⟨p, hp, rfl⟩)
  simpa using this
theorem sum_dr : ∀ {l : As Tk} {n : Str} {t : Tk}, (ks l).Nodup → lk l n = some t → sumK (dr l n) + muT t = sumK l
  | [], _, _, _, h => by cases h
  | p :: l, n, t, hd, h => by
    have hd' := List.nodup_cons.mp (show (p.1 :: ks l).Nodup from hd)
    by_cases e : p.1 = n
    · rw [lk_pos e] at h
      cases h
      have hn : n ∉ ks l := e ▸ hd'.1
      have e2 : dr (p :: l) n = l := by
        show List.filter _ (p :: l) = l
        rw [List.filter_cons, if_neg (by simp [e])]
        exact dr_none hn
      rw [e2]
      unfold sumK
      simp only [List.map_cons, List.sum_cons]
      omega
    · rw [lk_neg e] at h
      have ih := sum_dr hd'.2 h
      have e2 : dr (p :: l) n = p :: dr l n := by
        show List.filter _ (p :: l) = _
        rw [List.filter_cons, if_pos (by simp [e])]
        rfl
      rw [e2]
      unfold sumK at ih ⊢
      simp only [List.map_cons, List.sum_cons]
      omega
def freeN (s : Sm) (n : Str) : Bool := !decide (n ∈ ks s.en) && !decide (n ∈ ks s.tk)
def phi (made : As Rc) (s : Sm) : Nat := sumK s.tk + 8 * ((ks made).filter (freeN s)).length
theorem filter_less {α : Type} {p q : α → Bool} {n : α} : ∀ {l : List α}, (∀ x, q x = true → p x = true) → n ∈ l → p n = true → q n = false → (l.filter q).length + 1 ≤ (l.filter p).length
  | [], _, h, _, _ => by cases h
  | a :: l, hpq, h, hp, hq => by
    have mono : ∀ l : List α, (l.filter q).length ≤ (l.filter p).length := fun l => by
      induction l with
      | nil => exact Nat.le_refl _
      | cons x l ih =>
        rw [List.filter_cons, List.filter_cons]
        by_cases c : q x = true
        · rw [if_pos c, if_pos (hpq x c), List.length_cons, List.length_cons]
          omega
        · rw [if_neg c]
          by_cases c2 : p x = true
          · rw [if_pos c2, List.length_cons]
            omega
          · rw [if_neg c2]
            exact ih
    rw [List.filter_cons, List.filter_cons]
    by_cases c : a = n
    · subst c
      rw [if_neg (by rw [hq]; exact Bool.false_ne_true), if_pos hp, List.length_cons]
      have := mono l
      omega
    · have hn : n ∈ l := by
        rcases List.mem_cons.mp h with e | e
        · exact absurd e.symm c
        · exact e
      have ih := filter_less hpq hn hp hq
      by_cases c2 : q a = true
      · rw [if_pos c2, if_pos (hpq a c2), List.length_cons, List.length_cons]
        omega
      · rw [if_neg c2]
        by_cases c3 : p a = true
        · rw [if_pos c3, List.length_cons]
          omega
        · rw [if_neg c3]
          exact ih
theorem OkSm.szs {ns : List Str} {told : As PyData} {made : As Rc} {s : Sm} (o : OkSm ns told made s) (bo : BkOk ns told made) (h : ns.length ≤ 6) : s.tk.length ≤ 6 ∧ s.en.length ≤ 6 ∧ s.ly.length ≤ 6 ∧ s.rw.length ≤ 6 := by
  have hm := bo.mlen h
  have h1 := nodup_sub o.nt o.st
  have h2 := nodup_sub o.ne o.se
  rw [ks_len, ks_len] at h1 h2
  have h3 := o.hd.len h
  have h4 := o.rl
  exact ⟨by omega, by omega, h3, by omega⟩
section
variable {ns : List Str} {told : As PyData} {made : As Rc} {s : Sm} {n : Str}
theorem made_ok (bo : BkOk ns told made) {r : Rc} (h : lk made n = some r) : okR r = true := bo.orr _ (lk_mem h)
theorem made_lk (h : n ∈ ks made) : ∃ r, lk made n = some r := by
  have := lk_ks.mpr h
  cases q : lk made n with
  | none => rw [q] at this; cases this
  | some r => exact ⟨r, rfl⟩
theorem now_ok (bo : BkOk ns told made) (o : OkSm ns told made s) : ∀ z d, nowM told s.en z = some d → okV d = true := by
  intro z d h
  unfold nowM at h
  cases q : lk told z with
  | some v =>
    rw [q] at h
    cases h
    exact bo.ov _ (lk_mem q)
  | none =>
    rw [q] at h
    cases q2 : lk s.en z with
    | none => rw [q2] at h; cases h
    | some e =>
      rw [q2] at h
      cases e with
      | made v =>
        cases h
        exact o.oe _ (lk_mem q2)
      | fails w => cases h
      | wants w => cases h
theorem opens_ok (bo : BkOk ns told made) (o : OkSm ns told made s) : OkSm ns told made (opensM made n s) ∧ phi made (opensM made n s) ≤ phi made s := by
  unfold opensM
  by_cases c : n ∉ ks made ∨ n ∈ ks s.en ∨ n ∈ ks s.tk
  · rw [if_pos c]
    exact ⟨o, Nat.le_refl _⟩
  · rw [if_neg c]
    have c1 : n ∈ ks made := Classical.byContradiction fun h => c (.inl h)
    have c2 : n ∉ ks s.en := fun h => c (.inr (.inl h))
    have c3 : n ∉ ks s.tk := fun h => c (.inr (.inr h))
    have fr : ∀ r, OkTk r (freshM made s.ly n) ∧ muT (freshM made s.ly n) ≤ 8 := by
      intro r
      have base : OkTk r ⟨false, noLine, [], [], none, false⟩ ∧ muT ⟨false, noLine, [], [], none, false⟩ ≤ 8 :=
        ⟨⟨fun h => (by cases h), fun _ => FitR.nil r, fun _ z h => (by cases h), fun _ _ => ⟨rfl, rfl⟩⟩, by decide⟩
      unfold freshM
      cases q : lk s.ly n with
      | none => exact base
      | some h =>
        obtain ⟨r', hr'⟩ := made_lk c1
        rw [hr']
        show OkTk r (if h.1 = showR r' then _ else _) ∧ muT (if h.1 = showR r' then _ else _) ≤ 8
        by_cases e : h.1 = showR r'
        · rw [if_pos e]
          have ok := o.hd.o _ (lk_mem q)
          refine ⟨⟨fun _ => ⟨ok, Nat.zero_le _, fun q h => (by cases h), rfl⟩, fun h => (by cases h), fun h => (by cases h), fun h => (by cases h)⟩, ?_⟩
          show 1 + 4 + (h.2.rd.length - 0) ≤ 8
          have : h.2.rd.length ≤ 3 := ok.n
          omega
        · rw [if_neg e]
          exact base
    refine ⟨⟨o.hd, o.ne, o.se, o.oe, nd_pt o.nt, fun m hm => ?_, fun m hm => ?_, fun m t r hm hr => ?_, o.rl⟩, ?_⟩
    · rcases mem_ks_pt.mp hm with rfl | hm
      · exact c1
      · exact o.st m hm
    · rcases mem_ks_pt.mp hm with rfl | hm
      · exact c2
      · exact o.dj m hm
    · have hm : lk (pt s.tk n (freshM made s.ly n)) m = some t := hm
      rw [lk_pt] at hm
      by_cases e : m = n
      · rw [if_pos e] at hm
        cases hm
        exact (fr r).1
      · rw [if_neg e] at hm
        exact o.ot m t r hm hr
    · unfold phi
      show sumK (pt s.tk n (freshM made s.ly n)) + _ ≤ _
      rw [sum_new c3]
      obtain ⟨r, _⟩ := made_lk c1
      have h8 := (fr r).2
      have fl := filter_less (p := freeN s) (q := freeN { s with tk := pt s.tk n (freshM made s.ly n) }) (n := n) (l := ks made) (fun x hx => by
          unfold freeN at hx ⊢
          rw [Bool.and_eq_true] at hx ⊢
          refine ⟨hx.1, ?_⟩
          have h2 := hx.2
          simp only [Bool.not_eq_true', decide_eq_false_iff_not] at h2 ⊢
          exact fun h => h2 (mem_ks_pt.mpr (.inr h))) c1 (by
          unfold freeN
          rw [decide_eq_false c2, decide_eq_false c3]
          rfl) (by
          unfold freeN
          rw [decide_eq_true (mem_ks_pt.mpr (.inl rfl) : n ∈ ks (pt s.tk n (freshM made s.ly n)))]
          simp)
      omega
theorem closes_ok (bo : BkOk ns told made) (o : OkSm ns told made s) {t : Tk} (ht : lk s.tk n = some t) {w : Str} {l : Line} (hl : OkLn l) : OkSm ns told made (closesM made n w l s) ∧ phi made (closesM made n w l s) + muT t ≤ phi made s := by
  have hn : n ∈ ks s.tk := lk_ks.mp (by rw [ht]; rfl)
  have hm := o.st n hn
  refine ⟨⟨o.hd.put hl (bo.sm n hm), nd_pt o.ne, fun m h => ?_, fun q hq => ?_, nd_dr o.nt, fun m h => ?_, fun m h => ?_, fun m t' r h hr => ?_, ?_⟩, ?_⟩
  · rcases mem_ks_pt.mp h with rfl | h
    · exact hm
    · exact o.se m h
  · rcases pt_mem hq with hq | rfl
    · exact o.oe q hq
    · exact hl.e
  · exact o.st m (mem_ks_dr.mp h).2
  · have h' := mem_ks_dr.mp h
    intro z
    rcases mem_ks_pt.mp z with z | z
    · exact h'.1 z
    · exact o.dj m h'.2 z
  · have h : lk (dr s.tk n) m = some t' := h
    rw [lk_dr] at h
    by_cases e : m = n
    · rw [if_pos e] at h
      cases h
    · rw [if_neg e] at h
      exact o.ot m t' r h hr
  · show (s.rw ++ [(w, n)]).length ≤ (pt s.en n l.en).length
    rw [pt_new (o.dj n hn), List.length_append, List.length_append]
    exact Nat.succ_le_succ o.rl
  · unfold phi
    show sumK (dr s.tk n) + _ + _ ≤ _
    have sd := sum_dr o.nt ht
    have e : (ks made).filter (freeN (closesM made n w l s)) = (ks made).filter (freeN s) := by
      refine List.filter_congr fun x _ => ?_
      unfold freeN
      show (!decide (x ∈ ks (pt s.en n l.en)) && !decide (x ∈ ks (dr s.tk n))) = _
      by_cases ex : x = n
      · subst ex
        rw [decide_eq_true (mem_ks_pt.mpr (.inl rfl) : x ∈ ks (pt s.en x l.en)), decide_eq_true hn]
        simp
      · have a1 : (x ∈ ks (pt s.en n l.en)) ↔ x ∈ ks s.en := ⟨fun h => (mem_ks_pt.mp h).resolve_left ex, fun h => mem_ks_pt.mpr (.inr h)⟩
        have a2 : (x ∈ ks (dr s.tk n)) ↔ x ∈ ks s.tk := ⟨fun h => (mem_ks_dr.mp h).2, fun h => mem_ks_dr.mpr ⟨ex, h⟩⟩
        rw [decide_eq_decide.mpr a1, decide_eq_decide.mpr a2]
    rw [e]
    omega
theorem set_ok (o : OkSm ns told made s) {t t' : Tk} (ht : lk s.tk n = some t) (h : ∀ r, lk made n = some r → OkTk r t') : OkSm ns told made (setM n t' s) ∧ phi made (setM n t' s) + muT t = phi made s + muT t' := by
  have hn : n ∈ ks s.tk := lk_ks.mp (by rw [ht]; rfl)
  have hk : ks (pt s.tk n t') = ks s.tk := ks_pt_in hn
  refine ⟨⟨o.hd, o.ne, o.se, o.oe, nd_pt o.nt, fun m h => o.st m (by rw [← hk]; exact h), fun m h => o.dj m (by rw [← hk]; exact h), fun m t2 r h2 hr => ?_, o.rl⟩, ?_⟩
  · have h2 : lk (pt s.tk n t') m = some t2 := h2
    rw [lk_pt] at h2
    by_cases e : m = n
    · rw [if_pos e] at h2
      cases h2
      subst e
      exact h r hr
    · rw [if_neg e] at h2
      exact o.ot m t2 r h2 hr
  · unfold phi
    show sumK (pt s.tk n t') + _ + _ = _
    have sp := sum_pt (t' := t') o.nt ht
    have e : (ks made).filter (freeN (setM n t' s)) = (ks made).filter (freeN s) := by
      refine List.filter_congr fun x _ => ?_
      unfold freeN
      show (!decide (x ∈ ks s.en) && !decide (x ∈ ks (pt s.tk n t'))) = _
      rw [hk]
    rw [e]
    omega
theorem round_sm (bo : BkOk ns told made) (o : OkSm ns told made s) : OkSm ns told made (roundM made n s) ∧ phi made (roundM made n s) ≤ phi made s := by
  unfold roundM
  cases q : lk s.tk n with
  | none => exact ⟨o, Nat.le_refl _⟩
  | some t =>
    obtain ⟨r, hr⟩ := made_lk (o.st n (lk_ks.mp (by rw [q]; rfl)))
    obtain ⟨a, b⟩ := closes_ok bo o q (w := (roundT n t).1) (round_ok (n := n) (made_ok bo hr) (o.ot n t r q hr))
    exact ⟨a, by show phi made (closesM made n (roundT n t).1 (roundT n t).2 s) ≤ _; omega⟩
theorem rings_ok (bo : BkOk ns told made) (o : OkSm ns told made s) : OkSm ns told made (ringsM made s) ∧ phi made (ringsM made s) ≤ phi made s := by
  have fold : ∀ (l : List Str) (s : Sm), OkSm ns told made s → OkSm ns told made (l.foldl (fun s n => roundM made n s) s) ∧ phi made (l.foldl (fun s n => roundM made n s) s) ≤ phi made s := by
    intro l
    induction l with
    | nil => exact fun s o => ⟨o, Nat.le_refl _⟩
    | cons x l ih =>
      intro s o
      obtain ⟨a, b⟩ := round_sm (n := x) bo o
      obtain ⟨c, d⟩ := ih _ a
      exact ⟨c, Nat.le_trans d b⟩
  unfold ringsM
  by_cases c : ableM made s = []
  · rw [if_pos c]
    exact fold _ s o
  · rw [if_neg c]
    exact ⟨o, Nat.le_refl _⟩
theorem after_ok (bo : BkOk ns told made) (o : OkSm ns told made s) {t : Tk} {r : Rc} (q : lk s.tk n = some t) (hr : lk made n = some r) : OkSm ns told made (afterM made n (stepT told s.en n r t) s) ∧ phi made (afterM made n (stepT told s.en n r t) s) < phi made s := by
  have ok := made_ok bo hr
  have st := step_ok (told := told) (en := s.en) (n := n) ok (o.ot n t r q hr) (now_ok bo o)
  cases q2 : stepT told s.en n r t with
  | shut w l =>
    rw [q2] at st
    obtain ⟨a, b⟩ := closes_ok bo o q (w := w) st
    refine ⟨a, ?_⟩
    have hmu : 0 < muT t := by
      have o1 := o.ot n t r q hr
      unfold muT
      by_cases hl : t.look = true
      · rw [if_pos hl]
        omega
      · rw [if_neg hl]
        have hl' : t.look = false := by simpa using hl
        cases hw : t.wt with
        | none => rw [if_pos rfl]; decide
        | some z =>
          rw [if_neg (fun e => by cases e)]
          obtain ⟨f1, f2, f3, f4⟩ := (o1.fit hl').out ok
          have w := o1.wait hl' z hw
          by_cases c : t.py = true
          · rw [if_pos c] at w
            have := (f4 z w).1
            omega
          · rw [if_neg c] at w
            have := (f3 z w).1
            omega
    show phi made (closesM made n w l s) < _
    omega
  | on t' =>
    rw [q2] at st
    obtain ⟨s1, _, s3⟩ := st
    obtain ⟨a, b⟩ := set_ok o q (t' := t') fun r' hr' => by
      rw [hr] at hr'
      cases hr'
      exact s1
    obtain ⟨c, d⟩ := opens_ok (n := t'.wt.getD "") bo a
    refine ⟨c, ?_⟩
    show phi made (opensM made (t'.wt.getD "") (setM n t' s)) < _
    omega
theorem moves_ok (bo : BkOk ns told made) (o : OkSm ns told made s) (hn : n ∈ ks s.tk) : OkSm ns told made (movesM told made n s) ∧ phi made (movesM told made n s) < phi made s := by
  have ht := lk_ks.mpr hn
  cases q : lk s.tk n with
  | none => rw [q] at ht; cases ht
  | some t =>
    obtain ⟨r, hr⟩ := made_lk (o.st n hn)
    have mid := after_ok bo o q hr
    unfold movesM
    rw [q, hr]
    show OkSm ns told made (ringsM made (afterM made n (stepT told s.en n r t) s)) ∧ _
    obtain ⟨a, b⟩ := rings_ok bo mid.1
    exact ⟨a, Nat.lt_of_le_of_lt b mid.2⟩
end
end Wk
namespace Wk
open PySem PySem.Spec PyProof.Rows L2 SX
/-! ### what a world holds, law's or weave's -/
/-- from footprint l to footprint l' -/
structure Stp (l l' : List Addr) (H H' : Hp) : Prop where
  f : Fr l H H'
  s : ∀ a ∈ l', a ∈ l ∨ H a = none
theorem Stp.refl (l : List Addr) (H : Hp) : Stp l l H H := ⟨Fr.refl l H, fun a h => .inl h⟩
theorem Stp.trans {l l1 l2 : List Addr} {H H1 H2 : Hp} (a : Stp l l1 H H1) (b : Stp l1 l2 H1 H2) : Stp l l2 H H2 :=
  ⟨a.f.trans b.f a.s, fun x h => by
    rcases b.s x h with h | h
    · exact a.s x h
    · by_cases m : x ∈ l
      · exact .inl m
      · refine .inr ?_
        cases q : H x with
        | none => rfl
        | some o =>
          rw [a.f.k x o q m] at h
          cases h⟩
theorem Stp.ex {l : List Addr} {H H' : Hp} (e : Ex H H') : Stp l l H H' := ⟨Fr.ex e, fun a h => .inl h⟩
theorem Stp.up {l l' : List Addr} {H H1 H2 : Hp} (a : Stp l l' H H1) (e : Ex H1 H2) : Stp l l' H H2 := a.trans (.ex e)
theorem Stp.keep {l l' : List Addr} {H H1 : Hp} {p : Addr} {o : HO} (a : Stp l l' H H1) (h : H p = some o) (m : p ∉ l) : H1 p = some o := a.f.k p o h m
/-- what is known and beside l stays beside l' -/
theorem Stp.out {l l' : List Addr} {H H1 : Hp} {p : Addr} {o : HO} (a : Stp l l' H H1) (h : H p = some o) (m : p ∉ l) : p ∉ l' := fun z => by
  rcases a.s p z with z | z
  · exact m z
  · rw [z] at h
    cases h
def encRow (q : Str × Str) : PyData := .tuple [.str q.1, .str q.2]
theorem immRows (qs : List (Str × Str)) : immAll (qs.map encRow) = true := by
  induction qs with
  | nil => rfl
  | cons q qs ih =>
    show (true && immAll (qs.map encRow)) = true
    rw [ih]
    rfl
/-- a way to lay out tasks -/
structure Lay where
  A : Type
  ref : A → Addr
  fp : A → List Addr
  tr : Hp → Str → A → Tk → Prop
  fr : ∀ {H H' : Hp} {n : Str} {a : A} {t : Tk}, tr H n a t → (∀ x ∈ fp a, ∀ o, H x = some o → H' x = some o) → Tu H H' → tr H' n a t
  al : ∀ {H : Hp} {n : Str} {a : A} {t : Tk}, tr H n a t → ∀ x ∈ fp a, H x ≠ none
structure Wa where
  la : Addr
  ea : Addr
  ka : Addr
  ra : Addr
def tfp (Y : Lay) (ad : As Y.A) : List Addr := ad.flatMap fun p => Y.fp p.2
def fpW (Y : Lay) (w : Wa) (ad : As Y.A) : List Addr := w.la :: w.ea :: w.ka :: w.ra :: tfp Y ad
structure Core (K : PySem.W.Frag) (Y : Lay) (w : Wa) (ad : As Y.A) (H : Hp) (s : Sm) : Prop where
  ly : DT K H w.la encHd s.ly
  en : DT K H w.ea encE s.en
  tk : H w.ka = some (.dK (ad.map fun p => ((Sum.inr p.1 : Key), V.ref (Y.ref p.2))))
  kk : ks ad = ks s.tk
  tr : ∀ n a t, lk ad n = some a → lk s.tk n = some t → Y.tr H n a t
  rw : ∃ vals, H w.ra = some (.lst vals) ∧ DpAll K H vals (s.rw.map encRow)
  nd : (fpW Y w ad).Nodup
  kd : (ks ad).Nodup
section
variable {K : PySem.W.Frag} {Y : Lay} {w : Wa} {ad : As Y.A} {H H' : Hp} {s : Sm} {n : Str}
theorem tfp_mem {x : Addr} : x ∈ tfp Y ad ↔ ∃ p ∈ ad, x ∈ Y.fp p.2 := by
  unfold tfp
  rw [List.mem_flatMap]
theorem tfp_of {a : Y.A} (h : lk ad n = some a) {x : Addr} (hx : x ∈ Y.fp a) : x ∈ tfp Y ad := tfp_mem.mpr ⟨(n, a), lk_mem h, hx⟩
theorem Core.nd4 (c : Core K Y w ad H s) : w.la ≠ w.ea ∧ w.la ≠ w.ka ∧ w.la ≠ w.ra ∧ w.ea ≠ w.ka ∧ w.ea ≠ w.ra ∧ w.ka ≠ w.ra ∧ w.la ∉ tfp Y ad ∧ w.ea ∉ tfp Y ad ∧ w.ka ∉ tfp Y ad ∧ w.ra ∉ tfp Y ad := by
  have h := c.nd
  unfold fpW at h
  have h1 := List.nodup_cons.mp h
  have h2 := List.nodup_cons.mp h1.2
  have h3 := List.nodup_cons.mp h2.2
  have h4 := List.nodup_cons.mp h3.2
  refine ⟨fun z => h1.1 (by rw [z]; simp), fun z => h1.1 (by rw [z]; simp), fun z => h1.1 (by rw [z]; simp), fun z => h2.1 (by rw [z]; simp), fun z => h2.1 (by rw [z]; simp), fun z => h3.1 (by rw [z]; simp), fun z => h1.1 (by simp [z]), fun z => h2.1 (by simp [z]), fun z => h3.1 (by simp [z]), h4.1⟩
/-- nothing of the world was touched -/
theorem Core.up (c : Core K Y w ad H s) (k : ∀ x ∈ fpW Y w ad, ∀ o, H x = some o → H' x = some o) (t : Tu H H') : Core K Y w ad H' s := by
  refine ⟨c.ly.tu t (k _ (by simp [fpW])) fun p _ => immHd p.2, c.en.tu t (k _ (by simp [fpW])) fun p _ => immE' p.2, k _ (by simp [fpW]) _ c.tk, c.kk, fun n a tt h1 h2 => Y.fr (c.tr n a tt h1 h2) (fun x hx o ho => k x ?_ o ho) t, ?_, c.nd, c.kd⟩
  · unfold fpW
    have := tfp_of h1 hx
    simp [this]
  · obtain ⟨vals, h1, h2⟩ := c.rw
    exact ⟨vals, k _ (by simp [fpW]) _ h1, DpAll.tu t _ _ (immRows _) h2⟩
theorem Core.ex (c : Core K Y w ad H s) (e : Ex H H') : Core K Y w ad H' s := c.up (fun x _ o h => e x o h) (Same.tu e)
/-- beside a step of another world -/
theorem Core.beside {l l' : List Addr} (c : Core K Y w ad H s) (a : Stp l l' H H') (h : ∀ x ∈ fpW Y w ad, x ∉ l) : Core K Y w ad H' s := c.up (fun x hx o ho => a.f.k x o ho (h x hx)) a.f.t
theorem Core.alloc (c : Core K Y w ad H s) : ∀ x ∈ fpW Y w ad, H x ≠ none := by
  intro x hx
  unfold fpW at hx
  have ex : ∀ {o : HO}, H x = some o → H x ≠ none := fun h z => by rw [h] at z; cases z
  rcases List.mem_cons.mp hx with rfl | hx
  · obtain ⟨_, h, _⟩ := c.ly
    exact ex h
  rcases List.mem_cons.mp hx with rfl | hx
  · obtain ⟨_, h, _⟩ := c.en
    exact ex h
  rcases List.mem_cons.mp hx with rfl | hx
  · exact ex c.tk
  rcases List.mem_cons.mp hx with rfl | hx
  · obtain ⟨_, h, _⟩ := c.rw
    exact ex h
  · obtain ⟨p, hp, hx⟩ := tfp_mem.mp hx
    have h1 := lk_of_mem c.kd hp
    have h2 : (lk s.tk p.1).isSome = true := lk_ks.mpr (by rw [← c.kk]; exact lk_ks.mp (by rw [h1]; rfl))
    cases q : lk s.tk p.1 with
    | none => rw [q] at h2; cases h2
    | some t => exact Y.al (c.tr p.1 p.2 t h1 q) x hx
theorem Core.task (c : Core K Y w ad H s) {t : Tk} (h : lk s.tk n = some t) : ∃ a, lk ad n = some a ∧ Y.tr H n a t := by
  have h2 : (lk ad n).isSome = true := lk_ks.mpr (by rw [c.kk]; exact lk_ks.mp (by rw [h]; rfl))
  cases q : lk ad n with
  | none => rw [q] at h2; cases h2
  | some a => exact ⟨a, rfl, c.tr n a t q h⟩
theorem valV_ad {ad : As Y.A} : valV (ad.map fun p => ((Sum.inr p.1 : Key), V.ref (Y.ref p.2))) (Sum.inr n : Key) = (lk ad n).map fun a => V.ref (Y.ref a) := by
  induction ad with
  | nil => rfl
  | cons p ad ih =>
    rw [List.map_cons]
    by_cases e : p.1 = n
    · rw [valV_pos (by show Sum.inr p.1 = Sum.inr n; rw [e]), lk_pos e]
      rfl
    · rw [valV_neg (by show ¬ Sum.inr p.1 = Sum.inr n; intro z; exact e (by injection z)), lk_neg e, ih]
theorem Core.get (c : Core K Y w ad H s) {a : Y.A} (h : lk ad n = some a) : DGet H w.ka (.str n) (some (.ref (Y.ref a))) := by
  have := DGet.k (k := Sum.inr n) c.tk
  rw [valV_ad, h] at this
  exact this
theorem Core.has (c : Core K Y w ad H s) : DGet H w.ka (.str n) ((lk ad n).map fun a => V.ref (Y.ref a)) := by
  have := DGet.k (k := Sum.inr n) c.tk
  rw [valV_ad] at this
  exact this
theorem lk_kk (c : Core K Y w ad H s) : (lk ad n).isSome = (lk s.tk n).isSome := by
  rw [Bool.eq_iff_iff, lk_ks, lk_ks, c.kk]
theorem dr_ks {α : Type} {l : As α} : ks (dr l n) = (ks l).filter fun m => decide (m ≠ n) := by
  unfold ks dr
  rw [List.filter_map]
  rfl
theorem ks_pt {α β : Type} {l : As α} {m : As β} {a : α} {b : β} (h : ks l = ks m) : ks (pt l n a) = ks (pt m n b) := by
  by_cases e : n ∈ ks l
  · rw [ks_pt_in e, ks_pt_in (by rw [← h]; exact e), h]
  · rw [ks_pt_new e, ks_pt_new (by rw [← h]; exact e), h]
/-- two tasks share nothing -/
theorem tfp_apart : ∀ {ad : As Y.A} {n m : Str} {a b : Y.A}, (tfp Y ad).Nodup → lk ad n = some a → lk ad m = some b → n ≠ m → ∀ x ∈ Y.fp a, x ∉ Y.fp b
  | [], _, _, _, _, _, h, _, _ => by cases h
  | p :: ad, n, m, a, b, hd, hn, hm, ne => by
    have hd : (Y.fp p.2 ++ tfp Y ad).Nodup := by
      unfold tfp at hd
      rw [List.flatMap_cons] at hd
      exact hd
    obtain ⟨h1, h2, h3⟩ := List.nodup_append.mp hd
    intro x hx hx2
    by_cases e : p.1 = n
    · rw [lk_pos e] at hn
      cases hn
      rw [lk_neg fun z => ne (e.symm.trans z)] at hm
      exact h3 x hx x (tfp_of hm hx2) rfl
    · rw [lk_neg e] at hn
      by_cases e2 : p.1 = m
      · rw [lk_pos e2] at hm
        cases hm
        exact h3 x hx2 x (tfp_of hn hx) rfl
      · rw [lk_neg e2] at hm
        exact tfp_apart h2 hn hm ne x hx hx2
theorem tfp_dr_sub {x : Addr} (h : x ∈ tfp Y (dr ad n)) : x ∈ tfp Y ad := by
  obtain ⟨p, hp, hx⟩ := tfp_mem.mp h
  exact tfp_mem.mpr ⟨p, dr_mem hp, hx⟩
theorem tfp_dr_nd : ∀ {ad : As Y.A}, (tfp Y ad).Nodup → (tfp Y (dr ad n)).Nodup
  | [], h => h
  | p :: ad, h => by
    have h : (Y.fp p.2 ++ tfp Y ad).Nodup := by
      unfold tfp at h
      rw [List.flatMap_cons] at h
      exact h
    obtain ⟨h1, h2, h3⟩ := List.nodup_append.mp h
    have ih := tfp_dr_nd h2
    by_cases e : p.1 = n
    · have e2 : dr (p :: ad) n = dr ad n := by
        show List.filter _ (p :: ad) = _
        rw [List.filter_cons, if_neg (by simp [e])]
        rfl
      rw [e2]
      exact ih
    · have e2 : dr (p :: ad) n = p :: dr ad n := by
        show List.filter _ (p :: ad) = _
        rw [List.filter_cons, if_pos (by simp [e])]
        rfl
      rw [e2]
      show (List.flatMap _ _).Nodup
      rw [List.flatMap_cons]
      exact List.nodup_append.mpr ⟨h1, ih, fun a ha b hb => h3 a ha b (tfp_dr_sub hb)⟩
theorem tfp_nd_one : ∀ {ad : As Y.A} {n : Str} {a : Y.A}, (tfp Y ad).Nodup → lk ad n = some a → (Y.fp a).Nodup
  | [], _, _, _, h => by cases h
  | p :: ad, n, a, hd, h => by
    have hd : (Y.fp p.2 ++ tfp Y ad).Nodup := by
      unfold tfp at hd
      rw [List.flatMap_cons] at hd
      exact hd
    obtain ⟨h1, h2, h3⟩ := List.nodup_append.mp hd
    by_cases e : p.1 = n
    · rw [lk_pos e] at h
      cases h
      exact h1
    · rw [lk_neg e] at h
      exact tfp_nd_one h2 h
theorem map_none {α : Type} {l : As α} {n : Str} {a' : α} (h : n ∉ ks l) : l.map (fun p => if p.1 = n then (p.1, a') else p) = l := by
  refine (List.map_congr_left fun p hp => ?_).trans (List.map_id l)
  have : ¬ p.1 = n := fun e => h (e ▸ List.mem_map.mpr ⟨p, hp, rfl⟩)
  rw [if_neg this]
  rfl
theorem tfp_map : ∀ {ad : As Y.A} {n : Str} {a a' : Y.A}, (ks ad).Nodup → (tfp Y ad).Nodup → lk ad n = some a → (Y.fp a').Nodup → (∀ x ∈ Y.fp a', x ∈ Y.fp a ∨ x ∉ tfp Y ad) →
    (tfp Y (ad.map fun p => if p.1 = n then (p.1, a') else p)).Nodup ∧ ∀ x ∈ tfp Y (ad.map fun p => if p.1 = n then (p.1, a') else p), x ∈ Y.fp a' ∨ x ∈ tfp Y ad
  | [], _, _, _, _, _, h, _, _ => by cases h
  | p :: ad, n, a, a', hk, hd, h, hn, hs => by
    have hk' := List.nodup_cons.mp (show (p.1 :: ks ad).Nodup from hk)
    have hd0 : (Y.fp p.2 ++ tfp Y ad).Nodup := by
      unfold tfp at hd
      rw [List.flatMap_cons] at hd
      exact hd
    obtain ⟨h1, h2, h3⟩ := List.nodup_append.mp hd0
    have hc : ∀ q : Str × Y.A, ∀ l : As Y.A, tfp Y (q :: l) = Y.fp q.2 ++ tfp Y l := fun q l => by
      unfold tfp
      rw [List.flatMap_cons]
    rw [List.map_cons]
    by_cases e : p.1 = n
    · rw [lk_pos e] at h
      cases h
      rw [if_pos e, map_none (e ▸ hk'.1), hc]
      refine ⟨List.nodup_append.mpr ⟨hn, h2, fun x hx y hy z => ?_⟩, fun x hx => ?_⟩
      · subst z
        rcases hs x hx with q | q
        · exact h3 x q x hy rfl
        · exact q (by rw [hc]; exact List.mem_append_right _ hy)
      · rcases List.mem_append.mp hx with hx | hx
        · exact .inl hx
        · exact .inr (by rw [hc]; exact List.mem_append_right _ hx)
    · rw [lk_neg e] at h
      obtain ⟨i1, i2⟩ := tfp_map hk'.2 h2 h hn fun x hx => by
        rcases hs x hx with q | q
        · exact .inl q
        · exact .inr fun z => q (by rw [hc]; exact List.mem_append_right _ z)
      rw [if_neg e, hc]
      refine ⟨List.nodup_append.mpr ⟨h1, i1, fun x hx y hy z => ?_⟩, fun x hx => ?_⟩
      · subst z
        rcases i2 x hy with q | q
        · rcases hs x q with q | q
          · exact h3 x hx x (tfp_of h q) rfl
          · exact q (by rw [hc]; exact List.mem_append_left _ hx)
        · exact h3 x hx x q rfl
      · rcases List.mem_append.mp hx with hx | hx
        · exact .inr (by rw [hc]; exact List.mem_append_left _ hx)
        · rcases i2 x hx with q | q
          · exact .inl q
          · exact .inr (by rw [hc]; exact List.mem_append_right _ q)
theorem ref_map : ∀ {ad : As Y.A} {n : Str} {a a' : Y.A}, (ks ad).Nodup → lk ad n = some a → Y.ref a' = Y.ref a → (ad.map fun p => if p.1 = n then (p.1, a') else p).map (fun p => ((Sum.inr p.1 : Key), V.ref (Y.ref p.2))) = ad.map fun p => ((Sum.inr p.1 : Key), V.ref (Y.ref p.2))
  | [], _, _, _, _, h, _ => by cases h
  | p :: ad, n, a, a', hk, h, hr => by
    have hk' := List.nodup_cons.mp (show (p.1 :: ks ad).Nodup from hk)
    by_cases e : p.1 = n
    · rw [lk_pos e] at h
      cases h
      rw [List.map_cons, if_pos e, map_none (e ▸ hk'.1), List.map_cons, List.map_cons, hr]
    · rw [lk_neg e] at h
      rw [List.map_cons, if_neg e, List.map_cons, List.map_cons, ref_map hk'.2 h hr]
/-- a task changes, its place stays -/
theorem Core.setA (c : Core K Y w ad H s) {a a' : Y.A} {t t' : Tk} (ha : lk ad n = some a) (hs : lk s.tk n = some t) (f : Fr (Y.fp a) H H') (hr : Y.ref a' = Y.ref a) (hn : (Y.fp a').Nodup) (hsub : ∀ x ∈ Y.fp a', x ∈ Y.fp a ∨ H x = none) (ht : Y.tr H' n a' t') :
    Core K Y w (pt ad n a') H' (setM n t' s) ∧ Stp (fpW Y w ad) (fpW Y w (pt ad n a')) H H' := by
  have nd := c.nd
  have h4 := c.nd4
  have al := c.alloc
  have hk : n ∈ ks ad := lk_ks.mp (by rw [ha]; rfl)
  have tnd : (tfp Y ad).Nodup := (List.nodup_append.mp (show ([w.la, w.ea, w.ka, w.ra] ++ tfp Y ad).Nodup from nd)).2.1
  have sub' : ∀ x ∈ Y.fp a', x ∈ Y.fp a ∨ x ∉ fpW Y w ad := fun x hx => (hsub x hx).imp id fun z q => al x q z
  obtain ⟨m1, m2⟩ := tfp_map c.kd tnd ha hn fun x hx => (sub' x hx).imp id fun z q => z (by unfold fpW; simp [q])
  rw [pt_old hk]
  have inT : ∀ x ∈ tfp Y (ad.map fun p => if p.1 = n then (p.1, a') else p), x ∈ tfp Y ad ∨ H x = none := fun x hx => by
    rcases m2 x hx with q | q
    · rcases hsub x q with q | q
      · exact .inl (tfp_of ha q)
      · exact .inr q
    · exact .inl q
  have keep : ∀ x ∈ fpW Y w ad, x ∉ Y.fp a → ∀ o, H x = some o → H' x = some o := fun x _ hx o ho => f.k x o ho hx
  have four : ∀ x, x ∉ tfp Y ad → x ∉ Y.fp a := fun x h z => h (tfp_of ha z)
  refine ⟨⟨c.ly.tu f.t (fun o ho => f.k _ o ho (four _ h4.2.2.2.2.2.2.1)) fun p _ => immHd p.2, c.en.tu f.t (fun o ho => f.k _ o ho (four _ h4.2.2.2.2.2.2.2.1)) fun p _ => immE' p.2, ?_, ?_, fun m b u h1 h2 => ?_, ?_, ?_, ?_⟩, ⟨f.sub fun x hx => .inl (by have := tfp_of ha hx; unfold fpW; simp [this]), fun x hx => ?_⟩⟩
  · rw [ref_map c.kd ha hr]
    exact f.k _ _ c.tk (four _ h4.2.2.2.2.2.2.2.2.1)
  · rw [← pt_old (a := a') hk]
    exact ks_pt c.kk
  · rw [← pt_old (a := a') hk, lk_pt] at h1
    have h2 : lk (pt s.tk n t') m = some u := h2
    rw [lk_pt] at h2
    by_cases e : m = n
    · rw [if_pos e] at h1 h2
      cases h1
      cases h2
      rw [e]
      exact ht
    · rw [if_neg e] at h1 h2
      exact Y.fr (c.tr m b u h1 h2) (fun x hx o ho => f.k x o ho (tfp_apart tnd h1 ha e x hx)) f.t
  · obtain ⟨vals, h1, h2⟩ := c.rw
    exact ⟨vals, f.k _ _ h1 (four _ h4.2.2.2.2.2.2.2.2.2), DpAll.tu f.t _ _ (immRows _) h2⟩
  · show ([w.la, w.ea, w.ka, w.ra] ++ tfp Y _).Nodup
    obtain ⟨q1, q2, q3⟩ := List.nodup_append.mp (show ([w.la, w.ea, w.ka, w.ra] ++ tfp Y ad).Nodup from nd)
    refine List.nodup_append.mpr ⟨q1, m1, fun x hx y hy z => ?_⟩
    subst z
    rcases inT x hy with q | q
    · exact q3 x hx x q rfl
    · exact al x (List.mem_append_left _ hx : x ∈ [w.la, w.ea, w.ka, w.ra] ++ tfp Y ad) q
  · rw [← pt_old (a := a') hk]
    exact nd_pt c.kd
  · have hx : x ∈ [w.la, w.ea, w.ka, w.ra] ++ tfp Y (ad.map fun p => if p.1 = n then (p.1, a') else p) := hx
    rcases List.mem_append.mp hx with q | q
    · exact .inl (List.mem_append_left _ q : x ∈ [w.la, w.ea, w.ka, w.ra] ++ tfp Y ad)
    · rcases inT x q with q | q
      · exact .inl (List.mem_append_right _ q : x ∈ [w.la, w.ea, w.ka, w.ra] ++ tfp Y ad)
      · exact .inr q
theorem mem_fpW {x : Addr} : x ∈ fpW Y w ad ↔ x = w.la ∨ x = w.ea ∨ x = w.ka ∨ x = w.ra ∨ x ∈ tfp Y ad := by
  unfold fpW
  simp
/-- one object of the four is written -/
theorem Core.pop (c : Core K Y w ad H s) : Core K Y w (dr ad n) (upd H w.ka (.dK (dropK (ad.map fun p => ((Sum.inr p.1 : Key), V.ref (Y.ref p.2))) (Sum.inr n)))) { s with tk := dr s.tk n } ∧
    Stp (fpW Y w ad) (fpW Y w (dr ad n)) H (upd H w.ka (.dK (dropK (ad.map fun p => ((Sum.inr p.1 : Key), V.ref (Y.ref p.2))) (Sum.inr n)))) := by
  obtain ⟨n1, n2, n3, n4, n5, n6, n7, n8, n9, n10⟩ := c.nd4
  have t : Tu H (upd H w.ka (.dK (dropK (ad.map fun p => ((Sum.inr p.1 : Key), V.ref (Y.ref p.2))) (Sum.inr n)))) := Tu.mut c.tk
  have k : ∀ x o, x ≠ w.ka → H x = some o → (upd H w.ka (.dK (dropK (ad.map fun p => ((Sum.inr p.1 : Key), V.ref (Y.ref p.2))) (Sum.inr n)))) x = some o := fun x o ne h => by
    rw [upd_ne ne]
    exact h
  have tnd : (tfp Y ad).Nodup := (List.nodup_append.mp (show ([w.la, w.ea, w.ka, w.ra] ++ tfp Y ad).Nodup from c.nd)).2.1
  refine ⟨⟨c.ly.tu t (k _ · n2) fun p _ => immHd p.2, c.en.tu t (k _ · n4) fun p _ => immE' p.2, ?_, ?_, fun m b u h1 h2 => ?_, ?_, ?_, nd_dr c.kd⟩, ⟨(Fr.mut c.tk).sub fun x hx => .inl ?_, fun x hx => .inl ?_⟩⟩
  · rw [upd_same]
    congr 2
    unfold dropK dr
    rw [List.filter_map]
    congr 1
    refine List.filter_congr fun p _ => ?_
    show decide ((Sum.inr p.1 : Key) ≠ Sum.inr n) = decide (p.1 ≠ n)
    refine decide_eq_decide.mpr ⟨fun h z => h (by rw [z]), fun h z => h (by injection z)⟩
  · show ks (dr ad n) = ks (dr s.tk n)
    rw [dr_ks, dr_ks, c.kk]
  · have h2 : lk (dr s.tk n) m = some u := h2
    rw [lk_dr] at h1 h2
    by_cases e : m = n
    · rw [if_pos e] at h1
      cases h1
    · rw [if_neg e] at h1 h2
      exact Y.fr (c.tr m b u h1 h2) (fun x hx o ho => k x o (fun z => n9 (by rw [← z]; exact tfp_of h1 hx)) ho) t
  · obtain ⟨vals, h1, h2⟩ := c.rw
    exact ⟨vals, k _ _ (fun z => n6 z.symm) h1, DpAll.tu t _ _ (immRows _) h2⟩
  · show ([w.la, w.ea, w.ka, w.ra] ++ tfp Y _).Nodup
    obtain ⟨q1, q2, q3⟩ := List.nodup_append.mp (show ([w.la, w.ea, w.ka, w.ra] ++ tfp Y ad).Nodup from c.nd)
    exact List.nodup_append.mpr ⟨q1, tfp_dr_nd q2, fun x hx y hy => q3 x hx y (tfp_dr_sub hy)⟩
  · rw [List.mem_singleton.mp hx]
    exact mem_fpW.mpr (by simp)
  · rcases mem_fpW.mp hx with q | q | q | q | q
    · exact mem_fpW.mpr (.inl q)
    · exact mem_fpW.mpr (.inr (.inl q))
    · exact mem_fpW.mpr (.inr (.inr (.inl q)))
    · exact mem_fpW.mpr (.inr (.inr (.inr (.inl q))))
    · exact mem_fpW.mpr (.inr (.inr (.inr (.inr (tfp_dr_sub q)))))
theorem Core.putE (c : Core K Y w ad H s) {ke : List (Key × V)} (hk : H w.ea = some (.dK ke)) (dk : DRel (fun v e => Dp K H v (encE e)) ke s.en) {v : V} {e : EndM} (hv : Dp K H v (encE e)) :
    Core K Y w ad (upd H w.ea (.dK (putK ke (Sum.inr n) v))) { s with en := pt s.en n e } ∧ Stp (fpW Y w ad) (fpW Y w ad) H (upd H w.ea (.dK (putK ke (Sum.inr n) v))) := by
  obtain ⟨n1, n2, n3, n4, n5, n6, n7, n8, n9, n10⟩ := c.nd4
  have t : Tu H (upd H w.ea (.dK (putK ke (Sum.inr n) v))) := Tu.mut hk
  have k : ∀ x o, x ≠ w.ea → H x = some o → (upd H w.ea (.dK (putK ke (Sum.inr n) v))) x = some o := fun x o ne h => by
    rw [upd_ne ne]
    exact h
  refine ⟨⟨c.ly.tu t (k _ · n1) fun p _ => immHd p.2, DT.put hk dk (fun p _ => immE' p.2) hv (immE' e), k _ _ (fun z => n4 z.symm) c.tk, c.kk, fun m b u h1 h2 => Y.fr (c.tr m b u h1 h2) (fun x hx o ho => k x o (fun z => n8 (by rw [← z]; exact tfp_of h1 hx)) ho) t, ?_, c.nd, c.kd⟩, ⟨(Fr.mut hk).sub fun x hx => .inl ?_, fun x hx => .inl hx⟩⟩
  · obtain ⟨vals, h1, h2⟩ := c.rw
    exact ⟨vals, k _ _ (fun z => n5 z.symm) h1, DpAll.tu t _ _ (immRows _) h2⟩
  · rw [List.mem_singleton.mp hx]
    exact mem_fpW.mpr (by simp)
theorem Core.putL (c : Core K Y w ad H s) {kl : List (Key × V)} (hk : H w.la = some (.dK kl)) (dk : DRel (fun v e => Dp K H v (encHd e)) kl s.ly) {v : V} {e : Hd} (hv : Dp K H v (encHd e)) :
    Core K Y w ad (upd H w.la (.dK (putK kl (Sum.inr n) v))) { s with ly := pt s.ly n e } ∧ Stp (fpW Y w ad) (fpW Y w ad) H (upd H w.la (.dK (putK kl (Sum.inr n) v))) := by
  obtain ⟨n1, n2, n3, n4, n5, n6, n7, n8, n9, n10⟩ := c.nd4
  have t : Tu H (upd H w.la (.dK (putK kl (Sum.inr n) v))) := Tu.mut hk
  have k : ∀ x o, x ≠ w.la → H x = some o → (upd H w.la (.dK (putK kl (Sum.inr n) v))) x = some o := fun x o ne h => by
    rw [upd_ne ne]
    exact h
  refine ⟨⟨DT.put hk dk (fun p _ => immHd p.2) hv (immHd e), c.en.tu t (k _ · fun z => n1 z.symm) fun p _ => immE' p.2, k _ _ (fun z => n2 z.symm) c.tk, c.kk, fun m b u h1 h2 => Y.fr (c.tr m b u h1 h2) (fun x hx o ho => k x o (fun z => n7 (by rw [← z]; exact tfp_of h1 hx)) ho) t, ?_, c.nd, c.kd⟩, ⟨(Fr.mut hk).sub fun x hx => .inl ?_, fun x hx => .inl hx⟩⟩
  · obtain ⟨vals, h1, h2⟩ := c.rw
    exact ⟨vals, k _ _ (fun z => n3 z.symm) h1, DpAll.tu t _ _ (immRows _) h2⟩
  · rw [List.mem_singleton.mp hx]
    exact mem_fpW.mpr (by simp)
theorem Core.addR (c : Core K Y w ad H s) {vals : List V} (hk : H w.ra = some (.lst vals)) (dk : DpAll K H vals (s.rw.map encRow)) {v : V} {q : Str × Str} (hv : Dp K H v (encRow q)) :
    Core K Y w ad (upd H w.ra (.lst (vals ++ [v]))) { s with rw := s.rw ++ [q] } ∧ Stp (fpW Y w ad) (fpW Y w ad) H (upd H w.ra (.lst (vals ++ [v]))) := by
  obtain ⟨n1, n2, n3, n4, n5, n6, n7, n8, n9, n10⟩ := c.nd4
  have t : Tu H (upd H w.ra (.lst (vals ++ [v]))) := Tu.mut hk
  have k : ∀ x o, x ≠ w.ra → H x = some o → (upd H w.ra (.lst (vals ++ [v]))) x = some o := fun x o ne h => by
    rw [upd_ne ne]
    exact h
  refine ⟨⟨c.ly.tu t (k _ · n3) fun p _ => immHd p.2, c.en.tu t (k _ · n5) fun p _ => immE' p.2, k _ _ n6 c.tk, c.kk, fun m b u h1 h2 => Y.fr (c.tr m b u h1 h2) (fun x hx o ho => k x o (fun z => n10 (by rw [← z]; exact tfp_of h1 hx)) ho) t, ⟨_, upd_same, ?_⟩, c.nd, c.kd⟩, ⟨(Fr.mut hk).sub fun x hx => .inl ?_, fun x hx => .inl hx⟩⟩
  · show DpAll K _ (vals ++ [v]) ((s.rw ++ [q]).map encRow)
    rw [List.map_append]
    exact (DpAll.tu t _ _ (immRows _) dk).append (.one (Dp.tu t _ _ (show imm (encRow q) = true from rfl) hv))
  · rw [List.mem_singleton.mp hx]
    exact mem_fpW.mpr (by simp)
theorem Core.new (c : Core K Y w ad H s) {a : Y.A} {t : Tk} (hn : n ∉ ks ad) (ht : Y.tr H n a t) (hf : (Y.fp a).Nodup) (hd : ∀ x ∈ Y.fp a, x ∉ fpW Y w ad) :
    Core K Y w (pt ad n a) (upd H w.ka (.dK (putK (ad.map fun p => ((Sum.inr p.1 : Key), V.ref (Y.ref p.2))) (Sum.inr n) (.ref (Y.ref a))))) { s with tk := pt s.tk n t } ∧
    Fr (fpW Y w ad) H (upd H w.ka (.dK (putK (ad.map fun p => ((Sum.inr p.1 : Key), V.ref (Y.ref p.2))) (Sum.inr n) (.ref (Y.ref a))))) ∧ ∀ x ∈ fpW Y w (pt ad n a), x ∈ fpW Y w ad ∨ x ∈ Y.fp a := by
  obtain ⟨n1, n2, n3, n4, n5, n6, n7, n8, n9, n10⟩ := c.nd4
  have tt : Tu H (upd H w.ka (.dK (putK (ad.map fun p => ((Sum.inr p.1 : Key), V.ref (Y.ref p.2))) (Sum.inr n) (.ref (Y.ref a))))) := Tu.mut c.tk
  have k : ∀ x o, x ≠ w.ka → H x = some o → (upd H w.ka (.dK (putK (ad.map fun p => ((Sum.inr p.1 : Key), V.ref (Y.ref p.2))) (Sum.inr n) (.ref (Y.ref a))))) x = some o := fun x o ne h => by
    rw [upd_ne ne]
    exact h
  have hns : n ∉ ks s.tk := by rw [← c.kk]; exact hn
  have etf : tfp Y (pt ad n a) = tfp Y ad ++ Y.fp a := by
    rw [pt_new hn]
    unfold tfp
    rw [List.flatMap_append]
    simp
  have nka : ∀ x ∈ Y.fp a, x ≠ w.ka := fun x hx z => hd x hx (mem_fpW.mpr (by simp [z]))
  refine ⟨⟨c.ly.tu tt (k _ · n2) fun p _ => immHd p.2, c.en.tu tt (k _ · n4) fun p _ => immE' p.2, ?_, ks_pt c.kk, fun m b u h1 h2 => ?_, ?_, ?_, nd_pt c.kd⟩, (Fr.mut c.tk).sub fun x hx => .inl ?_, fun x hx => ?_⟩
  · rw [upd_same, pt_new hn, List.map_append, putK_new]
    · rfl
    · rw [valV_ad, lk_none.mpr hn]
      rfl
  · have h2 : lk (pt s.tk n t) m = some u := h2
    rw [lk_pt] at h1 h2
    by_cases e : m = n
    · rw [if_pos e] at h1 h2
      cases h1
      cases h2
      rw [e]
      exact Y.fr ht (fun x hx o ho => k x o (nka x hx) ho) tt
    · rw [if_neg e] at h1 h2
      exact Y.fr (c.tr m b u h1 h2) (fun x hx o ho => k x o (fun z => n9 (by rw [← z]; exact tfp_of h1 hx)) ho) tt
  · obtain ⟨vals, h1, h2⟩ := c.rw
    exact ⟨vals, k _ _ (fun z => n6 z.symm) h1, DpAll.tu tt _ _ (immRows _) h2⟩
  · show ([w.la, w.ea, w.ka, w.ra] ++ tfp Y _).Nodup
    rw [etf, ← List.append_assoc]
    exact List.nodup_append.mpr ⟨c.nd, hf, fun x hx y hy z => hd y hy (z ▸ hx)⟩
  · rw [List.mem_singleton.mp hx]
    exact mem_fpW.mpr (by simp)
  · rcases mem_fpW.mp hx with q | q | q | q | q
    · exact .inl (mem_fpW.mpr (.inl q))
    · exact .inl (mem_fpW.mpr (.inr (.inl q)))
    · exact .inl (mem_fpW.mpr (.inr (.inr (.inl q))))
    · exact .inl (mem_fpW.mpr (.inr (.inr (.inr (.inl q)))))
    · rw [etf] at q
      rcases List.mem_append.mp q with q | q
      · exact .inl (mem_fpW.mpr (.inr (.inr (.inr (.inr q)))))
      · exact .inr q
end
end Wk
namespace Wk
open PySem PySem.Spec PyProof.Rows L2 SX
/-! ### the law's world -/
def optV : Option Str → V
  | none => .non
  | some z => .str z
def stS (b : Bool) : Str := if b = true then "look" else "do"
abbrev tkD (st : Str) (r p : Addr) (wt : V) (wy : Str) (lv : V) : List (Key × V) := [(Sum.inr "stage", .str st), (Sum.inr "reads", .ref r), (Sum.inr "peeks", .ref p), (Sum.inr "waits", wt), (Sum.inr "way", .str wy), (Sum.inr "line", lv)]
abbrev wdD (ba la ea ka ra : Addr) : List (Key × V) := [(Sum.inr "book", .ref ba), (Sum.inr "lying", .ref la), (Sum.inr "ends", .ref ea), (Sum.inr "tasks", .ref ka), (Sum.inr "rows", .ref ra)]
section
variable {st st' : Str} {r p r' p' : Addr} {wt wt' : V} {wy wy' : Str} {lv lv' : V} {ba la ea ka ra : Addr}
theorem tk_stage : valV (tkD st r p wt wy lv) (Sum.inr "stage") = some (.str st) := by rfl
theorem tk_reads : valV (tkD st r p wt wy lv) (Sum.inr "reads") = some (.ref r) := by rfl
theorem tk_peeks : valV (tkD st r p wt wy lv) (Sum.inr "peeks") = some (.ref p) := by rfl
theorem tk_waits : valV (tkD st r p wt wy lv) (Sum.inr "waits") = some wt := by rfl
theorem tk_way : valV (tkD st r p wt wy lv) (Sum.inr "way") = some (.str wy) := by rfl
theorem tk_line : valV (tkD st r p wt wy lv) (Sum.inr "line") = some lv := by rfl
theorem tp_stage : putK (tkD st r p wt wy lv) (Sum.inr "stage") (.str st') = tkD st' r p wt wy lv := by rfl
theorem tp_reads : putK (tkD st r p wt wy lv) (Sum.inr "reads") (.ref r') = tkD st r' p wt wy lv := by rfl
theorem tp_waits : putK (tkD st r p wt wy lv) (Sum.inr "waits") wt' = tkD st r p wt' wy lv := by rfl
theorem tp_way : putK (tkD st r p wt wy lv) (Sum.inr "way") (.str wy') = tkD st r p wt wy' lv := by rfl
theorem tp_line : putK (tkD st r p wt wy lv) (Sum.inr "line") lv' = tkD st r p wt wy lv' := by rfl
theorem wd_book : valV (wdD ba la ea ka ra) (Sum.inr "book") = some (.ref ba) := by rfl
theorem wd_lying : valV (wdD ba la ea ka ra) (Sum.inr "lying") = some (.ref la) := by rfl
theorem wd_ends : valV (wdD ba la ea ka ra) (Sum.inr "ends") = some (.ref ea) := by rfl
theorem wd_tasks : valV (wdD ba la ea ka ra) (Sum.inr "tasks") = some (.ref ka) := by rfl
theorem wd_rows : valV (wdD ba la ea ka ra) (Sum.inr "rows") = some (.ref ra) := by rfl
end
end Wk
namespace Wk
open PySem PySem.Spec PyProof.Rows L2 SX
structure TkW (K : PySem.W.Frag) (H : Hp) (a : Addr × Addr × Addr) (t : Tk) : Prop where
  ex : ∃ (lv : V) (wy : Str) (rv pv : List V), H a.1 = some (.dK (tkD (stS t.look) a.2.1 a.2.2 (optV t.wt) wy lv)) ∧ H a.2.1 = some (.lst rv) ∧ DpAll K H rv (t.rd.map encS) ∧ H a.2.2 = some (.lst pv) ∧ DpAll K H pv (t.pk.map encP) ∧ prOk t.pk ∧
    decide (V.str wy = V.str "peeks") = t.py ∧ (t.look = true → Dp K H lv (encLn t.ln))
def YL (K : PySem.W.Frag) : Lay where
  A := Addr × Addr × Addr
  ref a := a.1
  fp a := [a.1, a.2.1, a.2.2]
  tr H n a t := TkW K H a t
  fr h k t := by
    obtain ⟨lv, wy, rv, pv, h1, h2, h3, h4, h5, h6, h7, h8⟩ := h.ex
    exact ⟨lv, wy, rv, pv, k _ (by simp) _ h1, k _ (by simp) _ h2, DpAll.tu t _ _ (immSs _) h3, k _ (by simp) _ h4, DpAll.tu t _ _ (immPs h6) h5, h6, h7, fun z => Dp.tu t _ _ (immLn _) (h8 z)⟩
  al h x hx := by
    obtain ⟨lv, wy, rv, pv, h1, h2, h3, h4, h5, h6, h7, h8⟩ := h.ex
    have ex : ∀ {H : Hp} {x : Addr} {o : HO}, H x = some o → H x ≠ none := fun h z => by rw [h] at z; cases z
    rcases List.mem_cons.mp hx with rfl | hx
    · exact ex h1
    rcases List.mem_cons.mp hx with rfl | hx
    · exact ex h2
    rcases List.mem_cons.mp hx with rfl | hx
    · exact ex h4
    · cases hx
/-- where the law's world lies -/
structure Pl where
  wa : Addr
  ba : Addr
  ta : Addr
  ma : Addr
  w : Wa
structure LW (K : PySem.W.Frag) (p : Pl) (ad : As (YL K).A) (ns : List Str) (told : As PyData) (made : As Rc) (H : Hp) (s : Sm) : Prop where
  hw : H p.wa = some (.dK (wdD p.ba p.w.la p.w.ea p.w.ka p.w.ra))
  bk : Bk K H p.ba p.ta p.ma told made
  bo : BkOk ns told made
  co : Core K (YL K) p.w ad H s
  dw : p.wa ∉ fpW (YL K) p.w ad
  dt : p.ta ∉ fpW (YL K) p.w ad
  dm : p.ma ∉ fpW (YL K) p.w ad
section
variable {K : PySem.W.Frag} {p : Pl} {ad ad' : As (YL K).A} {ns : List Str} {told : As PyData} {made : As Rc} {H H' : Hp} {s s' : Sm}
theorem Bk.keep {b t m : Addr} (bk : Bk K H b t m told made) (bo : BkOk ns told made) (k : ∀ x, (x = t ∨ x = m) → ∀ o, H x = some o → H' x = some o) (tt : Tu H H') : Bk K H' b t m told made :=
  ⟨tt.1 _ _ bk.p, bk.t.tu tt (k _ (.inl rfl)) fun q hq => imm_vp (bo.ov q hq), bk.m.tu tt (k _ (.inr rfl)) fun q hq => immR (okR_wf (bo.orr q hq)).1⟩
theorem Bk.tne {b t m : Addr} (bk : Bk K H b t m told made) : (∃ o, H t = some o) ∧ ∃ o, H m = some o := by
  obtain ⟨_, h1, _⟩ := bk.t
  obtain ⟨_, h2, _⟩ := bk.m
  exact ⟨⟨_, h1⟩, ⟨_, h2⟩⟩
/-- a step within the world -/
theorem LW.step (l : LW K p ad ns told made H s) (a : Stp (fpW (YL K) p.w ad) (fpW (YL K) p.w ad') H H') (c : Core K (YL K) p.w ad' H' s') : LW K p ad' ns told made H' s' := by
  obtain ⟨⟨o1, h1⟩, ⟨o2, h2⟩⟩ := l.bk.tne
  refine ⟨a.keep l.hw l.dw, l.bk.keep l.bo (fun x hx o ho => ?_) a.f.t, l.bo, c, a.out l.hw l.dw, a.out h1 l.dt, a.out h2 l.dm⟩
  rcases hx with rfl | rfl
  · exact a.keep ho l.dt
  · exact a.keep ho l.dm
theorem LW.ex (l : LW K p ad ns told made H s) (e : Ex H H') : LW K p ad ns told made H' s := l.step (.ex e) (l.co.ex e)
theorem LW.g_book (l : LW K p ad ns told made H s) : DGet H p.wa (.str "book") (some (.ref p.ba)) := by
  have := DGet.k (k := Sum.inr "book") l.hw
  rw [wd_book] at this
  exact this
theorem LW.g_lying (l : LW K p ad ns told made H s) : DGet H p.wa (.str "lying") (some (.ref p.w.la)) := by
  have := DGet.k (k := Sum.inr "lying") l.hw
  rw [wd_lying] at this
  exact this
theorem LW.g_ends (l : LW K p ad ns told made H s) : DGet H p.wa (.str "ends") (some (.ref p.w.ea)) := by
  have := DGet.k (k := Sum.inr "ends") l.hw
  rw [wd_ends] at this
  exact this
theorem LW.g_tasks (l : LW K p ad ns told made H s) : DGet H p.wa (.str "tasks") (some (.ref p.w.ka)) := by
  have := DGet.k (k := Sum.inr "tasks") l.hw
  rw [wd_tasks] at this
  exact this
theorem LW.g_rows (l : LW K p ad ns told made H s) : DGet H p.wa (.str "rows") (some (.ref p.w.ra)) := by
  have := DGet.k (k := Sum.inr "rows") l.hw
  rw [wd_rows] at this
  exact this
/-- a name in a table of data -/
theorem DT.has {a : Addr} {α : Type} {enc : α → PyData} {l : As α} (h : DT K H a enc l) (n : Str) : ∃ o, DGet H a (.str n) o ∧ o.isSome = (lk l n).isSome ∧ ((lk l n = none ∧ o = none) ∨ ∃ v x, o = some v ∧ lk l n = some x ∧ Dp K H v (enc x)) := by
  obtain ⟨kvs, h1, h2⟩ := h
  refine ⟨_, DGet.k (k := Sum.inr n) h1, h2.isSome n, ?_⟩
  rcases h2.lk n with ⟨q1, q2⟩ | ⟨v, x, q1, q2, q3⟩
  · exact .inl ⟨q2, q1⟩
  · exact .inr ⟨v, x, q1, q2, q3⟩
theorem DT.isd {a : Addr} {α : Type} {enc : α → PyData} {l : As α} (h : DT K H a enc l) : IsD H a := by
  obtain ⟨kvs, h1, _⟩ := h
  exact .inl ⟨kvs, .inl h1⟩
end
def vOpt : Option PyData → V
  | some d => .str (stampS d)
  | none => .non
def spNow (K : PySem.W.Frag) : Sp := fun vs H Q _ => ∃ ba ta ma ea told made ns en n, vs = [.ref ba, .ref ea, .str n] ∧ Bk K H ba ta ma told made ∧ BkOk ns told made ∧ DT K H ea encE en ∧ ∀ H', Ex H H' → Q (vOpt (nowM told en n)) H'
def spOpens (K : PySem.W.Frag) : Sp := fun vs H Q _ => ∃ p ad ns told made s n, vs = [.ref p.wa, .str n] ∧ LW K p ad ns told made H s ∧ s.tk.length ≤ 1000 ∧
  ∀ ad' H', Stp (fpW (YL K) p.w ad) (fpW (YL K) p.w ad') H H' → LW K p ad' ns told made H' (opensM made n s) → Q .non H'
section
variable {P : Program} {w : World} {K : PySem.W.Frag} {mg : Str → Option Value} {base : Heap}
theorem c_law_now (W : Wld K mg) : Cal P w K mg base 6 "_law_now" (spNow K) := by
  have c_law_stamp : Cal P w K mg base 5 "_law_stamp" _ := c_law_stamp W 5
  refine cal_of W.d_law_now sc_law_now (fun vs H Q E h => ?_) (fun f cdv A outer s H vs Q E hr h => ?_)
  · obtain ⟨ba, ta, ma, ea, told, made, ns, en, n, rfl, _⟩ := h
    rfl
  obtain ⟨ba, ta, ma, ea, told, made, ns, en, n, rfl, bk, bo, de, k⟩ := h
  have hu := hu_of hr
  refine ⟨_, (pss_cons (ps_if (pt_cmp (pc_din hu (pv 2) (pe_ix ix_tup (pv 0) pe_int (fun _ _ => rfl))) (by rfl)) (pss_one (ps_ret (pe_cl c_law_stamp hr (by omega) (by rfl) (pa_cons (pe_dget hu (pe_ix ix_tup (pv 0) pe_int (fun _ _ => rfl)) (pv 2) (fun _ _ => rfl)) pa_nil)))) pss_nil)
    (pss_cons (ps_set (i := 3) sc_law_now.nd rfl (Or.inl rfl) (pe_dget1 hu (pv 1) (pv 2) ⟨rfl, rfl, rfl, rfl⟩))
    (pss_cons (ps_if (PW.pt (pw_and (pt_cmpR op_notN (pv 3) pe_non (nomark _)) (pw_and1 (pt_cmpR op_eq (pe_ix ix_T (pv 3) pe_int (fun _ _ => rfl)) pe_str (nomark _))))) (pss_one (ps_ret (pe_ix ix_T (pv 3) pe_int (fun _ _ => rfl)))) pss_nil)
    (pss_one (ps_ret pe_non))))), ?_⟩
  obtain ⟨ot, g1, g2, g3⟩ := bk.t.has n
  unfold nowM at k
  refine ⟨_, rfl, _, rfl, ba, _, _, _, rfl, rfl, SqT.of bk.p, atI_nat (j := 0) rfl, ta, _, rfl, g1, _, rfl, ?_⟩
  rcases g3 with ⟨q1, rfl⟩ | ⟨v, x, rfl, q1, q2⟩
  · rw [q1] at k
    refine iteF ?_
    obtain ⟨oe, e1, e2, e3⟩ := de.has n
    refine ⟨_, rfl, _, rfl, de.isd, _, rfl, oe, e1, ?_⟩
    rcases e3 with ⟨q3, rfl⟩ | ⟨v, e, rfl, q3, q4⟩
    · rw [q3] at k
      exact ⟨_, rfl, rfl, _, rfl, iteF (k H (Same.refl _))⟩
    · rw [q3] at k
      obtain ⟨xa, xs, rfl, _, _⟩ : ∃ a xs, v = .ref a ∧ SqT K H a xs ∧ True := by
        cases e <;> (obtain ⟨a, xs, h1, h2, _⟩ := dp_tup q4; exact ⟨a, xs, h1, h2, trivial⟩)
      refine ⟨_, rfl, rfl, _, rfl, iteT ?_⟩
      cases e with
      | made v =>
        have q4 : Dp K H _ (.tuple [.str "made", .str (stampS v)]) := q4
        refine ⟨_, rfl, _, _, _, rfl, q4, atI_nat (j := 0) rfl, fun v0 hv0 => ?_⟩
        obtain rfl := dp_str hv0
        refine ⟨rfl, _, rfl, iteT ⟨_, rfl, _, _, _, rfl, q4, atI_nat (j := 1) rfl, fun v1 hv1 => ?_⟩⟩
        obtain rfl := dp_str hv1
        exact k H (Same.refl _)
      | fails z =>
        have q4 : Dp K H _ (.tuple [.str "fails", .str z]) := q4
        refine ⟨_, rfl, _, _, _, rfl, q4, atI_nat (j := 0) rfl, fun v0 hv0 => ?_⟩
        obtain rfl := dp_str hv0
        exact ⟨rfl, _, rfl, iteF (k H (Same.refl _))⟩
      | wants z =>
        have q4 : Dp K H _ (.tuple [.str "wants", .str z]) := q4
        refine ⟨_, rfl, _, _, _, rfl, q4, atI_nat (j := 0) rfl, fun v0 hv0 => ?_⟩
        obtain rfl := dp_str hv0
        exact ⟨rfl, _, rfl, iteF (k H (Same.refl _))⟩
  · rw [q1] at k
    refine iteT ⟨_, rfl, ba, _, _, _, rfl, rfl, SqT.of bk.p, atI_nat (j := 0) rfl, _, rfl, ta, v, rfl, g1, v, x, rfl, q2, okV_stamp (bo.ov _ (lk_mem q1)), fun y H1 e1 hy => ?_⟩
    obtain rfl := dp_str hy
    exact k H1 e1
end
end Wk
namespace Wk
open PySem PySem.Spec PyProof.Rows L2 SX
theorem isSome_f {α : Type} {l : As α} {n : Str} (h : lk l n = none) : n ∉ ks l := lk_none.mp h
theorem isSome_t {α : Type} {l : As α} {n : Str} {a : α} (h : lk l n = some a) : n ∈ ks l := lk_ks.mp (by rw [h]; rfl)
section
variable {P : Program} {w : World} {K : PySem.W.Frag} {mg : Str → Option Value} {base : Heap}
theorem c_law_opens (W : Wld K mg) : Cal P w K mg base 21 "_law_opens" (spOpens K) := by
  have c_show_recipe : Cal P w K mg base 20 "show_recipe" _ := c_show_recipe W
  refine cal_of W.d_law_opens sc_law_opens (fun vs H Q E h => ?_) (fun f cdv A outer s H vs Q E hr h => ?_)
  · obtain ⟨p, ad, ns, told, made, s, n, rfl, _⟩ := h
    rfl
  obtain ⟨p, ad, ns, told, made, sm, n, rfl, l, hsz, k⟩ := h
  have hu := hu_of hr
  refine ⟨_, (pss_cons (ps_if (PW.pt (pw_or (pt_cmp (pc_dnotin hu (pv 1) (pe_ix ix_tup (pe_dget hu (pv 0) pe_str (fun _ _ => rfl)) pe_int (fun _ _ => rfl))) (by rfl)) (pw_or (pt_cmp (pc_din hu (pv 1) (pe_dget hu (pv 0) pe_str (fun _ _ => rfl))) (by rfl)) (pw_or1 (pt_cmp (pc_din hu (pv 1) (pe_dget hu (pv 0) pe_str (fun _ _ => rfl))) (by rfl)))))) (pss_one ps_retN) pss_nil)
    (pss_cons (ps_set (i := 2) sc_law_opens.nd rfl (Or.inl rfl) (pe_dget1 hu (pe_dget hu (pv 0) pe_str (fun _ _ => rfl)) (pv 1) ⟨rfl, rfl, rfl, rfl⟩))
    (pss_cons (ps_set (i := 3) sc_law_opens.nd rfl (Or.inl rfl) (pe_disp (pps_cons pe_str pe_str (pps_cons pe_str (pe_lst pa_nil) (pps_cons pe_str (pe_lst pa_nil) (pps_cons pe_str pe_non (pps_cons pe_str pe_str (pps_cons pe_str pe_non pps_nil)))))) (by rfl) (by rfl) (fun z => by cases z) (by decide)))
    (C8.pss_cut (ps_if (PW.pt (pw_and (pt_cmpR op_notN (pv 2) pe_non (nomark _)) (pw_and1 (pt_cmpR op_eq (pe_ix ix_T (pv 2) pe_int (fun _ _ => rfl)) (pe_cl c_show_recipe hr (by omega) (by rfl) (pa_cons (pe_dget hu (pe_ix ix_tup (pe_dget hu (pv 0) pe_str (fun _ _ => rfl)) pe_int (fun _ _ => rfl)) (pv 1) (fun _ _ => rfl)) pa_nil)) (nomark _))))) (pss_cons (ps_dput hu (pv 3) pe_str pe_str rfl)
    (pss_one (ps_dput hu (pv 3) pe_str (pe_ix ix_T (pv 2) pe_int (fun _ _ => rfl)) rfl))) pss_nil)
    (pss_one (ps_dput hu (pe_dget hu (pv 0) pe_str (fun _ _ => rfl)) (pv 1) (pv 3) rfl)))))), ?_⟩
  obtain ⟨om, m1, m2, m3⟩ := l.bk.m.has n
  obtain ⟨oe, e1, e2, e3⟩ := l.co.en.has n
  have same : (n ∉ ks made ∨ n ∈ ks sm.en ∨ n ∈ ks sm.tk) → Q .non H := fun c => by
    have k := k ad H (Stp.refl _ _)
    unfold opensM at k
    rw [if_pos c] at k
    exact k l
  refine ⟨_, rfl, _, rfl, p.wa, .ref p.ba, rfl, l.g_book, p.ba, _, _, _, rfl, rfl, SqT.of l.bk.p, atI_nat (j := 1) rfl, p.ma, om, rfl, m1, _, rfl, ?_⟩
  rcases m3 with ⟨q1, rfl⟩ | ⟨rv, r, rfl, q1, q2⟩
  · exact iteT (same (.inl (isSome_f q1)))
  refine iteF ⟨_, rfl, _, rfl, p.wa, .ref p.w.ea, rfl, l.g_ends, p.w.ea, oe, rfl, e1, _, rfl, ?_⟩
  rcases e3 with ⟨q3, rfl⟩ | ⟨ev, e, rfl, q3, _⟩
  case inr => exact iteT (same (.inr (.inl (isSome_t q3))))
  refine iteF ⟨_, rfl, _, rfl, p.wa, .ref p.w.ka, rfl, l.g_tasks, p.w.ka, _, rfl, l.co.has, _, rfl, ?_⟩
  cases q4 : lk ad n with
  | some a => exact iteT (same (.inr (.inr (lk_ks.mp (by rw [← lk_kk l.co, q4]; rfl)))))
  | none =>
    have nt : n ∉ ks sm.tk := lk_none.mp (by
      have := lk_kk (n := n) l.co
      rw [q4] at this
      cases q : lk sm.tk n with
      | none => rfl
      | some x => rw [q] at this; cases this)
    have na : n ∉ ks ad := lk_none.mp q4
    refine iteF ?_
    have neg : ¬ (n ∉ ks made ∨ n ∈ ks sm.en ∨ n ∈ ks sm.tk) := fun c => by
      rcases c with c | c | c
      · exact c (isSome_t q1)
      · exact isSome_f q3 c
      · exact nt c
    unfold opensM at k
    rw [if_neg neg] at k
    obtain ⟨ol, g1, g2, g3⟩ := l.co.ly.has n
    refine ⟨_, rfl, p.wa, .ref p.w.la, rfl, l.g_lying, _, rfl, l.co.ly.isd, _, rfl, ol, g1, ?_⟩
    refine fun d hd => ?_
    generalize hh : upd H d _ = H1
    have x1 : Ex H H1 := hh ▸ Ex.new hd
    have h1 : H1 d = some (.dK []) := by rw [← hh]; exact upd_same
    clear hh
    refine ⟨Nat.zero_le _, fun r1 hr1 => ?_⟩
    generalize hh : upd H1 r1 _ = H2
    have x2 : Ex H1 H2 := hh ▸ Ex.new hr1
    have h2 : H2 r1 = some (.lst []) := by rw [← hh]; exact upd_same
    clear hh
    refine ⟨Nat.zero_le _, fun p1 hp1 => ?_⟩
    generalize hh : upd H2 p1 _ = H3
    have x3 : Ex H2 H3 := hh ▸ Ex.new hp1
    have h3 : H3 p1 = some (.lst []) := by rw [← hh]; exact upd_same
    clear hh
    have h3d : H3 d = some (.dK []) := (x2.trans x3) _ _ h1
    have h3r : H3 r1 = some (.lst []) := x3 _ _ h2
    refine ⟨h3d, tkD "do" r1 p1 .non "reads" .non, rfl, (show 6 ≤ 15 by decide), ?_⟩
    have x4 : Ex H (upd H3 d (.dK (tkD "do" r1 p1 .non "reads" .non))) := Ex.mut (x1.trans (x2.trans x3)) hd
    have h4 : (upd H3 d (.dK (tkD "do" r1 p1 .non "reads" .non))) d = some (.dK (tkD "do" r1 p1 .non "reads" .non)) := upd_same
    have ndr : d ≠ r1 := fun z => by rw [← z] at hr1; rw [hr1] at h1; cases h1
    have ndp : d ≠ p1 := fun z => by
      rw [← z] at hp1
      have := x2 _ _ h1
      rw [hp1] at this
      cases this
    have nrp : r1 ≠ p1 := fun z => by rw [← z] at hp1; rw [hp1] at h2; cases h2
    have h4r : (upd H3 d (.dK (tkD "do" r1 p1 .non "reads" .non))) r1 = some (.lst []) := by rw [upd_ne (fun z => ndr z.symm)]; exact h3r
    have h4p : (upd H3 d (.dK (tkD "do" r1 p1 .non "reads" .non))) p1 = some (.lst []) := by rw [upd_ne (fun z => ndp z.symm)]; exact h3
    generalize hh : upd H3 d _ = H4
    have x4 : Ex H H4 := hh ▸ x4
    have h4 : H4 d = some (.dK (tkD "do" r1 p1 .non "reads" .non)) := hh ▸ h4
    have h4r : H4 r1 = some (.lst []) := hh ▸ h4r
    have h4p : H4 p1 = some (.lst []) := hh ▸ h4p
    clear hh
    have hr1H : H r1 = none := x1.back hr1
    have hp1H : H p1 = none := (Ex.back (x1.trans x2) hp1)
    have nil' : prOk [] := fun q h => (by cases h)
    have base : TkW K H4 (d, r1, p1) ⟨false, noLine, [], [], none, false⟩ := ⟨.non, "reads", [], [], h4, h4r, .nil, h4p, .nil, nil', (by decide +kernel), fun h => by cases h⟩
    refine ⟨fun σ' H' => σ' = [some (.ref p.wa), some (.str n), some (ol.getD .non), some (.ref d)] ∧ Fr [d] H4 H' ∧ TkW K H' (d, r1, p1) (freshM made sm.ly n), ?_, ?_⟩
    · unfold freshM
      rw [q1]
      rcases g3 with ⟨q5, rfl⟩ | ⟨hv, hh, rfl, q5, q6⟩
      · rw [q5]
        exact ⟨_, rfl, rfl, _, rfl, iteF ⟨rfl, Fr.refl _ _, base⟩⟩
      · rw [q5]
        have q6' : Dp K H4 hv (.tuple [.str hh.1, encLn hh.2]) := q6.up x4
        obtain ⟨xa, xs, rfl, _, _⟩ := dp_tup q6'
        have l4 := l.ex x4
        obtain ⟨s1, s2, s3, s4⟩ := okR_show (l.bo.orr _ (lk_mem q1))
        obtain ⟨om', m1', _, m3'⟩ := l4.bk.m.has n
        refine ⟨_, rfl, rfl, _, rfl, iteT ⟨_, rfl, _, _, _, rfl, q6', atI_nat (j := 0) rfl, fun v0 hv0 => ?_⟩⟩
        obtain rfl := dp_str hv0
        rcases m3' with ⟨q7, _⟩ | ⟨rv', r', rfl, q7, q8⟩
        · rw [q1] at q7
          cases q7
        · rw [q1] at q7
          cases q7
          refine ⟨_, rfl, p.wa, .ref p.ba, rfl, l4.g_book, p.ba, _, _, _, rfl, rfl, SqT.of l4.bk.p, atI_nat (j := 1) rfl, _, rfl, p.ma, rv', rfl, m1', rv', r, rfl, q8, s1, s2, s3, s4, fun H5 x5 => ?_⟩
          refine ⟨rfl, _, rfl, ?_⟩
          rw [vstr_eq]
          show if decide (hh.1 = showR r) = true then _ else _
          have h5 := x5 _ _ h4
          refine iteD (fun c => ?_) (fun c => ?_)
          · have et : (if hh.1 = showR r then (⟨true, hh.2, [], [], none, false⟩ : Tk) else ⟨false, noLine, [], [], none, false⟩) = ⟨true, hh.2, [], [], none, false⟩ := if_pos c
            show (tSeq _ _ _ _ _ : Prop)
            have q65 := q6'.up x5
            refine ⟨_, rfl, d, _, rfl, DPut.k (k := Sum.inr "stage") (v := .str "look") h5 (szlt (show 6 < 100000 by decide)), ?_⟩
            rw [tp_stage]
            have h6 : (upd H5 d (.dK (tkD "look" r1 p1 .non "reads" .non))) d = some (.dK (tkD "look" r1 p1 .non "reads" .non)) := upd_same
            have q66 := Dp.tu (Tu.mut (o := .dK (tkD "look" r1 p1 .non "reads" .non)) h5) _ _ (immHd hh) q65
            have f6 : Fr [d] H4 (upd H5 d (.dK (tkD "look" r1 p1 .non "reads" .non))) := (Fr.ex x5).mutIn List.mem_cons_self h5
            generalize upd H5 d (.dK (tkD "look" r1 p1 .non "reads" .non)) = H6 at h6 q66 f6 ⊢
            refine ⟨_, rfl, _, _, _, rfl, q66, atI_nat (j := 1) rfl, fun v1 hv1 => ⟨_, rfl, d, _, rfl, DPut.k (k := Sum.inr "line") h6 (szlt (show 6 < 100000 by decide)), ?_⟩⟩
            rw [tp_line]
            have f7 : Fr [d] H4 (upd H6 d (.dK (tkD "look" r1 p1 .non "reads" v1))) := f6.mutIn List.mem_cons_self h6
            refine ⟨rfl, f7, ?_⟩
            show TkW K _ (d, r1, p1) (if hh.1 = showR r then (⟨true, hh.2, [], [], none, false⟩ : Tk) else ⟨false, noLine, [], [], none, false⟩)
            rw [et]
            refine ⟨v1, "reads", [], [], upd_same, f7.k _ _ h4r (fun z => ndr (List.mem_singleton.mp z).symm), .nil, f7.k _ _ h4p (fun z => ndp (List.mem_singleton.mp z).symm), .nil, nil', (show decide (V.str "reads" = V.str "peeks") = false by decide +kernel), fun _ => ?_⟩
            exact Dp.tu (Tu.mut (o := .dK (tkD "look" r1 p1 .non "reads" v1)) h6) _ _ (immLn _) hv1
          · refine ⟨rfl, Fr.ex x5, ?_⟩
            show TkW K _ (d, r1, p1) (if hh.1 = showR r then (⟨true, hh.2, [], [], none, false⟩ : Tk) else ⟨false, noLine, [], [], none, false⟩)
            rw [if_neg c]
            exact (YL K).fr (n := n) base (fun x _ o ho => x5 x o ho) (Same.tu x5)
    · rintro _ H5 ⟨rfl, f5, t5⟩
      have x5 : Ex H H5 := f5.toExN x4 fun a z => by rw [List.mem_singleton.mp z]; exact hd
      have l5 := l.ex x5
      have eal : ad.length = sm.tk.length := by
        have := congrArg List.length l.co.kk
        rw [ks_len, ks_len] at this
        exact this
      have al := l.co.alloc
      have fresh : ∀ x ∈ (YL K).fp (d, r1, p1), H x = none := fun x hx => by
        rcases List.mem_cons.mp hx with rfl | hx
        · exact hd
        rcases List.mem_cons.mp hx with rfl | hx
        · exact hr1H
        rcases List.mem_cons.mp hx with rfl | hx
        · exact hp1H
        · cases hx
      obtain ⟨c1, c2, c3⟩ := l5.co.new (a := ((d, r1, p1) : Addr × Addr × Addr)) (t := freshM made sm.ly n) na t5 (by
          show [d, r1, p1].Nodup
          simp [ndr, ndp, nrp]) (fun x hx z => al x z (fresh x hx))
      refine ⟨_, rfl, _, rfl, p.wa, .ref p.w.ka, rfl, l5.g_tasks, _, rfl, p.w.ka, _, rfl, DPut.k (k := Sum.inr n) l5.co.tk (szlt (by rw [List.length_map, eal]; omega)), ?_⟩
      have st : Stp (fpW (YL K) p.w ad) (fpW (YL K) p.w (pt ad n (d, r1, p1))) H _ := ⟨(Fr.ex x5).tr c2, fun x hx => (c3 x hx).imp id (fresh x)⟩
      exact k (pt ad n (d, r1, p1)) _ st (l.step st c1)
end
end Wk
namespace Wk
open PySem PySem.Spec PyProof.Rows L2 SX
def toS2 : PyData → PyData
  | .tuple [.str n, .str v] => .tuple [.str n, .str v]
  | _ => .none
theorem toS2_imm (d : PyData) : imm (toS2 d) = true := by
  unfold toS2
  split <;> rfl
theorem toS2_map (qs : List Pr) : (qs.map encS).map toS2 = qs.map encS := by
  rw [List.map_map]
  rfl
def spDid (K : PySem.W.Frag) : Sp := fun vs H Q _ => ∃ (a : Addr × Addr × Addr) (t : Tk) (n : Str) (v : V) (e : EndM), vs = [.ref a.1, .str n, v] ∧ TkW K H a t ∧ t.rd.length ≤ 1000 ∧ Dp K H v (encE e) ∧ ∀ x H', Ex H H' → Dp K H' x (encLn ⟨n, t.rd, e⟩) → Q x H'
def spCloses (K : PySem.W.Frag) : Sp := fun vs H Q _ => ∃ p ad ns told made s n w v l t, vs = [.ref p.wa, .str n, .str w, v] ∧ LW K p ad ns told made H s ∧ (s.en.length ≤ 1000 ∧ s.ly.length ≤ 1000 ∧ s.rw.length ≤ 1000) ∧ lk s.tk n = some t ∧ n ∈ ks made ∧ Dp K H v (encLn l) ∧
  ∀ ad' H', Stp (fpW (YL K) p.w ad) (fpW (YL K) p.w ad') H H' → LW K p ad' ns told made H' (closesM made n w l s) → Q .non H'
section
variable {P : Program} {w : World} {K : PySem.W.Frag} {mg : Str → Option Value} {base : Heap}
theorem TkW.g_reads {H : Hp} {a : Addr × Addr × Addr} {t : Tk} (h : TkW K H a t) : DGet H a.1 (.str "reads") (some (.ref a.2.1)) := by
  obtain ⟨lv, wy, rv, pv, h1, _⟩ := h.ex
  have := DGet.k (k := Sum.inr "reads") h1
  rw [tk_reads] at this
  exact this
theorem TkW.g_peeks {H : Hp} {a : Addr × Addr × Addr} {t : Tk} (h : TkW K H a t) : DGet H a.1 (.str "peeks") (some (.ref a.2.2)) := by
  obtain ⟨lv, wy, rv, pv, h1, _⟩ := h.ex
  have := DGet.k (k := Sum.inr "peeks") h1
  rw [tk_peeks] at this
  exact this
theorem TkW.g_waits {H : Hp} {a : Addr × Addr × Addr} {t : Tk} (h : TkW K H a t) : DGet H a.1 (.str "waits") (some (optV t.wt)) := by
  obtain ⟨lv, wy, rv, pv, h1, _⟩ := h.ex
  have := DGet.k (k := Sum.inr "waits") h1
  rw [tk_waits] at this
  exact this
theorem TkW.g_stage {H : Hp} {a : Addr × Addr × Addr} {t : Tk} (h : TkW K H a t) : DGet H a.1 (.str "stage") (some (.str (stS t.look))) := by
  obtain ⟨lv, wy, rv, pv, h1, _⟩ := h.ex
  have := DGet.k (k := Sum.inr "stage") h1
  rw [tk_stage] at this
  exact this
theorem TkW.g_way {H : Hp} {a : Addr × Addr × Addr} {t : Tk} (h : TkW K H a t) : ∃ wy, DGet H a.1 (.str "way") (some (.str wy)) ∧ decide (V.str wy = V.str "peeks") = t.py := by
  obtain ⟨lv, wy, rv, pv, h1, _, _, _, _, _, h7, _⟩ := h.ex
  have := DGet.k (k := Sum.inr "way") h1
  rw [tk_way] at this
  exact ⟨wy, this, h7⟩
theorem TkW.g_line {H : Hp} {a : Addr × Addr × Addr} {t : Tk} (h : TkW K H a t) (hl : t.look = true) : ∃ lv, DGet H a.1 (.str "line") (some lv) ∧ Dp K H lv (encLn t.ln) := by
  obtain ⟨lv, wy, rv, pv, h1, _, _, _, _, _, _, h8⟩ := h.ex
  have := DGet.k (k := Sum.inr "line") h1
  rw [tk_line] at this
  exact ⟨lv, this, h8 hl⟩
theorem TkW.reads {H : Hp} {a : Addr × Addr × Addr} {t : Tk} (h : TkW K H a t) : ∃ rv, H a.2.1 = some (.lst rv) ∧ DpAll K H rv (t.rd.map encS) := by
  obtain ⟨lv, wy, rv, pv, h1, h2, h3, _⟩ := h.ex
  exact ⟨rv, h2, h3⟩
theorem TkW.peeks {H : Hp} {a : Addr × Addr × Addr} {t : Tk} (h : TkW K H a t) : ∃ pv, H a.2.2 = some (.lst pv) ∧ DpAll K H pv (t.pk.map encP) ∧ prOk t.pk := by
  obtain ⟨lv, wy, rv, pv, h1, h2, h3, h4, h5, h6, _⟩ := h.ex
  exact ⟨pv, h4, h5, h6⟩
theorem TkW.up {H H' : Hp} {a : Addr × Addr × Addr} {t : Tk} (h : TkW K H a t) (e : Ex H H') : TkW K H' a t := (YL K).fr (n := "") h (fun x _ o ho => e x o ho) (Same.tu e)
theorem c_law_did (W : Wld K mg) : Cal P w K mg base 1 "_law_did" (spDid K) := by
  refine cal_of W.d_law_did sc_law_did (fun vs H Q E h => ?_) (fun f cdv A outer s H vs Q E hr h => ?_)
  · obtain ⟨a, t, n, v, e, rfl, _⟩ := h
    rfl
  obtain ⟨a, t, n, v, e, rfl, ht, hl, hv, k⟩ := h
  have hu := hu_of hr
  refine ⟨_, (pss_one (ps_ret (pe_tup (pa_cons (pv 1) (pa_cons (pe_callTy call_tuple_of (by rfl) W.f_tuple bt_tuple (pa_cons (pe_lc (own := [("_law_one", 3), ("_law_stamp_here", 4)]) (g := gTup K 2 (gCons (gName 3) (gCons (gName 4) (gNil)))) (tt := tYes) rfl sc_law_did.nd (pi_list (pe_dget hu (pv 0) pe_str (fun _ _ => rfl))) (blkOk_by (own := [("_law_one", 3), ("_law_stamp_here", 4)]) (N := N_law_did) (sc := defScope (top 74)) (by decide +kernel)) (fun _ _ _ _ _ => (pg_tup rfl (pgs_cons (pg_name (i := 3) sc_law_did.nd rfl (Or.inl rfl)) (pgs_cons (pg_name (i := 4) sc_law_did.nd rfl (Or.inl rfl)) pgs_nil)))) (fun _ _ _ _ _ => pts_nil) (fun _ _ _ _ _ => (pe_tup (pa_cons (pv 3) (pa_cons (pv 4) pa_nil))))) pa_nil)) (pa_cons (pv 2) pa_nil)))))), ?_⟩
  obtain ⟨rv, h2, h3⟩ := ht.reads
  refine ⟨_, rfl, _, rfl, a.1, _, rfl, ht.g_reads, a.2.1, rfl, ⟨_, SqL.of h2⟩, fun D hD => lcMap (K := K) (src_list (SqL.of h2)) h3 toS2 hD toS2_imm (by rw [List.length_map]; omega) ?_ ?_⟩
  · intro x' d' H' Q' hd hx' e' k'
    obtain ⟨q, hq, rfl⟩ := List.mem_map.mp hd
    obtain ⟨a, xs, rfl, hS, hX⟩ := dp_tup hx'
    cases hX with
    | cons hX1 hX2 =>
      cases hX2 with
      | cons hX2 hX3 =>
        cases hX3
        obtain rfl := dp_str hX1
        obtain rfl := dp_str hX2
        exact ⟨a, _, rfl, hS, rfl, _, _, rfl, _, _, rfl, rfl, rfl, _, rfl, _, rfl, (show 2 ≤ sizeLine by decide), fun p9 hp9 => k' _ _ (Ex.new hp9) (dp_newT hp9 (.cons (.str q.1) (.one (.str _))))⟩
  · intro H8 ys e8 h8 d8
    rw [toS2_map] at d8
    refine ⟨D, _, rfl, .inl ⟨SqL.of h8, fun l hl => ?_⟩⟩
    have d9 := dp_newT hl d8
    have e9 := Ex.new (o := .tup ys) hl
    generalize hh : upd H8 l _ = H9
    have d9 : Dp K H9 (.ref l) (.tuple (t.rd.map encS)) := hh ▸ d9
    have e9 : Ex H8 H9 := hh ▸ e9
    clear hh
    exact ⟨_, rfl, (show 3 ≤ sizeLine by decide), tup_new (K := K) (.cons (.str n) (.cons d9 (.one (hv.up (e8.trans e9))))) fun p10 H10 e10 h10 => k _ H10 ((e8.trans e9).trans e10) h10⟩
theorem c_law_closes (W : Wld K mg) : Cal P w K mg base 21 "_law_closes" (spCloses K) := by
  have c_show_recipe : Cal P w K mg base 20 "show_recipe" _ := c_show_recipe W
  refine cal_of W.d_law_closes sc_law_closes (fun vs H Q E h => ?_) (fun f cdv A outer s H vs Q E hr h => ?_)
  · obtain ⟨p, ad, ns, told, made, s, n, w, v, l, t, rfl, _⟩ := h
    rfl
  obtain ⟨p, ad, ns, told, made, sm, n, wd, v, ln, t, rfl, l, ⟨z1, z2, z3⟩, ht, hn, hv, k⟩ := h
  have hu := hu_of hr
  refine ⟨_, (pss_cons (ps_expr (pe_dpop1 (pe_dget hu (pv 0) pe_str (fun _ _ => rfl)) (pv 1) ⟨rfl, rfl, rfl, rfl⟩))
    (pss_cons (ps_dput hu (pe_dget hu (pv 0) pe_str (fun _ _ => rfl)) (pv 1) (pe_ix ix_T (pv 3) pe_int (fun _ _ => rfl)) rfl)
    (pss_cons (ps_dput hu (pe_dget hu (pv 0) pe_str (fun _ _ => rfl)) (pv 1) (pe_tup (pa_cons (pe_cl c_show_recipe hr (by omega) (by rfl) (pa_cons (pe_dget hu (pe_ix ix_tup (pe_dget hu (pv 0) pe_str (fun _ _ => rfl)) pe_int (fun _ _ => rfl)) (pv 1) (fun _ _ => rfl)) pa_nil)) (pa_cons (pv 3) pa_nil))) rfl)
    (pss_one (ps_expr (pe_bm PySem.F.plainAttrs_list PySem.F.slot_list_append PySem.F.type_list_append mt_append (pe_dget hu (pv 0) pe_str (fun _ _ => rfl)) (pa_cons (pe_tup (pa_cons (pv 2) (pa_cons (pv 1) pa_nil))) pa_nil))))))), ?_⟩
  obtain ⟨a, ha, _⟩ := l.co.task ht
  have vl : valV (ad.map fun p => ((Sum.inr p.1 : Key), V.ref ((YL K).ref p.2))) (Sum.inr n : Key) = some (.ref ((YL K).ref a)) := by
    rw [valV_ad, ha]
    rfl
  refine ⟨_, rfl, p.wa, .ref p.w.ka, rfl, l.g_tasks, p.w.ka, rfl, .inl ⟨_, .inl l.co.tk⟩, _, rfl, _, Sum.inr n, _, l.co.tk, rfl, vl, ?_⟩
  obtain ⟨c1, s1⟩ := l.co.pop (n := n)
  have l1 := l.step s1 c1
  have t1 := s1.f.t
  generalize upd H p.w.ka _ = H1 at c1 s1 l1 t1 ⊢
  have hv1 := Dp.tu t1 _ _ (immLn ln) hv
  refine ⟨_, rfl, _, _, _, rfl, hv1, atI_nat (j := 2) rfl, fun v1 hv2 => ?_⟩
  obtain ⟨ke, hke, dke⟩ := l1.co.en
  refine ⟨_, rfl, p.wa, .ref p.w.ea, rfl, l1.g_ends, _, rfl, p.w.ea, _, rfl, DPut.k (k := Sum.inr n) hke (szlt (by rw [dke.len]; exact Nat.lt_of_le_of_lt z1 (by decide))), ?_⟩
  obtain ⟨c2, s2⟩ := l1.co.putE (n := n) hke dke (e := ln.en) hv2
  have l2 := l1.step s2 c2
  have t2 := s2.f.t
  have hv3 := Dp.tu t2 _ _ (immLn ln) hv1
  generalize upd H1 p.w.ea _ = H2 at c2 s2 l2 t2 hv3 ⊢
  obtain ⟨om', m1', _, m3'⟩ := l2.bk.m.has n
  rcases m3' with ⟨q7, _⟩ | ⟨rv', r, rfl, q7, q8⟩
  · exact absurd hn (lk_none.mp q7)
  obtain ⟨w1, w2, w3, w4⟩ := okR_show (l.bo.orr _ (lk_mem q7))
  refine ⟨_, rfl, p.wa, .ref p.ba, rfl, l2.g_book, p.ba, _, _, _, rfl, rfl, SqT.of l2.bk.p, atI_nat (j := 1) rfl, _, rfl, p.ma, rv', rfl, m1', rv', r, rfl, q8, w1, w2, w3, w4, fun H3 x3 => ?_⟩
  refine ⟨_, rfl, (show 2 ≤ sizeLine by decide), fun p4 hp4 => ?_⟩
  have d4 := dp_newT hp4 (.cons (.str (showR r)) (.one (hv3.up x3)))
  have x4 := Ex.new (o := .tup [.str (showR r), v]) hp4
  generalize hh : upd H3 p4 _ = H4
  have d4 : Dp K H4 (.ref p4) (encHd (showR r, ln)) := hh ▸ d4
  have x4 : Ex H3 H4 := hh ▸ x4
  clear hh
  have l4 := l2.ex (x3.trans x4)
  obtain ⟨kl, hkl, dkl⟩ := l4.co.ly
  refine ⟨_, rfl, p.wa, .ref p.w.la, rfl, l4.g_lying, _, rfl, p.w.la, _, rfl, DPut.k (k := Sum.inr n) hkl (szlt (by rw [dkl.len]; exact Nat.lt_of_le_of_lt z2 (by decide))), ?_⟩
  obtain ⟨c5, s5⟩ := l4.co.putL (n := n) hkl dkl d4
  have l5 := l4.step s5 c5
  generalize upd H4 p.w.la _ = H5 at c5 s5 l5 ⊢
  obtain ⟨vals, hvr, dvr⟩ := l5.co.rw
  refine ⟨_, rfl, p.wa, .ref p.w.ra, rfl, l5.g_rows, .inl ⟨rfl, _, SqL.of hvr⟩, _, rfl, _, rfl, (show 2 ≤ sizeLine by decide), fun p6 hp6 => ?_⟩
  have d6 := dp_newT (K := K) hp6 (.cons (.str wd) (.one (.str n)))
  have x6 := Ex.new (o := .tup [.str wd, .str n]) hp6
  generalize hh : upd H5 p6 _ = H6
  have d6 : Dp K H6 (.ref p6) (encRow (wd, n)) := hh ▸ d6
  have x6 : Ex H5 H6 := hh ▸ x6
  clear hh
  have l6 := l5.ex x6
  have dvr6 := dvr.up x6
  refine ⟨p.w.ra, _, _, rfl, rfl, x6 _ _ hvr, szlt (by rw [dvr.length, List.length_map]; exact Nat.lt_of_le_of_lt z3 (by decide)), ?_⟩
  obtain ⟨c7, s7⟩ := l6.co.addR (x6 _ _ hvr) dvr6 d6
  have l7 := l6.step s7 c7
  have tx : textM made n = showR r := by
    unfold textM
    rw [q7]
  have kk := k (dr ad n) _ ((((((s1.trans s2).up x3).up x4).trans s5).up x6).trans s7)
  unfold closesM at kk
  rw [tx] at kk
  exact kk l7
end
end Wk
namespace Wk
open PySem PySem.Spec PyProof.Rows L2 SX
section
variable {K : PySem.W.Frag} {H : Hp} {a : Addr × Addr × Addr} {t : Tk}
/-- the task's dict, and what becomes of it when a field is set -/
theorem TkW.set (h : TkW K H a t) (nd : [a.1, a.2.1, a.2.2].Nodup) : ∃ kvs, H a.1 = some (.dK kvs) ∧ kvs.length < sizeLine ∧
    (∀ w', TkW K (upd H a.1 (.dK (putK kvs (Sum.inr "waits") (optV w')))) a { t with wt := w' }) ∧
    (∀ wy', TkW K (upd H a.1 (.dK (putK kvs (Sum.inr "way") (.str wy')))) a { t with py := decide (V.str wy' = V.str "peeks") }) ∧
    (TkW K (upd H a.1 (.dK (putK kvs (Sum.inr "stage") (.str "do")))) a { t with look := false }) ∧
    (∀ p rv, p ∉ [a.1, a.2.2] → H p = some (.lst rv) → rv = [] → TkW K (upd H a.1 (.dK (putK kvs (Sum.inr "reads") (.ref p)))) (a.1, p, a.2.2) { t with rd := [] }) := by
  obtain ⟨lv, wy, rv, pv, h1, h2, h3, h4, h5, h6, h7, h8⟩ := h.ex
  have n1 : a.2.1 ≠ a.1 := fun z => (List.nodup_cons.mp nd).1 (by rw [z]; simp)
  have n2 : a.2.2 ≠ a.1 := fun z => (List.nodup_cons.mp nd).1 (by rw [z]; simp)
  have key : ∀ (kvs' : List (Key × V)), (upd H a.1 (.dK kvs')) a.2.1 = some (.lst rv) ∧ DpAll K (upd H a.1 (.dK kvs')) rv (t.rd.map encS) ∧ (upd H a.1 (.dK kvs')) a.2.2 = some (.lst pv) ∧ DpAll K (upd H a.1 (.dK kvs')) pv (t.pk.map encP) ∧ (t.look = true → Dp K (upd H a.1 (.dK kvs')) lv (encLn t.ln)) := fun kvs' => by
    have tt : Tu H (upd H a.1 (.dK kvs')) := Tu.mut h1
    exact ⟨by rw [upd_ne n1]; exact h2, DpAll.tu tt _ _ (immSs _) h3, by rw [upd_ne n2]; exact h4, DpAll.tu tt _ _ (immPs h6) h5, fun z => Dp.tu tt _ _ (immLn _) (h8 z)⟩
  refine ⟨_, h1, szlt (show 6 < 100000 by decide), fun w' => ?_, fun wy' => ?_, ?_, fun p rv' hp hr he => ?_⟩
  · rw [tp_waits]
    obtain ⟨k1, k2, k3, k4, k5⟩ := key (tkD (stS t.look) a.2.1 a.2.2 (optV w') wy lv)
    exact ⟨lv, wy, rv, pv, upd_same, k1, k2, k3, k4, h6, h7, k5⟩
  · rw [tp_way]
    obtain ⟨k1, k2, k3, k4, k5⟩ := key (tkD (stS t.look) a.2.1 a.2.2 (optV t.wt) wy' lv)
    exact ⟨lv, wy', rv, pv, upd_same, k1, k2, k3, k4, h6, rfl, k5⟩
  · rw [tp_stage]
    obtain ⟨k1, k2, k3, k4, k5⟩ := key (tkD "do" a.2.1 a.2.2 (optV t.wt) wy lv)
    exact ⟨lv, wy, rv, pv, upd_same, k1, k2, k3, k4, h6, h7, fun z => by cases z⟩
  · rw [tp_reads]
    obtain ⟨k1, k2, k3, k4, k5⟩ := key (tkD (stS t.look) p a.2.2 (optV t.wt) wy lv)
    subst he
    refine ⟨lv, wy, [], pv, upd_same, ?_, .nil, k3, k4, h6, h7, k5⟩
    show (upd H a.1 _) p = _
    rw [upd_ne fun z => hp (by rw [z]; simp)]
    exact hr
theorem Fr.task {a : Addr × Addr × Addr} {o o' : HO} (h : H a.1 = some o') (m : mutO o' = true := by rfl) : Fr ((YL K).fp a) H (upd H a.1 o) := (Fr.mut h m).sub fun x hx => .inl (by rw [List.mem_singleton.mp hx]; exact List.mem_cons_self)
theorem task_nd {p : Pl} {ad : As (YL K).A} {ns : List Str} {told : As PyData} {made : As Rc} {s : Sm} {n : Str} {b : (YL K).A} (l : LW K p ad ns told made H s) (h : lk ad n = some b) : ([b.1, b.2.1, b.2.2] : List Addr).Nodup := tfp_nd_one (List.nodup_append.mp (show ([p.w.la, p.w.ea, p.w.ka, p.w.ra] ++ tfp (YL K) ad).Nodup from l.co.nd)).2.1 h
/-- the task is set in its place -/
theorem LW.set {p : Pl} {ad : As (YL K).A} {ns : List Str} {told : As PyData} {made : As Rc} {s : Sm} {n : Str} {b b' : (YL K).A} {H' : Hp} {t' : Tk} (l : LW K p ad ns told made H s) (h : lk ad n = some b) (ht : lk s.tk n = some t) (f : Fr ((YL K).fp b) H H') (hr : b'.1 = b.1) (nd : ([b'.1, b'.2.1, b'.2.2] : List Addr).Nodup) (hs : ∀ x ∈ (YL K).fp b', x ∈ (YL K).fp b ∨ H x = none) (tr : TkW K H' b' t') :
    Stp (fpW (YL K) p.w ad) (fpW (YL K) p.w (pt ad n b')) H H' ∧ LW K p (pt ad n b') ns told made H' (setM n t' s) := by
  obtain ⟨c, st⟩ := l.co.setA h ht f hr nd hs tr
  exact ⟨st, l.step st c⟩
theorem LW.set0 {p : Pl} {ad : As (YL K).A} {ns : List Str} {told : As PyData} {made : As Rc} {s : Sm} {n : Str} {b : (YL K).A} {H' : Hp} {t' : Tk} (l : LW K p ad ns told made H s) (h : lk ad n = some b) (ht : lk s.tk n = some t) (f : Fr ((YL K).fp b) H H') (tr : TkW K H' b t') :
    Stp (fpW (YL K) p.w ad) (fpW (YL K) p.w (pt ad n b)) H H' ∧ LW K p (pt ad n b) ns told made H' (setM n t' s) := l.set h ht f rfl (task_nd l h) (fun x hx => .inl hx) tr
end
abbrev Szs (s : Sm) : Prop := s.en.length ≤ 1000 ∧ s.ly.length ≤ 1000 ∧ s.rw.length ≤ 1000
def spGoes (K : PySem.W.Frag) : Sp := fun vs H Q _ => ∃ p ad ns told made s n t r, vs = [.ref p.wa, .str n] ∧ LW K p ad ns told made H s ∧ Szs s ∧ lk s.tk n = some t ∧ lk made n = some r ∧ MidT r t ∧
  ∀ ad' H', Stp (fpW (YL K) p.w ad) (fpW (YL K) p.w ad') H H' → LW K p ad' ns told made H' (appM made n (goT n r t) s) → Q .non H'
section
variable {P : Program} {w : World} {K : PySem.W.Frag} {mg : Str → Option Value} {base : Heap}
theorem c_law_goes (W : Wld K mg) : Cal P w K mg base 22 "_law_goes" (spGoes K) := by
  have c_law_closes : Cal P w K mg base 21 "_law_closes" _ := c_law_closes W
  have c_law_did : Cal P w K mg base 1 "_law_did" _ := c_law_did W
  have c_law_run : Cal P w K mg base 18 "_law_run" _ := c_law_run W
  have c_law_stamp : Cal P w K mg base 5 "_law_stamp" _ := c_law_stamp W 5
  have c_value_by : Cal P w K mg base 14 "value_by" _ := c_value_by W
  refine cal_of W.d_law_goes sc_law_goes (fun vs H Q E h => ?_) (fun f cdv A outer s H vs Q E hr h => ?_)
  · obtain ⟨p, ad, ns, told, made, s, n, t, r, rfl, _⟩ := h
    rfl
  obtain ⟨p, ad, ns, told, made, sm, n, t, r, rfl, l, szs, ht, hm, mid, k⟩ := h
  have hu := hu_of hr
  refine ⟨_, (pss_cons (ps_set (i := 2) sc_law_goes.nd rfl (Or.inl rfl) (pe_dget hu (pe_dget hu (pv 0) pe_str (fun _ _ => rfl)) (pv 1) (fun _ _ => rfl)))
    (pss_one (ps_if (pt_cmpR op_eq (pe_dget hu (pv 2) pe_str (fun _ _ => rfl)) pe_str (nomark _)) (pss_cons (ps_set (i := 3) sc_law_goes.nd rfl (Or.inl rfl) (pe_ix ix_T (pe_dget hu (pv 2) pe_str (fun _ _ => rfl)) pe_int (fun _ _ => rfl)))
    (pss_one (ps_if (pt_cmpR op_lt (pe_callB call_lenA (by rfl) W.f_len bt_len (pa_cons (pe_dget hu (pv 2) pe_str (fun _ _ => rfl)) pa_nil)) (pe_callB call_lenDp (by rfl) W.f_len bt_len (pa_cons (pv 3) pa_nil)) (nomark _)) (pss_one (ps_dput hu (pv 2) pe_str (pe_ix ix_T (pe_ix ix_T (pv 3) (pe_callB call_lenA (by rfl) W.f_len bt_len (pa_cons (pe_dget hu (pv 2) pe_str (fun _ _ => rfl)) pa_nil)) (fun _ _ => rfl)) pe_int (fun _ _ => rfl)) rfl)) (pss_one (ps_if (pt_cmpR op_eq (pe_ix ix_T (pe_ix ix_T (pe_dget hu (pv 2) pe_str (fun _ _ => rfl)) pe_int (fun _ _ => rfl)) pe_int (fun _ _ => rfl)) pe_str (nomark _)) (pss_one (ps_dput hu (pv 2) pe_str (pe_ix ix_T (pe_ix ix_T (pe_dget hu (pv 2) pe_str (fun _ _ => rfl)) pe_int (fun _ _ => rfl)) pe_int (fun _ _ => rfl)) rfl)) (pss_one (ps_expr (pe_cl c_law_closes hr (by omega) (by rfl) (pa_cons (pv 0) (pa_cons (pv 1) (pa_cons pe_str (pa_cons (pe_dget hu (pv 2) pe_str (fun _ _ => rfl)) pa_nil)))))))))))) (pss_cons (ps_setLc (i := 3) (own := [("_law_one", 5), ("_law_stamp_here", 6)]) (g := gTup K 2 (gCons (gName 5) (gCons (gName 6) (gNil)))) (tt := tYes) rfl sc_law_goes.nd rfl rfl (sw_true rfl rfl rfl (by decide +kernel)) (pi_list (pe_dget hu (pv 2) pe_str (fun _ _ => rfl))) (blkOk_by (own := [("_law_one", 5), ("_law_stamp_here", 6)]) (N := N_law_goes) (sc := defScope (top 75)) (by decide +kernel)) (fun _ _ _ _ _ => (pg_tup rfl (pgs_cons (pg_name (i := 5) sc_law_goes.nd rfl (Or.inl rfl)) (pgs_cons (pg_name (i := 6) sc_law_goes.nd rfl (Or.inl rfl)) pgs_nil)))) (fun _ _ _ _ _ => pts_nil) (fun _ _ _ _ _ => (pe_tup (pa_cons (pv 5) (pa_cons (pe_cl c_value_by hr (by omega) (by rfl) (pa_cons (pv 6) pa_nil)) pa_nil)))))
    (pss_cons (ps_set (i := 4) sc_law_goes.nd rfl (Or.inl rfl) (pe_cl c_law_run hr (by omega) (by rfl) (pa_cons (pe_dget hu (pe_ix ix_tup (pe_dget hu (pv 0) pe_str (fun _ _ => rfl)) pe_int (fun _ _ => rfl)) (pv 1) (fun _ _ => rfl)) (pa_cons (pv 3) (pa_cons (pe_dget hu (pv 2) pe_str (fun _ _ => rfl)) pa_nil)))))
    (pss_one (ps_if (pt_cmpR op_in_seq (pe_ix ix_T (pv 4) pe_int (fun _ _ => rfl)) (pe_tup (pa_cons pe_str (pa_cons pe_str pa_nil))) (by rfl)) (pss_cons (ps_dput hu (pv 2) pe_str (pe_ix ix_T (pv 4) pe_int (fun _ _ => rfl)) rfl)
    (pss_one (ps_dput hu (pv 2) pe_str (pe_ix ix_T (pv 4) pe_int (fun _ _ => rfl)) rfl))) (pss_one (ps_if (pt_cmpR op_eq (pe_ix ix_T (pv 4) pe_int (fun _ _ => rfl)) pe_str (nomark _)) (pss_one (ps_expr (pe_cl c_law_closes hr (by omega) (by rfl) (pa_cons (pv 0) (pa_cons (pv 1) (pa_cons pe_str (pa_cons (pe_cl c_law_did hr (by omega) (by rfl) (pa_cons (pv 2) (pa_cons (pv 1) (pa_cons (pe_tup (pa_cons pe_str (pa_cons (pe_cl c_law_stamp hr (by omega) (by rfl) (pa_cons (pe_ix ix_T (pv 4) pe_int (fun _ _ => rfl)) pa_nil)) pa_nil))) pa_nil)))) pa_nil))))))) (pss_one (ps_expr (pe_cl c_law_closes hr (by omega) (by rfl) (pa_cons (pv 0) (pa_cons (pv 1) (pa_cons pe_str (pa_cons (pe_cl c_law_did hr (by omega) (by rfl) (pa_cons (pv 2) (pa_cons (pv 1) (pa_cons (pv 4) pa_nil)))) pa_nil)))))))))))))))), ?_⟩
  obtain ⟨a, ha, ta⟩ := l.co.task ht
  have ta : TkW K H a t := ta
  have nd := task_nd l ha
  have okr := l.bo.orr _ (lk_mem hm)
  have go := go_ok (n := n) okr mid
  refine ⟨_, rfl, p.wa, .ref p.w.ka, rfl, l.g_tasks, _, rfl, p.w.ka, .ref a.1, rfl, l.co.get ha, ?_⟩
  refine ⟨_, rfl, a.1, _, rfl, ta.g_stage, rfl, _, rfl, ?_⟩
  obtain ⟨kvs, hk, hkl, setw, sety, _, _⟩ := ta.set nd
  cases hl : t.look with
  | true =>
    rw [show decide (V.str (stS true) = V.str "look") = true from (show decide (V.str "look" = V.str "look") = true by decide +kernel)]
    obtain ⟨m1, m2, m3, m4⟩ := mid.ln hl
    obtain ⟨lv, glv, dlv⟩ := ta.g_line hl
    obtain ⟨rv, hrv, drv⟩ := ta.reads
    have hrl : rv.length = t.rd.length := by rw [drv.length, List.length_map]
    unfold goT at k go
    rw [if_pos hl] at k go
    have m3n := m1.n
    refine iteT ⟨_, rfl, a.1, lv, rfl, glv, _, _, _, rfl, dlv, atI_nat (j := 1) rfl, fun v1 hv1 => ?_⟩
    refine ⟨_, rfl, a.1, _, rfl, ta.g_reads, _, _, rfl, .inl ⟨_, SqL.of hrv, rfl⟩, _, rfl, _, _, rfl, hv1, rfl, sz100 (by show (t.ln.rd.map encS).length ≤ _; rw [List.length_map]; omega), _, _, rfl, rfl, _, rfl, iteD (fun c => ?_) (fun c => ?_)⟩
    · have c : ((rv.length : Nat) : Int) < (((t.ln.rd.map encS).length : Nat) : Int) := c
      rw [List.length_map, hrl] at c
      have hlt : t.rd.length < t.ln.rd.length := by omega
      have hq := List.getElem?_eq_getElem hlt
      rw [hq] at k go
      have hat : atI (t.ln.rd.map encS) ((rv.length : Nat) : Int) = some (encS t.ln.rd[t.rd.length]) := by
        rw [hrl]
        exact atI_nat (by rw [List.getElem?_map, hq]; rfl)
      refine ⟨_, rfl, _, rfl, a.1, _, rfl, ta.g_reads, _, _, rfl, .inl ⟨_, SqL.of hrv, rfl⟩, _, _, _, rfl, hv1, hat, fun v2 hv2 => ⟨_, _, _, rfl, hv2, atI_nat (j := 0) rfl, fun v3 hv3 => ?_⟩⟩
      obtain rfl := dp_str hv3
      refine ⟨_, rfl, a.1, _, rfl, DPut.k (k := Sum.inr "waits") hk hkl, ?_⟩
      obtain ⟨st, l'⟩ := l.set0 ha ht (Fr.task hk) (setw (some (t.ln.rd[t.rd.length]).1))
      exact k _ _ st l'
    · have c : ¬ ((rv.length : Nat) : Int) < (((t.ln.rd.map encS).length : Nat) : Int) := c
      rw [List.length_map, hrl] at c
      rw [List.getElem?_eq_none (by omega)] at k go
      refine ⟨_, rfl, a.1, lv, rfl, glv, _, _, _, rfl, dlv, atI_nat (j := 2) rfl, fun v2 hv2 => ?_⟩
      cases he : t.ln.en with
      | wants z =>
        rw [he] at hv2 k go
        have hv2 : Dp K H v2 (.tuple [.str "wants", .str z]) := hv2
        refine ⟨_, _, _, rfl, hv2, atI_nat (j := 0) rfl, fun v3 hv3 => ?_⟩
        obtain rfl := dp_str hv3
        refine ⟨rfl, _, rfl, iteT ⟨_, rfl, a.1, lv, rfl, glv, _, _, _, rfl, dlv, atI_nat (j := 2) rfl, fun v4 hv4 => ?_⟩⟩
        rw [he] at hv4
        have hv4 : Dp K H v4 (.tuple [.str "wants", .str z]) := hv4
        refine ⟨_, _, _, rfl, hv4, atI_nat (j := 1) rfl, fun v5 hv5 => ?_⟩
        obtain rfl := dp_str hv5
        refine ⟨_, rfl, a.1, _, rfl, DPut.k (k := Sum.inr "waits") hk hkl, ?_⟩
        obtain ⟨st, l'⟩ := l.set0 ha ht (Fr.task hk) (setw (some z))
        exact k _ _ st l'
      | made v =>
        rw [he] at hv2 k
        have hv2 : Dp K H v2 (.tuple [.str "made", .str (stampS v)]) := hv2
        refine ⟨_, _, _, rfl, hv2, atI_nat (j := 0) rfl, fun v3 hv3 => ?_⟩
        obtain rfl := dp_str hv3
        exact ⟨rfl, _, rfl, iteF ⟨_, rfl, _, rfl, _, rfl, a.1, lv, rfl, glv, p, ad, ns, told, made, sm, n, "kept", lv, t.ln, t, rfl, l, szs, ht, isSome_t hm, dlv, fun ad' H' st l' => k ad' H' st l'⟩⟩
      | fails z =>
        rw [he] at hv2 k
        have hv2 : Dp K H v2 (.tuple [.str "fails", .str z]) := hv2
        refine ⟨_, _, _, rfl, hv2, atI_nat (j := 0) rfl, fun v3 hv3 => ?_⟩
        obtain rfl := dp_str hv3
        exact ⟨rfl, _, rfl, iteF ⟨_, rfl, _, rfl, _, rfl, a.1, lv, rfl, glv, p, ad, ns, told, made, sm, n, "kept", lv, t.ln, t, rfl, l, szs, ht, isSome_t hm, dlv, fun ad' H' st l' => k ad' H' st l'⟩⟩
  | false =>
    rw [show decide (V.str (stS false) = V.str "look") = false from (show decide (V.str "do" = V.str "look") = false by decide +kernel)]
    refine iteF ?_
    have ft := mid.fit hl
    obtain ⟨f1, f2, f3, f4⟩ := ft.out okr
    have hl' : ¬ t.look = true := by rw [hl]; exact Bool.false_ne_true
    unfold goT at k
    rw [if_neg hl'] at k
    obtain ⟨rv, hrv, drv⟩ := ta.reads
    have hrl : rv.length = t.rd.length := by rw [drv.length, List.length_map]
    refine ⟨_, rfl, a.1, _, rfl, ta.g_reads, a.2.1, rfl, ⟨_, SqL.of hrv⟩, fun D hD => lcD (K := K) (src_list (SqL.of hrv)) (fun i => encP (t.rd.getD i ("", .none))) hD (fun i => ?_) (by omega) ?_ ?_⟩
    · show imm (encP (t.rd.getD i ("", .none))) = true
      rw [List.getD_eq_getElem?_getD]
      cases q : t.rd[i]? with
      | none => rfl
      | some x => exact immP (ft.r x (List.mem_of_getElem? q))
    · intro i x H' Q' hi hx e' k'
      obtain ⟨dq, hdq, hdx⟩ := drv.getV hx
      rw [List.getElem?_map] at hdq
      cases q : t.rd[i]? with
      | none => rw [q] at hdq; cases hdq
      | some qq =>
        rw [q] at hdq
        obtain rfl : encS qq = dq := Option.some.inj hdq
        have eF : t.rd.getD i ("", .none) = qq := by rw [List.getD_eq_getElem?_getD, q]; rfl
        rw [eF] at k'
        obtain ⟨b, xs, rfl, hS, hX⟩ := dp_tup (hdx.up e')
        cases hX with
        | cons hX1 hX2 =>
          cases hX2 with
          | cons hX2 hX3 =>
            cases hX3
            obtain rfl := dp_str hX1
            obtain rfl := dp_str hX2
            exact ⟨b, _, rfl, hS, rfl, _, _, rfl, _, _, rfl, rfl, rfl, _, rfl, _, rfl, qq.2, rfl, ft.r qq (List.mem_of_getElem? q), fun y H6 e6 hy => ⟨(show 2 ≤ sizeLine by decide), fun p9 hp9 => k' _ _ (e6.trans (Ex.new hp9)) (dp_newT hp9 (.cons (.str qq.1) (.one hy)))⟩⟩
    intro H5 ys e5 h5 d5
    rw [hrl, range_get t.rd encP _ (fun i x hx => by rw [List.getD_eq_getElem?_getD, hx]; rfl)] at d5
    have l5 := l.ex e5
    have ta5 := ta.up e5
    obtain ⟨w1, w2⟩ := okR_wf okr
    obtain ⟨om', m1', _, m3'⟩ := l5.bk.m.has n
    rcases m3' with ⟨q7, _⟩ | ⟨rv', r', rfl, q7, q8⟩
    · rw [hm] at q7
      cases q7
    rw [hm] at q7
    cases q7
    obtain ⟨pv, hpv, dpv, okpv⟩ := ta5.peeks
    refine ⟨_, rfl, p.wa, .ref p.ba, rfl, l5.g_book, p.ba, _, _, _, rfl, rfl, SqT.of l5.bk.p, atI_nat (j := 1) rfl, _, rfl, p.ma, rv', rfl, m1', _, rfl, _, rfl, a.1, _, rfl, ta5.g_peeks, rv', r, .ref D, t.rd, .ref a.2.2, t.pk, rfl, q8, .lst (SqL.of h5) d5, .lst (SqL.of hpv) dpv, w1, by omega, by omega, ft.r, ft.p, fun x H6 e6 hx => ?_⟩
    have l6 := l5.ex e6
    have ta6 := ta5.up e6
    have E6 := e5.trans e6
    obtain ⟨od, hod⟩ := encO_head (replayM r t.rd t.pk)
    have hxo := hx
    rw [hod] at hxo
    refine ⟨_, rfl, _, _, _, rfl, hxo, atI_nat (j := 0) rfl, fun v0 hv0 => ?_⟩
    obtain rfl := dp_str hv0
    refine ⟨(show 2 ≤ sizeLine by decide), fun p7 hp7 => ?_⟩
    generalize hh : upd H6 p7 _ = H7
    have e7 : Ex H6 H7 := hh ▸ Ex.new hp7
    have h7 : H7 p7 = some (.tup [.str "wants", .str "peeks"]) := by rw [← hh]; exact upd_same
    clear hh
    have l7 := l6.ex e7
    have ta7 := ta6.up e7
    have hx7 := hx.up e7
    have E7 := E6.trans e7
    refine ⟨p7, _, rfl, .inr (SqT.of h7), rfl, rfl, _, rfl, ?_⟩
    obtain ⟨kv7, hk7, hkl7, setw7, _, _, _⟩ := ta7.set nd
    clear hxo hx setw sety
    cases ho : replayM r t.rd t.pk with
    | strays j => rw [ho] at f2; exact f2.elim
    | wants z =>
      rw [ho] at hx7 k
      show if inW "wants" = true then _ else _
      rw [inW_wants]
      refine iteT ⟨_, rfl, _, _, _, rfl, hx7, atI_nat (j := 1) rfl, fun v1 hv1 => ?_⟩
      obtain rfl := dp_str hv1
      refine ⟨_, rfl, a.1, _, rfl, DPut.k (k := Sum.inr "waits") hk7 hkl7, ?_⟩
      have t8 := setw7 (some z)
      have f8 : Fr ((YL K).fp a) H7 (upd H7 a.1 (.dK (putK kv7 (Sum.inr "waits") (optV (some z))))) := Fr.task hk7
      have hx8 := Dp.tu f8.t _ _ (show imm (encO (.wants z)) = true from rfl) hx7
      obtain ⟨kv8, hk8, hkl8, _, sety8, _, _⟩ := t8.set nd
      have r8 : (upd H7 a.1 (.dK (putK kv7 (Sum.inr "waits") (V.str z)))) = (upd H7 a.1 (.dK (putK kv7 (Sum.inr "waits") (optV (some z))))) := rfl
      rw [r8]
      generalize upd H7 a.1 (.dK (putK kv7 (Sum.inr "waits") (optV (some z)))) = H8 at t8 f8 hx8 hk8 sety8 ⊢
      refine ⟨_, rfl, _, _, _, rfl, hx8, atI_nat (j := 0) rfl, fun v2 hv2 => ?_⟩
      obtain rfl := dp_str hv2
      refine ⟨_, rfl, a.1, _, rfl, DPut.k (k := Sum.inr "way") hk8 hkl8, ?_⟩
      have t9 := sety8 "wants"
      rw [show decide (V.str "wants" = V.str "peeks") = false by decide +kernel] at t9
      obtain ⟨st, l'⟩ := l7.set0 ha ht (f8.tr (Fr.task hk8)) t9
      exact k _ _ ((Stp.ex E7).trans st) l'
    | peeks z =>
      rw [ho] at hx7 k
      show if inW "peeks" = true then _ else _
      rw [inW_peeks]
      refine iteT ⟨_, rfl, _, _, _, rfl, hx7, atI_nat (j := 1) rfl, fun v1 hv1 => ?_⟩
      obtain rfl := dp_str hv1
      refine ⟨_, rfl, a.1, _, rfl, DPut.k (k := Sum.inr "waits") hk7 hkl7, ?_⟩
      have t8 := setw7 (some z)
      have f8 : Fr ((YL K).fp a) H7 (upd H7 a.1 (.dK (putK kv7 (Sum.inr "waits") (optV (some z))))) := Fr.task hk7
      have hx8 := Dp.tu f8.t _ _ (show imm (encO (.peeks z)) = true from rfl) hx7
      obtain ⟨kv8, hk8, hkl8, _, sety8, _, _⟩ := t8.set nd
      have r8 : (upd H7 a.1 (.dK (putK kv7 (Sum.inr "waits") (V.str z)))) = (upd H7 a.1 (.dK (putK kv7 (Sum.inr "waits") (optV (some z))))) := rfl
      rw [r8]
      generalize upd H7 a.1 (.dK (putK kv7 (Sum.inr "waits") (optV (some z)))) = H8 at t8 f8 hx8 hk8 sety8 ⊢
      refine ⟨_, rfl, _, _, _, rfl, hx8, atI_nat (j := 0) rfl, fun v2 hv2 => ?_⟩
      obtain rfl := dp_str hv2
      refine ⟨_, rfl, a.1, _, rfl, DPut.k (k := Sum.inr "way") hk8 hkl8, ?_⟩
      have t9 := sety8 "peeks"
      rw [show decide (V.str "peeks" = V.str "peeks") = true by decide +kernel] at t9
      obtain ⟨st, l'⟩ := l7.set0 ha ht (f8.tr (Fr.task hk8)) t9
      exact k _ _ ((Stp.ex E7).trans st) l'
    | made d =>
      rw [ho] at hx7 k f2
      show if inW "made" = true then _ else _
      rw [inW_made]
      refine iteF ⟨_, rfl, _, _, _, rfl, hx7, atI_nat (j := 0) rfl, fun v1 hv1 => ?_⟩
      obtain rfl := dp_str hv1
      refine ⟨rfl, _, rfl, iteT ?_⟩
      refine ⟨_, rfl, _, rfl, _, rfl, _, rfl, _, rfl, _, _, _, rfl, hx7, atI_nat (j := 1) rfl, fun v2 hv2 => ⟨v2, d, rfl, hv2, okV_stamp f2, fun y2 H8 e8 hy2 => ?_⟩⟩
      obtain rfl := dp_str hy2
      refine ⟨(show 2 ≤ sizeLine by decide), fun p9 hp9 => ?_⟩
      generalize hh : upd H8 p9 _ = H9
      have e9 : Ex H8 H9 := hh ▸ Ex.new hp9
      have h9 : H9 p9 = some (.tup [.str "made", .str (stampS d)]) := by rw [← hh]; exact upd_same
      clear hh
      have d9 : Dp K H9 (.ref p9) (encE (.made d)) := .tup (SqT.of h9) (.cons (.str _) (.one (.str _)))
      refine ⟨a, t, n, .ref p9, .made d, rfl, (ta7.up e8).up e9, by omega, d9, fun x10 H10 e10 hx10 => ?_⟩
      have E10 := e8.trans (e9.trans e10)
      exact ⟨p, ad, ns, told, made, sm, n, "done", x10, _, t, rfl, l7.ex E10, szs, ht, isSome_t hm, hx10, fun ad' H' st l' => k ad' H' ((Stp.ex (E7.trans E10)).trans st) l'⟩
    | fails z =>
      rw [ho] at hx7 k
      show if inW "fails" = true then _ else _
      rw [inW_fails]
      refine iteF ⟨_, rfl, _, _, _, rfl, hx7, atI_nat (j := 0) rfl, fun v1 hv1 => ?_⟩
      obtain rfl := dp_str hv1
      refine ⟨rfl, _, rfl, iteF ?_⟩
      refine ⟨_, rfl, _, rfl, _, rfl, _, rfl, _, rfl, a, t, n, x, .fails z, rfl, ta7, by omega, hx7, fun x10 H10 e10 hx10 => ?_⟩
      exact ⟨p, ad, ns, told, made, sm, n, "done", x10, _, t, rfl, l7.ex e10, szs, ht, isSome_t hm, hx10, fun ad' H' st l' => k ad' H' ((Stp.ex (E7.trans e10)).trans st) l'⟩
end
end Wk
namespace Wk
open PySem PySem.Spec PyProof.Rows L2 SX
section
variable {K : PySem.W.Frag} {H : Hp} {a : Addr × Addr × Addr} {t : Tk}
theorem TkW.addR (h : TkW K H a t) (nd : [a.1, a.2.1, a.2.2].Nodup) {rv : List V} (hr : H a.2.1 = some (.lst rv)) {v : V} {q : Pr} (hv : Dp K H v (encS q)) : TkW K (upd H a.2.1 (.lst (rv ++ [v]))) a { t with rd := t.rd ++ [q] } := by
  obtain ⟨lv, wy, rv', pv, h1, h2, h3, h4, h5, h6, h7, h8⟩ := h.ex
  rw [hr] at h2
  cases h2
  have nd2 := List.nodup_cons.mp (List.nodup_cons.mp nd).2
  have n1 : a.1 ≠ a.2.1 := fun z => (List.nodup_cons.mp nd).1 (by rw [z]; simp)
  have n2 : a.2.2 ≠ a.2.1 := fun z => nd2.1 (by rw [z]; simp)
  have tt : Tu H (upd H a.2.1 (.lst (rv ++ [v]))) := Tu.mut hr
  refine ⟨lv, wy, rv ++ [v], pv, by rw [upd_ne n1]; exact h1, upd_same, ?_, by rw [upd_ne n2]; exact h4, DpAll.tu tt _ _ (immPs h6) h5, h6, h7, fun z => Dp.tu tt _ _ (immLn _) (h8 z)⟩
  show DpAll K _ (rv ++ [v]) ((t.rd ++ [q]).map encS)
  rw [List.map_append]
  exact (DpAll.tu tt _ _ (immSs _) h3).append (.one (Dp.tu tt _ _ (immS q) hv))
theorem TkW.addP (h : TkW K H a t) (nd : [a.1, a.2.1, a.2.2].Nodup) {pv : List V} (hp : H a.2.2 = some (.lst pv)) {v : V} {q : Pr} (hv : Dp K H v (encP q)) (hq : okV q.2 = true) : TkW K (upd H a.2.2 (.lst (pv ++ [v]))) a { t with pk := t.pk ++ [q] } := by
  obtain ⟨lv, wy, rv, pv', h1, h2, h3, h4, h5, h6, h7, h8⟩ := h.ex
  rw [hp] at h4
  cases h4
  have nd2 := List.nodup_cons.mp (List.nodup_cons.mp nd).2
  have n1 : a.1 ≠ a.2.2 := fun z => (List.nodup_cons.mp nd).1 (by rw [z]; simp)
  have n2 : a.2.1 ≠ a.2.2 := fun z => nd2.1 (by rw [z]; simp)
  have tt : Tu H (upd H a.2.2 (.lst (pv ++ [v]))) := Tu.mut hp
  refine ⟨lv, wy, rv, pv ++ [v], by rw [upd_ne n1]; exact h1, by rw [upd_ne n2]; exact h2, DpAll.tu tt _ _ (immSs _) h3, upd_same, ?_, h6.snoc hq, h7, fun z => Dp.tu tt _ _ (immLn _) (h8 z)⟩
  show DpAll K _ (pv ++ [v]) ((t.pk ++ [q]).map encP)
  rw [List.map_append]
  exact (DpAll.tu tt _ _ (immPs h6) h5).append (.one (Dp.tu tt _ _ (immP hq) hv))
theorem Fr.taskR {a : Addr × Addr × Addr} {o o' : HO} (h : H a.2.1 = some o') (m : mutO o' = true := by rfl) : Fr ((YL K).fp a) H (upd H a.2.1 o) := (Fr.mut h m).sub fun x hx => .inl (by rw [List.mem_singleton.mp hx]; exact List.mem_cons_of_mem _ List.mem_cons_self)
theorem Fr.taskP {a : Addr × Addr × Addr} {o o' : HO} (h : H a.2.2 = some o') (m : mutO o' = true := by rfl) : Fr ((YL K).fp a) H (upd H a.2.2 o) := (Fr.mut h m).sub fun x hx => .inl (by rw [List.mem_singleton.mp hx]; exact List.mem_cons_of_mem _ (List.mem_cons_of_mem _ List.mem_cons_self))
theorem lk_pt_self {α : Type} {l : As α} {n : Str} {x : α} : lk (pt l n x) n = some x := by rw [lk_pt, if_pos rfl]
end
def spTakes (K : PySem.W.Frag) : Sp := fun vs H Q _ => ∃ p ad ns told made s n t r z, vs = [.ref p.wa, .str n] ∧ LW K p ad ns told made H s ∧ Szs s ∧ lk s.tk n = some t ∧ lk made n = some r ∧ OkTk r t ∧ t.wt = some z ∧ (∀ y d, nowM told s.en y = some d → okV d = true) ∧
  ∀ ad' H', Stp (fpW (YL K) p.w ad) (fpW (YL K) p.w ad') H H' → LW K p ad' ns told made H' (appM made n (takeT n z (nowM told s.en z) t) s) → Q .non H'
section
variable {P : Program} {w : World} {K : PySem.W.Frag} {mg : Str → Option Value} {base : Heap}
theorem c_law_takes (W : Wld K mg) : Cal P w K mg base 22 "_law_takes" (spTakes K) := by
  have c_law_closes : Cal P w K mg base 21 "_law_closes" _ := c_law_closes W
  have c_law_did : Cal P w K mg base 1 "_law_did" _ := c_law_did W
  have c_law_now : Cal P w K mg base 6 "_law_now" _ := c_law_now W
  have c_value_by : Cal P w K mg base 14 "value_by" _ := c_value_by W
  refine cal_of W.d_law_takes sc_law_takes (fun vs H Q E h => ?_) (fun f cdv A outer s H vs Q E hr h => ?_)
  · obtain ⟨p, ad, ns, told, made, s, n, t, r, z, rfl, _⟩ := h
    rfl
  obtain ⟨p, ad, ns, told, made, sm, n, t, r, z, rfl, l, szs, ht, hm, ok, hz, hnow, k⟩ := h
  have hu := hu_of hr
  refine ⟨_, (pss_cons (ps_set (i := 2) sc_law_takes.nd rfl (Or.inl rfl) (pe_dget hu (pe_dget hu (pv 0) pe_str (fun _ _ => rfl)) (pv 1) (fun _ _ => rfl)))
    (pss_cons (ps_set (i := 3) sc_law_takes.nd rfl (Or.inl rfl) (pe_dget hu (pv 2) pe_str (fun _ _ => rfl)))
    (pss_cons (ps_set (i := 4) sc_law_takes.nd rfl (Or.inl rfl) (pe_cl c_law_now hr (by omega) (by rfl) (pa_cons (pe_dget hu (pv 0) pe_str (fun _ _ => rfl)) (pa_cons (pe_dget hu (pv 0) pe_str (fun _ _ => rfl)) (pa_cons (pv 3) pa_nil)))))
    (pss_cons (ps_dput hu (pv 2) pe_str pe_non rfl)
    (pss_one (ps_if (pt_cmpR op_eq (pe_dget hu (pv 2) pe_str (fun _ _ => rfl)) pe_str (nomark _)) (pss_cons (ps_set (i := 5) sc_law_takes.nd rfl (Or.inl rfl) (pe_ix ix_T (pe_dget hu (pv 2) pe_str (fun _ _ => rfl)) pe_int (fun _ _ => rfl)))
    (pss_cons (ps_set (i := 6) sc_law_takes.nd rfl (Or.inl rfl) (pe_callB call_lenA (by rfl) W.f_len bt_len (pa_cons (pe_dget hu (pv 2) pe_str (fun _ _ => rfl)) pa_nil)))
    (pss_one (ps_if (PW.pt (pw_and (pt_cmpR op_lt (pv 6) (pe_callB call_lenDp (by rfl) W.f_len bt_len (pa_cons (pv 5) pa_nil)) (nomark _)) (pw_and1 (pt_cmpR op_eq (pv 4) (pe_ix ix_T (pe_ix ix_T (pv 5) (pv 6) (fun _ _ => rfl)) pe_int (fun _ _ => rfl)) (nomark _))))) (pss_one (ps_expr (pe_bm PySem.F.plainAttrs_list PySem.F.slot_list_append PySem.F.type_list_append mt_append (pe_dget hu (pv 2) pe_str (fun _ _ => rfl)) (pa_cons (pe_tup (pa_cons (pv 3) (pa_cons (pv 4) pa_nil))) pa_nil)))) (pss_one (ps_if (PW.pt (pw_and (pt_cmpR op_eq (pv 6) (pe_callB call_lenDp (by rfl) W.f_len bt_len (pa_cons (pv 5) pa_nil)) (nomark _)) (pw_and1 (pt_cmpR op_isN (pv 4) pe_non (nomark _))))) (pss_one (ps_expr (pe_cl c_law_closes hr (by omega) (by rfl) (pa_cons (pv 0) (pa_cons (pv 1) (pa_cons pe_str (pa_cons (pe_dget hu (pv 2) pe_str (fun _ _ => rfl)) pa_nil))))))) (pss_cons (ps_dput hu (pv 2) pe_str (pe_lst pa_nil) rfl)
    (pss_one (ps_dput hu (pv 2) pe_str pe_str rfl))))))))) (pss_one (ps_if (pt_cmpR op_isN (pv 4) pe_non (nomark _)) (pss_one (ps_expr (pe_cl c_law_closes hr (by omega) (by rfl) (pa_cons (pv 0) (pa_cons (pv 1) (pa_cons pe_str (pa_cons (pe_cl c_law_did hr (by omega) (by rfl) (pa_cons (pv 2) (pa_cons (pv 1) (pa_cons (pe_tup (pa_cons pe_str (pa_cons (pv 3) pa_nil))) pa_nil)))) pa_nil))))))) (pss_one (ps_if (pt_cmpR op_eq (pe_dget hu (pv 2) pe_str (fun _ _ => rfl)) pe_str (nomark _)) (pss_one (ps_expr (pe_bm PySem.F.plainAttrs_list PySem.F.slot_list_append PySem.F.type_list_append mt_append (pe_dget hu (pv 2) pe_str (fun _ _ => rfl)) (pa_cons (pe_tup (pa_cons (pv 3) (pa_cons (pe_cl c_value_by hr (by omega) (by rfl) (pa_cons (pv 4) pa_nil)) pa_nil))) pa_nil)))) (pss_one (ps_expr (pe_bm PySem.F.plainAttrs_list PySem.F.slot_list_append PySem.F.type_list_append mt_append (pe_dget hu (pv 2) pe_str (fun _ _ => rfl)) (pa_cons (pe_tup (pa_cons (pv 3) (pa_cons (pv 4) pa_nil))) pa_nil)))))))))))))), ?_⟩
  obtain ⟨a, ha, ta⟩ := l.co.task ht
  have ta : TkW K H a t := ta
  have nd := task_nd l ha
  have okr := l.bo.orr _ (lk_mem hm)
  have gw := ta.g_waits
  rw [hz] at gw
  refine ⟨_, rfl, p.wa, .ref p.w.ka, rfl, l.g_tasks, _, rfl, p.w.ka, .ref a.1, rfl, l.co.get ha, ?_⟩
  refine ⟨_, rfl, a.1, _, rfl, gw, ?_⟩
  refine ⟨_, rfl, p.wa, .ref p.ba, rfl, l.g_book, _, rfl, p.wa, .ref p.w.ea, rfl, l.g_ends, _, rfl, p.ba, p.ta, p.ma, p.w.ea, told, made, ns, sm.en, z, rfl, l.bk, l.bo, l.co.en, fun H1 e1 => ?_⟩
  have l1 := l.ex e1
  have ta1 := ta.up e1
  obtain ⟨kvs, hk, hkl, setw, _, _, _⟩ := ta1.set nd
  refine ⟨_, rfl, a.1, _, rfl, DPut.k (k := Sum.inr "waits") hk hkl, ?_⟩
  have t2 := setw none
  obtain ⟨s2, l2⟩ := l1.set0 ha ht (Fr.task hk) t2
  have r2 : upd H1 a.1 (.dK (putK kvs (Sum.inr "waits") .non)) = upd H1 a.1 (.dK (putK kvs (Sum.inr "waits") (optV none))) := rfl
  rw [r2]
  generalize upd H1 a.1 (.dK (putK kvs (Sum.inr "waits") (optV none))) = H2 at t2 s2 l2 ⊢
  clear r2 setw hk
  have S2 : Stp (fpW (YL K) p.w ad) (fpW (YL K) p.w (pt ad n a)) H H2 := (Stp.ex e1).trans s2
  have ha2 : lk (pt ad n a) n = some a := lk_pt_self
  have ht2 : lk (setM n { t with wt := none } sm).tk n = some { t with wt := none } := lk_pt_self
  have szs2 : Szs (setM n { t with wt := none } sm) := szs
  generalize hv : nowM told sm.en z = v at k ⊢
  have okv := hnow z
  rw [hv] at okv
  have fin : ∀ x, x = takeT n z v t → ∀ ad' H', Stp (fpW (YL K) p.w (pt ad n a)) (fpW (YL K) p.w ad') H2 H' → LW K p ad' ns told made H' (appM made n x (setM n { t with wt := none } sm)) → Q .non H' := fun x hx ad' H' st l' => by
    rw [appM_two] at l'
    rw [hx] at l'
    exact k ad' H' (S2.trans st) l'
  refine ⟨_, rfl, a.1, _, rfl, t2.g_stage, rfl, _, rfl, ?_⟩
  show if decide (V.str (stS t.look) = V.str "look") = true then _ else _
  cases hl : t.look with
  | true =>
    rw [show decide (V.str (stS true) = V.str "look") = true from (show decide (V.str "look" = V.str "look") = true by decide +kernel)]
    obtain ⟨m1, m2, m3, m4⟩ := ok.ln hl
    have m3n := m1.n
    obtain ⟨lv, glv, dlv⟩ := t2.g_line hl
    have dlv : Dp K H2 lv (encLn t.ln) := dlv
    obtain ⟨rv, hrv, drv⟩ := t2.reads
    have drv : DpAll K H2 rv (t.rd.map encS) := drv
    have hrl : rv.length = t.rd.length := by rw [drv.length, List.length_map]
    unfold takeT at fin
    rw [if_pos hl] at fin
    refine iteT ⟨_, rfl, a.1, lv, rfl, glv, _, _, _, rfl, dlv, atI_nat (j := 1) rfl, fun v1 hv1 => ?_⟩
    refine ⟨_, rfl, a.1, _, rfl, t2.g_reads, _, _, rfl, .inl ⟨_, SqL.of hrv, rfl⟩, ?_⟩
    refine ⟨_, rfl, _, rfl, _, _, rfl, hv1, rfl, sz100 (by show (t.ln.rd.map encS).length ≤ _; rw [List.length_map]; omega), _, _, rfl, rfl, _, rfl, ?_⟩
    have szl : lenD (.tuple (t.ln.rd.map encS)) ≤ sizeLine := sz100 (by show (t.ln.rd.map encS).length ≤ _; rw [List.length_map]; omega)
    refine iteD (fun c => ?_) (fun c => ?_)
    · have c : ((rv.length : Nat) : Int) < (((t.ln.rd.map encS).length : Nat) : Int) := c
      rw [List.length_map, hrl] at c
      have hlt : t.rd.length < t.ln.rd.length := by omega
      have hq := List.getElem?_eq_getElem hlt
      rw [hq] at fin
      have hat : atI (t.ln.rd.map encS) ((rv.length : Nat) : Int) = some (encS t.ln.rd[t.rd.length]) := by
        rw [hrl]
        exact atI_nat (by rw [List.getElem?_map, hq]; rfl)
      have ne : decide (V.int ((rv.length : Nat) : Int) = V.int ((lenD (.tuple (t.ln.rd.map encS)) : Nat) : Int)) = false := decide_eq_false fun z => by
        have z : ((rv.length : Nat) : Int) = (((t.ln.rd.map encS).length : Nat) : Int) := by injection z
        rw [List.length_map, hrl] at z
        omega
      generalize t.ln.rd[t.rd.length] = q at hat fin
      refine ⟨_, rfl, _, rfl, _, rfl, _, _, _, rfl, hv1, hat, fun v2 hv2 => ⟨_, _, _, rfl, hv2, atI_nat (j := 1) rfl, fun v3 hv3 => ?_⟩⟩
      obtain rfl := dp_str hv3
      cases v with
      | none =>
        refine ⟨rfl, _, rfl, ?_⟩
        rw [show decide (vOpt none = V.str (stampS q.2)) = false from decide_eq_false fun z => by cases z]
        refine iteF ⟨_, rfl, _, rfl, _, _, rfl, hv1, rfl, szl, rfl, _, rfl, ?_⟩
        rw [ne]
        refine iteF ?_
        refine ⟨Nat.zero_le _, fun p5 hp5 => ?_⟩
        generalize hh : upd H2 p5 _ = H5
        have e5 : Ex H2 H5 := hh ▸ Ex.new hp5
        have h5 : H5 p5 = some (.lst []) := by rw [← hh]; exact upd_same
        clear hh
        have t5 := t2.up e5
        have np : p5 ∉ [a.1, a.2.2] := fun z => (YL K).al (n := n) t2 p5 (by
          rcases List.mem_cons.mp z with z | z
          · rw [z]; exact List.mem_cons_self
          · rw [List.mem_singleton.mp z]; exact List.mem_cons_of_mem _ (List.mem_cons_of_mem _ List.mem_cons_self)) hp5
        have nd2 : ([a.1, p5, a.2.2] : List Addr).Nodup := by
          have n0 : a.1 ≠ a.2.2 := fun z => (List.nodup_cons.mp nd).1 (by rw [z]; simp)
          have n1 : p5 ≠ a.1 := fun z => np (by rw [z]; simp)
          have n2 : p5 ≠ a.2.2 := fun z => np (by rw [z]; simp)
          have n3 : a.1 ≠ p5 := fun z => n1 z.symm
          simp [n0, n2, n3]
        obtain ⟨kv5, hk5, hkl5, _, _, _, setr⟩ := t5.set nd
        have t6 := setr p5 [] np h5 rfl
        have f6 : Fr ((YL K).fp a) H2 (upd H5 a.1 (.dK (putK kv5 (Sum.inr "reads") (.ref p5)))) := (Fr.ex e5).tr (Fr.task hk5)
        refine ⟨_, rfl, a.1, _, rfl, DPut.k (k := Sum.inr "reads") hk5 hkl5, ?_⟩
        generalize upd H5 a.1 (.dK (putK kv5 (Sum.inr "reads") (.ref p5))) = H6 at t6 f6 ⊢
        obtain ⟨kv6, hk6, hkl6, _, _, setd, _⟩ := t6.set nd2
        refine ⟨_, rfl, a.1, _, rfl, DPut.k (k := Sum.inr "stage") hk6 hkl6, ?_⟩
        obtain ⟨st, l'⟩ := l2.set (b' := ((a.1, p5, a.2.2) : Addr × Addr × Addr)) (t' := anewT t) ha2 ht2 (f6.tr (Fr.task hk6)) rfl nd2 (fun x hx => by
          rcases List.mem_cons.mp hx with rfl | hx
          · exact .inl List.mem_cons_self
          rcases List.mem_cons.mp hx with rfl | hx
          · exact .inr hp5
          · rw [List.mem_singleton.mp hx]
            exact .inl (List.mem_cons_of_mem _ (List.mem_cons_of_mem _ List.mem_cons_self))) setd
        exact fin (.on (anewT t)) (rfl) _ _ st l'
      | some d =>
        refine ⟨rfl, _, rfl, ?_⟩
        have okd := okv d rfl
        rw [show decide (vOpt (some d) = V.str (stampS q.2)) = decide (stampS d = stampS q.2) from vstr_eq]
        refine iteD (fun c2 => ?_) (fun c2 => ?_)
        · refine ⟨_, rfl, a.1, _, rfl, t2.g_reads, .inl ⟨rfl, _, SqL.of hrv⟩, _, rfl, _, rfl, (show 2 ≤ sizeLine by decide), fun p5 hp5 => ?_⟩
          have d5 := dp_newT (K := K) hp5 (.cons (.str z) (.one (.str (stampS d))))
          have e5 := Ex.new (o := .tup [.str z, .str (stampS d)]) hp5
          generalize hh : upd H2 p5 _ = H5
          have d5 : Dp K H5 (.ref p5) (encS (z, d)) := hh ▸ d5
          have e5 : Ex H2 H5 := hh ▸ e5
          clear hh
          have hrv5 := e5 _ _ hrv
          refine ⟨a.2.1, _, _, rfl, rfl, hrv5, szlt (by omega), ?_⟩
          have t6 := (t2.up e5).addR nd hrv5 d5
          obtain ⟨st, l'⟩ := l2.set0 ha2 ht2 ((Fr.ex e5).tr (Fr.taskR hrv5)) t6
          exact fin (.on { t with wt := none, rd := t.rd ++ [(z, d)] }) (by show _ = (if stampS d = stampS q.2 then _ else _); rw [if_pos c2]) _ _ st l'
        · refine ⟨_, rfl, _, rfl, _, _, rfl, hv1, rfl, szl, rfl, _, rfl, ?_⟩
          rw [ne]
          refine iteF ?_
          refine ⟨Nat.zero_le _, fun p5 hp5 => ?_⟩
          generalize hh : upd H2 p5 _ = H5
          have e5 : Ex H2 H5 := hh ▸ Ex.new hp5
          have h5 : H5 p5 = some (.lst []) := by rw [← hh]; exact upd_same
          clear hh
          have t5 := t2.up e5
          have np : p5 ∉ [a.1, a.2.2] := fun z => (YL K).al (n := n) t2 p5 (by
            rcases List.mem_cons.mp z with z | z
            · rw [z]; exact List.mem_cons_self
            · rw [List.mem_singleton.mp z]; exact List.mem_cons_of_mem _ (List.mem_cons_of_mem _ List.mem_cons_self)) hp5
          have nd2 : ([a.1, p5, a.2.2] : List Addr).Nodup := by
            have n0 : a.1 ≠ a.2.2 := fun z => (List.nodup_cons.mp nd).1 (by rw [z]; simp)
            have n1 : p5 ≠ a.1 := fun z => np (by rw [z]; simp)
            have n2 : p5 ≠ a.2.2 := fun z => np (by rw [z]; simp)
            have n3 : a.1 ≠ p5 := fun z => n1 z.symm
            simp [n0, n2, n3]
          obtain ⟨kv5, hk5, hkl5, _, _, _, setr⟩ := t5.set nd
          have t6 := setr p5 [] np h5 rfl
          have f6 : Fr ((YL K).fp a) H2 (upd H5 a.1 (.dK (putK kv5 (Sum.inr "reads") (.ref p5)))) := (Fr.ex e5).tr (Fr.task hk5)
          refine ⟨_, rfl, a.1, _, rfl, DPut.k (k := Sum.inr "reads") hk5 hkl5, ?_⟩
          generalize upd H5 a.1 (.dK (putK kv5 (Sum.inr "reads") (.ref p5))) = H6 at t6 f6 ⊢
          obtain ⟨kv6, hk6, hkl6, _, _, setd, _⟩ := t6.set nd2
          refine ⟨_, rfl, a.1, _, rfl, DPut.k (k := Sum.inr "stage") hk6 hkl6, ?_⟩
          obtain ⟨st, l'⟩ := l2.set (b' := ((a.1, p5, a.2.2) : Addr × Addr × Addr)) (t' := anewT t) ha2 ht2 (f6.tr (Fr.task hk6)) rfl nd2 (fun x hx => by
            rcases List.mem_cons.mp hx with rfl | hx
            · exact .inl List.mem_cons_self
            rcases List.mem_cons.mp hx with rfl | hx
            · exact .inr hp5
            · rw [List.mem_singleton.mp hx]
              exact .inl (List.mem_cons_of_mem _ (List.mem_cons_of_mem _ List.mem_cons_self))) setd
          exact fin (.on (anewT t)) (by show _ = (if stampS d = stampS q.2 then _ else _); rw [if_neg c2]) _ _ st l'
    · have c : ¬ ((rv.length : Nat) : Int) < (((t.ln.rd.map encS).length : Nat) : Int) := c
      rw [List.length_map, hrl] at c
      rw [List.getElem?_eq_none (by omega)] at fin
      have eq : decide (V.int ((rv.length : Nat) : Int) = V.int ((lenD (.tuple (t.ln.rd.map encS)) : Nat) : Int)) = true := decide_eq_true (by
        show V.int ((rv.length : Nat) : Int) = V.int (((t.ln.rd.map encS).length : Nat) : Int)
        rw [List.length_map, hrl]
        congr 1
        omega)
      refine ⟨_, rfl, _, rfl, _, _, rfl, hv1, rfl, szl, rfl, _, rfl, ?_⟩
      rw [eq]
      refine iteT ⟨_, rfl, rfl, _, rfl, ?_⟩
      cases v with
      | none =>
        refine iteT ⟨_, rfl, _, rfl, _, rfl, a.1, lv, rfl, glv, p, _, ns, told, made, setM n { t with wt := none } sm, n, "kept", lv, t.ln, { t with wt := none }, rfl, l2, szs2, ht2, isSome_t hm, dlv, fun ad' H' st l' => ?_⟩
        exact fin (.shut "kept" t.ln) rfl ad' H' st l'
      | some d =>
        refine iteF ?_
        refine ⟨Nat.zero_le _, fun p5 hp5 => ?_⟩
        generalize hh : upd H2 p5 _ = H5
        have e5 : Ex H2 H5 := hh ▸ Ex.new hp5
        have h5 : H5 p5 = some (.lst []) := by rw [← hh]; exact upd_same
        clear hh
        have t5 := t2.up e5
        have np : p5 ∉ [a.1, a.2.2] := fun z => (YL K).al (n := n) t2 p5 (by
          rcases List.mem_cons.mp z with z | z
          · rw [z]; exact List.mem_cons_self
          · rw [List.mem_singleton.mp z]; exact List.mem_cons_of_mem _ (List.mem_cons_of_mem _ List.mem_cons_self)) hp5
        have nd2 : ([a.1, p5, a.2.2] : List Addr).Nodup := by
          have n0 : a.1 ≠ a.2.2 := fun z => (List.nodup_cons.mp nd).1 (by rw [z]; simp)
          have n1 : p5 ≠ a.1 := fun z => np (by rw [z]; simp)
          have n2 : p5 ≠ a.2.2 := fun z => np (by rw [z]; simp)
          have n3 : a.1 ≠ p5 := fun z => n1 z.symm
          simp [n0, n2, n3]
        obtain ⟨kv5, hk5, hkl5, _, _, _, setr⟩ := t5.set nd
        have t6 := setr p5 [] np h5 rfl
        have f6 : Fr ((YL K).fp a) H2 (upd H5 a.1 (.dK (putK kv5 (Sum.inr "reads") (.ref p5)))) := (Fr.ex e5).tr (Fr.task hk5)
        refine ⟨_, rfl, a.1, _, rfl, DPut.k (k := Sum.inr "reads") hk5 hkl5, ?_⟩
        generalize upd H5 a.1 (.dK (putK kv5 (Sum.inr "reads") (.ref p5))) = H6 at t6 f6 ⊢
        obtain ⟨kv6, hk6, hkl6, _, _, setd, _⟩ := t6.set nd2
        refine ⟨_, rfl, a.1, _, rfl, DPut.k (k := Sum.inr "stage") hk6 hkl6, ?_⟩
        obtain ⟨st, l'⟩ := l2.set (b' := ((a.1, p5, a.2.2) : Addr × Addr × Addr)) (t' := anewT t) ha2 ht2 (f6.tr (Fr.task hk6)) rfl nd2 (fun x hx => by
          rcases List.mem_cons.mp hx with rfl | hx
          · exact .inl List.mem_cons_self
          rcases List.mem_cons.mp hx with rfl | hx
          · exact .inr hp5
          · rw [List.mem_singleton.mp hx]
            exact .inl (List.mem_cons_of_mem _ (List.mem_cons_of_mem _ List.mem_cons_self))) setd
        exact fin (.on (anewT t)) (rfl) _ _ st l'
  | false =>
    rw [show decide (V.str (stS false) = V.str "look") = false from (show decide (V.str "do" = V.str "look") = false by decide +kernel)]
    have hl' : ¬ t.look = true := by rw [hl]; exact Bool.false_ne_true
    have ft := ok.fit hl
    obtain ⟨f1, f2, f3, f4⟩ := ft.out okr
    unfold takeT at fin
    rw [if_neg hl'] at fin
    cases v with
    | none =>
      refine iteF ⟨_, rfl, rfl, _, rfl, iteT ?_⟩
      refine ⟨_, rfl, _, rfl, _, rfl, _, rfl, _, rfl, (show 2 ≤ sizeLine by decide), fun p5 hp5 => ?_⟩
      have d5 := dp_newT (K := K) hp5 (.cons (.str "wants") (.one (.str z)))
      have e5 := Ex.new (o := .tup [.str "wants", .str z]) hp5
      generalize hh : upd H2 p5 _ = H5
      have d5 : Dp K H5 (.ref p5) (encE (.wants z)) := hh ▸ d5
      have e5 : Ex H2 H5 := hh ▸ e5
      clear hh
      refine ⟨a, { t with wt := none }, n, .ref p5, .wants z, rfl, t2.up e5, (show t.rd.length ≤ 1000 by omega), d5, fun x6 H6 e6 hx6 => ?_⟩
      exact ⟨p, _, ns, told, made, setM n { t with wt := none } sm, n, "done", x6, _, { t with wt := none }, rfl, l2.ex (e5.trans e6), szs2, ht2, isSome_t hm, hx6, fun ad' H' st l' => fin (.shut "done" ⟨n, t.rd, .wants z⟩) rfl ad' H' ((Stp.ex (e5.trans e6)).trans st) l'⟩
    | some d =>
      have okd := okv d rfl
      refine iteF ⟨_, rfl, rfl, _, rfl, iteF ?_⟩
      obtain ⟨wy, gwy, hwy⟩ := t2.g_way
      refine ⟨_, rfl, a.1, .str wy, rfl, gwy, rfl, _, rfl, ?_⟩
      rw [hwy]
      show if t.py = true then _ else _
      refine iteB (fun c => ?_) (fun c => ?_)
      · obtain ⟨pv, hpv, dpv, okpv⟩ := t2.peeks
        have dpv : DpAll K H2 pv (t.pk.map encP) := dpv
        refine ⟨_, rfl, a.1, _, rfl, t2.g_peeks, .inl ⟨rfl, _, SqL.of hpv⟩, _, rfl, _, rfl, d, rfl, okd, fun y H4 e4 hy => ⟨(show 2 ≤ sizeLine by decide), fun p5 hp5 => ?_⟩⟩
        have d5 := dp_newT hp5 (.cons (.str z) (.one hy))
        have e5 := Ex.new (o := .tup [.str z, y]) hp5
        generalize hh : upd H4 p5 _ = H5
        have d5 : Dp K H5 (.ref p5) (encP (z, d)) := hh ▸ d5
        have e5 : Ex H4 H5 := hh ▸ e5
        clear hh
        have e25 := e4.trans e5
        have hpv5 := e25 _ _ hpv
        have hpl : pv.length = t.pk.length := by rw [dpv.length, List.length_map]
        refine ⟨a.2.2, _, _, rfl, rfl, hpv5, szlt (by omega), ?_⟩
        have t6 := (t2.up e25).addP nd hpv5 d5 okd
        obtain ⟨st, l'⟩ := l2.set0 ha2 ht2 ((Fr.ex e25).tr (Fr.taskP hpv5)) t6
        exact fin (.on { t with wt := none, pk := t.pk ++ [(z, d)] }) (by show _ = (if t.py = true then _ else _); rw [if_pos c]) _ _ st l'
      · obtain ⟨rv, hrv, drv⟩ := t2.reads
        have drv : DpAll K H2 rv (t.rd.map encS) := drv
        have hrl : rv.length = t.rd.length := by rw [drv.length, List.length_map]
        refine ⟨_, rfl, a.1, _, rfl, t2.g_reads, .inl ⟨rfl, _, SqL.of hrv⟩, _, rfl, _, rfl, (show 2 ≤ sizeLine by decide), fun p5 hp5 => ?_⟩
        have d5 := dp_newT (K := K) hp5 (.cons (.str z) (.one (.str (stampS d))))
        have e5 := Ex.new (o := .tup [.str z, .str (stampS d)]) hp5
        generalize hh : upd H2 p5 _ = H5
        have d5 : Dp K H5 (.ref p5) (encS (z, d)) := hh ▸ d5
        have e5 : Ex H2 H5 := hh ▸ e5
        clear hh
        have hrv5 := e5 _ _ hrv
        refine ⟨a.2.1, _, _, rfl, rfl, hrv5, szlt (by omega), ?_⟩
        have t6 := (t2.up e5).addR nd hrv5 d5
        obtain ⟨st, l'⟩ := l2.set0 ha2 ht2 ((Fr.ex e5).tr (Fr.taskR hrv5)) t6
        exact fin (.on { t with wt := none, rd := t.rd ++ [(z, d)] }) (by show _ = (if t.py = true then _ else _); rw [if_neg (by rw [c]; exact Bool.false_ne_true)]) _ _ st l'
end
end Wk
namespace Wk
open PySem PySem.Spec PyProof.Rows L2 SX
theorem pt_same {α : Type} : ∀ {l : As α} {n : Str} {a : α}, (ks l).Nodup → lk l n = some a → pt l n a = l := fun {l n a} hd h => by
  rw [pt_old (lk_ks.mp (by rw [h]; rfl))]
  refine (List.map_congr_left fun p hp => ?_).trans (List.map_id l)
  by_cases e : p.1 = n
  · rw [if_pos e]
    have : lk l p.1 = some p.2 := lk_of_mem hd hp
    rw [e, h] at this
    cases this
    rfl
  · rw [if_neg e]
    rfl
theorem keys_ad {Y : Lay} {ad : As Y.A} : (ad.map fun p => ((Sum.inr p.1 : Key), V.ref (Y.ref p.2))).map (·.1) = (ks ad).map Sum.inr := by
  unfold ks
  rw [List.map_map, List.map_map]
  rfl
def spAble (K : PySem.W.Frag) : Sp := fun vs H Q _ => ∃ p ad ns told made s, vs = [.ref p.wa] ∧ LW K p ad ns told made H s ∧ s.tk.length ≤ 60 ∧ ∀ f H', Ex H H' → H f = none → H' f = some (.lst ((ableM made s).map V.str)) → Q (.ref f) H'
def spRings (K : PySem.W.Frag) : Sp := fun vs H Q _ => ∃ p ad ns told made s, vs = [.ref p.wa] ∧ LW K p ad ns told made H s ∧ OkSm ns told made s ∧ ns.length ≤ 6 ∧
  ∀ ad' H', Stp (fpW (YL K) p.w ad) (fpW (YL K) p.w ad') H H' → LW K p ad' ns told made H' (ringsM made s) → Q .non H'
def spMoves (K : PySem.W.Frag) : Sp := fun vs H Q _ => ∃ p ad ns told made s n, vs = [.ref p.wa, .str n] ∧ LW K p ad ns told made H s ∧ OkSm ns told made s ∧ ns.length ≤ 6 ∧ n ∈ ks s.tk ∧
  ∀ ad' H', Stp (fpW (YL K) p.w ad) (fpW (YL K) p.w ad') H H' → LW K p ad' ns told made H' (movesM told made n s) → Q .non H'
/-- no task is ready: each waits -/
theorem not_able {made : As Rc} {s : Sm} (h : ableM made s = []) {n : Str} (hn : n ∈ ks s.tk) : ∃ t z, lk s.tk n = some t ∧ t.wt = some z := by
  have ht := lk_ks.mpr hn
  cases q : lk s.tk n with
  | none => rw [q] at ht; cases ht
  | some t =>
    cases w : t.wt with
    | some z => exact ⟨t, z, rfl, w⟩
    | none =>
      have hr : readyN made s n = true := by
        unfold readyN
        rw [q]
        show readyM made s.en t = true
        unfold readyM
        rw [w]
      have : n ∈ ableM made s := List.mem_filter.mpr ⟨mem_sortM.mpr hn, hr⟩
      rw [h] at this
      cases this
section
variable {P : Program} {w : World} {K : PySem.W.Frag} {mg : Str → Option Value} {base : Heap}
theorem c_law_able (W : Wld K mg) : Cal P w K mg base 1 "_law_able" (spAble K) := by
  refine cal_of W.d_law_able sc_law_able (fun vs H Q E h => ?_) (fun f cdv A outer s H vs Q E hr h => ?_)
  · obtain ⟨p, ad, ns, told, made, s, rfl, _⟩ := h
    rfl
  obtain ⟨p, ad, ns, told, made, sm, rfl, l, hsz, k⟩ := h
  have hu := hu_of hr
  refine ⟨_, (pss_cons (ps_set (i := 1) sc_law_able.nd rfl (Or.inl rfl) (pe_lst pa_nil))
    (pss_cons (ps_for PassesOwn.never rfl (pi_list (pe_callB (call_sortedD rfl) (by rfl) W.f_sorted bt_sorted (pa_cons (pe_dget hu (pv 0) pe_str (fun _ _ => rfl)) pa_nil))) (pg_name (i := 2) sc_law_able.nd rfl (Or.inl rfl)) (pss_cons (ps_set (i := 3) sc_law_able.nd rfl (Or.inl rfl) (pe_dget hu (pe_dget hu (pe_dget hu (pv 0) pe_str (fun _ _ => rfl)) (pv 2) (fun _ _ => rfl)) pe_str (fun _ _ => rfl)))
    (pss_one (ps_if (PW.pt (pw_or (pt_cmpR op_isN (pv 3) pe_non (nomark _)) (pw_or (pt_cmp (pc_dnotin hu (pv 3) (pe_ix ix_tup (pe_dget hu (pv 0) pe_str (fun _ _ => rfl)) pe_int (fun _ _ => rfl))) (by rfl)) (pw_or1 (pt_cmp (pc_din hu (pv 3) (pe_dget hu (pv 0) pe_str (fun _ _ => rfl))) (by rfl)))))) (pss_one (ps_expr (pe_bm PySem.F.plainAttrs_list PySem.F.slot_list_append PySem.F.type_list_append mt_append (pv 1) (pa_cons (pv 2) pa_nil)))) pss_nil))))
    (pss_one (ps_ret (pv 1))))), ?_⟩
  refine ⟨Nat.zero_le _, fun f hf => ?_⟩
  generalize hh : upd H f _ = H1
  have e1 : Ex H H1 := hh ▸ Ex.new hf
  have h1 : H1 f = some (.lst []) := by rw [← hh]; exact upd_same
  clear hh
  have l1 := l.ex e1
  have eal : ad.length = sm.tk.length := by
    have := congrArg List.length l.co.kk
    rw [ks_len, ks_len] at this
    exact this
  refine ⟨_, rfl, p.wa, .ref p.w.ka, rfl, l1.g_tasks, _, _, ks ad, rfl, .inl l1.co.tk, keys_ad, by rw [ks_len, eal]; omega, fun ys q hperm hsort hq => ?_⟩
  obtain rfl := sortM_eq hperm hsort
  rw [l.co.kk]
  generalize hh : upd H1 q _ = H2
  have e2 : Ex H1 H2 := hh ▸ Ex.new hq
  have h2 : H2 q = some (.lst ((sortM (ks sm.tk)).map V.str)) := by rw [← hh]; exact upd_same
  clear hh
  have E2 := e1.trans e2
  have hf2 := e2 _ _ h1
  refine ⟨q, rfl, ⟨_, SqL.of h2⟩, for_list (K := K) (a := q) (xs := (sortM (ks sm.tk)).map V.str) (fun i σ H' => Fr [f] H2 H' ∧ ∃ (y2 y3 : Option V), σ = [some (.ref p.wa), some (.ref f), y2, y3] ∧ H' f = some (.lst ((((sortM (ks sm.tk)).take i).filter (readyN made sm)).map V.str)))
    ⟨Fr.refl _ _, _, _, rfl, hf2⟩ ?_ ?_ ?_⟩
  · intro i σ H' _ h
    refine SqL.of (h.1.k q _ h2 fun z => ?_)
    rw [List.mem_singleton.mp z] at hq
    rw [hq] at h1
    cases h1
  · rintro i x σ H3 hx ⟨f3, y2, y3, rfl, h3⟩
    rw [List.getElem?_map] at hx
    obtain ⟨n, hn, rfl⟩ : ∃ n, (sortM (ks sm.tk))[i]? = some n ∧ x = .str n := by
      cases q : (sortM (ks sm.tk))[i]? with
      | none => rw [q] at hx; cases hx
      | some a => rw [q] at hx; cases hx; exact ⟨a, rfl, rfl⟩
    have e3 : Ex H H3 := f3.toExN E2 fun a z => by rw [List.mem_singleton.mp z]; exact hf
    have l3 := l.ex e3
    have hnk : n ∈ ks sm.tk := mem_sortM.mp (List.mem_of_getElem? hn)
    have hls := lk_ks.mpr hnk
    cases ht : lk sm.tk n with
    | none => rw [ht] at hls; cases hls
    | some t =>
      obtain ⟨a, ha, ta⟩ := l3.co.task ht
      have ta : TkW K H3 a t := ta
      have etk : ((sortM (ks sm.tk)).take (i + 1)).filter (readyN made sm) = ((sortM (ks sm.tk)).take i).filter (readyN made sm) ++ (if readyM made sm.en t = true then [n] else []) := by
        rw [List.take_add_one, hn, List.filter_append]
        congr 1
        have er : readyN made sm n = readyM made sm.en t := by
          unfold readyN
          rw [ht]
        show List.filter _ [n] = _
        by_cases c : readyM made sm.en t = true
        · rw [if_pos c, List.filter_cons, if_pos (by rw [er]; exact c)]
          rfl
        · rw [if_neg c, List.filter_cons, if_neg (by rw [er]; exact c)]
          rfl
      have fl : (((sortM (ks sm.tk)).take i).filter (readyN made sm)).length ≤ 60 := Nat.le_trans (List.length_filter_le _ _) (by rw [List.length_take, sortM_len, ks_len]; omega)
      have app : readyM made sm.en t = true → Fr [f] H2 (upd H3 f (.lst ((((sortM (ks sm.tk)).take i).filter (readyN made sm)).map V.str ++ [.str n]))) ∧ ∃ (y2 y3 : Option V), ([some (.ref p.wa), some (.ref f), some (.str n), some (optV t.wt)] : L2.St) = [some (.ref p.wa), some (.ref f), y2, y3] ∧ (upd H3 f (.lst ((((sortM (ks sm.tk)).take i).filter (readyN made sm)).map V.str ++ [.str n]))) f = some (.lst ((((sortM (ks sm.tk)).take (i + 1)).filter (readyN made sm)).map V.str)) := fun c =>
        ⟨f3.mutIn List.mem_cons_self h3, _, _, rfl, by rw [upd_same, etk, if_pos c, List.map_append]; rfl⟩
      have no : readyM made sm.en t = false → Fr [f] H2 H3 ∧ ∃ (y2 y3 : Option V), ([some (.ref p.wa), some (.ref f), some (.str n), some (optV t.wt)] : L2.St) = [some (.ref p.wa), some (.ref f), y2, y3] ∧ H3 f = some (.lst ((((sortM (ks sm.tk)).take (i + 1)).filter (readyN made sm)).map V.str)) := fun c =>
        ⟨f3, _, _, rfl, by rw [h3, etk, if_neg (by rw [c]; exact Bool.false_ne_true), List.append_nil]⟩
      refine ⟨_, rfl, p.wa, .ref p.w.ka, rfl, l3.g_tasks, _, rfl, p.w.ka, .ref a.1, rfl, l3.co.get ha, a.1, _, rfl, ta.g_waits, ?_⟩
      unfold readyM at app no
      cases hz : t.wt with
      | none =>
        rw [hz] at app no
        exact ⟨_, rfl, rfl, _, rfl, iteT ⟨_, rfl, .inl ⟨rfl, _, SqL.of h3⟩, _, rfl, f, _, _, rfl, rfl, h3, szlt (by rw [List.length_map]; omega), app rfl⟩⟩
      | some z =>
        rw [hz] at app no
        obtain ⟨om, m1, m2, m3⟩ := l3.bk.m.has z
        obtain ⟨oe, g1, g2, g3⟩ := l3.co.en.has z
        refine ⟨_, rfl, rfl, _, rfl, iteF ⟨_, rfl, _, rfl, p.wa, .ref p.ba, rfl, l3.g_book, p.ba, _, _, _, rfl, rfl, SqT.of l3.bk.p, atI_nat (j := 1) rfl, p.ma, om, rfl, m1, _, rfl, ?_⟩⟩
        rcases m3 with ⟨q1, rfl⟩ | ⟨rv, r, rfl, q1, q2⟩
        · refine iteT ⟨_, rfl, .inl ⟨rfl, _, SqL.of h3⟩, _, rfl, f, _, _, rfl, rfl, h3, szlt (by rw [List.length_map]; omega), app ?_⟩
          show (!decide (z ∈ ks made) || decide (z ∈ ks sm.en)) = true
          rw [decide_eq_false (isSome_f q1)]
          rfl
        · refine iteF ⟨_, rfl, _, rfl, p.wa, .ref p.w.ea, rfl, l3.g_ends, p.w.ea, oe, rfl, g1, _, rfl, ?_⟩
          rcases g3 with ⟨q3, rfl⟩ | ⟨ev, e, rfl, q3, _⟩
          · refine iteF (no ?_)
            show (!decide (z ∈ ks made) || decide (z ∈ ks sm.en)) = false
            rw [decide_eq_true (isSome_t q1), decide_eq_false (isSome_f q3)]
            rfl
          · refine iteT ⟨_, rfl, .inl ⟨rfl, _, SqL.of h3⟩, _, rfl, f, _, _, rfl, rfl, h3, szlt (by rw [List.length_map]; omega), app ?_⟩
            show (!decide (z ∈ ks made) || decide (z ∈ ks sm.en)) = true
            rw [decide_eq_true (isSome_t q3), Bool.or_true]
  · rintro σ H3 ⟨f3, y2, y3, rfl, h3⟩
    rw [List.length_map, List.take_length] at h3
    exact ⟨_, rfl, k f H3 (f3.toExN E2 fun a z => by rw [List.mem_singleton.mp z]; exact hf) hf h3⟩
end
end Wk
namespace Wk
open PySem PySem.Spec PyProof.Rows L2 SX
theorem pw_split {xs : List Str} {i : Nat} {n : Str} (h : xs[i]? = some n) : xs.drop i = n :: xs.drop (i + 1) := by
  obtain ⟨hk, e⟩ := List.getElem?_eq_some_iff.mp h
  rw [List.drop_eq_getElem_cons hk, e]
theorem drop_not {xs : List Str} (hd : xs.Nodup) {i : Nat} {n : Str} (h : xs[i]? = some n) : n ∉ xs.drop (i + 1) := by
  have : (xs.drop i).Nodup := List.Sublist.nodup (List.drop_sublist _ _) hd
  rw [pw_split h] at this
  exact (List.nodup_cons.mp this).1
theorem sortM_nd {l : List Str} (h : l.Nodup) : (sortM l).Nodup := (sortM_perm l).nodup_iff.mpr h
def foldR (made : As Rc) (xs : List Str) (s : Sm) : Sm := xs.foldl (fun s n => roundM made n s) s
theorem foldR_snoc {made : As Rc} {xs : List Str} {n : Str} {s : Sm} : foldR made (xs ++ [n]) s = roundM made n (foldR made xs s) := by
  unfold foldR
  rw [List.foldl_append]
  rfl
theorem roundM_other {made : As Rc} {n m : Str} {s : Sm} (h : m ≠ n) : lk (roundM made n s).tk m = lk s.tk m := by
  unfold roundM
  cases q : lk s.tk n with
  | none => rfl
  | some t =>
    show lk (dr s.tk n) m = _
    rw [lk_dr, if_neg h]
def firstT (told : As PyData) (en : As EndM) (n : Str) (t : Tk) : Rs := match t.wt with
  | some z => takeT n z (nowM told en z) t
  | none => .on t
def thenGo (n : Str) (r : Rc) : Rs → Rs
  | .on t' => goT n r t'
  | .shut w l => .shut w l
def midR (r : Rc) : Rs → Prop
  | .on t' => MidT r t'
  | .shut _ _ => True
theorem stepT_eq {told : As PyData} {en : As EndM} {n : Str} {r : Rc} {t : Tk} : stepT told en n r t = thenGo n r (firstT told en n t) := by
  unfold stepT firstT
  cases t.wt with
  | none => rfl
  | some z =>
    show (match takeT n z (nowM told en z) t with | .on t' => goT n r t' | x => x) = thenGo n r (takeT n z (nowM told en z) t)
    cases takeT n z (nowM told en z) t <;> rfl
theorem first_ok {told : As PyData} {en : As EndM} {n : Str} {r : Rc} {t : Tk} (okr : okR r = true) (otk : OkTk r t) (hnow : ∀ z d, nowM told en z = some d → okV d = true) : midR r (firstT told en n t) := by
  unfold firstT
  cases hw : t.wt with
  | none => exact ⟨otk.ln, otk.fit⟩
  | some z =>
    have q := take_ok (n := n) (v := nowM told en z) okr otk hw (hnow z)
    show midR r (takeT n z (nowM told en z) t)
    cases qq : takeT n z (nowM told en z) t with
    | on t' => rw [qq] at q; exact q.1
    | shut _ _ => exact trivial
section
variable {P : Program} {w : World} {K : PySem.W.Frag} {mg : Str → Option Value} {base : Heap}
theorem c_law_rings (W : Wld K mg) : Cal P w K mg base 22 "_law_rings" (spRings K) := by
  have c_law_able : Cal P w K mg base 1 "_law_able" _ := c_law_able W
  have c_law_closes : Cal P w K mg base 21 "_law_closes" _ := c_law_closes W
  have c_law_did : Cal P w K mg base 1 "_law_did" _ := c_law_did W
  refine cal_of W.d_law_rings sc_law_rings (fun vs H Q E h => ?_) (fun f cdv A outer s H vs Q E hr h => ?_)
  · obtain ⟨p, ad, ns, told, made, s, rfl, _⟩ := h
    rfl
  obtain ⟨p, ad, ns, told, made, sm, rfl, l, ok, hns, k⟩ := h
  have hu := hu_of hr
  refine ⟨_, (pss_cons (ps_if (pt_cmpR op_gt (pe_callB call_lenA (by rfl) W.f_len bt_len (pa_cons (pe_cl c_law_able hr (by omega) (by rfl) (pa_cons (pv 0) pa_nil)) pa_nil)) pe_int (nomark _)) (pss_one ps_retN) pss_nil)
    (pss_one (ps_for PassesOwn.never rfl (pi_list (pe_callB (call_sortedD rfl) (by rfl) W.f_sorted bt_sorted (pa_cons (pe_dget hu (pv 0) pe_str (fun _ _ => rfl)) pa_nil))) (pg_name (i := 1) sc_law_rings.nd rfl (Or.inl rfl)) (pss_cons (ps_set (i := 2) sc_law_rings.nd rfl (Or.inl rfl) (pe_dget hu (pe_dget hu (pv 0) pe_str (fun _ _ => rfl)) (pv 1) (fun _ _ => rfl)))
    (pss_one (ps_if (PW.pt (pw_and (pt_cmpR op_eq (pe_dget hu (pv 2) pe_str (fun _ _ => rfl)) pe_str (nomark _)) (pw_and1 (pt_cmpR op_eq (pe_callB call_lenA (by rfl) W.f_len bt_len (pa_cons (pe_dget hu (pv 2) pe_str (fun _ _ => rfl)) pa_nil)) (pe_callB call_lenDp (by rfl) W.f_len bt_len (pa_cons (pe_ix ix_T (pe_dget hu (pv 2) pe_str (fun _ _ => rfl)) pe_int (fun _ _ => rfl)) pa_nil)) (nomark _))))) (pss_one (ps_expr (pe_cl c_law_closes hr (by omega) (by rfl) (pa_cons (pv 0) (pa_cons (pv 1) (pa_cons pe_str (pa_cons (pe_dget hu (pv 2) pe_str (fun _ _ => rfl)) pa_nil))))))) (pss_one (ps_expr (pe_cl c_law_closes hr (by omega) (by rfl) (pa_cons (pv 0) (pa_cons (pv 1) (pa_cons pe_str (pa_cons (pe_cl c_law_did hr (by omega) (by rfl) (pa_cons (pv 2) (pa_cons (pv 1) (pa_cons (pe_tup (pa_cons pe_str (pa_cons (pe_dget hu (pv 2) pe_str (fun _ _ => rfl)) pa_nil))) pa_nil)))) pa_nil))))))))))))), ?_⟩
  obtain ⟨z1, z2, z3, z4⟩ := ok.szs l.bo hns
  refine ⟨_, rfl, p, ad, ns, told, made, sm, rfl, l, by omega, fun f H1 e1 hf h1 => ⟨_, _, rfl, .inl ⟨_, SqL.of h1, rfl⟩, _, _, rfl, rfl, _, rfl, iteD (fun c => ?_) (fun c => ?_)⟩⟩
  · have c : (0 : Int) < ((((ableM made sm).map V.str).length : Nat) : Int) := c
    have ne : ableM made sm ≠ [] := fun z => by rw [z] at c; exact absurd c (by decide)
    unfold ringsM at k
    rw [if_neg ne] at k
    exact k ad H1 (Stp.ex e1) (l.ex e1)
  have c : ¬ (0 : Int) < ((((ableM made sm).map V.str).length : Nat) : Int) := c
  have en : ableM made sm = [] := by
    cases q : ableM made sm with
    | nil => rfl
    | cons x xs =>
      rw [q] at c
      exact absurd (by show (0 : Int) < (((xs.map V.str).length + 1 : Nat) : Int); omega) c
  unfold ringsM at k
  rw [if_pos en] at k
  have l1 := l.ex e1
  have eal : ad.length = sm.tk.length := by
    have := congrArg List.length l.co.kk
    rw [ks_len, ks_len] at this
    exact this
  refine ⟨_, rfl, p.wa, .ref p.w.ka, rfl, l1.g_tasks, _, _, ks ad, rfl, .inl l1.co.tk, keys_ad, by rw [ks_len, eal]; omega, fun ys q hperm hsort hq => ?_⟩
  obtain rfl := sortM_eq hperm hsort
  rw [l.co.kk]
  generalize hh : upd H1 q _ = H2
  have e2 : Ex H1 H2 := hh ▸ Ex.new hq
  have h2 : H2 q = some (.lst ((sortM (ks sm.tk)).map V.str)) := by rw [← hh]; exact upd_same
  clear hh
  have l2 := l1.ex e2
  have nd : (sortM (ks sm.tk)).Nodup := sortM_nd ok.nt
  have qout : q ∉ fpW (YL K) p.w ad := fun z => l1.co.alloc q z hq
  refine ⟨q, rfl, ⟨_, SqL.of h2⟩, for_list (K := K) (a := q) (xs := (sortM (ks sm.tk)).map V.str) (fun i σ H' => ∃ (y1 y2 : Option V) (ad' : As (YL K).A), σ = [some (.ref p.wa), y1, y2] ∧ Stp (fpW (YL K) p.w ad) (fpW (YL K) p.w ad') H2 H' ∧ LW K p ad' ns told made H' (foldR made ((sortM (ks sm.tk)).take i) sm) ∧
      OkSm ns told made (foldR made ((sortM (ks sm.tk)).take i) sm) ∧ ∀ n ∈ (sortM (ks sm.tk)).drop i, ∃ t z, lk (foldR made ((sortM (ks sm.tk)).take i) sm).tk n = some t ∧ t.wt = some z)
    ⟨_, _, ad, rfl, Stp.refl _ _, l2, ok, fun n hn => not_able en (mem_sortM.mp hn)⟩ ?_ ?_ ?_⟩
  · rintro i σ H' _ ⟨y1, y2, ad', rfl, st, _⟩
    exact SqL.of (st.keep h2 qout)
  · rintro i x σ H3 hx ⟨y1, y2, ad', rfl, st, l3, ok3, hw⟩
    rw [List.getElem?_map] at hx
    obtain ⟨n, hn, rfl⟩ : ∃ n, (sortM (ks sm.tk))[i]? = some n ∧ x = .str n := by
      cases q : (sortM (ks sm.tk))[i]? with
      | none => rw [q] at hx; cases hx
      | some a => rw [q] at hx; cases hx; exact ⟨a, rfl, rfl⟩
    have etk : (sortM (ks sm.tk)).take (i + 1) = (sortM (ks sm.tk)).take i ++ [n] := by rw [List.take_add_one, hn]; rfl
    have es : foldR made ((sortM (ks sm.tk)).take (i + 1)) sm = roundM made n (foldR made ((sortM (ks sm.tk)).take i) sm) := by rw [etk, foldR_snoc]
    have edr := pw_split hn
    have nnot := drop_not nd hn
    generalize foldR made ((sortM (ks sm.tk)).take i) sm = si at l3 ok3 hw es
    rw [edr] at hw
    obtain ⟨t, z, ht, hz⟩ := hw n List.mem_cons_self
    obtain ⟨y1', y2', y3', y4'⟩ := ok3.szs l3.bo hns
    have szs : Szs si := ⟨by omega, by omega, by omega⟩
    obtain ⟨a, ha, ta⟩ := l3.co.task ht
    have ta : TkW K H3 a t := ta
    have hnm : n ∈ ks made := ok3.st n (isSome_t ht)
    obtain ⟨r, hrr⟩ := made_lk hnm
    have otk := ok3.ot n t r ht hrr
    have hrd : t.rd.length ≤ 3 := by
      by_cases hl : t.look = true
      · obtain ⟨m1, m2, _, _⟩ := otk.ln hl
        exact Nat.le_trans m2 m1.n
      · have hl' : t.look = false := by simpa using hl
        obtain ⟨f1, _⟩ := (otk.fit hl').out (made_ok l3.bo hrr)
        omega
    have ro := round_sm (n := n) l3.bo ok3
    have er : roundM made n si = closesM made n (roundT n t).1 (roundT n t).2 si := by
      unfold roundM
      rw [ht]
    -- what is left is as it was
    have next : ∀ ad'' H', Stp (fpW (YL K) p.w ad') (fpW (YL K) p.w ad'') H3 H' → LW K p ad'' ns told made H' (closesM made n (roundT n t).1 (roundT n t).2 si) → ∀ y2 : Option V, ∃ (y1 y2' : Option V) (ad' : As (YL K).A), ([some (.ref p.wa), some (.str n), y2] : L2.St) = [some (.ref p.wa), y1, y2'] ∧ Stp (fpW (YL K) p.w ad) (fpW (YL K) p.w ad') H2 H' ∧ LW K p ad' ns told made H' (foldR made ((sortM (ks sm.tk)).take (i + 1)) sm) ∧
      OkSm ns told made (foldR made ((sortM (ks sm.tk)).take (i + 1)) sm) ∧ ∀ n ∈ (sortM (ks sm.tk)).drop (i + 1), ∃ t z, lk (foldR made ((sortM (ks sm.tk)).take (i + 1)) sm).tk n = some t ∧ t.wt = some z := fun ad'' H' st' l' y2 => by
      rw [es, er]
      rw [er] at ro
      refine ⟨_, _, ad'', rfl, st.trans st', l', ro.1, fun m hm => ?_⟩
      obtain ⟨t', z', h1, h2⟩ := hw m (List.mem_cons_of_mem _ hm)
      refine ⟨t', z', ?_, h2⟩
      rw [← er, roundM_other fun e => nnot (by rw [← e]; exact hm)]
      exact h1
    have gw := ta.g_waits
    rw [hz] at gw
    refine ⟨_, rfl, p.wa, .ref p.w.ka, rfl, l3.g_tasks, _, rfl, p.w.ka, .ref a.1, rfl, l3.co.get ha, ?_⟩
    refine ⟨_, rfl, a.1, _, rfl, ta.g_stage, rfl, _, rfl, ?_⟩
    cases hl : t.look with
    | true =>
      rw [show decide (V.str (stS true) = V.str "look") = true from (show decide (V.str "look" = V.str "look") = true by decide +kernel)]
      obtain ⟨lv, glv, dlv⟩ := ta.g_line hl
      obtain ⟨rv, hrv, drv⟩ := ta.reads
      have hrl : rv.length = t.rd.length := by rw [drv.length, List.length_map]
      have m3n := (otk.ln hl).1.n
      refine iteT ⟨_, rfl, a.1, _, rfl, ta.g_reads, _, _, rfl, .inl ⟨_, SqL.of hrv, rfl⟩, _, rfl, a.1, lv, rfl, glv, _, _, _, rfl, dlv, atI_nat (j := 1) rfl, fun v1 hv1 => ⟨_, _, rfl, hv1, rfl, sz100 (by show (t.ln.rd.map encS).length ≤ _; rw [List.length_map]; omega), rfl, _, rfl, iteD (fun c => ?_) (fun c => ?_)⟩⟩
      · have c : V.int ((rv.length : Nat) : Int) = V.int (((t.ln.rd.map encS).length : Nat) : Int) := c
        have c : t.rd.length = t.ln.rd.length := by
          rw [List.length_map, hrl] at c
          injection c with c
          omega
        have rt : roundT n t = (("kept" : Str), t.ln) := by
          unfold roundT
          rw [if_pos ⟨hl, c⟩]
        rw [rt] at next
        exact ⟨_, rfl, _, rfl, _, rfl, a.1, lv, rfl, glv, p, ad', ns, told, made, si, n, "kept", lv, t.ln, t, rfl, l3, szs, ht, hnm, dlv, fun ad'' H' st' l' => next ad'' H' st' l' _⟩
      · have c : ¬ V.int ((rv.length : Nat) : Int) = V.int (((t.ln.rd.map encS).length : Nat) : Int) := c
        have c : t.rd.length ≠ t.ln.rd.length := fun e => c (by rw [List.length_map, hrl, e])
        have rt : roundT n t = (("done" : Str), (⟨n, t.rd, .wants z⟩ : Line)) := by
          unfold roundT
          rw [if_neg fun e => c e.2, hz]
          rfl
        rw [rt] at next
        refine ⟨_, rfl, _, rfl, _, rfl, _, rfl, _, rfl, a.1, _, rfl, gw, (show 2 ≤ sizeLine by decide), fun p5 hp5 => ?_⟩
        have d5 := dp_newT (K := K) hp5 (.cons (.str "wants") (.one (.str z)))
        have e5 := Ex.new (o := .tup [.str "wants", .str z]) hp5
        generalize hh : upd H3 p5 _ = H5
        have d5 : Dp K H5 (.ref p5) (encE (.wants z)) := hh ▸ d5
        have e5 : Ex H3 H5 := hh ▸ e5
        clear hh
        refine ⟨a, t, n, .ref p5, .wants z, rfl, ta.up e5, by omega, d5, fun x6 H6 e6 hx6 => ?_⟩
        exact ⟨p, ad', ns, told, made, si, n, "done", x6, _, t, rfl, l3.ex (e5.trans e6), szs, ht, hnm, hx6, fun ad'' H' st' l' => next ad'' H' ((Stp.ex (e5.trans e6)).trans st') l' _⟩
    | false =>
      rw [show decide (V.str (stS false) = V.str "look") = false from (show decide (V.str "do" = V.str "look") = false by decide +kernel)]
      have rt : roundT n t = (("done" : Str), (⟨n, t.rd, .wants z⟩ : Line)) := by
        unfold roundT
        rw [if_neg fun e => by rw [hl] at e; exact absurd e.1 Bool.false_ne_true, hz]
        rfl
      rw [rt] at next
      refine iteF ⟨_, rfl, _, rfl, _, rfl, _, rfl, _, rfl, a.1, _, rfl, gw, (show 2 ≤ sizeLine by decide), fun p5 hp5 => ?_⟩
      have d5 := dp_newT (K := K) hp5 (.cons (.str "wants") (.one (.str z)))
      have e5 := Ex.new (o := .tup [.str "wants", .str z]) hp5
      generalize hh : upd H3 p5 _ = H5
      have d5 : Dp K H5 (.ref p5) (encE (.wants z)) := hh ▸ d5
      have e5 : Ex H3 H5 := hh ▸ e5
      clear hh
      refine ⟨a, t, n, .ref p5, .wants z, rfl, ta.up e5, by omega, d5, fun x6 H6 e6 hx6 => ?_⟩
      exact ⟨p, ad', ns, told, made, si, n, "done", x6, _, t, rfl, l3.ex (e5.trans e6), szs, ht, hnm, hx6, fun ad'' H' st' l' => next ad'' H' ((Stp.ex (e5.trans e6)).trans st') l' _⟩
  · rintro σ H3 ⟨y1, y2, ad', rfl, st, l3, ok3, hw⟩
    rw [List.length_map, List.take_length] at l3
    exact k ad' H3 ((Stp.ex (e1.trans e2)).trans st) l3
theorem c_law_moves (W : Wld K mg) : Cal P w K mg base 23 "_law_moves" (spMoves K) := by
  have c_law_takes : Cal P w K mg base 22 "_law_takes" _ := c_law_takes W
  have c_law_goes : Cal P w K mg base 22 "_law_goes" _ := c_law_goes W
  have c_law_opens : Cal P w K mg base 21 "_law_opens" _ := c_law_opens W
  have c_law_rings : Cal P w K mg base 22 "_law_rings" _ := c_law_rings W
  refine cal_of W.d_law_moves sc_law_moves (fun vs H Q E h => ?_) (fun f cdv A outer s H vs Q E hr h => ?_)
  · obtain ⟨p, ad, ns, told, made, s, n, rfl, _⟩ := h
    rfl
  obtain ⟨p, ad, ns, told, made, sm, n, rfl, l, ok, hns, hn, k⟩ := h
  have hu := hu_of hr
  refine ⟨_, (C8.pss_cut (ps_if (pt_cmpR op_notN (pe_dget hu (pe_dget hu (pe_dget hu (pv 0) pe_str (fun _ _ => rfl)) (pv 1) (fun _ _ => rfl)) pe_str (fun _ _ => rfl)) pe_non (nomark _)) (pss_one (ps_expr (pe_cl c_law_takes hr (by omega) (by rfl) (pa_cons (pv 0) (pa_cons (pv 1) pa_nil))))) pss_nil)
    (C8.pss_cut (ps_if (pt_cmp (pc_din hu (pv 1) (pe_dget hu (pv 0) pe_str (fun _ _ => rfl))) (by rfl)) (pss_one (ps_expr (pe_cl c_law_goes hr (by omega) (by rfl) (pa_cons (pv 0) (pa_cons (pv 1) pa_nil))))) pss_nil)
    (C8.pss_cut (ps_if (pt_cmp (pc_din hu (pv 1) (pe_dget hu (pv 0) pe_str (fun _ _ => rfl))) (by rfl)) (pss_one (ps_expr (pe_cl c_law_opens hr (by omega) (by rfl) (pa_cons (pv 0) (pa_cons (pe_dget hu (pe_dget hu (pe_dget hu (pv 0) pe_str (fun _ _ => rfl)) (pv 1) (fun _ _ => rfl)) pe_str (fun _ _ => rfl)) pa_nil))))) pss_nil)
    (pss_one (ps_expr (pe_cl c_law_rings hr (by omega) (by rfl) (pa_cons (pv 0) pa_nil))))))), ?_⟩
  have hls := lk_ks.mpr hn
  cases ht : lk sm.tk n with
  | none => rw [ht] at hls; cases hls
  | some t =>
  obtain ⟨z1, z2, z3, z4⟩ := ok.szs l.bo hns
  have szs : Szs sm := ⟨by omega, by omega, by omega⟩
  obtain ⟨r, hm⟩ := made_lk (ok.st n hn)
  have otk := ok.ot n t r ht hm
  have okr := made_ok l.bo hm
  have hnow := now_ok l.bo ok
  obtain ⟨a, ha, ta⟩ := l.co.task ht
  have ta : TkW K H a t := ta
  have aft := after_ok l.bo ok ht hm
  have step := step_ok (told := told) (en := sm.en) (n := n) okr otk hnow
  have k : ∀ ad' H', Stp (fpW (YL K) p.w ad) (fpW (YL K) p.w ad') H H' → LW K p ad' ns told made H' (ringsM made (afterM made n (stepT told sm.en n r t) sm)) → Q .non H' := fun ad' H' st l' => k ad' H' st (by
    unfold movesM
    rw [ht, hm]
    exact l')
  -- first: what is taken
  have hst : stepT told sm.en n r t = thenGo n r (firstT told sm.en n t) := stepT_eq
  have mid1 := first_ok (n := n) okr otk hnow
  generalize hx1 : firstT told sm.en n t = x1 at hst mid1
  refine ⟨fun σ' H' => σ' = [some (.ref p.wa), some (.str n)] ∧ ∃ ad', Stp (fpW (YL K) p.w ad) (fpW (YL K) p.w ad') H H' ∧ LW K p ad' ns told made H' (appM made n x1 sm), ?_, ?_⟩
  · refine ⟨_, rfl, p.wa, .ref p.w.ka, rfl, l.g_tasks, _, rfl, p.w.ka, .ref a.1, rfl, l.co.get ha, a.1, _, rfl, ta.g_waits, ?_⟩
    cases hw : t.wt with
    | none =>
      have hx1 : Rs.on t = x1 := by rw [← hx1]; unfold firstT; rw [hw]
      refine ⟨rfl, _, rfl, iteF ⟨rfl, ad, Stp.refl _ _, ?_⟩⟩
      rw [← hx1]
      have : appM made n (.on t) sm = sm := by
        show ({ sm with tk := pt sm.tk n t } : Sm) = sm
        rw [pt_same ok.nt ht]
      rw [this]
      exact l
    | some z =>
      have hx1 : takeT n z (nowM told sm.en z) t = x1 := by rw [← hx1]; unfold firstT; rw [hw]
      refine ⟨rfl, _, rfl, iteT ⟨_, rfl, _, rfl, p, ad, ns, told, made, sm, n, t, r, z, rfl, l, szs, ht, hm, otk, hw, hnow, fun ad' H' st l' => ⟨rfl, ad', st, ?_⟩⟩⟩
      rw [← hx1]
      exact l'
  rintro _ H1 ⟨rfl, ad1, st1, l1⟩
  refine ⟨fun σ' H' => σ' = [some (.ref p.wa), some (.str n)] ∧ ∃ ad', Stp (fpW (YL K) p.w ad) (fpW (YL K) p.w ad') H H' ∧ LW K p ad' ns told made H' (appM made n (stepT told sm.en n r t) sm), ?_, ?_⟩
  · rw [hst]
    refine ⟨_, rfl, _, rfl, p.wa, .ref p.w.ka, rfl, l1.g_tasks, p.w.ka, _, rfl, l1.co.has, _, rfl, ?_⟩
    cases x1 with
    | on t1 =>
      have hk : lk (appM made n (.on t1) sm).tk n = some t1 := lk_pt_self
      obtain ⟨a1, ha1, _⟩ := l1.co.task hk
      rw [ha1]
      refine iteT ⟨_, rfl, _, rfl, p, ad1, ns, told, made, setM n t1 sm, n, t1, r, rfl, l1, szs, hk, hm, mid1, fun ad' H' st l' => ⟨rfl, ad', st1.trans st, ?_⟩⟩
      rw [appM_two] at l'
      exact l'
    | shut w' l' =>
      have hk : lk ad1 n = none := by
        have e := lk_kk (n := n) l1.co
        have : lk (appM made n (.shut w' l') sm).tk n = none := by
          show lk (dr sm.tk n) n = none
          rw [lk_dr, if_pos rfl]
        rw [this] at e
        cases q : lk ad1 n with
        | none => rfl
        | some x => rw [q] at e; cases e
      rw [hk]
      exact iteF ⟨rfl, ad1, st1, l1⟩
  rintro _ H2 ⟨rfl, ad2, st2, l2⟩
  refine ⟨fun σ' H' => σ' = [some (.ref p.wa), some (.str n)] ∧ ∃ ad', Stp (fpW (YL K) p.w ad) (fpW (YL K) p.w ad') H H' ∧ LW K p ad' ns told made H' (afterM made n (stepT told sm.en n r t) sm), ?_, ?_⟩
  · refine ⟨_, rfl, _, rfl, p.wa, .ref p.w.ka, rfl, l2.g_tasks, p.w.ka, _, rfl, l2.co.has, _, rfl, ?_⟩
    generalize stepT told sm.en n r t = x2 at l2 step
    cases x2 with
    | on t2 =>
      obtain ⟨s1, ⟨z, hz⟩, s3⟩ := step
      have hk : lk (appM made n (.on t2) sm).tk n = some t2 := lk_pt_self
      obtain ⟨a2, ha2, ta2⟩ := l2.co.task hk
      have ta2 : TkW K H2 a2 t2 := ta2
      have gw := ta2.g_waits
      rw [hz] at gw
      rw [ha2]
      have hsz : (setM n t2 sm).tk.length ≤ 1000 := by
        show (pt sm.tk n t2).length ≤ 1000
        have := pt_len (l := sm.tk) (n := n) (a := t2)
        omega
      refine iteT ⟨_, rfl, _, rfl, p.wa, .ref p.w.ka, rfl, l2.g_tasks, _, rfl, p.w.ka, .ref a2.1, rfl, l2.co.get ha2, a2.1, _, rfl, gw, p, ad2, ns, told, made, setM n t2 sm, z, rfl, l2, hsz, fun ad' H' st l' => ⟨rfl, ad', st2.trans st, ?_⟩⟩
      show LW K p ad' ns told made H' (opensM made (t2.wt.getD "") (setM n t2 sm))
      rw [hz]
      exact l'
    | shut w' l' =>
      have hk : lk ad2 n = none := by
        have e := lk_kk (n := n) l2.co
        have : lk (appM made n (.shut w' l') sm).tk n = none := by
          show lk (dr sm.tk n) n = none
          rw [lk_dr, if_pos rfl]
        rw [this] at e
        cases q : lk ad2 n with
        | none => rfl
        | some x => rw [q] at e; cases e
      rw [hk]
      exact iteF ⟨rfl, ad2, st2, l2⟩
  rintro _ H3 ⟨rfl, ad3, st3, l3⟩
  exact ⟨_, rfl, p, ad3, ns, told, made, _, rfl, l3, aft.1, hns, fun ad' H' st l' => k ad' H' (st3.trans st) l'⟩
end
end Wk
namespace Wk
open PySem PySem.Spec PyProof.Rows L2 SX
/-! ### a task of the weave -/
abbrev tkF (nm : Str) (rc : V) (tx : Str) (el : V) (st : Str) (r p : Addr) (pk : Bool) (wt cl : V) : List (Str × V) :=
  [("task_name", .str nm), ("task_recipe", rc), ("task_text", .str tx), ("task_shelf", .non), ("elder_line", el), ("task_stage", .str st), ("got_reads", .ref r), ("got_peeks", .ref p), ("is_peeking", .bl pk), ("waits_for", wt), ("closing", cl)]
section
variable {nm : Str} {rc : V} {tx : Str} {el : V} {st st' : Str} {r p r' : Addr} {pk pk' : Bool} {wt wt' cl cl' : V}
theorem tf_name : (tkF nm rc tx el st r p pk wt cl).lookup ("task_name" : Str) = some (.str nm) := by rfl
theorem tf_recipe : (tkF nm rc tx el st r p pk wt cl).lookup ("task_recipe" : Str) = some rc := by rfl
theorem tf_text : (tkF nm rc tx el st r p pk wt cl).lookup ("task_text" : Str) = some (.str tx) := by rfl
theorem tf_shelf : (tkF nm rc tx el st r p pk wt cl).lookup ("task_shelf" : Str) = some .non := by rfl
theorem tf_elder : (tkF nm rc tx el st r p pk wt cl).lookup ("elder_line" : Str) = some el := by rfl
theorem tf_stage : (tkF nm rc tx el st r p pk wt cl).lookup ("task_stage" : Str) = some (.str st) := by rfl
theorem tf_reads : (tkF nm rc tx el st r p pk wt cl).lookup ("got_reads" : Str) = some (.ref r) := by rfl
theorem tf_peeks : (tkF nm rc tx el st r p pk wt cl).lookup ("got_peeks" : Str) = some (.ref p) := by rfl
theorem tf_peeking : (tkF nm rc tx el st r p pk wt cl).lookup ("is_peeking" : Str) = some (.bl pk) := by rfl
theorem tf_waits : (tkF nm rc tx el st r p pk wt cl).lookup ("waits_for" : Str) = some wt := by rfl
theorem tf_closing : (tkF nm rc tx el st r p pk wt cl).lookup ("closing" : Str) = some cl := by rfl
theorem tq_stage : putF "task_stage" (.str st') (tkF nm rc tx el st r p pk wt cl) = tkF nm rc tx el st' r p pk wt cl := by rfl
theorem tq_reads : putF "got_reads" (.ref r') (tkF nm rc tx el st r p pk wt cl) = tkF nm rc tx el st r' p pk wt cl := by rfl
theorem tq_peeking : putF "is_peeking" (.bl pk') (tkF nm rc tx el st r p pk wt cl) = tkF nm rc tx el st r p pk' wt cl := by rfl
theorem tq_waits : putF "waits_for" wt' (tkF nm rc tx el st r p pk wt cl) = tkF nm rc tx el st r p pk wt' cl := by rfl
theorem tq_closing : putF "closing" cl' (tkF nm rc tx el st r p pk wt cl) = tkF nm rc tx el st r p pk wt cl' := by rfl
theorem tf_m (m : Str) (h : m ∈ (["go_on", "look_on", "ask_on", "do_on", "close", "take", "take_looked", "begin_anew", "go_round"] : List Str)) : (tkF nm rc tx el st r p pk wt cl).lookup m = none := by
  simp only [List.mem_cons, List.not_mem_nil, or_false] at h
  rcases h with rfl | rfl | rfl | rfl | rfl | rfl | rfl | rfl | rfl <;> rfl
end
def stOk (look : Bool) (st : Str) : Prop := (look = true ∧ st = "look") ∨ (look = false ∧ (st = "ask" ∨ st = "do"))
def encCl (c : Str × Line) : PyData := .tuple [.str c.1, encLn c.2]
theorem immCl (c : Str × Line) : imm (encCl c) = true := by
  show (true && (imm (encLn c.2) && true)) = true
  rw [immLn]
  rfl
def clV (K : PySem.W.Frag) (H : Hp) (v : V) : Option (Str × Line) → Prop
  | none => v = .non
  | some c => Dp K H v (encCl c)
theorem clV.tu {K : PySem.W.Frag} {H H' : Hp} {v : V} {c : Option (Str × Line)} (h : clV K H v c) (t : Tu H H') : clV K H' v c := by
  cases c with
  | none => exact h
  | some c => exact Dp.tu t _ _ (immCl c) h
structure TkX (K : PySem.W.Frag) (H : Hp) (n : Str) (r : Rc) (a : Addr × Addr × Addr) (t : Tk) (cl : Option (Str × Line)) : Prop where
  ex : ∃ (dx : Addr) (rc el cv : V) (st : Str) (rv pv : List V), H a.1 = some (.ins (aTask K) dx (tkF n rc (showR r) el st a.2.1 a.2.2 t.py (optV t.wt) cv)) ∧ Dp K H rc (encR r) ∧ stOk t.look st ∧
    H a.2.1 = some (.lst rv) ∧ DpAll K H rv (t.rd.map encS) ∧ H a.2.2 = some (.lst pv) ∧ DpAll K H pv (t.pk.map encP) ∧ (t.look = true → Dp K H el (encLn t.ln)) ∧ clV K H cv cl
  ok : okR r = true
  pk : prOk t.pk
section
variable {K : PySem.W.Frag} {H H' : Hp} {n : Str} {r : Rc} {a : Addr × Addr × Addr} {t : Tk} {cl : Option (Str × Line)}
theorem TkX.fr (h : TkX K H n r a t cl) (k : ∀ x ∈ [a.1, a.2.1, a.2.2], ∀ o, H x = some o → H' x = some o) (tt : Tu H H') : TkX K H' n r a t cl := by
  obtain ⟨dx, rc, el, cv, st, rv, pv, h1, h2, h3, h4, h5, h6, h7, h8, h9⟩ := h.ex
  exact ⟨⟨dx, rc, el, cv, st, rv, pv, k _ (by simp) _ h1, Dp.tu tt _ _ (immR (okR_wf h.ok).1) h2, h3, k _ (by simp) _ h4, DpAll.tu tt _ _ (immSs _) h5, k _ (by simp) _ h6, DpAll.tu tt _ _ (immPs h.pk) h7, fun z => Dp.tu tt _ _ (immLn _) (h8 z), h9.tu tt⟩, h.ok, h.pk⟩
theorem TkX.up (h : TkX K H n r a t cl) (e : Ex H H') : TkX K H' n r a t cl := h.fr (fun x _ o ho => e x o ho) (Same.tu e)
theorem TkX.ins (h : TkX K H n r a t cl) : ∃ dx fs, H a.1 = some (.ins (aTask K) dx fs) ∧ fs.length < 1000 ∧
    (∀ m ∈ (["go_on", "look_on", "ask_on", "do_on", "close", "take", "take_looked", "begin_anew", "go_round"] : List Str), fs.lookup m = none) ∧
    fs.lookup ("task_name" : Str) = some (.str n) ∧ (∃ rc, fs.lookup ("task_recipe" : Str) = some rc ∧ Dp K H rc (encR r)) ∧ fs.lookup ("task_text" : Str) = some (.str (showR r)) ∧ fs.lookup ("task_shelf" : Str) = some .non ∧
    (∃ el, fs.lookup ("elder_line" : Str) = some el ∧ (t.look = true → Dp K H el (encLn t.ln))) ∧ (∃ st, fs.lookup ("task_stage" : Str) = some (.str st) ∧ stOk t.look st) ∧
    fs.lookup ("got_reads" : Str) = some (.ref a.2.1) ∧ fs.lookup ("got_peeks" : Str) = some (.ref a.2.2) ∧ fs.lookup ("is_peeking" : Str) = some (.bl t.py) ∧ fs.lookup ("waits_for" : Str) = some (optV t.wt) ∧ ∃ cv, fs.lookup ("closing" : Str) = some cv ∧ clV K H cv cl := by
  obtain ⟨dx, rc, el, cv, st, rv, pv, h1, h2, h3, h4, h5, h6, h7, h8, h9⟩ := h.ex
  exact ⟨dx, _, h1, (show 11 < 1000 by decide), tf_m, tf_name, ⟨rc, tf_recipe, h2⟩, tf_text, tf_shelf, ⟨el, tf_elder, h8⟩, ⟨st, tf_stage, h3⟩, tf_reads, tf_peeks, tf_peeking, tf_waits, cv, tf_closing, h9⟩
theorem TkX.reads (h : TkX K H n r a t cl) : ∃ rv, H a.2.1 = some (.lst rv) ∧ DpAll K H rv (t.rd.map encS) := by
  obtain ⟨dx, rc, el, cv, st, rv, pv, h1, h2, h3, h4, h5, _⟩ := h.ex
  exact ⟨rv, h4, h5⟩
theorem TkX.peeks (h : TkX K H n r a t cl) : ∃ pv, H a.2.2 = some (.lst pv) ∧ DpAll K H pv (t.pk.map encP) := by
  obtain ⟨dx, rc, el, cv, st, rv, pv, h1, h2, h3, h4, h5, h6, h7, _⟩ := h.ex
  exact ⟨pv, h6, h7⟩
/-- what becomes of a task when a field is set -/
theorem TkX.set (h : TkX K H n r a t cl) (nd : [a.1, a.2.1, a.2.2].Nodup) {dx : Addr} {fs : List (Str × V)} (hi : H a.1 = some (.ins (aTask K) dx fs)) :
    (∀ w', TkX K (upd H a.1 (.ins (aTask K) dx (putF "waits_for" (optV w') fs))) n r a { t with wt := w' } cl) ∧
    (∀ b, TkX K (upd H a.1 (.ins (aTask K) dx (putF "is_peeking" (.bl b) fs))) n r a { t with py := b } cl) ∧
    (∀ st : Str, (st = "ask" ∨ st = "do") → TkX K (upd H a.1 (.ins (aTask K) dx (putF "task_stage" (.str st) fs))) n r a { t with look := false } cl) ∧
    (∀ p, p ∉ [a.1, a.2.2] → H p = some (.lst []) → TkX K (upd H a.1 (.ins (aTask K) dx (putF "got_reads" (.ref p) fs))) n r (a.1, p, a.2.2) { t with rd := [] } cl) ∧
    (∀ cv c, Dp K H cv (encCl c) → TkX K (upd H a.1 (.ins (aTask K) dx (putF "closing" cv fs))) n r a t (some c)) := by
  obtain ⟨dx', rc, el, cv, st, rv, pv, h1, h2, h3, h4, h5, h6, h7, h8, h9⟩ := h.ex
  rw [hi] at h1
  cases h1
  have n1 : a.2.1 ≠ a.1 := fun z => (List.nodup_cons.mp nd).1 (by rw [z]; simp)
  have n2 : a.2.2 ≠ a.1 := fun z => (List.nodup_cons.mp nd).1 (by rw [z]; simp)
  have key : ∀ (o : HO), Tu H (upd H a.1 o) ∧ Dp K (upd H a.1 o) rc (encR r) ∧ (upd H a.1 o) a.2.1 = some (.lst rv) ∧ DpAll K (upd H a.1 o) rv (t.rd.map encS) ∧ (upd H a.1 o) a.2.2 = some (.lst pv) ∧ DpAll K (upd H a.1 o) pv (t.pk.map encP) ∧ (t.look = true → Dp K (upd H a.1 o) el (encLn t.ln)) ∧ clV K (upd H a.1 o) cv cl := fun o => by
    have tt : Tu H (upd H a.1 o) := Tu.mut hi
    exact ⟨tt, Dp.tu tt _ _ (immR (okR_wf h.ok).1) h2, by rw [upd_ne n1]; exact h4, DpAll.tu tt _ _ (immSs _) h5, by rw [upd_ne n2]; exact h6, DpAll.tu tt _ _ (immPs h.pk) h7, fun z => Dp.tu tt _ _ (immLn _) (h8 z), h9.tu tt⟩
  refine ⟨fun w' => ?_, fun b => ?_, fun st' hst => ?_, fun p hp hr => ?_, fun cv' c hc => ?_⟩
  · rw [tq_waits]
    obtain ⟨k0, k1, k2, k3, k4, k5, k6, k7⟩ := key (.ins (aTask K) dx (tkF n rc (showR r) el st a.2.1 a.2.2 t.py (optV w') cv))
    exact ⟨⟨dx, rc, el, cv, st, rv, pv, upd_same, k1, h3, k2, k3, k4, k5, k6, k7⟩, h.ok, h.pk⟩
  · rw [tq_peeking]
    obtain ⟨k0, k1, k2, k3, k4, k5, k6, k7⟩ := key (.ins (aTask K) dx (tkF n rc (showR r) el st a.2.1 a.2.2 b (optV t.wt) cv))
    exact ⟨⟨dx, rc, el, cv, st, rv, pv, upd_same, k1, h3, k2, k3, k4, k5, k6, k7⟩, h.ok, h.pk⟩
  · rw [tq_stage]
    obtain ⟨k0, k1, k2, k3, k4, k5, k6, k7⟩ := key (.ins (aTask K) dx (tkF n rc (showR r) el st' a.2.1 a.2.2 t.py (optV t.wt) cv))
    exact ⟨⟨dx, rc, el, cv, st', rv, pv, upd_same, k1, .inr ⟨rfl, hst⟩, k2, k3, k4, k5, fun z => (by cases z), k7⟩, h.ok, h.pk⟩
  · rw [tq_reads]
    obtain ⟨k0, k1, k2, k3, k4, k5, k6, k7⟩ := key (.ins (aTask K) dx (tkF n rc (showR r) el st p a.2.2 t.py (optV t.wt) cv))
    refine ⟨⟨dx, rc, el, cv, st, [], pv, upd_same, k1, h3, ?_, .nil, k4, k5, k6, k7⟩, h.ok, h.pk⟩
    show (upd H a.1 _) p = _
    rw [upd_ne fun z => hp (by rw [z]; simp)]
    exact hr
  · rw [tq_closing]
    obtain ⟨k0, k1, k2, k3, k4, k5, k6, k7⟩ := key (.ins (aTask K) dx (tkF n rc (showR r) el st a.2.1 a.2.2 t.py (optV t.wt) cv'))
    exact ⟨⟨dx, rc, el, cv', st, rv, pv, upd_same, k1, h3, k2, k3, k4, k5, k6, Dp.tu k0 _ _ (immCl c) hc⟩, h.ok, h.pk⟩
theorem TkX.addR (h : TkX K H n r a t cl) (nd : [a.1, a.2.1, a.2.2].Nodup) {rv : List V} (hr : H a.2.1 = some (.lst rv)) {v : V} {q : Pr} (hv : Dp K H v (encS q)) : TkX K (upd H a.2.1 (.lst (rv ++ [v]))) n r a { t with rd := t.rd ++ [q] } cl := by
  obtain ⟨dx, rc, el, cv, st, rv', pv, h1, h2, h3, h4, h5, h6, h7, h8, h9⟩ := h.ex
  rw [hr] at h4
  cases h4
  have nd2 := List.nodup_cons.mp (List.nodup_cons.mp nd).2
  have n1 : a.1 ≠ a.2.1 := fun z => (List.nodup_cons.mp nd).1 (by rw [z]; simp)
  have n2 : a.2.2 ≠ a.2.1 := fun z => nd2.1 (by rw [z]; simp)
  have tt : Tu H (upd H a.2.1 (.lst (rv ++ [v]))) := Tu.mut hr
  refine ⟨⟨dx, rc, el, cv, st, rv ++ [v], pv, by rw [upd_ne n1]; exact h1, Dp.tu tt _ _ (immR (okR_wf h.ok).1) h2, h3, upd_same, ?_, by rw [upd_ne n2]; exact h6, DpAll.tu tt _ _ (immPs h.pk) h7, fun z => Dp.tu tt _ _ (immLn _) (h8 z), h9.tu tt⟩, h.ok, h.pk⟩
  show DpAll K _ (rv ++ [v]) ((t.rd ++ [q]).map encS)
  rw [List.map_append]
  exact (DpAll.tu tt _ _ (immSs _) h5).append (.one (Dp.tu tt _ _ (immS q) hv))
theorem TkX.addP (h : TkX K H n r a t cl) (nd : [a.1, a.2.1, a.2.2].Nodup) {pv : List V} (hp : H a.2.2 = some (.lst pv)) {v : V} {q : Pr} (hv : Dp K H v (encP q)) (hq : okV q.2 = true) : TkX K (upd H a.2.2 (.lst (pv ++ [v]))) n r a { t with pk := t.pk ++ [q] } cl := by
  obtain ⟨dx, rc, el, cv, st, rv, pv', h1, h2, h3, h4, h5, h6, h7, h8, h9⟩ := h.ex
  rw [hp] at h6
  cases h6
  have nd2 := List.nodup_cons.mp (List.nodup_cons.mp nd).2
  have n1 : a.1 ≠ a.2.2 := fun z => (List.nodup_cons.mp nd).1 (by rw [z]; simp)
  have n2 : a.2.1 ≠ a.2.2 := fun z => nd2.1 (by rw [z]; simp)
  have tt : Tu H (upd H a.2.2 (.lst (pv ++ [v]))) := Tu.mut hp
  refine ⟨⟨dx, rc, el, cv, st, rv, pv ++ [v], by rw [upd_ne n1]; exact h1, Dp.tu tt _ _ (immR (okR_wf h.ok).1) h2, h3, by rw [upd_ne n2]; exact h4, DpAll.tu tt _ _ (immSs _) h5, upd_same, ?_, fun z => Dp.tu tt _ _ (immLn _) (h8 z), h9.tu tt⟩, h.ok, h.pk.snoc hq⟩
  show DpAll K _ (pv ++ [v]) ((t.pk ++ [q]).map encP)
  rw [List.map_append]
  exact (DpAll.tu tt _ _ (immPs h.pk) h7).append (.one (Dp.tu tt _ _ (immP hq) hv))
end
abbrev A3 := Addr × Addr × Addr
abbrev fp3 (a : A3) : List Addr := [a.1, a.2.1, a.2.2]
/-- a step of one task -/
structure Tsp (a a' : A3) (H H' : Hp) : Prop where
  f : Fr (fp3 a) H H'
  e : a'.1 = a.1
  nd : (fp3 a').Nodup
  s : ∀ x ∈ fp3 a', x ∈ fp3 a ∨ H x = none
theorem Tsp.ex {a : A3} {H H' : Hp} (nd : (fp3 a).Nodup) (e : Ex H H') : Tsp a a H H' := ⟨.ex e, rfl, nd, fun x h => .inl h⟩
theorem Tsp.trans {a b c : A3} {H H1 H2 : Hp} (x : Tsp a b H H1) (y : Tsp b c H1 H2) : Tsp a c H H2 := by
  have q := Stp.trans (⟨x.f, x.s⟩ : Stp (fp3 a) (fp3 b) H H1) (⟨y.f, y.s⟩ : Stp (fp3 b) (fp3 c) H1 H2)
  exact ⟨q.f, y.e.trans x.e, y.nd, q.s⟩
theorem Tsp.mut1 {a : A3} {H : Hp} {o o' : HO} (nd : (fp3 a).Nodup) (h : H a.1 = some o') (m : mutO o' = true := by rfl) : Tsp a a H (upd H a.1 o) := ⟨(Fr.mut h m).sub fun x hx => .inl (by rw [List.mem_singleton.mp hx]; exact List.mem_cons_self), rfl, nd, fun x h => .inl h⟩
theorem Tsp.mut2 {a : A3} {H : Hp} {o o' : HO} (nd : (fp3 a).Nodup) (h : H a.2.1 = some o') (m : mutO o' = true := by rfl) : Tsp a a H (upd H a.2.1 o) := ⟨(Fr.mut h m).sub fun x hx => .inl (by rw [List.mem_singleton.mp hx]; simp), rfl, nd, fun x h => .inl h⟩
theorem Tsp.mut3 {a : A3} {H : Hp} {o o' : HO} (nd : (fp3 a).Nodup) (h : H a.2.2 = some o') (m : mutO o' = true := by rfl) : Tsp a a H (upd H a.2.2 o) := ⟨(Fr.mut h m).sub fun x hx => .inl (by rw [List.mem_singleton.mp hx]; simp), rfl, nd, fun x h => .inl h⟩
def RsX (K : PySem.W.Frag) (H : Hp) (n : Str) (r : Rc) (a : A3) : Rs → Prop
  | .on t => TkX K H n r a t none
  | .shut w l => ∃ t, TkX K H n r a t (some (w, l))
end Wk
namespace Wk
open PySem PySem.Spec PyProof.Rows L2 SX
def TkS (K : PySem.W.Frag) (H : Hp) (a : A3) (st : Str) : Prop := ∃ dx fs, H a.1 = some (.ins (aTask K) dx fs) ∧ fs.lookup ("task_stage" : Str) = some (.str st)
def spAnew (K : PySem.W.Frag) : Sp := fun vs H Q _ => ∃ (a : A3) (n : Str) (r : Rc) (t : Tk), vs = [.ref a.1] ∧ TkX K H n r a t none ∧ (fp3 a).Nodup ∧ ∀ a' H', Tsp a a' H H' → TkX K H' n r a' { t with rd := [], look := false } none → Q .non H'
def spClose (K : PySem.W.Frag) : Sp := fun vs H Q _ => ∃ (a : A3) (n : Str) (r : Rc) (t : Tk) (w : Str) (v : V) (e : EndM), vs = [.ref a.1, .str w, v] ∧ TkX K H n r a t none ∧ (fp3 a).Nodup ∧ Dp K H v (encE e) ∧ t.rd.length ≤ 1000 ∧ ∀ H', Tsp a a H H' → TkX K H' n r a t (some (w, ⟨n, t.rd, e⟩)) → Q .non H'
def spLookOn (K : PySem.W.Frag) : Sp := fun vs H Q _ => ∃ (a : A3) (n : Str) (r : Rc) (t : Tk), vs = [.ref a.1] ∧ TkX K H n r a t none ∧ (fp3 a).Nodup ∧ t.look = true ∧ MidT r t ∧ ∀ H', Tsp a a H H' → RsX K H' n r a (goT n r t) → TkS K H' a "look" → Q .non H'
def spAskOn (K : PySem.W.Frag) : Sp := fun vs H Q _ => ∃ (a : A3) (n : Str) (r : Rc) (t : Tk), vs = [.ref a.1] ∧ TkX K H n r a t none ∧ (fp3 a).Nodup ∧ t.look = false ∧ ∀ H', Tsp a a H H' → TkX K H' n r a t none → TkS K H' a "do" → Q .non H'
section
variable {P : Program} {w : World} {K : PySem.W.Frag} {mg : Str → Option Value} {base : Heap}
theorem c_Task_begin_anew (W : Wld K mg) : Met P w K mg base 1 (aTask K) "begin_anew" (spAnew K) := by
  refine met_of W.cl_Task W.d_Task_begin_anew sc_Task_begin_anew (fun vs H Q E h => ?_) (fun f cdv A outer s H vs Q E hr h => ?_)
  · obtain ⟨a, n, r, t, rfl, _⟩ := h
    rfl
  obtain ⟨a, n, r, t, rfl, tx, nd, k⟩ := h
  refine ⟨_, (pss_cons (ps_fld (pv 0) (pe_lst pa_nil) rfl)
    (pss_one (ps_fld (pv 0) pe_str rfl))), ?_⟩
  refine ⟨Nat.zero_le _, fun p5 hp5 => ?_⟩
  generalize hh : upd H p5 _ = H5
  have e5 : Ex H H5 := hh ▸ Ex.new hp5
  have h5 : H5 p5 = some (.lst []) := by rw [← hh]; exact upd_same
  clear hh
  have t5 := tx.up e5
  obtain ⟨dx, fs, hi, hl, hm, _⟩ := t5.ins
  have al : ∀ x ∈ fp3 a, H x ≠ none := fun x hx z => by
    obtain ⟨dx', fs', hi', _⟩ := tx.ins
    obtain ⟨rv, hrv, _⟩ := tx.reads
    obtain ⟨pv, hpv, _⟩ := tx.peeks
    rcases List.mem_cons.mp hx with rfl | hx
    · rw [hi'] at z; cases z
    rcases List.mem_cons.mp hx with rfl | hx
    · rw [hrv] at z; cases z
    rcases List.mem_cons.mp hx with rfl | hx
    · rw [hpv] at z; cases z
    · cases hx
  have np : p5 ∉ [a.1, a.2.2] := fun z => al p5 (by
    rcases List.mem_cons.mp z with z | z
    · rw [z]; exact List.mem_cons_self
    · rw [List.mem_singleton.mp z]; simp) hp5
  have nd2 : (fp3 (a.1, p5, a.2.2)).Nodup := by
    have n0 : a.1 ≠ a.2.2 := fun z => (List.nodup_cons.mp nd).1 (by rw [z]; simp)
    have n1 : p5 ≠ a.1 := fun z => np (by rw [z]; simp)
    have n2 : p5 ≠ a.2.2 := fun z => np (by rw [z]; simp)
    have n3 : a.1 ≠ p5 := fun z => n1 z.symm
    show [a.1, p5, a.2.2].Nodup
    simp [n0, n2, n3]
  have t6 := (t5.set nd hi).2.2.2.1 p5 np h5
  have f6 : Fr (fp3 a) H (upd H5 a.1 (.ins (aTask K) dx (putF "got_reads" (.ref p5) fs))) := (Fr.ex e5).tr (Tsp.mut1 nd hi).f
  refine ⟨_, rfl, a.1, _, dx, fs, rfl, hi, W.cl_Task, W.n_Task_got_reads, hl, ?_⟩
  generalize upd H5 a.1 (.ins (aTask K) dx (putF "got_reads" (.ref p5) fs)) = H6 at t6 f6 ⊢
  obtain ⟨dx6, fs6, hi6, hl6, _⟩ := t6.ins
  have t7 := (t6.set nd2 hi6).2.2.1 "ask" (.inl rfl)
  refine ⟨_, rfl, a.1, _, dx6, fs6, rfl, hi6, W.cl_Task, W.n_Task_task_stage, hl6, ?_⟩
  have f7 : Fr (fp3 a) H (upd H6 a.1 (.ins (aTask K) dx6 (putF "task_stage" (.str "ask") fs6))) := f6.tr ((Fr.mut hi6).sub fun x hx => .inl (by rw [List.mem_singleton.mp hx]; exact List.mem_cons_self))
  exact k (a.1, p5, a.2.2) _ ⟨f7, rfl, nd2, fun x hx => by
    rcases List.mem_cons.mp hx with rfl | hx
    · exact .inl List.mem_cons_self
    rcases List.mem_cons.mp hx with rfl | hx
    · exact .inr hp5
    · rw [List.mem_singleton.mp hx]
      exact .inl (by simp)⟩ t7
theorem c_Task_close (W : Wld K mg) : Met P w K mg base 1 (aTask K) "close" (spClose K) := by
  refine met_of W.cl_Task W.d_Task_close sc_Task_close (fun vs H Q E h => ?_) (fun f cdv A outer s H vs Q E hr h => ?_)
  · obtain ⟨a, n, r, t, wd, v, e, rfl, _⟩ := h
    rfl
  obtain ⟨a, n, r, t, wd, v, e, rfl, tx, nd, hv, hl, k⟩ := h
  refine ⟨_, (pss_one (ps_fld (pv 0) (pe_tup (pa_cons (pv 1) (pa_cons (pe_tup (pa_cons (pe_fld (pv 0) rfl) (pa_cons (pe_callTy call_tuple_of (by rfl) W.f_tuple bt_tuple (pa_cons (pe_fld (pv 0) rfl) pa_nil)) (pa_cons (pv 2) pa_nil)))) pa_nil))) rfl)), ?_⟩
  obtain ⟨dx, fs, hi, hfl, hm, i1, i2, i3, i4, i5, i6, i7, i8, i9, i10, i11⟩ := tx.ins
  obtain ⟨rv, hrv, drv⟩ := tx.reads
  refine ⟨_, rfl, _, rfl, a.1, _, dx, fs, _, rfl, hi, W.cl_Task, W.n_Task_task_name, i1, _, rfl, a.1, _, dx, fs, _, rfl, hi, W.cl_Task, W.n_Task_got_reads, i7, a.2.1, _, rfl, .inl ⟨SqL.of hrv, fun p1 hp1 => ?_⟩⟩
  have d1 := dp_newT hp1 drv
  have e1 := Ex.new (o := .tup rv) hp1
  generalize hh : upd H p1 _ = H1
  have d1 : Dp K H1 (.ref p1) (.tuple (t.rd.map encS)) := hh ▸ d1
  have e1 : Ex H H1 := hh ▸ e1
  clear hh
  refine ⟨_, rfl, (show 3 ≤ sizeLine by decide), fun p2 hp2 => ?_⟩
  have d2 := dp_newT hp2 (.cons (.str n) (.cons d1 (.one (hv.up e1))))
  have e2 := Ex.new (o := .tup [.str n, .ref p1, v]) hp2
  generalize hh : upd H1 p2 _ = H2
  have d2 : Dp K H2 (.ref p2) (encLn ⟨n, t.rd, e⟩) := hh ▸ d2
  have e2 : Ex H1 H2 := hh ▸ e2
  clear hh
  refine ⟨(show 2 ≤ sizeLine by decide), fun p3 hp3 => ?_⟩
  have d3 := dp_newT hp3 (.cons (.str wd) (.one d2))
  have e3 := Ex.new (o := .tup [.str wd, .ref p2]) hp3
  generalize hh : upd H2 p3 _ = H3
  have d3 : Dp K H3 (.ref p3) (encCl (wd, ⟨n, t.rd, e⟩)) := hh ▸ d3
  have e3 : Ex H2 H3 := hh ▸ e3
  clear hh
  have E3 := e1.trans (e2.trans e3)
  have hi3 := E3 _ _ hi
  have t4 := ((tx.up E3).set nd hi3).2.2.2.2 _ _ d3
  exact ⟨_, rfl, a.1, _, dx, fs, rfl, hi3, W.cl_Task, W.n_Task_closing, hfl, k _ ((Tsp.ex nd E3).trans (Tsp.mut1 nd hi3)) t4⟩
theorem c_Task_ask_on (W : Wld K mg) (c_Task_close : Met P w K mg base 1 (aTask K) "close" (spClose K)) : Met P w K mg base 2 (aTask K) "ask_on" (spAskOn K) := by
  refine met_of W.cl_Task W.d_Task_ask_on sc_Task_ask_on (fun vs H Q E h => ?_) (fun f cdv A outer s H vs Q E hr h => ?_)
  · obtain ⟨a, n, r, t, rfl, _⟩ := h
    rfl
  obtain ⟨a, n, r, t, rfl, tx, nd, hlk, k⟩ := h
  refine ⟨_, (pss_cons (ps_set (i := 1) sc_Task_ask_on.nd rfl (Or.inl rfl) pe_non)
    (pss_cons (ps_if (pt_cmpR op_notN (pe_fld (pv 0) rfl) pe_non (nomark _)) (pss_one ps_never) pss_nil)
    (pss_one (ps_if (pt_cmpR op_isN (pv 1) pe_non (nomark _)) (pss_one (ps_fld (pv 0) pe_str rfl)) (pss_one (ps_if (pt_val (pe_callB call_isiD (by rfl) W.f_isinstance bt_isinstance (pa_cons (pv 1) (pa_cons (pe_bt (by rfl) W.f_str bt_str) pa_nil)))) (pss_one (ps_fld (pv 0) (pv 1) rfl)) (pss_one ps_never))))))), ?_⟩
  obtain ⟨dx, fs, hi, hfl, hm, i1, i2, i3, i4, i5, i6, i7, i8, i9, i10, i11⟩ := tx.ins
  refine ⟨_, rfl, a.1, _, dx, fs, _, rfl, hi, W.cl_Task, W.n_Task_task_shelf, i4, rfl, _, rfl, iteF ?_⟩
  refine ⟨_, rfl, rfl, _, rfl, iteT ?_⟩
  have t4 := (tx.set nd hi).2.2.1 "do" (.inr rfl)
  have e : ({ t with look := false } : Tk) = t := by
    cases t
    cases hlk
    rfl
  rw [e] at t4
  refine ⟨_, rfl, a.1, _, dx, fs, rfl, hi, W.cl_Task, W.n_Task_task_stage, hfl, k _ (Tsp.mut1 nd hi) t4 ⟨dx, _, upd_same, ?_⟩⟩
  rw [lookup_putF, if_pos rfl]
theorem c_Task_look_on (W : Wld K mg) : Met P w K mg base 1 (aTask K) "look_on" (spLookOn K) := by
  refine met_of W.cl_Task W.d_Task_look_on sc_Task_look_on (fun vs H Q E h => ?_) (fun f cdv A outer s H vs Q E hr h => ?_)
  · obtain ⟨a, n, r, t, rfl, _⟩ := h
    rfl
  obtain ⟨a, n, r, t, rfl, tx, nd, hl, mid, k⟩ := h
  refine ⟨_, (pss_cons (ps_set (i := 1) sc_Task_look_on.nd rfl (Or.inl rfl) (pe_ix ix_T (pe_fld (pv 0) rfl) pe_int (fun _ _ => rfl)))
    (pss_cons (ps_set (i := 2) sc_Task_look_on.nd rfl (Or.inl rfl) (pe_ix ix_T (pe_fld (pv 0) rfl) pe_int (fun _ _ => rfl)))
    (pss_one (ps_if (pt_cmpR op_lt (pe_callB call_lenA (by rfl) W.f_len bt_len (pa_cons (pe_fld (pv 0) rfl) pa_nil)) (pe_callB call_lenDp (by rfl) W.f_len bt_len (pa_cons (pv 1) pa_nil)) (nomark _)) (pss_one (ps_fld (pv 0) (pe_ix ix_T (pe_ix ix_T (pv 1) (pe_callB call_lenA (by rfl) W.f_len bt_len (pa_cons (pe_fld (pv 0) rfl) pa_nil)) (fun _ _ => rfl)) pe_int (fun _ _ => rfl)) rfl)) (pss_one (ps_if (pt_cmpR op_eq (pe_ix ix_T (pv 2) pe_int (fun _ _ => rfl)) pe_str (nomark _)) (pss_one (ps_fld (pv 0) (pe_ix ix_T (pv 2) pe_int (fun _ _ => rfl)) rfl)) (pss_one (ps_fld (pv 0) (pe_tup (pa_cons pe_str (pa_cons (pe_fld (pv 0) rfl) pa_nil))) rfl)))))))), ?_⟩
  obtain ⟨dx, fs, hi, hfl, hm, i1, i2, i3, i4, ⟨el, i5, hel⟩, ⟨st, i6, hst⟩, i7, i8, i9, i10, cv, i11, hcv⟩ := tx.ins
  obtain ⟨m1, m2, m3, m4⟩ := mid.ln hl
  have m3n := m1.n
  have del := hel hl
  obtain ⟨rv, hrv, drv⟩ := tx.reads
  have hrl : rv.length = t.rd.length := by rw [drv.length, List.length_map]
  have est : st = "look" := by
    rcases hst with ⟨_, e⟩ | ⟨e, _⟩
    · exact e
    · rw [hl] at e; cases e
  subst est
  unfold goT at k
  rw [if_pos hl] at k
  refine ⟨_, rfl, a.1, _, dx, fs, _, rfl, hi, W.cl_Task, W.n_Task_elder_line, i5, _, _, _, rfl, del, atI_nat (j := 1) rfl, fun v1 hv1 => ?_⟩
  refine ⟨_, rfl, a.1, _, dx, fs, _, rfl, hi, W.cl_Task, W.n_Task_elder_line, i5, _, _, _, rfl, del, atI_nat (j := 2) rfl, fun v2 hv2 => ?_⟩
  refine ⟨_, rfl, a.1, _, dx, fs, _, rfl, hi, W.cl_Task, W.n_Task_got_reads, i7, _, _, rfl, .inl ⟨_, SqL.of hrv, rfl⟩, _, rfl, _, _, rfl, hv1, rfl, sz100 (by show (t.ln.rd.map encS).length ≤ _; rw [List.length_map]; omega), _, _, rfl, rfl, _, rfl, iteD (fun c => ?_) (fun c => ?_)⟩
  · have c : ((rv.length : Nat) : Int) < (((t.ln.rd.map encS).length : Nat) : Int) := c
    rw [List.length_map, hrl] at c
    have hlt : t.rd.length < t.ln.rd.length := by omega
    have hq := List.getElem?_eq_getElem hlt
    rw [hq] at k
    have hat : atI (t.ln.rd.map encS) ((rv.length : Nat) : Int) = some (encS t.ln.rd[t.rd.length]) := by
      rw [hrl]
      exact atI_nat (by rw [List.getElem?_map, hq]; rfl)
    refine ⟨_, rfl, _, rfl, a.1, _, dx, fs, _, rfl, hi, W.cl_Task, W.n_Task_got_reads, i7, _, _, rfl, .inl ⟨_, SqL.of hrv, rfl⟩, _, _, _, rfl, hv1, hat, fun v3 hv3 => ⟨_, _, _, rfl, hv3, atI_nat (j := 0) rfl, fun v4 hv4 => ?_⟩⟩
    obtain rfl := dp_str hv4
    refine ⟨_, rfl, a.1, _, dx, fs, rfl, hi, W.cl_Task, W.n_Task_waits_for, hfl, k _ (Tsp.mut1 nd hi) ((tx.set nd hi).1 (some (t.ln.rd[t.rd.length]).1)) ⟨dx, _, upd_same, ?_⟩⟩
    rw [lookup_putF, if_neg (by decide)]
    exact i6
  · have c : ¬ ((rv.length : Nat) : Int) < (((t.ln.rd.map encS).length : Nat) : Int) := c
    rw [List.length_map, hrl] at c
    rw [List.getElem?_eq_none (by omega)] at k
    have kept : ∀ {e : EndM}, (∀ H', Tsp a a H H' → RsX K H' n r a (.shut "kept" t.ln) → TkS K H' a "look" → Q .non H') → ∀ p3, H p3 = none → Q .non (upd (upd H p3 (.tup [.str "kept", el])) a.1 (.ins (aTask K) dx (putF "closing" (.ref p3) fs))) := fun {e} kk p3 hp3 => by
      have d3 := dp_newT (K := K) hp3 (.cons (.str "kept") (.one del))
      have e3 := Ex.new (o := .tup [.str "kept", el]) hp3
      have hi3 := e3 _ _ hi
      have t4 := ((tx.up e3).set nd hi3).2.2.2.2 _ ("kept", t.ln) d3
      refine kk _ ((Tsp.ex nd e3).trans (Tsp.mut1 nd hi3)) ⟨t, t4⟩ ⟨dx, _, upd_same, ?_⟩
      rw [lookup_putF, if_neg (by decide)]
      exact i6
    cases he : t.ln.en with
    | wants z =>
      rw [he] at hv2 k
      have hv2 : Dp K H v2 (.tuple [.str "wants", .str z]) := hv2
      refine ⟨_, rfl, _, _, _, rfl, hv2, atI_nat (j := 0) rfl, fun v3 hv3 => ?_⟩
      obtain rfl := dp_str hv3
      refine ⟨rfl, _, rfl, iteT ⟨_, rfl, _, _, _, rfl, hv2, atI_nat (j := 1) rfl, fun v4 hv4 => ?_⟩⟩
      obtain rfl := dp_str hv4
      refine ⟨_, rfl, a.1, _, dx, fs, rfl, hi, W.cl_Task, W.n_Task_waits_for, hfl, k _ (Tsp.mut1 nd hi) ((tx.set nd hi).1 (some z)) ⟨dx, _, upd_same, ?_⟩⟩
      rw [lookup_putF, if_neg (by decide)]
      exact i6
    | made v =>
      rw [he] at hv2 k
      have hv2 : Dp K H v2 (.tuple [.str "made", .str (stampS v)]) := hv2
      refine ⟨_, rfl, _, _, _, rfl, hv2, atI_nat (j := 0) rfl, fun v3 hv3 => ?_⟩
      obtain rfl := dp_str hv3
      refine ⟨rfl, _, rfl, iteF ⟨_, rfl, a.1, _, dx, fs, _, rfl, hi, W.cl_Task, W.n_Task_elder_line, i5, (show 2 ≤ sizeLine by decide), fun p3 hp3 => ?_⟩⟩
      exact ⟨_, rfl, a.1, _, dx, fs, rfl, Ex.new hp3 _ _ hi, W.cl_Task, W.n_Task_closing, hfl, kept (e := .made v) k p3 hp3⟩
    | fails z =>
      rw [he] at hv2 k
      have hv2 : Dp K H v2 (.tuple [.str "fails", .str z]) := hv2
      refine ⟨_, rfl, _, _, _, rfl, hv2, atI_nat (j := 0) rfl, fun v3 hv3 => ?_⟩
      obtain rfl := dp_str hv3
      refine ⟨rfl, _, rfl, iteF ⟨_, rfl, a.1, _, dx, fs, _, rfl, hi, W.cl_Task, W.n_Task_elder_line, i5, (show 2 ≤ sizeLine by decide), fun p3 hp3 => ?_⟩⟩
      exact ⟨_, rfl, a.1, _, dx, fs, rfl, Ex.new hp3 _ _ hi, W.cl_Task, W.n_Task_closing, hfl, kept (e := .fails z) k p3 hp3⟩
end
end Wk
namespace Wk
open PySem PySem.Spec PyProof.Rows L2 SX
def spDoOn (K : PySem.W.Frag) : Sp := fun vs H Q _ => ∃ (a : A3) (n : Str) (r : Rc) (t : Tk), vs = [.ref a.1] ∧ TkX K H n r a t none ∧ (fp3 a).Nodup ∧ t.look = false ∧ MidT r t ∧ ∀ H', Tsp a a H H' → RsX K H' n r a (goT n r t) → Q .non H'
def spGoOn (K : PySem.W.Frag) : Sp := fun vs H Q _ => ∃ (a : A3) (n : Str) (r : Rc) (t : Tk), vs = [.ref a.1] ∧ TkX K H n r a t none ∧ (fp3 a).Nodup ∧ MidT r t ∧ ∀ H', Tsp a a H H' → RsX K H' n r a (goT n r t) → Q .non H'
section
variable {P : Program} {w : World} {K : PySem.W.Frag} {mg : Str → Option Value} {base : Heap}
theorem c_Task_do_on (W : Wld K mg) : Met P w K mg base 18 (aTask K) "do_on" (spDoOn K) := by
  have c_Task_close : Met P w K mg base 1 (aTask K) "close" _ := c_Task_close W
  have c_replay : Cal P w K mg base 17 "replay" _ := c_replay W
  have c_value_by : Cal P w K mg base 14 "value_by" _ := c_value_by W
  have c_stamp_of : Cal P w K mg base 5 "stamp_of" _ := c_stamp_of W 5
  refine met_of W.cl_Task W.d_Task_do_on sc_Task_do_on (fun vs H Q E h => ?_) (fun f cdv A outer s H vs Q E hr h => ?_)
  · obtain ⟨a, n, r, t, rfl, _⟩ := h
    rfl
  obtain ⟨a, n, r, t, rfl, tx, nd, hl, mid, k⟩ := h
  refine ⟨_, (pss_cons (ps_setLc (i := 1) (own := [("name", 3), ("stamp", 4)]) (g := gTup K 2 (gCons (gName 3) (gCons (gName 4) (gNil)))) (tt := tYes) rfl sc_Task_do_on.nd rfl rfl (sw_true rfl rfl rfl (by decide +kernel)) (pi_list (pe_fld (pv 0) rfl)) (blkOk_by (own := [("name", 3), ("stamp", 4)]) (N := N_Task_do_on) (sc := defScope (inClass (top 51) 4)) (by decide +kernel)) (fun _ _ _ _ _ => (pg_tup rfl (pgs_cons (pg_name (i := 3) sc_Task_do_on.nd rfl (Or.inl rfl)) (pgs_cons (pg_name (i := 4) sc_Task_do_on.nd rfl (Or.inl rfl)) pgs_nil)))) (fun _ _ _ _ _ => pts_nil) (fun _ _ _ _ _ => (pe_tup (pa_cons (pv 3) (pa_cons (pe_cl c_value_by hr (by omega) (by rfl) (pa_cons (pv 4) pa_nil)) pa_nil)))))
    (pss_cons (ps_set (i := 2) sc_Task_do_on.nd rfl (Or.inl rfl) (pe_cl c_replay hr (by omega) (by rfl) (pa_cons (pe_fld (pv 0) rfl) (pa_cons (pv 1) (pa_cons (pe_callTy call_list_of (by rfl) W.f_list bt_list (pa_cons (pe_fld (pv 0) rfl) pa_nil)) pa_nil)))))
    (pss_cons (ps_fld (pv 0) (pe_cmpR op_eq (pe_ix ix_T (pv 2) pe_int (fun _ _ => rfl)) pe_str (nomark _)) rfl)
    (pss_one (ps_if (pt_cmpR op_in_seq (pe_ix ix_T (pv 2) pe_int (fun _ _ => rfl)) (pe_tup (pa_cons pe_str (pa_cons pe_str pa_nil))) (by rfl)) (pss_one (ps_fld (pv 0) (pe_ix ix_T (pv 2) pe_int (fun _ _ => rfl)) rfl)) (pss_one (ps_if (pt_cmpR op_eq (pe_ix ix_T (pv 2) pe_int (fun _ _ => rfl)) pe_str (nomark _)) (pss_one (ps_expr (pe_mt c_Task_close hr (by omega) (pv 0) (pa_cons pe_str (pa_cons (pe_tup (pa_cons pe_str (pa_cons (pe_cl c_stamp_of hr (by omega) (by rfl) (pa_cons (pe_ix ix_T (pv 2) pe_int (fun _ _ => rfl)) pa_nil)) pa_nil))) pa_nil))))) (pss_one (ps_expr (pe_mt c_Task_close hr (by omega) (pv 0) (pa_cons pe_str (pa_cons (pe_tup (pa_cons pe_str (pa_cons (pe_ix ix_T (pv 2) pe_int (fun _ _ => rfl)) pa_nil))) pa_nil)))))))))))), ?_⟩
  obtain ⟨dx, fs, hi, hfl, hm, i1, i2, i3, i4, i5, i6, i7, i8, i9, i10, i11⟩ := tx.ins
  have ft := mid.fit hl
  have okr := tx.ok
  obtain ⟨f1, f2, f3, f4⟩ := ft.out okr
  have hl' : ¬ t.look = true := by rw [hl]; exact Bool.false_ne_true
  unfold goT at k
  rw [if_neg hl'] at k
  obtain ⟨rv, hrv, drv⟩ := tx.reads
  have hrl : rv.length = t.rd.length := by rw [drv.length, List.length_map]
  refine ⟨_, rfl, a.1, _, dx, fs, _, rfl, hi, W.cl_Task, W.n_Task_got_reads, i7, a.2.1, rfl, ⟨_, SqL.of hrv⟩, fun D hD => lcD (K := K) (src_list (SqL.of hrv)) (fun i => encP (t.rd.getD i ("", .none))) hD (fun i => ?_) (by omega) ?_ ?_⟩
  · show imm (encP (t.rd.getD i ("", .none))) = true
    rw [List.getD_eq_getElem?_getD]
    cases q : t.rd[i]? with
    | none => rfl
    | some x => exact immP (ft.r x (List.mem_of_getElem? q))
  · intro i x H' Q' hi' hx e' k'
    obtain ⟨dq, hdq, hdx⟩ := drv.getV hx
    rw [List.getElem?_map] at hdq
    cases q : t.rd[i]? with
    | none => rw [q] at hdq; cases hdq
    | some qq =>
      rw [q] at hdq
      obtain rfl : encS qq = dq := Option.some.inj hdq
      have eF : t.rd.getD i ("", .none) = qq := by rw [List.getD_eq_getElem?_getD, q]; rfl
      rw [eF] at k'
      obtain ⟨b, xs, rfl, hS, hX⟩ := dp_tup (hdx.up e')
      cases hX with
      | cons hX1 hX2 =>
        cases hX2 with
        | cons hX2 hX3 =>
          cases hX3
          obtain rfl := dp_str hX1
          obtain rfl := dp_str hX2
          exact ⟨b, _, rfl, hS, rfl, _, _, rfl, _, _, rfl, rfl, rfl, _, rfl, _, rfl, qq.2, rfl, ft.r qq (List.mem_of_getElem? q), fun y H6 e6 hy => ⟨(show 2 ≤ sizeLine by decide), fun p9 hp9 => k' _ _ (e6.trans (Ex.new hp9)) (dp_newT hp9 (.cons (.str qq.1) (.one hy)))⟩⟩
  intro H5 ys e5 h5 d5
  rw [hrl, range_get t.rd encP _ (fun i x hx => by rw [List.getD_eq_getElem?_getD, hx]; rfl)] at d5
  have t5 := tx.up e5
  have hi5 := e5 _ _ hi
  obtain ⟨w1, w2⟩ := okR_wf okr
  obtain ⟨rc, j2, drc⟩ := i2
  obtain ⟨pv, hpv, dpv⟩ := t5.peeks
  refine ⟨_, rfl, a.1, _, dx, fs, _, rfl, hi5, W.cl_Task, W.n_Task_task_recipe, j2, _, rfl, _, rfl, a.1, _, dx, fs, _, rfl, hi5, W.cl_Task, W.n_Task_got_peeks, i8, _, _, rfl, .inl (SqL.of hpv), fun p6 hp6 => ?_⟩
  generalize hh : upd H5 p6 _ = H6
  have e6 : Ex H5 H6 := hh ▸ Ex.new hp6
  have h6 : H6 p6 = some (.lst pv) := by rw [← hh]; exact upd_same
  clear hh
  refine ⟨rc, r, .ref D, t.rd, .ref p6, t.pk, rfl, (drc.up e5).up e6, .lst (SqL.of (e6 _ _ h5)) (d5.up e6), .lst (SqL.of h6) (dpv.up e6), w1, by omega, by omega, ft.r, ft.p, fun x H7 e7 hx => ?_⟩
  have E7 := e5.trans (e6.trans e7)
  have t7 := tx.up E7
  have hi7 := E7 _ _ hi
  obtain ⟨od, hod⟩ := encO_head (replayM r t.rd t.pk)
  have hxo := hx
  rw [hod] at hxo
  refine ⟨_, rfl, _, _, _, rfl, hxo, atI_nat (j := 0) rfl, fun v0 hv0 => ?_⟩
  obtain rfl := dp_str hv0
  refine ⟨rfl, ?_⟩
  refine ⟨_, rfl, a.1, _, dx, fs, rfl, hi7, W.cl_Task, W.n_Task_is_peeking, hfl, ?_⟩
  have t8 := (t7.set nd hi7).2.1 (decide (V.str (nameO (replayM r t.rd t.pk)) = V.str "peeks"))
  have s8 : Tsp a a H (upd H7 a.1 (.ins (aTask K) dx (putF "is_peeking" (.bl (decide (V.str (nameO (replayM r t.rd t.pk)) = V.str "peeks"))) fs))) := (Tsp.ex nd E7).trans (Tsp.mut1 nd hi7)
  have x8 : Dp K (upd H7 a.1 (.ins (aTask K) dx (putF "is_peeking" (.bl (decide (V.str (nameO (replayM r t.rd t.pk)) = V.str "peeks"))) fs))) x (encO (replayM r t.rd t.pk)) := Dp.tu (Tu.mut hi7) _ _ (immO f2) hx
  generalize upd H7 a.1 (.ins (aTask K) dx (putF "is_peeking" (.bl (decide (V.str (nameO (replayM r t.rd t.pk)) = V.str "peeks"))) fs)) = H8 at t8 s8 x8 ⊢
  have x8' := x8
  rw [hod] at x8'
  refine ⟨_, rfl, _, _, _, rfl, x8', atI_nat (j := 0) rfl, fun v0 hv0 => ?_⟩
  obtain rfl := dp_str hv0
  refine ⟨(show 2 ≤ sizeLine by decide), fun p9 hp9 => ?_⟩
  generalize hh : upd H8 p9 _ = H9
  have e9 : Ex H8 H9 := hh ▸ Ex.new hp9
  have h9 : H9 p9 = some (.tup [.str "wants", .str "peeks"]) := by rw [← hh]; exact upd_same
  clear hh
  have t9 := t8.up e9
  have s9 := s8.trans (Tsp.ex nd e9)
  have x9 := x8.up e9
  refine ⟨p9, _, rfl, .inr (SqT.of h9), rfl, rfl, _, rfl, ?_⟩
  obtain ⟨dx9, fs9, hi9, hfl9, hm9, _⟩ := t9.ins
  clear hxo hx x8 x8' t8 t7
  cases ho : replayM r t.rd t.pk with
  | strays j => rw [ho] at f2; exact f2.elim
  | wants z =>
    rw [ho] at x9 k t9
    show if inW "wants" = true then _ else _
    rw [inW_wants]
    refine iteT ⟨_, rfl, _, _, _, rfl, x9, atI_nat (j := 1) rfl, fun v1 hv1 => ?_⟩
    obtain rfl := dp_str hv1
    have t10 := (t9.set nd hi9).1 (some z)
    rw [show decide (V.str (nameO (.wants z)) = V.str "peeks") = false from (show decide (V.str "wants" = V.str "peeks") = false by decide +kernel)] at t10
    exact ⟨_, rfl, a.1, _, dx9, fs9, rfl, hi9, W.cl_Task, W.n_Task_waits_for, hfl9, k _ (s9.trans (Tsp.mut1 nd hi9)) t10⟩
  | peeks z =>
    rw [ho] at x9 k t9
    show if inW "peeks" = true then _ else _
    rw [inW_peeks]
    refine iteT ⟨_, rfl, _, _, _, rfl, x9, atI_nat (j := 1) rfl, fun v1 hv1 => ?_⟩
    obtain rfl := dp_str hv1
    have t10 := (t9.set nd hi9).1 (some z)
    rw [show decide (V.str (nameO (.peeks z)) = V.str "peeks") = true from (show decide (V.str "peeks" = V.str "peeks") = true by decide +kernel)] at t10
    exact ⟨_, rfl, a.1, _, dx9, fs9, rfl, hi9, W.cl_Task, W.n_Task_waits_for, hfl9, k _ (s9.trans (Tsp.mut1 nd hi9)) t10⟩
  | made d =>
    rw [ho] at x9 k f2
    show if inW "made" = true then _ else _
    rw [inW_made]
    refine iteF ⟨_, rfl, _, _, _, rfl, x9, atI_nat (j := 0) rfl, fun v1 hv1 => ?_⟩
    obtain rfl := dp_str hv1
    refine ⟨rfl, _, rfl, iteT ?_⟩
    refine ⟨_, rfl, a.1, dx9, fs9, rfl, hi9, hm9 _ (by simp), _, rfl, _, _, _, rfl, x9, atI_nat (j := 1) rfl, fun v2 hv2 => ⟨v2, d, rfl, hv2, okV_stamp f2, fun y2 H10 e10 hy2 => ?_⟩⟩
    obtain rfl := dp_str hy2
    refine ⟨(show 2 ≤ sizeLine by decide), fun p11 hp11 => ?_⟩
    generalize hh : upd H10 p11 _ = H11
    have e11 : Ex H10 H11 := hh ▸ Ex.new hp11
    have h11 : H11 p11 = some (.tup [.str "made", .str (stampS d)]) := by rw [← hh]; exact upd_same
    clear hh
    have d11 : Dp K H11 (.ref p11) (encE (.made d)) := .tup (SqT.of h11) (.cons (.str _) (.one (.str _)))
    exact ⟨a, n, r, _, "done", .ref p11, .made d, rfl, (t9.up e10).up e11, nd, d11, (show t.rd.length ≤ 1000 by omega), fun H' s' t' => k H' (s9.trans ((Tsp.ex nd (e10.trans e11)).trans s')) ⟨_, t'⟩⟩
  | fails z =>
    rw [ho] at x9 k
    show if inW "fails" = true then _ else _
    rw [inW_fails]
    refine iteF ⟨_, rfl, _, _, _, rfl, x9, atI_nat (j := 0) rfl, fun v1 hv1 => ?_⟩
    obtain rfl := dp_str hv1
    refine ⟨rfl, _, rfl, iteF ?_⟩
    refine ⟨_, rfl, a.1, dx9, fs9, rfl, hi9, hm9 _ (by simp), _, rfl, _, _, _, rfl, x9, atI_nat (j := 1) rfl, fun v2 hv2 => ?_⟩
    obtain rfl := dp_str hv2
    refine ⟨(show 2 ≤ sizeLine by decide), fun p11 hp11 => ?_⟩
    generalize hh : upd H9 p11 _ = H11
    have e11 : Ex H9 H11 := hh ▸ Ex.new hp11
    have h11 : H11 p11 = some (.tup [.str "fails", .str z]) := by rw [← hh]; exact upd_same
    clear hh
    have d11 : Dp K H11 (.ref p11) (encE (.fails z)) := .tup (SqT.of h11) (.cons (.str _) (.one (.str _)))
    exact ⟨a, n, r, _, "done", .ref p11, .fails z, rfl, t9.up e11, nd, d11, (show t.rd.length ≤ 1000 by omega), fun H' s' t' => k H' (s9.trans ((Tsp.ex nd e11).trans s')) ⟨_, t'⟩⟩
theorem c_Task_go_on (W : Wld K mg) : Met P w K mg base 19 (aTask K) "go_on" (spGoOn K) := by
  have c_Task_look_on : Met P w K mg base 1 (aTask K) "look_on" _ := c_Task_look_on W
  have c_Task_ask_on : Met P w K mg base 2 (aTask K) "ask_on" _ := c_Task_ask_on W (c_Task_close W)
  have c_Task_do_on : Met P w K mg base 18 (aTask K) "do_on" _ := c_Task_do_on W
  refine met_of W.cl_Task W.d_Task_go_on sc_Task_go_on (fun vs H Q E h => ?_) (fun f cdv A outer s H vs Q E hr h => ?_)
  · obtain ⟨a, n, r, t, rfl, _⟩ := h
    rfl
  obtain ⟨a, n, r, t, rfl, tx, nd, mid, k⟩ := h
  refine ⟨_, (C8.pss_cut (ps_if (pt_cmpR op_eq (pe_fld (pv 0) rfl) pe_str (nomark _)) (pss_one (ps_expr (pe_mt0 c_Task_look_on hr (by omega) (pv 0)))) pss_nil)
    (C8.pss_cut (ps_if (PW.pt (pw_and (pt_cmpR op_isN (pe_fld (pv 0) rfl) pe_non (nomark _)) (pw_and1 (pt_cmpR op_eq (pe_fld (pv 0) rfl) pe_str (nomark _))))) (pss_one (ps_expr (pe_mt0 c_Task_ask_on hr (by omega) (pv 0)))) pss_nil)
    (pss_one (ps_if (PW.pt (pw_and (pt_cmpR op_isN (pe_fld (pv 0) rfl) pe_non (nomark _)) (pw_and1 (pt_cmpR op_eq (pe_fld (pv 0) rfl) pe_str (nomark _))))) (pss_one (ps_expr (pe_mt0 c_Task_do_on hr (by omega) (pv 0)))) pss_nil)))), ?_⟩
  obtain ⟨dx, fs, hi, hfl, hm, i1, i2, i3, i4, i5, ⟨st, i6, hst⟩, i7, i8, i9, i10, cv, i11, hcv⟩ := tx.ins
  cases hl : t.look with
  | true =>
    have est : st = "look" := by
      rcases hst with ⟨_, e⟩ | ⟨e, _⟩
      · exact e
      · rw [hl] at e; cases e
    subst est
    -- what stands behind a look
    have behind : ∀ H1, RsX K H1 n r a (goT n r t) → TkS K H1 a "look" → ∃ dx fs cv, H1 a.1 = some (.ins (aTask K) dx fs) ∧ fs.lookup ("task_stage" : Str) = some (.str "look") ∧ fs.lookup ("closing" : Str) = some cv := fun H1 rs ts => by
      obtain ⟨dx1, fs1, hi1, hs1⟩ := ts
      cases q : goT n r t with
      | on t' =>
        rw [q] at rs
        obtain ⟨dx2, fs2, hi2, _, _, _, _, _, _, _, _, _, _, _, _, cv2, hc2, _⟩ := TkX.ins (show TkX K H1 n r a t' none from rs)
        rw [hi1] at hi2
        cases hi2
        exact ⟨_, _, cv2, hi1, hs1, hc2⟩
      | shut w' l' =>
        rw [q] at rs
        obtain ⟨t', rs⟩ := (show ∃ t', TkX K H1 n r a t' (some (w', l')) from rs)
        obtain ⟨dx2, fs2, hi2, _, _, _, _, _, _, _, _, _, _, _, _, cv2, hc2, _⟩ := rs.ins
        rw [hi1] at hi2
        cases hi2
        exact ⟨_, _, cv2, hi1, hs1, hc2⟩
    refine ⟨fun σ' H' => σ' = [some (.ref a.1)] ∧ Tsp a a H H' ∧ RsX K H' n r a (goT n r t) ∧ TkS K H' a "look", ?_, ?_⟩
    · refine ⟨_, rfl, a.1, _, dx, fs, _, rfl, hi, W.cl_Task, W.n_Task_task_stage, i6, rfl, _, rfl, iteT ?_⟩
      exact ⟨_, rfl, a.1, dx, fs, rfl, hi, hm _ (by simp), a, n, r, t, rfl, tx, nd, hl, mid, fun H' s' rs ts => ⟨rfl, s', rs, ts⟩⟩
    rintro _ H1 ⟨rfl, s1, rs1, ts1⟩
    obtain ⟨dx1, fs1, cv1, hi1, hs1, hc1⟩ := behind H1 rs1 ts1
    refine ⟨fun σ' H' => σ' = [some (.ref a.1)] ∧ H1 = H', ?_, ?_⟩
    · refine ⟨_, rfl, a.1, _, dx1, fs1, _, rfl, hi1, W.cl_Task, W.n_Task_closing, hc1, rfl, _, rfl, iteD (fun _ => ?_) (fun _ => ⟨rfl, rfl⟩)⟩
      refine ⟨_, rfl, a.1, _, dx1, fs1, _, rfl, hi1, W.cl_Task, W.n_Task_task_stage, hs1, rfl, _, rfl, ?_⟩
      rw [show decide (V.str "look" = V.str "ask") = false by decide +kernel]
      exact iteF ⟨rfl, rfl⟩
    rintro _ _ ⟨rfl, rfl⟩
    refine ⟨_, rfl, a.1, _, dx1, fs1, _, rfl, hi1, W.cl_Task, W.n_Task_closing, hc1, rfl, _, rfl, iteD (fun _ => ?_) (fun _ => k H1 s1 rs1)⟩
    refine ⟨_, rfl, a.1, _, dx1, fs1, _, rfl, hi1, W.cl_Task, W.n_Task_task_stage, hs1, rfl, _, rfl, ?_⟩
    rw [show decide (V.str "look" = V.str "do") = false by decide +kernel]
    exact iteF (k H1 s1 rs1)
  | false =>
    have est : st = "ask" ∨ st = "do" := by
      rcases hst with ⟨e, _⟩ | ⟨_, e⟩
      · rw [hl] at e; cases e
      · exact e
    have ecv : cv = .non := hcv
    subst ecv
    refine ⟨fun σ' H' => σ' = [some (.ref a.1)] ∧ H = H', ?_, ?_⟩
    · refine ⟨_, rfl, a.1, _, dx, fs, _, rfl, hi, W.cl_Task, W.n_Task_task_stage, i6, rfl, _, rfl, ?_⟩
      rcases est with rfl | rfl
      · rw [show decide (V.str "ask" = V.str "look") = false by decide +kernel]
        exact iteF ⟨rfl, rfl⟩
      · rw [show decide (V.str "do" = V.str "look") = false by decide +kernel]
        exact iteF ⟨rfl, rfl⟩
    rintro _ _ ⟨rfl, rfl⟩
    refine ⟨fun σ' H' => σ' = [some (.ref a.1)] ∧ Tsp a a H H' ∧ TkX K H' n r a t none ∧ TkS K H' a "do", ?_, ?_⟩
    · refine ⟨_, rfl, a.1, _, dx, fs, _, rfl, hi, W.cl_Task, W.n_Task_closing, i11, rfl, _, rfl, iteT ?_⟩
      refine ⟨_, rfl, a.1, _, dx, fs, _, rfl, hi, W.cl_Task, W.n_Task_task_stage, i6, rfl, _, rfl, ?_⟩
      rcases est with rfl | rfl
      · rw [show decide (V.str "ask" = V.str "ask") = true by decide +kernel]
        exact iteT ⟨_, rfl, a.1, dx, fs, rfl, hi, hm _ (by simp), a, n, r, t, rfl, tx, nd, hl, fun H' s' t' ts => ⟨rfl, s', t', ts⟩⟩
      · rw [show decide (V.str "do" = V.str "ask") = false by decide +kernel]
        exact iteF ⟨rfl, Tsp.ex nd (Same.refl _), tx, dx, fs, hi, i6⟩
    rintro _ H1 ⟨rfl, s1, tx1, dx1, fs1, hi1, hs1⟩
    obtain ⟨dx2, fs2, hi2, hfl2, hm2, _, _, _, _, _, _, _, _, _, _, cv2, hc2, hcv2⟩ := tx1.ins
    rw [hi1] at hi2
    cases hi2
    have ecv : cv2 = .non := hcv2
    subst ecv
    refine ⟨_, rfl, a.1, _, dx1, fs1, _, rfl, hi1, W.cl_Task, W.n_Task_closing, hc2, rfl, _, rfl, iteT ?_⟩
    refine ⟨_, rfl, a.1, _, dx1, fs1, _, rfl, hi1, W.cl_Task, W.n_Task_task_stage, hs1, rfl, _, rfl, ?_⟩
    rw [show decide (V.str "do" = V.str "do") = true by decide +kernel]
    exact iteT ⟨_, rfl, a.1, dx1, fs1, rfl, hi1, hm2 _ (by simp), a, n, r, t, rfl, tx1, nd, hl, mid, fun H' s' rs => k H' (s1.trans s') rs⟩
end
end Wk
namespace Wk
open PySem PySem.Spec PyProof.Rows L2 SX
def spTakeL (K : PySem.W.Frag) : Sp := fun vs H Q _ => ∃ (a : A3) (n : Str) (r : Rc) (t : Tk) (z : Str) (v : Option PyData), vs = [.ref a.1, .str z, vOpt v] ∧ TkX K H n r a { t with wt := none } none ∧ (fp3 a).Nodup ∧ t.look = true ∧ OkTk r t ∧
  ∀ a' H', Tsp a a' H H' → RsX K H' n r a' (takeT n z v t) → Q .non H'
def spTake (K : PySem.W.Frag) : Sp := fun vs H Q _ => ∃ (a : A3) (n : Str) (r : Rc) (t : Tk) (z : Str) (v : Option PyData), vs = [.ref a.1, vOpt v] ∧ TkX K H n r a t none ∧ (fp3 a).Nodup ∧ t.wt = some z ∧ OkTk r t ∧ (∀ d, v = some d → okV d = true) ∧
  ∀ a' H', Tsp a a' H H' → RsX K H' n r a' (takeT n z v t) → Q .non H'
def spRound (K : PySem.W.Frag) : Sp := fun vs H Q _ => ∃ (a : A3) (n : Str) (r : Rc) (t : Tk) (z : Str), vs = [.ref a.1] ∧ TkX K H n r a t none ∧ (fp3 a).Nodup ∧ t.wt = some z ∧ OkTk r t ∧
  ∀ H', Tsp a a H H' → (∃ t', TkX K H' n r a t' (some (roundT n t))) → Q .non H'
section
variable {P : Program} {w : World} {K : PySem.W.Frag} {mg : Str → Option Value} {base : Heap}
theorem c_Task_take_looked (W : Wld K mg) : Met P w K mg base 2 (aTask K) "take_looked" (spTakeL K) := by
  have c_Task_begin_anew : Met P w K mg base 1 (aTask K) "begin_anew" _ := c_Task_begin_anew W
  refine met_of W.cl_Task W.d_Task_take_looked sc_Task_take_looked (fun vs H Q E h => ?_) (fun f cdv A outer s H vs Q E hr h => ?_)
  · obtain ⟨a, n, r, t, z, v, rfl, _⟩ := h
    rfl
  obtain ⟨a, n, r, t, z, v, rfl, tx, nd, hl, ok, k⟩ := h
  refine ⟨_, (pss_cons (ps_set (i := 3) sc_Task_take_looked.nd rfl (Or.inl rfl) (pe_ix ix_T (pe_fld (pv 0) rfl) pe_int (fun _ _ => rfl)))
    (pss_one (ps_if (pt_cmpR op_lt (pe_callB call_lenA (by rfl) W.f_len bt_len (pa_cons (pe_fld (pv 0) rfl) pa_nil)) (pe_callB call_lenDp (by rfl) W.f_len bt_len (pa_cons (pv 3) pa_nil)) (nomark _)) (pss_one (ps_if (pt_cmpR op_eq (pe_ix ix_T (pe_ix ix_T (pv 3) (pe_callB call_lenA (by rfl) W.f_len bt_len (pa_cons (pe_fld (pv 0) rfl) pa_nil)) (fun _ _ => rfl)) pe_int (fun _ _ => rfl)) (pv 2) (nomark _)) (pss_one (ps_expr (pe_bm PySem.F.plainAttrs_list PySem.F.slot_list_append PySem.F.type_list_append mt_append (pe_fld (pv 0) rfl) (pa_cons (pe_tup (pa_cons (pv 1) (pa_cons (pv 2) pa_nil))) pa_nil)))) (pss_one (ps_expr (pe_mt0 c_Task_begin_anew hr (by omega) (pv 0)))))) (pss_one (ps_if (pt_cmpR op_isN (pv 2) pe_non (nomark _)) (pss_one (ps_fld (pv 0) (pe_tup (pa_cons pe_str (pa_cons (pe_fld (pv 0) rfl) pa_nil))) rfl)) (pss_one (ps_expr (pe_mt0 c_Task_begin_anew hr (by omega) (pv 0))))))))), ?_⟩
  obtain ⟨dx, fs, hi, hfl, hm, i1, i2, i3, i4, ⟨el, i5, hel⟩, i6, i7, i8, i9, i10, i11⟩ := tx.ins
  obtain ⟨m1, m2, m3, m4⟩ := ok.ln hl
  have m3n := m1.n
  have del : Dp K H el (encLn t.ln) := hel hl
  obtain ⟨rv, hrv, drv⟩ := tx.reads
  have drv : DpAll K H rv (t.rd.map encS) := drv
  have hrl : rv.length = t.rd.length := by rw [drv.length, List.length_map]
  unfold takeT at k
  rw [if_pos hl] at k
  have anew : ∀ x, (∀ a' H', Tsp a a' H H' → RsX K H' n r a' (.on (anewT t)) → Q .non H') → x = Q → spAnew K [.ref a.1] H x E := fun x kk hx => by
    subst hx
    exact ⟨a, n, r, { t with wt := none }, rfl, tx, nd, fun a' H' s' t' => kk a' H' s' t'⟩
  refine ⟨_, rfl, a.1, _, dx, fs, _, rfl, hi, W.cl_Task, W.n_Task_elder_line, i5, _, _, _, rfl, del, atI_nat (j := 1) rfl, fun v1 hv1 => ?_⟩
  refine ⟨_, rfl, a.1, _, dx, fs, _, rfl, hi, W.cl_Task, W.n_Task_got_reads, i7, _, _, rfl, .inl ⟨_, SqL.of hrv, rfl⟩, _, rfl, _, _, rfl, hv1, rfl, sz100 (by show (t.ln.rd.map encS).length ≤ _; rw [List.length_map]; omega), _, _, rfl, rfl, _, rfl, iteD (fun c => ?_) (fun c => ?_)⟩
  · have c : ((rv.length : Nat) : Int) < (((t.ln.rd.map encS).length : Nat) : Int) := c
    rw [List.length_map, hrl] at c
    have hlt : t.rd.length < t.ln.rd.length := by omega
    have hq := List.getElem?_eq_getElem hlt
    rw [hq] at k
    have hat : atI (t.ln.rd.map encS) ((rv.length : Nat) : Int) = some (encS t.ln.rd[t.rd.length]) := by
      rw [hrl]
      exact atI_nat (by rw [List.getElem?_map, hq]; rfl)
    generalize t.ln.rd[t.rd.length] = q at hat k
    refine ⟨_, rfl, _, rfl, a.1, _, dx, fs, _, rfl, hi, W.cl_Task, W.n_Task_got_reads, i7, _, _, rfl, .inl ⟨_, SqL.of hrv, rfl⟩, _, _, _, rfl, hv1, hat, fun v3 hv3 => ⟨_, _, _, rfl, hv3, atI_nat (j := 1) rfl, fun v4 hv4 => ?_⟩⟩
    obtain rfl := dp_str hv4
    refine ⟨_, rfl, ?_⟩
    cases v with
    | none =>
      refine ⟨rfl, _, rfl, ?_⟩
      rw [show decide (V.str (stampS q.2) = vOpt none) = false from decide_eq_false fun z => by cases z]
      exact iteF ⟨_, rfl, a.1, dx, fs, rfl, hi, hm _ (by simp), anew _ k rfl⟩
    | some d =>
      refine ⟨rfl, _, rfl, ?_⟩
      rw [show decide (V.str (stampS q.2) = vOpt (some d)) = decide (stampS q.2 = stampS d) from vstr_eq]
      refine iteD (fun c2 => ?_) (fun c2 => ?_)
      · refine ⟨_, rfl, a.1, _, dx, fs, _, rfl, hi, W.cl_Task, W.n_Task_got_reads, i7, .inl ⟨rfl, _, SqL.of hrv⟩, _, rfl, _, rfl, (show 2 ≤ sizeLine by decide), fun p5 hp5 => ?_⟩
        have d5 := dp_newT (K := K) hp5 (.cons (.str z) (.one (.str (stampS d))))
        have e5 := Ex.new (o := .tup [.str z, .str (stampS d)]) hp5
        generalize hh : upd H p5 _ = H5
        have d5 : Dp K H5 (.ref p5) (encS (z, d)) := hh ▸ d5
        have e5 : Ex H H5 := hh ▸ e5
        clear hh
        have hrv5 := e5 _ _ hrv
        refine ⟨a.2.1, _, _, rfl, rfl, hrv5, szlt (by omega), ?_⟩
        have t6 := (tx.up e5).addR nd hrv5 d5
        refine k a _ ((Tsp.ex nd e5).trans (Tsp.mut2 nd hrv5)) ?_
        show RsX K _ n r a (if stampS d = stampS q.2 then _ else _)
        rw [if_pos c2.symm]
        exact t6
      · refine ⟨_, rfl, a.1, dx, fs, rfl, hi, hm _ (by simp), anew _ (fun a' H' s' rs => k a' H' s' ?_) rfl⟩
        show RsX K _ n r a' (if stampS d = stampS q.2 then _ else _)
        rw [if_neg fun e => c2 e.symm]
        exact rs
  · have c : ¬ ((rv.length : Nat) : Int) < (((t.ln.rd.map encS).length : Nat) : Int) := c
    rw [List.length_map, hrl] at c
    rw [List.getElem?_eq_none (by omega)] at k
    cases v with
    | none =>
      refine ⟨_, rfl, rfl, _, rfl, iteT ⟨_, rfl, a.1, _, dx, fs, _, rfl, hi, W.cl_Task, W.n_Task_elder_line, i5, (show 2 ≤ sizeLine by decide), fun p3 hp3 => ?_⟩⟩
      have d3 := dp_newT (K := K) hp3 (.cons (.str "kept") (.one del))
      have e3 := Ex.new (o := .tup [.str "kept", el]) hp3
      have hi3 := e3 _ _ hi
      have t4 := ((tx.up e3).set nd hi3).2.2.2.2 _ ("kept", t.ln) d3
      exact ⟨_, rfl, a.1, _, dx, fs, rfl, hi3, W.cl_Task, W.n_Task_closing, hfl, k a _ ((Tsp.ex nd e3).trans (Tsp.mut1 nd hi3)) ⟨_, t4⟩⟩
    | some d =>
      exact ⟨_, rfl, rfl, _, rfl, iteF ⟨_, rfl, a.1, dx, fs, rfl, hi, hm _ (by simp), anew _ k rfl⟩⟩
theorem c_Task_take (W : Wld K mg) : Met P w K mg base 15 (aTask K) "take" (spTake K) := by
  have c_Task_close : Met P w K mg base 1 (aTask K) "close" _ := c_Task_close W
  have c_Task_take_looked : Met P w K mg base 2 (aTask K) "take_looked" _ := c_Task_take_looked W
  have c_value_by : Cal P w K mg base 14 "value_by" _ := c_value_by W
  refine met_of W.cl_Task W.d_Task_take sc_Task_take (fun vs H Q E h => ?_) (fun f cdv A outer s H vs Q E hr h => ?_)
  · obtain ⟨a, n, r, t, z, v, rfl, _⟩ := h
    rfl
  obtain ⟨a, n, r, t, z, v, rfl, tx, nd, hz, ok, okv, k⟩ := h
  refine ⟨_, (pss_cons (ps_set (i := 2) sc_Task_take.nd rfl (Or.inl rfl) (pe_fld (pv 0) rfl))
    (pss_cons (ps_fld (pv 0) pe_non rfl)
    (pss_one (ps_if (pt_cmpR op_eq (pe_fld (pv 0) rfl) pe_str (nomark _)) (pss_one (ps_expr (pe_mt c_Task_take_looked hr (by omega) (pv 0) (pa_cons (pv 2) (pa_cons (pv 1) pa_nil))))) (pss_one (ps_if (pt_cmpR op_isN (pv 1) pe_non (nomark _)) (pss_one (ps_expr (pe_mt c_Task_close hr (by omega) (pv 0) (pa_cons pe_str (pa_cons (pe_tup (pa_cons pe_str (pa_cons (pv 2) pa_nil))) pa_nil))))) (pss_one (ps_if (pt_val (pe_fld (pv 0) rfl)) (pss_one (ps_expr (pe_bm PySem.F.plainAttrs_list PySem.F.slot_list_append PySem.F.type_list_append mt_append (pe_fld (pv 0) rfl) (pa_cons (pe_tup (pa_cons (pv 2) (pa_cons (pe_cl c_value_by hr (by omega) (by rfl) (pa_cons (pv 1) pa_nil)) pa_nil))) pa_nil)))) (pss_one (ps_expr (pe_bm PySem.F.plainAttrs_list PySem.F.slot_list_append PySem.F.type_list_append mt_append (pe_fld (pv 0) rfl) (pa_cons (pe_tup (pa_cons (pv 2) (pa_cons (pv 1) pa_nil))) pa_nil)))))))))))), ?_⟩
  obtain ⟨dx, fs, hi, hfl, hm, i1, i2, i3, i4, i5, i6, i7, i8, i9, i10, i11⟩ := tx.ins
  rw [hz] at i10
  refine ⟨_, rfl, a.1, _, dx, fs, _, rfl, hi, W.cl_Task, W.n_Task_waits_for, i10, ?_⟩
  refine ⟨_, rfl, a.1, _, dx, fs, rfl, hi, W.cl_Task, W.n_Task_waits_for, hfl, ?_⟩
  have t1 := (tx.set nd hi).1 none
  have s1 : Tsp a a H (upd H a.1 (.ins (aTask K) dx (putF "waits_for" (optV none) fs))) := Tsp.mut1 nd hi
  have r1 : upd H a.1 (.ins (aTask K) dx (putF "waits_for" .non fs)) = upd H a.1 (.ins (aTask K) dx (putF "waits_for" (optV none) fs)) := rfl
  rw [r1]
  generalize upd H a.1 (.ins (aTask K) dx (putF "waits_for" (optV none) fs)) = H1 at t1 s1 ⊢
  clear r1
  obtain ⟨dx1, fs1, hi1, hfl1, hm1, _, _, _, _, _, ⟨st, j6, hst⟩, j7, j8, j9, _⟩ := t1.ins
  have hst : stOk t.look st := hst
  have j9 : fs1.lookup ("is_peeking" : Str) = some (.bl t.py) := j9
  refine ⟨_, rfl, a.1, _, dx1, fs1, _, rfl, hi1, W.cl_Task, W.n_Task_task_stage, j6, rfl, _, rfl, ?_⟩
  cases hl : t.look with
  | true =>
    have est : st = "look" := by
      rcases hst with ⟨_, e⟩ | ⟨e, _⟩
      · exact e
      · rw [hl] at e; cases e
    subst est
    rw [show decide (V.str "look" = V.str "look") = true by decide +kernel]
    exact iteT ⟨_, rfl, a.1, dx1, fs1, rfl, hi1, hm1 _ (by simp), _, rfl, _, rfl, a, n, r, t, z, v, rfl, t1, nd, hl, ok, fun a' H' s' rs => k a' H' (s1.trans s') rs⟩
  | false =>
    have hl' : ¬ t.look = true := by rw [hl]; exact Bool.false_ne_true
    have est : decide (V.str st = V.str "look") = false := by
      rcases hst with ⟨e, _⟩ | ⟨_, rfl | rfl⟩
      · rw [hl] at e; cases e
      · decide +kernel
      · decide +kernel
    rw [est]
    have ft := ok.fit hl
    obtain ⟨f1, f2, f3, f4⟩ := ft.out tx.ok
    unfold takeT at k
    rw [if_neg hl'] at k
    cases v with
    | none =>
      refine iteF ⟨_, rfl, rfl, _, rfl, iteT ?_⟩
      refine ⟨_, rfl, a.1, dx1, fs1, rfl, hi1, hm1 _ (by simp), _, rfl, (show 2 ≤ sizeLine by decide), fun p5 hp5 => ?_⟩
      have d5 := dp_newT (K := K) hp5 (.cons (.str "wants") (.one (.str z)))
      have e5 := Ex.new (o := .tup [.str "wants", .str z]) hp5
      generalize hh : upd H1 p5 _ = H5
      have d5 : Dp K H5 (.ref p5) (encE (.wants z)) := hh ▸ d5
      have e5 : Ex H1 H5 := hh ▸ e5
      clear hh
      exact ⟨a, n, r, _, "done", .ref p5, .wants z, rfl, t1.up e5, nd, d5, (show t.rd.length ≤ 1000 by omega), fun H' s' t' => k a H' (s1.trans ((Tsp.ex nd e5).trans s')) ⟨_, t'⟩⟩
    | some d =>
      have okd := okv d rfl
      refine iteF ⟨_, rfl, rfl, _, rfl, iteF ?_⟩
      refine ⟨_, rfl, a.1, _, dx1, fs1, _, rfl, hi1, W.cl_Task, W.n_Task_is_peeking, j9, _, rfl, iteB (fun c => ?_) (fun c => ?_)⟩
      · obtain ⟨pv, hpv, dpv⟩ := t1.peeks
        have dpv : DpAll K H1 pv (t.pk.map encP) := dpv
        refine ⟨_, rfl, a.1, _, dx1, fs1, _, rfl, hi1, W.cl_Task, W.n_Task_got_peeks, j8, .inl ⟨rfl, _, SqL.of hpv⟩, _, rfl, _, rfl, d, rfl, okd, fun y H4 e4 hy => ⟨(show 2 ≤ sizeLine by decide), fun p5 hp5 => ?_⟩⟩
        have d5 := dp_newT hp5 (.cons (.str z) (.one hy))
        have e5 := Ex.new (o := .tup [.str z, y]) hp5
        generalize hh : upd H4 p5 _ = H5
        have d5 : Dp K H5 (.ref p5) (encP (z, d)) := hh ▸ d5
        have e5 : Ex H4 H5 := hh ▸ e5
        clear hh
        have e25 := e4.trans e5
        have hpv5 := e25 _ _ hpv
        have hpl : pv.length = t.pk.length := by rw [dpv.length, List.length_map]
        refine ⟨a.2.2, _, _, rfl, rfl, hpv5, szlt (by omega), ?_⟩
        have t6 := (t1.up e25).addP nd hpv5 d5 okd
        refine k a _ (s1.trans ((Tsp.ex nd e25).trans (Tsp.mut3 nd hpv5))) ?_
        show RsX K _ n r a (if t.py = true then _ else _)
        rw [if_pos c]
        exact t6
      · obtain ⟨rv, hrv, drv⟩ := t1.reads
        have drv : DpAll K H1 rv (t.rd.map encS) := drv
        have hrl : rv.length = t.rd.length := by rw [drv.length, List.length_map]
        refine ⟨_, rfl, a.1, _, dx1, fs1, _, rfl, hi1, W.cl_Task, W.n_Task_got_reads, j7, .inl ⟨rfl, _, SqL.of hrv⟩, _, rfl, _, rfl, (show 2 ≤ sizeLine by decide), fun p5 hp5 => ?_⟩
        have d5 := dp_newT (K := K) hp5 (.cons (.str z) (.one (.str (stampS d))))
        have e5 := Ex.new (o := .tup [.str z, .str (stampS d)]) hp5
        generalize hh : upd H1 p5 _ = H5
        have d5 : Dp K H5 (.ref p5) (encS (z, d)) := hh ▸ d5
        have e5 : Ex H1 H5 := hh ▸ e5
        clear hh
        have hrv5 := e5 _ _ hrv
        refine ⟨a.2.1, _, _, rfl, rfl, hrv5, szlt (by omega), ?_⟩
        have t6 := (t1.up e5).addR nd hrv5 d5
        refine k a _ (s1.trans ((Tsp.ex nd e5).trans (Tsp.mut2 nd hrv5))) ?_
        show RsX K _ n r a (if t.py = true then _ else _)
        rw [if_neg (by rw [c]; exact Bool.false_ne_true)]
        exact t6
theorem c_Task_go_round (W : Wld K mg) : Met P w K mg base 2 (aTask K) "go_round" (spRound K) := by
  have c_Task_close : Met P w K mg base 1 (aTask K) "close" _ := c_Task_close W
  refine met_of W.cl_Task W.d_Task_go_round sc_Task_go_round (fun vs H Q E h => ?_) (fun f cdv A outer s H vs Q E hr h => ?_)
  · obtain ⟨a, n, r, t, z, rfl, _⟩ := h
    rfl
  obtain ⟨a, n, r, t, z, rfl, tx, nd, hz, ok, k⟩ := h
  refine ⟨_, (pss_one (ps_if (PW.pt (pw_and (pt_cmpR op_eq (pe_fld (pv 0) rfl) pe_str (nomark _)) (pw_and1 (pt_cmpR op_eq (pe_callB call_lenA (by rfl) W.f_len bt_len (pa_cons (pe_fld (pv 0) rfl) pa_nil)) (pe_callB call_lenDp (by rfl) W.f_len bt_len (pa_cons (pe_ix ix_T (pe_fld (pv 0) rfl) pe_int (fun _ _ => rfl)) pa_nil)) (nomark _))))) (pss_one (ps_fld (pv 0) (pe_tup (pa_cons pe_str (pa_cons (pe_fld (pv 0) rfl) pa_nil))) rfl)) (pss_one (ps_expr (pe_mt c_Task_close hr (by omega) (pv 0) (pa_cons pe_str (pa_cons (pe_tup (pa_cons pe_str (pa_cons (pe_fld (pv 0) rfl) pa_nil))) pa_nil))))))), ?_⟩
  obtain ⟨dx, fs, hi, hfl, hm, i1, i2, i3, i4, ⟨el, i5, hel⟩, ⟨st, i6, hst⟩, i7, i8, i9, i10, i11⟩ := tx.ins
  rw [hz] at i10
  have hrd : t.rd.length ≤ 3 := by
    by_cases hl : t.look = true
    · obtain ⟨m1, m2, _, _⟩ := ok.ln hl
      exact Nat.le_trans m2 m1.n
    · have hl' : t.look = false := by simpa using hl
      obtain ⟨f1, _⟩ := (ok.fit hl').out tx.ok
      omega
  have done : roundT n t = ((("done" : Str), (⟨n, t.rd, .wants z⟩ : Line))) → ∀ p5, H p5 = none → spClose K [.ref a.1, .str "done", .ref p5] (upd H p5 (.tup [.str "wants", .str z])) Q E := fun rt p5 hp5 => by
    have d5 : Dp K (upd H p5 (.tup [.str "wants", .str z])) (.ref p5) (encE (.wants z)) := dp_newT (K := K) hp5 (.cons (.str "wants") (.one (.str z)))
    have e5 : Ex H (upd H p5 (.tup [.str "wants", .str z])) := Ex.new hp5
    rw [rt] at k
    exact ⟨a, n, r, t, "done", .ref p5, .wants z, rfl, tx.up e5, nd, d5, by omega, fun H' s' t' => k H' ((Tsp.ex nd e5).trans s') ⟨_, t'⟩⟩
  refine ⟨_, rfl, a.1, _, dx, fs, _, rfl, hi, W.cl_Task, W.n_Task_task_stage, i6, rfl, _, rfl, ?_⟩
  cases hl : t.look with
  | true =>
    have est : st = "look" := by
      rcases hst with ⟨_, e⟩ | ⟨e, _⟩
      · exact e
      · rw [hl] at e; cases e
    subst est
    rw [show decide (V.str "look" = V.str "look") = true by decide +kernel]
    have del := hel hl
    obtain ⟨rv, hrv, drv⟩ := tx.reads
    have hrl : rv.length = t.rd.length := by rw [drv.length, List.length_map]
    have m3n := (ok.ln hl).1.n
    refine iteT ⟨_, rfl, a.1, _, dx, fs, _, rfl, hi, W.cl_Task, W.n_Task_got_reads, i7, _, _, rfl, .inl ⟨_, SqL.of hrv, rfl⟩, _, rfl, a.1, _, dx, fs, _, rfl, hi, W.cl_Task, W.n_Task_elder_line, i5, _, _, _, rfl, del, atI_nat (j := 1) rfl, fun v1 hv1 => ⟨_, _, rfl, hv1, rfl, sz100 (by show (t.ln.rd.map encS).length ≤ _; rw [List.length_map]; omega), rfl, _, rfl, iteD (fun c => ?_) (fun c => ?_)⟩⟩
    · have c : V.int ((rv.length : Nat) : Int) = V.int (((t.ln.rd.map encS).length : Nat) : Int) := c
      have c : t.rd.length = t.ln.rd.length := by
        rw [List.length_map, hrl] at c
        injection c with c
        omega
      have rt : roundT n t = ((("kept" : Str), t.ln)) := by
        unfold roundT
        rw [if_pos ⟨hl, c⟩]
      rw [rt] at k
      refine ⟨_, rfl, a.1, _, dx, fs, _, rfl, hi, W.cl_Task, W.n_Task_elder_line, i5, (show 2 ≤ sizeLine by decide), fun p3 hp3 => ?_⟩
      have d3 := dp_newT (K := K) hp3 (.cons (.str "kept") (.one del))
      have e3 := Ex.new (o := .tup [.str "kept", el]) hp3
      have hi3 := e3 _ _ hi
      have t4 := ((tx.up e3).set nd hi3).2.2.2.2 _ ("kept", t.ln) d3
      exact ⟨_, rfl, a.1, _, dx, fs, rfl, hi3, W.cl_Task, W.n_Task_closing, hfl, k _ ((Tsp.ex nd e3).trans (Tsp.mut1 nd hi3)) ⟨_, t4⟩⟩
    · have c : ¬ V.int ((rv.length : Nat) : Int) = V.int (((t.ln.rd.map encS).length : Nat) : Int) := c
      have c : t.rd.length ≠ t.ln.rd.length := fun e => c (by rw [List.length_map, hrl, e])
      have rt : roundT n t = ((("done" : Str), (⟨n, t.rd, .wants z⟩ : Line))) := by
        unfold roundT
        rw [if_neg fun e => c e.2, hz]
        rfl
      exact ⟨_, rfl, a.1, dx, fs, rfl, hi, hm _ (by simp), _, rfl, a.1, _, dx, fs, _, rfl, hi, W.cl_Task, W.n_Task_waits_for, i10, (show 2 ≤ sizeLine by decide), done rt⟩
  | false =>
    have est : decide (V.str st = V.str "look") = false := by
      rcases hst with ⟨e, _⟩ | ⟨_, rfl | rfl⟩
      · rw [hl] at e; cases e
      · decide +kernel
      · decide +kernel
    rw [est]
    have rt : roundT n t = ((("done" : Str), (⟨n, t.rd, .wants z⟩ : Line))) := by
      unfold roundT
      rw [if_neg fun e => by rw [hl] at e; exact absurd e.1 Bool.false_ne_true, hz]
      rfl
    exact iteF ⟨_, rfl, a.1, dx, fs, rfl, hi, hm _ (by simp), _, rfl, a.1, _, dx, fs, _, rfl, hi, W.cl_Task, W.n_Task_waits_for, i10, (show 2 ≤ sizeLine by decide), done rt⟩
end
end Wk
namespace Wk
open PySem PySem.Spec PyProof.Rows L2 SX
/-! ### the weave -/
abbrev wvF (ba la ka ea ra : Addr) : List (Str × V) := [("weave_book", .ref ba), ("weave_held", .ref la), ("open_tasks", .ref ka), ("all_ends", .ref ea), ("weave_log", .ref ra)]
section
variable {ba la ka ea ra : Addr}
theorem wf_book : (wvF ba la ka ea ra).lookup ("weave_book" : Str) = some (.ref ba) := by rfl
theorem wf_held : (wvF ba la ka ea ra).lookup ("weave_held" : Str) = some (.ref la) := by rfl
theorem wf_tasks : (wvF ba la ka ea ra).lookup ("open_tasks" : Str) = some (.ref ka) := by rfl
theorem wf_ends : (wvF ba la ka ea ra).lookup ("all_ends" : Str) = some (.ref ea) := by rfl
theorem wf_log : (wvF ba la ka ea ra).lookup ("weave_log" : Str) = some (.ref ra) := by rfl
theorem wf_m (m : Str) (h : m ∈ (["is_open_thing", "open_task", "stamp_now", "ready", "move", "settle_task", "settle_rings", "settled", "told"] : List Str)) : (wvF ba la ka ea ra).lookup m = none := by
  simp only [List.mem_cons, List.not_mem_nil, or_false] at h
  rcases h with rfl | rfl | rfl | rfl | rfl | rfl | rfl | rfl | rfl <;> rfl
end
def YV (K : PySem.W.Frag) (made : As Rc) : Lay where
  A := A3
  ref a := a.1
  fp a := fp3 a
  tr H n a t := ∃ r, lk made n = some r ∧ TkX K H n r a t none
  fr h k t := by
    obtain ⟨r, h1, h2⟩ := h
    exact ⟨r, h1, h2.fr k t⟩
  al h x hx := by
    obtain ⟨r, h1, tx⟩ := h
    obtain ⟨dx', fs', hi', _⟩ := tx.ins
    obtain ⟨rv, hrv, _⟩ := tx.reads
    obtain ⟨pv, hpv, _⟩ := tx.peeks
    intro z
    rcases List.mem_cons.mp hx with rfl | hx
    · rw [hi'] at z; cases z
    rcases List.mem_cons.mp hx with rfl | hx
    · rw [hrv] at z; cases z
    rcases List.mem_cons.mp hx with rfl | hx
    · rw [hpv] at z; cases z
    · cases hx
/-- what a method needs that only looks -/
structure VB (K : PySem.W.Frag) (p : Pl) (ns : List Str) (told : As PyData) (made : As Rc) (en : As EndM) (H : Hp) : Prop where
  hv : ∃ dx, H p.wa = some (.ins (aWeave K) dx (wvF p.ba p.w.la p.w.ka p.w.ea p.w.ra))
  bk : Bk K H p.ba p.ta p.ma told made
  bo : BkOk ns told made
  en : DT K H p.w.ea encE en
structure VW (K : PySem.W.Frag) (p : Pl) (ns : List Str) (told : As PyData) (made : As Rc) (ad : As (YV K made).A) (H : Hp) (s : Sm) : Prop where
  hv : ∃ dx, H p.wa = some (.ins (aWeave K) dx (wvF p.ba p.w.la p.w.ka p.w.ea p.w.ra))
  bk : Bk K H p.ba p.ta p.ma told made
  bo : BkOk ns told made
  co : Core K (YV K made) p.w ad H s
  dw : p.wa ∉ fpW (YV K made) p.w ad
  dt : p.ta ∉ fpW (YV K made) p.w ad
  dm : p.ma ∉ fpW (YV K made) p.w ad
section
variable {K : PySem.W.Frag} {p : Pl} {ns : List Str} {told : As PyData} {made : As Rc} {ad ad' : As (YV K made).A} {H H' : Hp} {s s' : Sm}
theorem VW.vb (l : VW K p ns told made ad H s) : VB K p ns told made s.en H := ⟨l.hv, l.bk, l.bo, l.co.en⟩
theorem VW.step (l : VW K p ns told made ad H s) (a : Stp (fpW (YV K made) p.w ad) (fpW (YV K made) p.w ad') H H') (c : Core K (YV K made) p.w ad' H' s') : VW K p ns told made ad' H' s' := by
  obtain ⟨⟨o1, h1⟩, ⟨o2, h2⟩⟩ := l.bk.tne
  obtain ⟨dx, hv⟩ := l.hv
  refine ⟨⟨dx, a.keep hv l.dw⟩, l.bk.keep l.bo (fun x hx o ho => ?_) a.f.t, l.bo, c, a.out hv l.dw, a.out h1 l.dt, a.out h2 l.dm⟩
  rcases hx with rfl | rfl
  · exact a.keep ho l.dt
  · exact a.keep ho l.dm
theorem VW.ex (l : VW K p ns told made ad H s) (e : Ex H H') : VW K p ns told made ad H' s := l.step (.ex e) (l.co.ex e)
theorem VB.ex {en : As EndM} (l : VB K p ns told made en H) (e : Ex H H') : VB K p ns told made en H' := by
  obtain ⟨dx, hv⟩ := l.hv
  exact ⟨⟨dx, e _ _ hv⟩, l.bk.up e, l.bo, l.en.up e⟩
end
def sortS (told : As PyData) (made : As Rc) (n : Str) : Str := if n ∈ ks told then "told" else if n ∈ ks made then "made" else "lacks"
def spSort (K : PySem.W.Frag) : Sp := fun vs H Q _ => ∃ ba ta ma told made n, vs = [.ref ba, .str n] ∧ Bk K H ba ta ma told made ∧ ∀ H', Ex H H' → Q (.str (sortS told made n)) H'
def openB (made : As Rc) (en : As EndM) (n : Str) : Bool := decide (n ∈ ks made) && !decide (n ∈ ks en)
def spIsOpen (K : PySem.W.Frag) : Sp := fun vs H Q _ => ∃ p ns told made en n, vs = [.ref p.wa, .str n] ∧ VB K p ns told made en H ∧ ∀ H', Ex H H' → Q (.bl (openB made en n)) H'
def spStampNow (K : PySem.W.Frag) : Sp := fun vs H Q _ => ∃ p ns told made en n, vs = [.ref p.wa, .str n] ∧ VB K p ns told made en H ∧ ∀ H', Ex H H' → Q (vOpt (nowM told en n)) H'
def spReady (K : PySem.W.Frag) : Sp := fun vs H Q _ => ∃ (p : Pl) (ns : List Str) (told : As PyData) (made : As Rc) (ad : As (YV K made).A) (s : Sm), vs = [.ref p.wa] ∧ VW K p ns told made ad H s ∧ s.tk.length ≤ 60 ∧ ∀ f H', Ex H H' → H f = none → H' f = some (.lst ((ableM made s).map V.str)) → Q (.ref f) H'
section
variable {P : Program} {w : World} {K : PySem.W.Frag} {mg : Str → Option Value} {base : Heap}
theorem c_sort_at (W : Wld K mg) : Cal P w K mg base 1 "sort_at" (spSort K) := by
  refine cal_of W.d_sort_at sc_sort_at (fun vs H Q E h => ?_) (fun f cdv A outer s H vs Q E hr h => ?_)
  · obtain ⟨ba, ta, ma, told, made, n, rfl, _⟩ := h
    rfl
  obtain ⟨ba, ta, ma, told, made, n, rfl, bk, k⟩ := h
  have hu := hu_of hr
  refine ⟨_, (pss_cons (ps_if (pt_cmp (pc_din hu (pv 1) (pe_ix ix_tup (pv 0) pe_int (fun _ _ => rfl))) (by rfl)) (pss_one (ps_ret pe_str)) pss_nil)
    (pss_cons (ps_if (pt_cmp (pc_din hu (pv 1) (pe_ix ix_tup (pv 0) pe_int (fun _ _ => rfl))) (by rfl)) (pss_one (ps_ret pe_str)) pss_nil)
    (pss_one (ps_ret pe_str)))), ?_⟩
  obtain ⟨ot, g1, g2, g3⟩ := bk.t.has n
  obtain ⟨om, m1, m2, m3⟩ := bk.m.has n
  have k := k H (Same.refl _)
  unfold sortS at k
  refine ⟨_, rfl, _, rfl, ba, _, _, _, rfl, rfl, SqT.of bk.p, atI_nat (j := 0) rfl, ta, _, rfl, g1, _, rfl, ?_⟩
  rcases g3 with ⟨q1, rfl⟩ | ⟨v, x, rfl, q1, q2⟩
  · rw [if_neg (isSome_f q1)] at k
    refine iteF ⟨_, rfl, _, rfl, ba, _, _, _, rfl, rfl, SqT.of bk.p, atI_nat (j := 1) rfl, ma, _, rfl, m1, _, rfl, ?_⟩
    rcases m3 with ⟨q3, rfl⟩ | ⟨v, x, rfl, q3, q4⟩
    · rw [if_neg (isSome_f q3)] at k
      exact iteF k
    · rw [if_pos (isSome_t q3)] at k
      exact iteT k
  · rw [if_pos (isSome_t q1)] at k
    exact iteT k
theorem c_Weave_is_open_thing (W : Wld K mg) : Met P w K mg base 2 (aWeave K) "is_open_thing" (spIsOpen K) := by
  have c_sort_at : Cal P w K mg base 1 "sort_at" _ := c_sort_at W
  refine met_of W.cl_Weave W.d_Weave_is_open_thing sc_Weave_is_open_thing (fun vs H Q E h => ?_) (fun f cdv A outer s H vs Q E hr h => ?_)
  · obtain ⟨p, ns, told, made, en, n, rfl, _⟩ := h
    rfl
  obtain ⟨p, ns, told, made, en, n, rfl, l, k⟩ := h
  have hu := hu_of hr
  refine ⟨_, (pss_one (ps_ret (pe_and (pe_cmpR op_eq (pe_cl c_sort_at hr (by omega) (by rfl) (pa_cons (pe_fld (pv 0) rfl) (pa_cons (pv 1) pa_nil))) pe_str (nomark _)) (pe_one (pe_cmp (pc_dnotin hu (pv 1) (pe_fld (pv 0) rfl)) (by rfl)))))), ?_⟩
  obtain ⟨dx, hv⟩ := l.hv
  refine ⟨_, rfl, p.wa, _, dx, _, _, rfl, hv, W.cl_Weave, W.n_Weave_weave_book, wf_book, _, rfl, p.ba, p.ta, p.ma, told, made, n, rfl, l.bk, fun H1 e1 => ?_⟩
  have l1 := l.ex e1
  have k := k H1 e1
  unfold openB at k
  obtain ⟨dx1, hv1⟩ := l1.hv
  obtain ⟨oe, g1, g2, g3⟩ := l1.en.has n
  refine ⟨rfl, _, rfl, ?_⟩
  have es : decide (V.str (sortS told made n) = V.str "made") = decide (n ∈ ks made) := by
    unfold sortS
    by_cases c : n ∈ ks told
    · rw [if_pos c, decide_eq_false (l.bo.dj n c)]
      decide +kernel
    · rw [if_neg c]
      by_cases c2 : n ∈ ks made
      · rw [if_pos c2, decide_eq_true c2]
        decide +kernel
      · rw [if_neg c2, decide_eq_false c2]
        decide +kernel
  rw [es]
  refine iteD (fun c => ?_) (fun c => ?_)
  · rw [decide_eq_true c] at k
    refine ⟨_, rfl, _, rfl, p.wa, _, dx1, _, _, rfl, hv1, W.cl_Weave, W.n_Weave_all_ends, wf_ends, p.w.ea, oe, rfl, g1, ?_⟩
    have e2 : (!oe.isSome) = !decide (n ∈ ks en) := by
      rw [g2]
      congr 1
      rw [Bool.eq_iff_iff, lk_ks, decide_eq_true_iff]
    rw [e2]
    exact k
  · rw [decide_eq_false c] at k
    have ed : decide (n ∈ ks made) = false := decide_eq_false c
    first
      | exact k
      | (rw [ed]; exact k)
theorem c_Weave_stamp_now (W : Wld K mg) : Met P w K mg base 6 (aWeave K) "stamp_now" (spStampNow K) := by
  have c_stamp_of : Cal P w K mg base 5 "stamp_of" _ := c_stamp_of W 5
  refine met_of W.cl_Weave W.d_Weave_stamp_now sc_Weave_stamp_now (fun vs H Q E h => ?_) (fun f cdv A outer s H vs Q E hr h => ?_)
  · obtain ⟨p, ns, told, made, en, n, rfl, _⟩ := h
    rfl
  obtain ⟨p, ns, told, made, en, n, rfl, l, k⟩ := h
  have hu := hu_of hr
  refine ⟨_, (pss_cons (ps_if (pt_cmp (pc_din hu (pv 1) (pe_ix ix_tup (pe_fld (pv 0) rfl) pe_int (fun _ _ => rfl))) (by rfl)) (pss_one (ps_ret (pe_cl c_stamp_of hr (by omega) (by rfl) (pa_cons (pe_dget hu (pe_ix ix_tup (pe_fld (pv 0) rfl) pe_int (fun _ _ => rfl)) (pv 1) (fun _ _ => rfl)) pa_nil)))) pss_nil)
    (pss_cons (ps_set (i := 2) sc_Weave_stamp_now.nd rfl (Or.inl rfl) (pe_dget1 hu (pe_fld (pv 0) rfl) (pv 1) ⟨rfl, rfl, rfl, rfl⟩))
    (pss_cons (ps_if (PW.pt (pw_and (pt_cmpR op_notN (pv 2) pe_non (nomark _)) (pw_and1 (pt_cmpR op_eq (pe_ix ix_T (pv 2) pe_int (fun _ _ => rfl)) pe_str (nomark _))))) (pss_one (ps_ret (pe_ix ix_T (pv 2) pe_int (fun _ _ => rfl)))) pss_nil)
    (pss_one (ps_ret pe_non))))), ?_⟩
  obtain ⟨dx, hv⟩ := l.hv
  obtain ⟨ot, g1, g2, g3⟩ := l.bk.t.has n
  unfold nowM at k
  refine ⟨_, rfl, _, rfl, p.wa, _, dx, _, _, rfl, hv, W.cl_Weave, W.n_Weave_weave_book, wf_book, p.ba, _, _, _, rfl, rfl, SqT.of l.bk.p, atI_nat (j := 0) rfl, p.ta, _, rfl, g1, _, rfl, ?_⟩
  rcases g3 with ⟨q1, rfl⟩ | ⟨v, x, rfl, q1, q2⟩
  · rw [q1] at k
    refine iteF ?_
    obtain ⟨oe, e1, e2, e3⟩ := l.en.has n
    refine ⟨_, rfl, p.wa, _, dx, _, _, rfl, hv, W.cl_Weave, W.n_Weave_all_ends, wf_ends, _, rfl, l.en.isd, _, rfl, oe, e1, ?_⟩
    rcases e3 with ⟨q3, rfl⟩ | ⟨v, e, rfl, q3, q4⟩
    · rw [q3] at k
      exact ⟨_, rfl, rfl, _, rfl, iteF (k H (Same.refl _))⟩
    · rw [q3] at k
      obtain ⟨xa, xs, rfl, _, _⟩ : ∃ a xs, v = .ref a ∧ SqT K H a xs ∧ True := by
        cases e <;> (obtain ⟨a, xs, h1, h2, _⟩ := dp_tup q4; exact ⟨a, xs, h1, h2, trivial⟩)
      refine ⟨_, rfl, rfl, _, rfl, iteT ?_⟩
      cases e with
      | made v =>
        have q4 : Dp K H _ (.tuple [.str "made", .str (stampS v)]) := q4
        refine ⟨_, rfl, _, _, _, rfl, q4, atI_nat (j := 0) rfl, fun v0 hv0 => ?_⟩
        obtain rfl := dp_str hv0
        refine ⟨rfl, _, rfl, iteT ⟨_, rfl, _, _, _, rfl, q4, atI_nat (j := 1) rfl, fun v1 hv1 => ?_⟩⟩
        obtain rfl := dp_str hv1
        exact k H (Same.refl _)
      | fails z =>
        have q4 : Dp K H _ (.tuple [.str "fails", .str z]) := q4
        refine ⟨_, rfl, _, _, _, rfl, q4, atI_nat (j := 0) rfl, fun v0 hv0 => ?_⟩
        obtain rfl := dp_str hv0
        exact ⟨rfl, _, rfl, iteF (k H (Same.refl _))⟩
      | wants z =>
        have q4 : Dp K H _ (.tuple [.str "wants", .str z]) := q4
        refine ⟨_, rfl, _, _, _, rfl, q4, atI_nat (j := 0) rfl, fun v0 hv0 => ?_⟩
        obtain rfl := dp_str hv0
        exact ⟨rfl, _, rfl, iteF (k H (Same.refl _))⟩
  · rw [q1] at k
    refine iteT ⟨_, rfl, p.wa, _, dx, _, _, rfl, hv, W.cl_Weave, W.n_Weave_weave_book, wf_book, p.ba, _, _, _, rfl, rfl, SqT.of l.bk.p, atI_nat (j := 0) rfl, _, rfl, p.ta, v, rfl, g1, v, x, rfl, q2, okV_stamp (l.bo.ov _ (lk_mem q1)), fun y H1 e1 hy => ?_⟩
    obtain rfl := dp_str hy
    exact k H1 e1
end
end Wk
namespace Wk
open PySem PySem.Spec PyProof.Rows L2 SX
theorem ready_openB {made : As Rc} {en : As EndM} {t : Tk} {z : Str} (h : t.wt = some z) : readyM made en t = !openB made en z := by
  unfold readyM openB
  rw [h]
  show (!decide (z ∈ ks made) || decide (z ∈ ks en)) = _
  cases decide (z ∈ ks made) <;> cases decide (z ∈ ks en) <;> rfl
theorem able_eq {made : As Rc} {s : Sm} {ys : List Str} (hp : ys.Perm ((ks s.tk).filter (readyN made s))) (hs : sortedS ys = true) : ys = ableM made s := by
  unfold ableM
  rw [← sortM_filter]
  exact sortM_eq hp hs
theorem mem_of_get {α : Type} {l : As α} (hd : (ks l).Nodup) {i : Nat} {p : Str × α} (h : l[i]? = some p) : lk l p.1 = some p.2 := lk_of_mem hd (List.mem_of_getElem? h)
section
variable {P : Program} {w : World} {K : PySem.W.Frag} {mg : Str → Option Value} {base : Heap}
theorem c_Weave_ready (W : Wld K mg) : Met P w K mg base 3 (aWeave K) "ready" (spReady K) := by
  have c_Weave_is_open_thing : Met P w K mg base 2 (aWeave K) "is_open_thing" _ := c_Weave_is_open_thing W
  refine met_of W.cl_Weave W.d_Weave_ready sc_Weave_ready (fun vs H Q E h => ?_) (fun f cdv A outer s H vs Q E hr h => ?_)
  · obtain ⟨p, ns, told, made, ad, s, rfl, _⟩ := h
    rfl
  obtain ⟨p, ns, told, made, ad, sm, rfl, l, hsz, k⟩ := h
  have hu := hu_of hr
  refine ⟨_, (pss_cons (ps_set (i := 1) sc_Weave_ready.nd rfl (Or.inl rfl) (pe_lst pa_nil))
    (pss_cons (ps_lock (ps_for PassesOwn.never rfl (pi_items (pe_fld (pv 0) rfl)) (pg_tup rfl (pgs_cons (pg_name (i := 2) sc_Weave_ready.nd rfl (Or.inl rfl)) (pgs_cons (pg_name (i := 3) sc_Weave_ready.nd rfl (Or.inl rfl)) pgs_nil))) (pss_one (ps_if (PW.pt (pw_or (pt_cmpR op_isN (pe_fld (pv 3) rfl) pe_non (nomark _)) (pw_or1 (pt_not (pt_val (pe_mt c_Weave_is_open_thing hr (by omega) (pv 0) (pa_cons (pe_fld (pv 3) rfl) pa_nil))))))) (pss_one (ps_expr (pe_bm PySem.F.plainAttrs_list PySem.F.slot_list_append PySem.F.type_list_append mt_append (pv 1) (pa_cons (pv 2) pa_nil)))) pss_nil))))
    (pss_one (ps_ret (pe_callB cr_sortedS (by rfl) W.f_sorted bt_sorted (pa_cons (pv 1) pa_nil)))))), ?_⟩
  refine ⟨Nat.zero_le _, fun f hf => ?_⟩
  generalize hh : upd H f _ = H1
  have e1 : Ex H H1 := hh ▸ Ex.new hf
  have h1 : H1 f = some (.lst []) := by rw [← hh]; exact upd_same
  clear hh
  have l1 := l.ex e1
  have eal : ad.length = sm.tk.length := by
    have := congrArg List.length l.co.kk
    rw [ks_len, ks_len] at this
    exact this
  obtain ⟨n1, n2, n3, n4, n5, n6, n7, n8, n9, n10⟩ := l1.co.nd4
  obtain ⟨dx, hv⟩ := l1.hv
  have htk := l1.co.tk
  refine ⟨p.w.ka, _, htk, trivial, fun od => ?_⟩
  have tt : Tu H1 (upd H1 p.w.ka (.frz od (.dK (ad.map fun p => ((Sum.inr p.1 : Key), V.ref ((YV K made).ref p.2)))))) := Tu.mut htk
  have kp : ∀ x o, x ≠ p.w.ka → H1 x = some o → (upd H1 p.w.ka (.frz od (.dK (ad.map fun p => ((Sum.inr p.1 : Key), V.ref ((YV K made).ref p.2)))))) x = some o := fun x o ne h => by
    rw [upd_ne ne]
    exact h
  have hfz : (upd H1 p.w.ka (.frz od (.dK (ad.map fun p => ((Sum.inr p.1 : Key), V.ref ((YV K made).ref p.2)))))) p.w.ka = some (.frz od (.dK (ad.map fun p => ((Sum.inr p.1 : Key), V.ref ((YV K made).ref p.2))))) := upd_same
  generalize upd H1 p.w.ka (.frz od (.dK (ad.map fun p => ((Sum.inr p.1 : Key), V.ref ((YV K made).ref p.2))))) = H2 at tt kp hfz ⊢
  have nvk : p.wa ≠ p.w.ka := fun z => l1.dw (by rw [z]; exact mem_fpW.mpr (by simp))
  have ntk : p.ta ≠ p.w.ka := fun z => l1.dt (by rw [z]; exact mem_fpW.mpr (by simp))
  have nmk : p.ma ≠ p.w.ka := fun z => l1.dm (by rw [z]; exact mem_fpW.mpr (by simp))
  have nfk : f ≠ p.w.ka := fun z => by rw [z] at h1; rw [h1] at htk; cases htk
  have vb2 : VB K p ns told made sm.en H2 := ⟨⟨dx, kp _ _ nvk hv⟩, l1.bk.keep l1.bo (fun x hx o ho => kp x o (by rcases hx with rfl | rfl <;> assumption) ho) tt, l1.bo, l1.co.en.tu tt (fun o ho => kp _ _ n4 ho) fun q _ => immE' q.2⟩
  have hf2 : H2 f = some (.lst []) := kp _ _ nfk h1
  have hfz2 := hfz
  refine ⟨_, rfl, p.wa, _, dx, _, _, rfl, kp _ _ nvk hv, W.cl_Weave, W.n_Weave_open_tasks, wf_tasks, p.w.ka, od, _, rfl, hfz, for_it walk_items (fun i σ H' => Fr [f] H2 H' ∧ ∃ (y2 y3 : Option V), σ = [some (.ref p.wa), some (.ref f), y2, y3] ∧ H' f = some (.lst ((((ks sm.tk).take i).filter (readyN made sm)).map V.str)))
    ⟨Fr.refl _ _, _, _, rfl, hf2⟩ (fun i σ H' _ h => h.1.k _ _ hfz fun z => nfk (List.mem_singleton.mp z).symm) ?_ ?_⟩
  · rintro i x σ H3 H4 hi ⟨f3, y2, y3, rfl, h3⟩ ⟨T, kx, vx, rfl, hT, rfl, hk, hvv⟩
    have kp3 : ∀ a o, H2 a = some o → a ≠ f → H3 a = some o := fun a o h ne => f3.k a o h fun z => ne (List.mem_singleton.mp z)
    -- the i-th task
    rw [List.length_map] at hi
    have hai : ad[i]? = some ad[i] := List.getElem?_eq_getElem hi
    have hk : ((ad.map fun p => ((Sum.inr p.1 : Key), V.ref ((YV K made).ref p.2)))[i]?).map (fun kv => kV kv.1) = some kx := hk
    have hvv : ((ad.map fun p => ((Sum.inr p.1 : Key), V.ref ((YV K made).ref p.2)))[i]?).map Prod.snd = some vx := hvv
    rw [List.getElem?_map, hai] at hk hvv
    obtain rfl : V.str (ad[i]).1 = kx := Option.some.inj hk
    obtain rfl : V.ref ((YV K made).ref (ad[i]).2) = vx := Option.some.inj hvv
    have e4 : Ex H3 (upd H3 T (.tup [V.str (ad[i]).1, V.ref ((YV K made).ref (ad[i]).2)])) := Ex.new hT
    have h4 : (upd H3 T (.tup [V.str (ad[i]).1, V.ref ((YV K made).ref (ad[i]).2)])) T = some (.tup [V.str (ad[i]).1, V.ref ((YV K made).ref (ad[i]).2)]) := upd_same
    have el := mem_of_get l.co.kd hai
    have hki : (ks sm.tk)[i]? = some (ad[i]).1 := by
      rw [← l.co.kk]
      show (ad.map (·.1))[i]? = _
      rw [List.getElem?_map, hai]
      rfl
    generalize ad[i] = pr at el h4 e4 hki ⊢
    obtain ⟨n, a⟩ := pr
    show gTup _ _ _ _ _ (upd H3 T (.tup [V.str n, V.ref a.1])) _
    have h4 : (upd H3 T (.tup [V.str n, V.ref a.1])) T = some (.tup [V.str n, V.ref a.1]) := h4
    have e4 : Ex H3 (upd H3 T (.tup [V.str n, V.ref a.1])) := e4
    have hls : (lk sm.tk n).isSome = true := by rw [← lk_kk l.co, el]; rfl
    cases ht : lk sm.tk n with
    | none => rw [ht] at hls; cases hls
    | some t =>
      obtain ⟨r, _, tx1⟩ := l1.co.tr n a t el ht
      have afp : ∀ x ∈ fp3 a, x ∈ tfp (YV K made) ad := fun x hx => tfp_of el hx
      have tx3 : TkX K H3 n r a t none := tx1.fr (fun x hx o ho => kp3 x o (kp x o (fun z => n9 (by rw [← z]; exact afp x hx)) ho) fun z => by
        rw [z] at ho hx
        have := l.co.alloc f (mem_fpW.mpr (.inr (.inr (.inr (.inr (afp f hx))))))
        exact this hf) (tt.trans f3.t)
      have tx4 := tx3.up e4
      have vb4 : VB K p ns told made sm.en (upd H3 T (.tup [V.str n, V.ref a.1])) := by
        have nvf : p.wa ≠ f := fun z => by
          obtain ⟨_, hv0⟩ := l.hv
          rw [z] at hv0
          rw [hf] at hv0
          cases hv0
        have vb3 : VB K p ns told made sm.en H3 := by
          obtain ⟨dx2, hv2⟩ := vb2.hv
          obtain ⟨⟨o1, t1⟩, ⟨o2, t2⟩⟩ := l.bk.tne
          obtain ⟨_, ee, _⟩ := l.co.en
          refine ⟨⟨dx2, kp3 _ _ hv2 nvf⟩, vb2.bk.keep vb2.bo (fun x hx o ho => kp3 x o ho fun z => ?_) f3.t, vb2.bo, vb2.en.tu f3.t (fun o ho => kp3 _ _ ho fun z => ?_) fun q _ => immE' q.2⟩
          · rcases hx with rfl | rfl
            · rw [z, hf] at t1; cases t1
            · rw [z, hf] at t2; cases t2
          · rw [z, hf] at ee
            cases ee
        exact vb3.ex e4
      have etk : ((ks sm.tk).take (i + 1)).filter (readyN made sm) = ((ks sm.tk).take i).filter (readyN made sm) ++ (if readyM made sm.en t = true then [n] else []) := by
        rw [List.take_add_one, hki, List.filter_append]
        congr 1
        have er : readyN made sm n = readyM made sm.en t := by
          unfold readyN
          rw [ht]
        show List.filter _ [n] = _
        by_cases c : readyM made sm.en t = true
        · rw [if_pos c, List.filter_cons, if_pos (by rw [er]; exact c)]
          rfl
        · rw [if_neg c, List.filter_cons, if_neg (by rw [er]; exact c)]
          rfl
      have fl : (((ks sm.tk).take i).filter (readyN made sm)).length ≤ 60 := Nat.le_trans (List.length_filter_le _ _) (by rw [List.length_take, ks_len]; omega)
      have f4 : Fr [f] H2 (upd H3 T (.tup [V.str n, V.ref a.1])) := f3.up e4
      have h4f : (upd H3 T (.tup [V.str n, V.ref a.1])) f = some (.lst ((((ks sm.tk).take i).filter (readyN made sm)).map V.str)) := e4 _ _ h3
      obtain ⟨dx4, fs4, hi4, _, _, _, _, _, _, _, _, _, _, _, i10, _⟩ := tx4.ins
      generalize upd H3 T (.tup [V.str n, V.ref a.1]) = H4 at h4 e4 vb4 f4 h4f hi4 tx4 ⊢
      have app : ∀ H5, Ex H4 H5 → readyM made sm.en t = true → ∃ q, q = (Fr [f] H2 (upd H5 f (.lst ((((ks sm.tk).take i).filter (readyN made sm)).map V.str ++ [.str n]))) ∧ ∃ (y2 y3 : Option V), ([some (.ref p.wa), some (.ref f), some (.str n), some (.ref a.1)] : L2.St) = [some (.ref p.wa), some (.ref f), y2, y3] ∧ (upd H5 f (.lst ((((ks sm.tk).take i).filter (readyN made sm)).map V.str ++ [.str n]))) f = some (.lst ((((ks sm.tk).take (i + 1)).filter (readyN made sm)).map V.str))) ∧ q := fun H5 e5 c =>
        ⟨_, rfl, (f4.up e5).mutIn List.mem_cons_self (e5 _ _ h4f), _, _, rfl, by rw [upd_same, etk, if_pos c, List.map_append]; rfl⟩
      refine ⟨T, _, rfl, SqT.of h4, rfl, _, _, rfl, _, _, rfl, rfl, ?_⟩
      cases hz : t.wt with
      | none =>
        rw [hz] at i10
        have c : readyM made sm.en t = true := by
          unfold readyM
          rw [hz]
        refine ⟨_, rfl, a.1, _, dx4, fs4, _, rfl, hi4, W.cl_Task, W.n_Task_waits_for, i10, rfl, _, rfl, iteT ?_⟩
        refine ⟨_, rfl, .inl ⟨rfl, _, SqL.of h4f⟩, _, rfl, f, _, _, rfl, rfl, h4f, szlt (by rw [List.length_map]; omega), ?_⟩
        exact ⟨f4.mutIn List.mem_cons_self h4f, _, _, rfl, by rw [upd_same, etk, if_pos c, List.map_append]; rfl⟩
      | some z =>
        rw [hz] at i10
        have er := ready_openB (made := made) (en := sm.en) hz
        refine ⟨_, rfl, a.1, _, dx4, fs4, _, rfl, hi4, W.cl_Task, W.n_Task_waits_for, i10, rfl, _, rfl, iteF ?_⟩
        obtain ⟨dxv, hvv⟩ := vb4.hv
        refine ⟨_, rfl, p.wa, dxv, _, rfl, hvv, wf_m _ (by simp), _, rfl, a.1, _, dx4, fs4, _, rfl, hi4, W.cl_Task, W.n_Task_waits_for, i10, p, ns, told, made, sm.en, z, rfl, vb4, fun H5 e5 => ⟨_, rfl, ?_⟩⟩
        have h5f := e5 _ _ h4f
        refine iteNB (fun c => ?_) (fun c => ?_)
        · have c : readyM made sm.en t = true := by rw [er, c]; rfl
          refine ⟨_, rfl, .inl ⟨rfl, _, SqL.of h5f⟩, _, rfl, f, _, _, rfl, rfl, h5f, szlt (by rw [List.length_map]; omega), ?_⟩
          exact ⟨(f4.up e5).mutIn List.mem_cons_self h5f, _, _, rfl, by rw [upd_same, etk, if_pos c, List.map_append]; rfl⟩
        · have c : readyM made sm.en t = false := by rw [er, c]; rfl
          exact ⟨f4.up e5, _, _, rfl, by rw [h5f, etk, if_neg (by rw [c]; exact Bool.false_ne_true), List.append_nil]⟩
  · rintro σ H3 ⟨f3, y2, y3, rfl, h3⟩
    have h3k : H3 p.w.ka = some (.frz od (.dK (ad.map fun p => ((Sum.inr p.1 : Key), V.ref ((YV K made).ref p.2))))) := f3.k _ _ hfz fun z => nfk (List.mem_singleton.mp z).symm
    refine ⟨h3k, ?_⟩
    have ex : Ex H (upd H3 p.w.ka (.dK (ad.map fun p => ((Sum.inr p.1 : Key), V.ref ((YV K made).ref p.2))))) := fun x o ho => by
      by_cases c : x = p.w.ka
      · subst c
        rw [upd_same]
        rw [l.co.tk] at ho
        exact ho
      · rw [upd_ne c]
        exact f3.k _ _ (kp _ _ c (e1 _ _ ho)) fun z => by
          rw [List.mem_singleton.mp z, hf] at ho
          cases ho
    have h3f : (upd H3 p.w.ka (.dK (ad.map fun p => ((Sum.inr p.1 : Key), V.ref ((YV K made).ref p.2))))) f = some (.lst ((((ks sm.tk).take (ad.map fun p => ((Sum.inr p.1 : Key), V.ref ((YV K made).ref p.2))).length).filter (readyN made sm)).map V.str)) := by
      rw [upd_ne nfk]
      exact h3
    generalize upd H3 p.w.ka (.dK (ad.map fun p => ((Sum.inr p.1 : Key), V.ref ((YV K made).ref p.2)))) = H4 at ex h3f ⊢
    rw [List.length_map, eal, ← ks_len (l := sm.tk), List.take_length] at h3f
    refine ⟨_, rfl, f, _, rfl, SqL.of h3f, ?_, fun ys q hperm hsort hq => ?_⟩
    · have := List.length_filter_le (readyN made sm) (ks sm.tk)
      rw [ks_len] at this
      omega
    · have ey := able_eq hperm hsort
      subst ey
      exact k q _ (ex.trans (Ex.new hq)) (Ex.back ex hq) upd_same
end
end Wk
namespace Wk
open PySem PySem.Spec PyProof.Rows L2 SX
def freshE (r : Rc) : Option Hd → Tk
  | some h => if h.1 = showR r then ⟨true, h.2, [], [], none, false⟩ else ⟨false, noLine, [], [], none, false⟩
  | none => ⟨false, noLine, [], [], none, false⟩
theorem freshM_E {made : As Rc} {ly : As Hd} {n : Str} {r : Rc} (h : lk made n = some r) : freshM made ly n = freshE r (lk ly n) := by
  unfold freshM
  rw [h]
  cases lk ly n <;> rfl
def eldV (K : PySem.W.Frag) (H : Hp) (v : V) : Option Hd → Prop
  | none => v = .non
  | some h => Dp K H v (encHd h)
def spInit (K : PySem.W.Frag) : Sp := fun vs H Q _ => ∃ (x dx : Addr) (n : Str) (rc ev : V) (r : Rc) (e : Option Hd), vs = [.ref x, .str n, rc, ev, .non] ∧ H x = some (.ins (aTask K) dx []) ∧ Dp K H rc (encR r) ∧ okR r = true ∧ eldV K H ev e ∧
  ∀ r1 p1 H', Fr [x] H H' → H r1 = none → H p1 = none → (fp3 (x, r1, p1)).Nodup → TkX K H' n r (x, r1, p1) (freshE r e) none → Q .non H'
section
variable {P : Program} {w : World} {K : PySem.W.Frag} {mg : Str → Option Value} {base : Heap}
theorem k_Task (W : Wld K mg) : Mak P w K mg base 21 (aTask K) (spInit K) := by
  have c_show_recipe : Cal P w K mg base 20 "show_recipe" _ := c_show_recipe W
  refine mak_of W.d_Task_init sc_Task_init (fun vs H Q E h => ?_) (fun f cdv A outer s H vs Q E hr h => ?_)
  · obtain ⟨x, dx, n, rc, ev, r, e, rfl, _⟩ := h
    rfl
  obtain ⟨x, dx, n, rc, ev, r, e, rfl, hiH, hrc, okr, hev, k⟩ := h
  refine ⟨_, (pss_cons (ps_fld (pv 0) (pv 1) rfl)
    (pss_cons (ps_fld (pv 0) (pv 2) rfl)
    (pss_cons (ps_fld (pv 0) (pe_cl c_show_recipe hr (by omega) (by rfl) (pa_cons (pv 2) pa_nil)) rfl)
    (pss_cons (ps_fld (pv 0) (pv 4) rfl)
    (pss_cons (ps_fld (pv 0) pe_non rfl)
    (pss_cons (ps_fld (pv 0) pe_str rfl)
    (C8.pss_cut (ps_if (PW.pt (pw_and (pt_cmpR op_notN (pv 3) pe_non (nomark _)) (pw_and1 (pt_cmpR op_eq (pe_ix ix_T (pv 3) pe_int (fun _ _ => rfl)) (pe_fld (pv 0) rfl) (nomark _))))) (pss_cons (ps_fld (pv 0) (pe_ix ix_T (pv 3) pe_int (fun _ _ => rfl)) rfl)
    (pss_one (ps_fld (pv 0) pe_str rfl))) pss_nil)
    (pss_cons (ps_fld (pv 0) (pe_lst pa_nil) rfl)
    (pss_cons (ps_fld (pv 0) (pe_lst pa_nil) rfl)
    (pss_cons (ps_fld (pv 0) pe_bl rfl)
    (pss_cons (ps_fld (pv 0) pe_non rfl)
    (pss_one (ps_fld (pv 0) pe_non rfl))))))))))))), ?_⟩
  have fH : Fr [x] H H := Fr.refl _ _
  have lz : ∀ {fs : List (Str × V)}, fs.length ≤ 11 → fs.length < 1000 := fun h => by omega
  obtain ⟨s1, s2, s3, s4⟩ := okR_show okr
  refine ⟨_, rfl, _, rfl, x, _, dx, [], rfl, hiH, W.cl_Task, W.n_Task_task_name, lz (by decide), ?_⟩
  generalize hh : upd H x _ = G1
  have f1 : Fr [x] H G1 := by rw [← hh]; exact fH.mutIn List.mem_cons_self hiH
  have hiG1 : G1 x = some (.ins (aTask K) dx [("task_name", .str n)]) := by rw [← hh]; exact upd_same
  have tuG1 : Tu H G1 := by rw [← hh]; exact Tu.mut hiH
  have frG1 : Fr [x] H G1 := by rw [← hh]; exact Fr.mut hiH
  clear hh
  refine ⟨_, rfl, _, rfl, x, _, dx, _, rfl, hiG1, W.cl_Task, W.n_Task_task_recipe, lz (show 1 ≤ 11 by decide), ?_⟩
  generalize hh : upd G1 x _ = G2
  have f2 : Fr [x] H G2 := by rw [← hh]; exact f1.mutIn List.mem_cons_self hiG1
  have hiG2 : G2 x = some (.ins (aTask K) dx [("task_name", .str n), ("task_recipe", rc)]) := by rw [← hh]; exact upd_same
  have tuG2 : Tu G1 G2 := by rw [← hh]; exact Tu.mut hiG1
  have frG2 : Fr [x] G1 G2 := by rw [← hh]; exact Fr.mut hiG1
  clear hh
  have hrc2 := Dp.tu f2.t _ _ (immR s1) hrc
  refine ⟨_, rfl, rc, r, rfl, hrc2, s1, s2, s3, s4, fun G3 e3 => ?_⟩
  have f3 : Fr [x] H G3 := f2.up e3
  have hiG3 := e3 _ _ hiG2
  refine ⟨_, rfl, x, _, dx, _, rfl, hiG3, W.cl_Task, W.n_Task_task_text, lz (show 2 ≤ 11 by decide), ?_⟩
  generalize hh : upd G3 x _ = G4
  have f4 : Fr [x] H G4 := by rw [← hh]; exact f3.mutIn List.mem_cons_self hiG3
  have hiG4 : G4 x = some (.ins (aTask K) dx [("task_name", .str n), ("task_recipe", rc), ("task_text", .str (showR r))]) := by rw [← hh]; exact upd_same
  have tuG4 : Tu G3 G4 := by rw [← hh]; exact Tu.mut hiG3
  have frG4 : Fr [x] G3 G4 := by rw [← hh]; exact Fr.mut hiG3
  clear hh
  refine ⟨_, rfl, _, rfl, x, _, dx, _, rfl, hiG4, W.cl_Task, W.n_Task_task_shelf, lz (show 3 ≤ 11 by decide), ?_⟩
  generalize hh : upd G4 x _ = G5
  have f5 : Fr [x] H G5 := by rw [← hh]; exact f4.mutIn List.mem_cons_self hiG4
  have hiG5 : G5 x = some (.ins (aTask K) dx [("task_name", .str n), ("task_recipe", rc), ("task_text", .str (showR r)), ("task_shelf", .non)]) := by rw [← hh]; exact upd_same
  have tuG5 : Tu G4 G5 := by rw [← hh]; exact Tu.mut hiG4
  have frG5 : Fr [x] G4 G5 := by rw [← hh]; exact Fr.mut hiG4
  clear hh
  refine ⟨_, rfl, x, _, dx, _, rfl, hiG5, W.cl_Task, W.n_Task_elder_line, lz (show 4 ≤ 11 by decide), ?_⟩
  generalize hh : upd G5 x _ = G6
  have f6 : Fr [x] H G6 := by rw [← hh]; exact f5.mutIn List.mem_cons_self hiG5
  have hiG6 : G6 x = some (.ins (aTask K) dx [("task_name", .str n), ("task_recipe", rc), ("task_text", .str (showR r)), ("task_shelf", .non), ("elder_line", .non)]) := by rw [← hh]; exact upd_same
  have tuG6 : Tu G5 G6 := by rw [← hh]; exact Tu.mut hiG5
  have frG6 : Fr [x] G5 G6 := by rw [← hh]; exact Fr.mut hiG5
  clear hh
  refine ⟨_, rfl, x, _, dx, _, rfl, hiG6, W.cl_Task, W.n_Task_task_stage, lz (show 5 ≤ 11 by decide), ?_⟩
  generalize hh : upd G6 x _ = G7
  have f7 : Fr [x] H G7 := by rw [← hh]; exact f6.mutIn List.mem_cons_self hiG6
  have hiG7 : G7 x = some (.ins (aTask K) dx [("task_name", .str n), ("task_recipe", rc), ("task_text", .str (showR r)), ("task_shelf", .non), ("elder_line", .non), ("task_stage", .str "ask")]) := by rw [← hh]; exact upd_same
  have tuG7 : Tu G6 G7 := by rw [← hh]; exact Tu.mut hiG6
  have frG7 : Fr [x] G6 G7 := by rw [← hh]; exact Fr.mut hiG6
  clear hh
  refine ⟨fun σ' H' => σ' = [some (.ref x), some (.str n), some rc, some ev, some .non] ∧ Fr [x] H H' ∧ ∃ (el : V) (st : Str), H' x = some (.ins (aTask K) dx [("task_name", .str n), ("task_recipe", rc), ("task_text", .str (showR r)), ("task_shelf", .non), ("elder_line", el), ("task_stage", .str st)]) ∧ stOk (freshE r e).look st ∧ ((freshE r e).look = true → Dp K H' el (encLn (freshE r e).ln)), ?_, ?_⟩
  · cases e with
    | none =>
      obtain rfl : ev = .non := hev
      exact ⟨_, rfl, rfl, _, rfl, iteF ⟨rfl, f7, .non, "ask", hiG7, .inr ⟨rfl, .inl rfl⟩, fun h => by cases h⟩⟩
    | some h =>
      have hev7 : Dp K G7 ev (encHd h) := Dp.tu f7.t _ _ (immHd h) hev
      have hev8 := hev7
      obtain ⟨xa, xs, rfl, _, _⟩ := dp_tup hev8
      refine ⟨_, rfl, rfl, _, rfl, iteT ⟨_, rfl, _, _, _, rfl, hev7, atI_nat (j := 0) rfl, fun v0 hv0 => ?_⟩⟩
      obtain rfl := dp_str hv0
      refine ⟨_, rfl, x, _, dx, _, _, rfl, hiG7, W.cl_Task, W.n_Task_task_text, rfl, rfl, _, rfl, ?_⟩
      rw [vstr_eq]
      refine iteD (fun c => ?_) (fun c => ?_)
      · have ef : freshE r (some h) = ⟨true, h.2, [], [], none, false⟩ := if_pos c
        rw [ef]
        refine ⟨_, rfl, _, _, _, rfl, hev7, atI_nat (j := 1) rfl, fun v1 hv1 => ?_⟩
        refine ⟨_, rfl, x, _, dx, _, rfl, hiG7, W.cl_Task, W.n_Task_elder_line, lz (show 6 ≤ 11 by decide), ?_⟩
        generalize hh : upd G7 x _ = G8
        have f8 : Fr [x] H G8 := by rw [← hh]; exact f7.mutIn List.mem_cons_self hiG7
        have hiG8 : G8 x = some (.ins (aTask K) dx [("task_name", .str n), ("task_recipe", rc), ("task_text", .str (showR r)), ("task_shelf", .non), ("elder_line", v1), ("task_stage", .str "ask")]) := by rw [← hh]; exact upd_same
        have tuG8 : Tu G7 G8 := by rw [← hh]; exact Tu.mut hiG7
        have frG8 : Fr [x] G7 G8 := by rw [← hh]; exact Fr.mut hiG7
        clear hh
        refine ⟨_, rfl, x, _, dx, _, rfl, hiG8, W.cl_Task, W.n_Task_task_stage, lz (show 6 ≤ 11 by decide), ?_⟩
        generalize hh : upd G8 x _ = G9
        have f9 : Fr [x] H G9 := by rw [← hh]; exact f8.mutIn List.mem_cons_self hiG8
        have hiG9 : G9 x = some (.ins (aTask K) dx [("task_name", .str n), ("task_recipe", rc), ("task_text", .str (showR r)), ("task_shelf", .non), ("elder_line", v1), ("task_stage", .str "look")]) := by rw [← hh]; exact upd_same
        have tuG9 : Tu G8 G9 := by rw [← hh]; exact Tu.mut hiG8
        have frG9 : Fr [x] G8 G9 := by rw [← hh]; exact Fr.mut hiG8
        clear hh
        exact ⟨rfl, f9, v1, "look", hiG9, .inl ⟨rfl, rfl⟩, fun _ => Dp.tu (tuG8.trans tuG9) _ _ (immLn _) hv1⟩
      · have ef : freshE r (some h) = ⟨false, noLine, [], [], none, false⟩ := if_neg c
        rw [ef]
        exact ⟨rfl, f7, .non, "ask", hiG7, .inr ⟨rfl, .inl rfl⟩, fun h => by cases h⟩
  rintro _ G10 ⟨rfl, f10, el, st, hiG10, hst, hel⟩
  have back : ∀ {p : Addr} {G : Hp}, Fr [x] H G → G x ≠ none → G p = none → H p = none := fun {p G} f g h => f.fresh h fun a ha _ => by rw [List.mem_singleton.mp ha]; exact g
  refine ⟨Nat.zero_le _, fun r1 hr1 => ?_⟩
  have hr1H := back f10 (by rw [hiG10]; exact fun z => by cases z) hr1
  generalize hh : upd G10 r1 _ = G11
  have e11 : Ex G10 G11 := hh ▸ Ex.new hr1
  have h11 : G11 r1 = some (.lst []) := by rw [← hh]; exact upd_same
  clear hh
  have f11 := f10.up e11
  have hiG11 := e11 _ _ hiG10
  refine ⟨_, rfl, x, _, dx, _, rfl, hiG11, W.cl_Task, W.n_Task_got_reads, lz (show 6 ≤ 11 by decide), ?_⟩
  have nxr : r1 ≠ x := fun z => by rw [z, hiG10] at hr1; cases hr1
  have hb : (upd G11 x (.ins (aTask K) dx [("task_name", .str n), ("task_recipe", rc), ("task_text", .str (showR r)), ("task_shelf", .non), ("elder_line", el), ("task_stage", .str st), ("got_reads", .ref r1)])) r1 = some (.lst []) := by rw [upd_ne nxr]; exact h11
  generalize hh : upd G11 x _ = G12
  have f12 : Fr [x] H G12 := by rw [← hh]; exact f11.mutIn List.mem_cons_self hiG11
  have hiG12 : G12 x = some (.ins (aTask K) dx [("task_name", .str n), ("task_recipe", rc), ("task_text", .str (showR r)), ("task_shelf", .non), ("elder_line", el), ("task_stage", .str st), ("got_reads", .ref r1)]) := by rw [← hh]; exact upd_same
  have tuG12 : Tu G11 G12 := by rw [← hh]; exact Tu.mut hiG11
  have h12 : G12 r1 = some (.lst []) := by rw [← hh]; exact hb
  clear hh hb
  refine ⟨Nat.zero_le _, fun p1 hp1 => ?_⟩
  have hp1H := back f12 (by rw [hiG12]; exact fun z => by cases z) hp1
  have npr : p1 ≠ r1 := fun z => by rw [z, h12] at hp1; cases hp1
  have npx : p1 ≠ x := fun z => by rw [z, hiG12] at hp1; cases hp1
  generalize hh : upd G12 p1 _ = G13
  have e13 : Ex G12 G13 := hh ▸ Ex.new hp1
  have h13 : G13 p1 = some (.lst []) := by rw [← hh]; exact upd_same
  clear hh
  have f13 := f12.up e13
  have hiG13 := e13 _ _ hiG12
  have h13r := e13 _ _ h12
  refine ⟨_, rfl, x, _, dx, _, rfl, hiG13, W.cl_Task, W.n_Task_got_peeks, lz (show 7 ≤ 11 by decide), ?_⟩
  generalize hh : upd G13 x _ = G14
  have f14 : Fr [x] H G14 := by rw [← hh]; exact f13.mutIn List.mem_cons_self hiG13
  have hiG14 : G14 x = some (.ins (aTask K) dx [("task_name", .str n), ("task_recipe", rc), ("task_text", .str (showR r)), ("task_shelf", .non), ("elder_line", el), ("task_stage", .str st), ("got_reads", .ref r1), ("got_peeks", .ref p1)]) := by rw [← hh]; exact upd_same
  have tuG14 : Tu G13 G14 := by rw [← hh]; exact Tu.mut hiG13
  have frG14 : Fr [x] G13 G14 := by rw [← hh]; exact Fr.mut hiG13
  clear hh
  refine ⟨_, rfl, x, _, dx, _, rfl, hiG14, W.cl_Task, W.n_Task_is_peeking, lz (show 8 ≤ 11 by decide), ?_⟩
  generalize hh : upd G14 x _ = G15
  have f15 : Fr [x] H G15 := by rw [← hh]; exact f14.mutIn List.mem_cons_self hiG14
  have hiG15 : G15 x = some (.ins (aTask K) dx [("task_name", .str n), ("task_recipe", rc), ("task_text", .str (showR r)), ("task_shelf", .non), ("elder_line", el), ("task_stage", .str st), ("got_reads", .ref r1), ("got_peeks", .ref p1), ("is_peeking", .bl false)]) := by rw [← hh]; exact upd_same
  have tuG15 : Tu G14 G15 := by rw [← hh]; exact Tu.mut hiG14
  have frG15 : Fr [x] G14 G15 := by rw [← hh]; exact Fr.mut hiG14
  clear hh
  refine ⟨_, rfl, x, _, dx, _, rfl, hiG15, W.cl_Task, W.n_Task_waits_for, lz (show 9 ≤ 11 by decide), ?_⟩
  generalize hh : upd G15 x _ = G16
  have f16 : Fr [x] H G16 := by rw [← hh]; exact f15.mutIn List.mem_cons_self hiG15
  have hiG16 : G16 x = some (.ins (aTask K) dx [("task_name", .str n), ("task_recipe", rc), ("task_text", .str (showR r)), ("task_shelf", .non), ("elder_line", el), ("task_stage", .str st), ("got_reads", .ref r1), ("got_peeks", .ref p1), ("is_peeking", .bl false), ("waits_for", .non)]) := by rw [← hh]; exact upd_same
  have tuG16 : Tu G15 G16 := by rw [← hh]; exact Tu.mut hiG15
  have frG16 : Fr [x] G15 G16 := by rw [← hh]; exact Fr.mut hiG15
  clear hh
  refine ⟨_, rfl, x, _, dx, _, rfl, hiG16, W.cl_Task, W.n_Task_closing, lz (show 10 ≤ 11 by decide), ?_⟩
  generalize hh : upd G16 x _ = G17
  have f17 : Fr [x] H G17 := by rw [← hh]; exact f16.mutIn List.mem_cons_self hiG16
  have hiG17 : G17 x = some (.ins (aTask K) dx (tkF n rc (showR r) el st r1 p1 false .non .non)) := by rw [← hh]; exact upd_same
  have tuG17 : Tu G16 G17 := by rw [← hh]; exact Tu.mut hiG16
  have frG17 : Fr [x] G16 G17 := by rw [← hh]; exact Fr.mut hiG16
  clear hh
  have f1317 : Fr [x] G13 G17 := frG14.tr (frG15.tr (frG16.tr frG17))
  have h17r := f1317.k _ _ h13r fun z => nxr (List.mem_singleton.mp z)
  have h17p := f1317.k _ _ h13 fun z => npx (List.mem_singleton.mp z)
  have t1017 : Tu G10 G17 := (Same.tu e11).trans (tuG12.trans ((Same.tu e13).trans f1317.t))
  have nd : (fp3 (x, r1, p1)).Nodup := by
    have n1 : x ≠ r1 := fun z => nxr z.symm
    have n2 : x ≠ p1 := fun z => npx z.symm
    have n3 : r1 ≠ p1 := fun z => npr z.symm
    show [x, r1, p1].Nodup
    simp [n1, n2, n3]
  have fe : (freshE r e).rd = [] ∧ (freshE r e).pk = [] ∧ (freshE r e).wt = none ∧ (freshE r e).py = false := by
    cases e with
    | none => exact ⟨rfl, rfl, rfl, rfl⟩
    | some h =>
      by_cases c : h.1 = showR r
      · rw [show freshE r (some h) = ⟨true, h.2, [], [], none, false⟩ from if_pos c]
        exact ⟨rfl, rfl, rfl, rfl⟩
      · rw [show freshE r (some h) = ⟨false, noLine, [], [], none, false⟩ from if_neg c]
        exact ⟨rfl, rfl, rfl, rfl⟩
  refine k r1 p1 G17 f17 hr1H hp1H nd ⟨⟨dx, rc, el, .non, st, [], [], ?_, Dp.tu f17.t _ _ (immR s1) hrc, hst, h17r, ?_, h17p, ?_, fun z => Dp.tu t1017 _ _ (immLn _) (hel z), rfl⟩, okr, ?_⟩
  · rw [fe.2.2.1, fe.2.2.2]
    exact hiG17
  · rw [fe.1]
    exact .nil
  · rw [fe.2.1]
    exact .nil
  · rw [fe.2.1]
    exact fun q h => (by cases h)
end
end Wk
namespace Wk
open PySem PySem.Spec PyProof.Rows L2 SX
/-- a task that is to be closed, as it stands in the table -/
def clT (w : Str) (l : Line) : Tk := ⟨true, l, [], [("", .none)], some w, true⟩
theorem clT_no {r : Rc} {t : Tk} (ok : okR r = true) (o : OkTk r t) (w : Str) (l : Line) : t ≠ clT w l := fun e => by
  subst e
  have := (o.ln rfl).2.2.2
  cases this
theorem TkX.al {K : PySem.W.Frag} {H : Hp} {n : Str} {r : Rc} {a : A3} {t : Tk} {cl : Option (Str × Line)} (tx : TkX K H n r a t cl) : ∀ x ∈ fp3 a, H x ≠ none := fun x hx z => by
  obtain ⟨dx', fs', hi', _⟩ := tx.ins
  obtain ⟨rv, hrv, _⟩ := tx.reads
  obtain ⟨pv, hpv, _⟩ := tx.peeks
  rcases List.mem_cons.mp hx with rfl | hx
  · rw [hi'] at z; cases z
  rcases List.mem_cons.mp hx with rfl | hx
  · rw [hrv] at z; cases z
  rcases List.mem_cons.mp hx with rfl | hx
  · rw [hpv] at z; cases z
  · cases hx
def YK (K : PySem.W.Frag) (made : As Rc) : Lay where
  A := A3
  ref a := a.1
  fp a := fp3 a
  tr H n a t := ∃ r, lk made n = some r ∧ (TkX K H n r a t none ∨ ∃ w l t', t = clT w l ∧ TkX K H n r a t' (some (w, l)))
  fr h k t := by
    obtain ⟨r, h1, h2⟩ := h
    refine ⟨r, h1, ?_⟩
    rcases h2 with h2 | ⟨w, l, t', e, h2⟩
    · exact .inl (h2.fr k t)
    · exact .inr ⟨w, l, t', e, h2.fr k t⟩
  al h x hx := by
    obtain ⟨r, h1, h2⟩ := h
    rcases h2 with h2 | ⟨w, l, t', e, h2⟩
    · exact h2.al x hx
    · exact h2.al x hx
structure VK (K : PySem.W.Frag) (p : Pl) (ns : List Str) (told : As PyData) (made : As Rc) (ad : As (YK K made).A) (H : Hp) (s : Sm) : Prop where
  hv : ∃ dx, H p.wa = some (.ins (aWeave K) dx (wvF p.ba p.w.la p.w.ka p.w.ea p.w.ra))
  bk : Bk K H p.ba p.ta p.ma told made
  bo : BkOk ns told made
  co : Core K (YK K made) p.w ad H s
  dw : p.wa ∉ fpW (YK K made) p.w ad
  dt : p.ta ∉ fpW (YK K made) p.w ad
  dm : p.ma ∉ fpW (YK K made) p.w ad
section
variable {K : PySem.W.Frag} {p : Pl} {ns : List Str} {told : As PyData} {made : As Rc} {ad ad' : As (YK K made).A} {H H' : Hp} {s s' : Sm}
theorem VK.step (l : VK K p ns told made ad H s) (a : Stp (fpW (YK K made) p.w ad) (fpW (YK K made) p.w ad') H H') (c : Core K (YK K made) p.w ad' H' s') : VK K p ns told made ad' H' s' := by
  obtain ⟨⟨o1, h1⟩, ⟨o2, h2⟩⟩ := l.bk.tne
  obtain ⟨dx, hv⟩ := l.hv
  refine ⟨⟨dx, a.keep hv l.dw⟩, l.bk.keep l.bo (fun x hx o ho => ?_) a.f.t, l.bo, c, a.out hv l.dw, a.out h1 l.dt, a.out h2 l.dm⟩
  rcases hx with rfl | rfl
  · exact a.keep ho l.dt
  · exact a.keep ho l.dm
theorem VK.ex (l : VK K p ns told made ad H s) (e : Ex H H') : VK K p ns told made ad H' s := l.step (.ex e) (l.co.ex e)
theorem VW.toK {ad : As (YV K made).A} (l : VW K p ns told made ad H s) : VK K p ns told made ad H s :=
  ⟨l.hv, l.bk, l.bo, ⟨l.co.ly, l.co.en, l.co.tk, l.co.kk, fun n a t h1 h2 => by
    obtain ⟨r, q1, q2⟩ := l.co.tr n a t h1 h2
    exact ⟨r, q1, .inl q2⟩, l.co.rw, l.co.nd, l.co.kd⟩, l.dw, l.dt, l.dm⟩
theorem VK.toV (l : VK K p ns told made ad H s) (h : ∀ n t, lk s.tk n = some t → ∀ w l, t ≠ clT w l) : VW K p ns told made ad H s :=
  ⟨l.hv, l.bk, l.bo, ⟨l.co.ly, l.co.en, l.co.tk, l.co.kk, fun n a t h1 h2 => by
    obtain ⟨r, q1, q2⟩ := l.co.tr n a t h1 h2
    rcases q2 with q2 | ⟨w', l', t', e, q2⟩
    · exact ⟨r, q1, q2⟩
    · exact absurd e (h n t h2 w' l'), l.co.rw, l.co.nd, l.co.kd⟩, l.dw, l.dt, l.dm⟩
theorem VK.vb (l : VK K p ns told made ad H s) : VB K p ns told made s.en H := ⟨l.hv, l.bk, l.bo, l.co.en⟩
end
def spOpenT (K : PySem.W.Frag) : Sp := fun vs H Q _ => ∃ (p : Pl) (ns : List Str) (told : As PyData) (made : As Rc) (ad : As (YV K made).A) (s : Sm) (n : Str), vs = [.ref p.wa, .str n] ∧ VW K p ns told made ad H s ∧ s.tk.length ≤ 1000 ∧
  ∀ (ad' : As (YV K made).A) H', Stp (fpW (YV K made) p.w ad) (fpW (YV K made) p.w ad') H H' → VW K p ns told made ad' H' (opensM made n s) → Q .non H'
def spSettle (K : PySem.W.Frag) : Sp := fun vs H Q _ => ∃ (p : Pl) (ns : List Str) (told : As PyData) (made : As Rc) (ad : As (YK K made).A) (s : Sm) (n w : Str) (ln : Line), vs = [.ref p.wa, .str n] ∧ VK K p ns told made ad H s ∧ Szs s ∧ lk s.tk n = some (clT w ln) ∧
  ∀ (ad' : As (YK K made).A) H', Stp (fpW (YK K made) p.w ad) (fpW (YK K made) p.w ad') H H' → VK K p ns told made ad' H' (closesM made n w ln s) → Q .non H'
section
variable {P : Program} {w : World} {K : PySem.W.Frag} {mg : Str → Option Value} {base : Heap}
theorem c_Weave_open_task (W : Wld K mg) : Met P w K mg base 23 (aWeave K) "open_task" (spOpenT K) := by
  have c_Weave_is_open_thing : Met P w K mg base 2 (aWeave K) "is_open_thing" _ := c_Weave_is_open_thing W
  have k_Task : Mak P w K mg base 21 (aTask K) _ := k_Task W
  refine met_of W.cl_Weave W.d_Weave_open_task sc_Weave_open_task (fun vs H Q E h => ?_) (fun f cdv A outer s H vs Q E hr h => ?_)
  · obtain ⟨p, ns, told, made, ad, s, n, rfl, _⟩ := h
    rfl
  obtain ⟨p, ns, told, made, ad, sm, n, rfl, l, hsz, k⟩ := h
  have hu := hu_of hr
  refine ⟨_, (pss_one (ps_if (PW.pt (pw_and (pt_val (pe_mt c_Weave_is_open_thing hr (by omega) (pv 0) (pa_cons (pv 1) pa_nil))) (pw_and1 (pt_cmp (pc_dnotin hu (pv 1) (pe_fld (pv 0) rfl)) (by rfl))))) (pss_cons (ps_set (i := 2) sc_Weave_open_task.nd rfl (Or.inl rfl) (pe_dget hu (pe_ix ix_tup (pe_fld (pv 0) rfl) pe_int (fun _ _ => rfl)) (pv 1) (fun _ _ => rfl)))
    (pss_one (ps_dput hu (pe_fld (pv 0) rfl) (pv 1) (pe_mk k_Task hr (by omega) (by rfl) W.gc_Task (pa_cons (pv 1) (pa_cons (pv 2) (pa_cons (pe_dget1 hu (pe_fld (pv 0) rfl) (pv 1) ⟨rfl, rfl, rfl, rfl⟩) (pa_cons pe_non pa_nil))))) rfl))) pss_nil)), ?_⟩
  obtain ⟨dx, hv⟩ := l.hv
  refine ⟨_, rfl, p.wa, dx, _, rfl, hv, wf_m _ (by simp), _, rfl, p, ns, told, made, sm.en, n, rfl, l.vb, fun H1 e1 => ⟨_, rfl, ?_⟩⟩
  have l1 := l.ex e1
  have same : (n ∉ ks made ∨ n ∈ ks sm.en ∨ n ∈ ks sm.tk) → Q .non H1 := fun c => by
    have k := k ad H1 (Stp.ex e1)
    unfold opensM at k
    rw [if_pos c] at k
    exact k l1
  refine iteB (fun c => ?_) (fun c => same ?_)
  case refine_2 =>
    unfold openB at c
    by_cases c1 : n ∈ ks made
    · by_cases c2 : n ∈ ks sm.en
      · exact .inr (.inl c2)
      · rw [decide_eq_true c1, decide_eq_false c2] at c
        cases c
    · exact .inl c1
  have c1 : n ∈ ks made := by
    unfold openB at c
    rw [Bool.and_eq_true] at c
    exact of_decide_eq_true c.1
  have c2 : n ∉ ks sm.en := by
    unfold openB at c
    rw [Bool.and_eq_true] at c
    have := c.2
    simpa using this
  obtain ⟨dx1, hv1⟩ := l1.hv
  refine ⟨_, rfl, _, rfl, p.wa, _, dx1, _, _, rfl, hv1, W.cl_Weave, W.n_Weave_open_tasks, wf_tasks, p.w.ka, _, rfl, l1.co.has, _, rfl, ?_⟩
  cases q4 : lk ad n with
  | some a => exact iteF (same (.inr (.inr (lk_ks.mp (by rw [← lk_kk l.co, q4]; rfl)))))
  | none =>
    have nt : n ∉ ks sm.tk := lk_none.mp (by
      have := lk_kk (n := n) l.co
      rw [q4] at this
      cases q : lk sm.tk n with
      | none => rfl
      | some x => rw [q] at this; cases this)
    have na : n ∉ ks ad := lk_none.mp q4
    have neg : ¬ (n ∉ ks made ∨ n ∈ ks sm.en ∨ n ∈ ks sm.tk) := fun c => by
      rcases c with c | c | c
      · exact c c1
      · exact c2 c
      · exact nt c
    unfold opensM at k
    rw [if_neg neg] at k
    obtain ⟨r, hm⟩ := made_lk c1
    obtain ⟨om, m1, m2, m3⟩ := l1.bk.m.has n
    rcases m3 with ⟨q1, _⟩ | ⟨rv, r', rfl, q1, q2⟩
    · rw [hm] at q1
      cases q1
    rw [hm] at q1
    cases q1
    refine iteT ⟨_, rfl, p.wa, _, dx1, _, _, rfl, hv1, W.cl_Weave, W.n_Weave_weave_book, wf_book, p.ba, _, _, _, rfl, rfl, SqT.of l1.bk.p, atI_nat (j := 1) rfl, _, rfl, p.ma, rv, rfl, m1, ?_⟩
    obtain ⟨ol, g1, g2, g3⟩ := l1.co.ly.has n
    refine ⟨_, rfl, _, rfl, _, rfl, p.wa, _, dx1, _, _, rfl, hv1, W.cl_Weave, W.n_Weave_weave_held, wf_held, p.w.la, rfl, l1.co.ly.isd, _, rfl, ol, g1, fun x dxx hx hdx hne => ?_⟩
    have x2 : Ex H1 (upd (upd H1 dxx (.own x)) x (.ins (aTask K) dxx [])) := Ex.mut (Ex.new hdx) hx
    have hx2 : (upd (upd H1 dxx (.own x)) x (.ins (aTask K) dxx [])) x = some (.ins (aTask K) dxx []) := upd_same
    generalize upd (upd H1 dxx (.own x)) x (.ins (aTask K) dxx []) = H2 at x2 hx2 ⊢
    refine ⟨x, dxx, n, rv, ol.getD .non, r, lk sm.ly n, rfl, hx2, q2.up x2, made_ok l.bo hm, ?_, fun r1 p1 H3 f3 hr1 hp1 nd tx => ⟨rfl, ?_⟩⟩
    · rcases g3 with ⟨q5, rfl⟩ | ⟨hv', hh, rfl, q5, q6⟩
      · rw [q5]
        exact rfl
      · rw [q5]
        exact q6.up x2
    have x3 : Ex H1 H3 := f3.toExN x2 fun a z => by rw [List.mem_singleton.mp z]; exact hx
    have l3 := l1.ex x3
    have hr1' : H1 r1 = none := x2.back hr1
    have hp1' : H1 p1 = none := x2.back hp1
    have fresh : ∀ y ∈ fp3 (x, r1, p1), H1 y = none := fun y hy => by
      rcases List.mem_cons.mp hy with rfl | hy
      · exact hx
      rcases List.mem_cons.mp hy with rfl | hy
      · exact hr1'
      rcases List.mem_cons.mp hy with rfl | hy
      · exact hp1'
      · cases hy
    have tx' : (YV K made).tr H3 n (x, r1, p1) (freshM made sm.ly n) := ⟨r, hm, by rw [freshM_E hm]; exact tx⟩
    obtain ⟨d1, d2, d3⟩ := l3.co.new (a := ((x, r1, p1) : A3)) (t := freshM made sm.ly n) na tx' nd (fun y hy z => l1.co.alloc y z (fresh y hy))
    obtain ⟨dx3, hv3⟩ := l3.hv
    have eal : ad.length = sm.tk.length := by
      have := congrArg List.length l.co.kk
      rw [ks_len, ks_len] at this
      exact this
    refine ⟨_, rfl, p.wa, _, dx3, _, _, rfl, hv3, W.cl_Weave, W.n_Weave_open_tasks, wf_tasks, _, rfl, p.w.ka, _, rfl, DPut.k (k := Sum.inr n) l3.co.tk (szlt (by rw [List.length_map, eal]; omega)), ?_⟩
    have st : Stp (fpW (YV K made) p.w ad) (fpW (YV K made) p.w (pt ad n (x, r1, p1))) H1 _ := ⟨(Fr.ex x3).tr d2, fun y hy => (d3 y hy).imp id (fresh y)⟩
    exact k (pt ad n (x, r1, p1)) _ ((Stp.ex e1).trans st) (l1.step st d1)
theorem c_Weave_settle_task (W : Wld K mg) : Met P w K mg base 1 (aWeave K) "settle_task" (spSettle K) := by
  refine met_of W.cl_Weave W.d_Weave_settle_task sc_Weave_settle_task (fun vs H Q E h => ?_) (fun f cdv A outer s H vs Q E hr h => ?_)
  · obtain ⟨p, ns, told, made, ad, s, n, w, ln, rfl, _⟩ := h
    rfl
  obtain ⟨p, ns, told, made, ad, sm, n, wd, ln, rfl, l, ⟨z1, z2, z3⟩, ht, k⟩ := h
  have hu := hu_of hr
  refine ⟨_, (pss_cons (ps_set (i := 2) sc_Weave_settle_task.nd rfl (Or.inl rfl) (pe_dpop1 (pe_fld (pv 0) rfl) (pv 1) ⟨rfl, rfl, rfl, rfl⟩))
    (pss_cons (ps_asg (pe_fld (pv 2) rfl) (pg_tup rfl (pgs_cons (pg_name (i := 3) sc_Weave_settle_task.nd rfl (Or.inl rfl)) (pgs_cons (pg_name (i := 4) sc_Weave_settle_task.nd rfl (Or.inl rfl)) pgs_nil))))
    (pss_cons (ps_dput hu (pe_fld (pv 0) rfl) (pv 1) (pe_ix ix_T (pv 4) pe_int (fun _ _ => rfl)) rfl)
    (pss_cons (ps_dput hu (pe_fld (pv 0) rfl) (pv 1) (pe_tup (pa_cons (pe_fld (pv 2) rfl) (pa_cons (pv 4) pa_nil))) rfl)
    (pss_one (ps_expr (pe_bm PySem.F.plainAttrs_list PySem.F.slot_list_append PySem.F.type_list_append mt_append (pe_fld (pv 0) rfl) (pa_cons (pe_tup (pa_cons (pv 3) (pa_cons (pv 1) pa_nil))) pa_nil)))))))), ?_⟩
  obtain ⟨dx, hv⟩ := l.hv
  obtain ⟨a, ha, ta⟩ := l.co.task ht
  obtain ⟨r, hm, ta⟩ := ta
  obtain ⟨t', tx⟩ : ∃ t', TkX K H n r a t' (some (wd, ln)) := by
    rcases ta with tx | ⟨w', l', t', e, tx⟩
    · have := tx.pk ("", .none) (by show _ ∈ [_]; simp)
      exact absurd this (by decide +kernel)
    · cases e
      exact ⟨t', tx⟩
  have vl : valV (ad.map fun p => ((Sum.inr p.1 : Key), V.ref ((YK K made).ref p.2))) (Sum.inr n : Key) = some (.ref ((YK K made).ref a)) := by
    rw [valV_ad, ha]
    rfl
  refine ⟨_, rfl, p.wa, _, dx, _, _, rfl, hv, W.cl_Weave, W.n_Weave_open_tasks, wf_tasks, p.w.ka, rfl, .inl ⟨_, .inl l.co.tk⟩, _, rfl, _, Sum.inr n, _, l.co.tk, rfl, vl, ?_⟩
  obtain ⟨c1, s1⟩ := l.co.pop (n := n)
  have l1 := l.step s1 c1
  have t1 := s1.f.t
  have nka : ∀ x ∈ fp3 a, x ≠ p.w.ka := fun x hx z => l.co.nd4.2.2.2.2.2.2.2.2.1 (by rw [← z]; exact tfp_of ha hx)
  have tx1 : TkX K (upd H p.w.ka (.dK (dropK (ad.map fun p => ((Sum.inr p.1 : Key), V.ref ((YK K made).ref p.2))) (Sum.inr n)))) n r a t' (some (wd, ln)) := tx.fr (fun x hx o ho => by rw [upd_ne (nka x hx)]; exact ho) t1
  generalize upd H p.w.ka _ = H1 at c1 s1 l1 t1 tx1 ⊢
  obtain ⟨dxt, fs, hi, hfl, hmm, i1, i2, i3, i4, i5, i6, i7, i8, i9, i10, cv, i11, hcv⟩ := tx1.ins
  have hcv : Dp K H1 cv (.tuple [.str wd, encLn ln]) := hcv
  obtain ⟨ca, cx, rfl, hcS, hcX⟩ := dp_tup hcv
  cases hcX with
  | cons hX1 hX2 =>
  cases hX2 with
  | cons hX2 hX3 =>
  cases hX3
  obtain rfl := dp_str hX1
  rename_i lv
  refine ⟨_, rfl, a.1, _, dxt, fs, _, rfl, hi, W.cl_Task, W.n_Task_closing, i11, ca, _, rfl, hcS, rfl, _, _, rfl, _, _, rfl, rfl, ?_⟩
  refine ⟨_, rfl, _, _, _, rfl, hX2, atI_nat (j := 2) rfl, fun v1 hv1 => ?_⟩
  obtain ⟨dx1, hvv1⟩ := l1.hv
  obtain ⟨ke, hke, dke⟩ := l1.co.en
  refine ⟨_, rfl, p.wa, _, dx1, _, _, rfl, hvv1, W.cl_Weave, W.n_Weave_all_ends, wf_ends, _, rfl, p.w.ea, _, rfl, DPut.k (k := Sum.inr n) hke (szlt (by rw [dke.len]; exact Nat.lt_of_le_of_lt z1 (by decide))), ?_⟩
  obtain ⟨c2, s2⟩ := l1.co.putE (n := n) hke dke (e := ln.en) hv1
  have l2 := l1.step s2 c2
  have t2 := s2.f.t
  have hl2 := Dp.tu t2 _ _ (immLn ln) hX2
  have afp : ∀ x ∈ fp3 a, x ∈ tfp (YK K made) ad := fun x hx => tfp_of ha hx
  have nea : ∀ x ∈ fp3 a, x ≠ p.w.ea := fun x hx z => l.co.nd4.2.2.2.2.2.2.2.1 (by rw [← z]; exact afp x hx)
  have tx2 : TkX K (upd H1 p.w.ea (.dK (putK ke (Sum.inr n) v1))) n r a t' (some (wd, ln)) := tx1.fr (fun x hx o ho => by rw [upd_ne (nea x hx)]; exact ho) t2
  generalize upd H1 p.w.ea _ = H2 at c2 s2 l2 t2 hl2 tx2 ⊢
  obtain ⟨dxt2, fs2, hi2, hfl2, _, _, _, j3, _⟩ := tx2.ins
  refine ⟨_, rfl, a.1, _, dxt2, fs2, _, rfl, hi2, W.cl_Task, W.n_Task_task_text, j3, _, rfl, (show 2 ≤ sizeLine by decide), fun p4 hp4 => ?_⟩
  have d4 := dp_newT hp4 (.cons (.str (showR r)) (.one hl2))
  have x4 := Ex.new (o := .tup [.str (showR r), lv]) hp4
  generalize hh : upd H2 p4 _ = H4
  have d4 : Dp K H4 (.ref p4) (encHd (showR r, ln)) := hh ▸ d4
  have x4 : Ex H2 H4 := hh ▸ x4
  clear hh
  have l4 := l2.ex x4
  obtain ⟨dx4, hvv4⟩ := l4.hv
  obtain ⟨kl, hkl, dkl⟩ := l4.co.ly
  refine ⟨_, rfl, p.wa, _, dx4, _, _, rfl, hvv4, W.cl_Weave, W.n_Weave_weave_held, wf_held, _, rfl, p.w.la, _, rfl, DPut.k (k := Sum.inr n) hkl (szlt (by rw [dkl.len]; exact Nat.lt_of_le_of_lt z2 (by decide))), ?_⟩
  obtain ⟨c5, s5⟩ := l4.co.putL (n := n) hkl dkl d4
  have l5 := l4.step s5 c5
  generalize upd H4 p.w.la _ = H5 at c5 s5 l5 ⊢
  obtain ⟨vals, hvr, dvr⟩ := l5.co.rw
  obtain ⟨dx5, hvv5⟩ := l5.hv
  refine ⟨_, rfl, p.wa, _, dx5, _, _, rfl, hvv5, W.cl_Weave, W.n_Weave_weave_log, wf_log, .inl ⟨rfl, _, SqL.of hvr⟩, _, rfl, _, rfl, (show 2 ≤ sizeLine by decide), fun p6 hp6 => ?_⟩
  have d6 := dp_newT (K := K) hp6 (.cons (.str wd) (.one (.str n)))
  have x6 := Ex.new (o := .tup [.str wd, .str n]) hp6
  generalize hh : upd H5 p6 _ = H6
  have d6 : Dp K H6 (.ref p6) (encRow (wd, n)) := hh ▸ d6
  have x6 : Ex H5 H6 := hh ▸ x6
  clear hh
  have l6 := l5.ex x6
  have dvr6 := dvr.up x6
  refine ⟨p.w.ra, _, _, rfl, rfl, x6 _ _ hvr, szlt (by rw [dvr.length, List.length_map]; exact Nat.lt_of_le_of_lt z3 (by decide)), ?_⟩
  obtain ⟨c7, s7⟩ := l6.co.addR (x6 _ _ hvr) dvr6 d6
  have l7 := l6.step s7 c7
  have tx : textM made n = showR r := by
    unfold textM
    rw [hm]
  have kk := k (dr ad n) _ (((((s1.trans s2).up x4).trans s5).up x6).trans s7)
  unfold closesM at kk
  rw [tx] at kk
  exact kk l7
end
end Wk
namespace Wk
open PySem PySem.Spec PyProof.Rows L2 SX
def mapV {α : Type} (g : Str × α → α) (l : As α) : As α := l.map fun p => (p.1, g p)
section
variable {α : Type} {g g' : Str × α → α} {l : As α} {n : Str}
theorem ks_mapV : ks (mapV g l) = ks l := by
  unfold ks mapV
  rw [List.map_map]
  rfl
theorem lk_mapV : ∀ {l : As α}, lk (mapV g l) n = (lk l n).map fun a => g (n, a)
  | [] => rfl
  | p :: l => by
    show lk ((p.1, g p) :: mapV g l) n = _
    by_cases e : p.1 = n
    · rw [lk_pos (p := (p.1, g p)) e, lk_pos e]
      subst e
      rfl
    · rw [lk_neg (p := (p.1, g p)) e, lk_neg e, lk_mapV]
theorem dr_mapV : ∀ {l : As α}, dr (mapV g l) n = mapV g (dr l n)
  | [] => rfl
  | p :: l => by
    have ih := dr_mapV (l := l)
    unfold dr mapV at *
    rw [List.map_cons, List.filter_cons, List.filter_cons]
    by_cases e : p.1 = n
    · rw [if_neg (by simp [e]), if_neg (by simp [e])]
      exact ih
    · rw [if_pos (by simp [e]), if_pos (by simp [e]), List.map_cons, ih]
theorem mapV_congr (h : ∀ p ∈ l, g p = g' p) : mapV g l = mapV g' l := List.map_congr_left fun p hp => by rw [h p hp]
theorem pt_mapV {c : α} (hd : (ks l).Nodup) {a : α} (h : lk l n = some a) (hc : c = g' (n, a)) (ho : ∀ p : Str × α, p.1 ≠ n → g p = g' p) : pt (mapV g l) n c = mapV g' l := by
  have hn : n ∈ ks (mapV g l) := by rw [ks_mapV]; exact lk_ks.mp (by rw [h]; rfl)
  rw [pt_old hn]
  unfold mapV
  rw [List.map_map]
  refine List.map_congr_left fun p hp => ?_
  show (if p.1 = n then (p.1, c) else (p.1, g p)) = _
  by_cases e : p.1 = n
  · rw [if_pos e]
    have : lk l p.1 = some p.2 := lk_of_mem hd hp
    rw [e, h] at this
    cases this
    subst hc
    rw [← e]
  · rw [if_neg e, ho p e]
end
def cl1 (p : Str × Tk) : Tk := clT (roundT p.1 p.2).1 (roundT p.1 p.2).2
def gS (S : List Str) (p : Str × Tk) : Tk := if p.1 ∈ S then cl1 p else p.2
theorem mapV_id {l : As Tk} : mapV (gS []) l = l := by
  unfold mapV
  refine (List.map_congr_left fun p _ => ?_).trans (List.map_id l)
  unfold gS
  rw [if_neg List.not_mem_nil]
  rfl
theorem ks_foldR {made : As Rc} : ∀ {xs : List Str} {s : Sm} {m : Str}, m ∈ ks (foldR made xs s).tk → m ∈ ks s.tk ∧ m ∉ xs
  | [], s, m, h => ⟨h, List.not_mem_nil⟩
  | x :: xs, s, m, h => by
    have h : m ∈ ks (foldR made xs (roundM made x s)).tk := h
    obtain ⟨h1, h2⟩ := ks_foldR h
    have h3 : m ∈ ks s.tk ∧ m ≠ x := by
      unfold roundM at h1
      cases q : lk s.tk x with
      | none =>
        rw [q] at h1
        exact ⟨h1, fun e => isSome_f q (e ▸ h1)⟩
      | some t =>
        rw [q] at h1
        have h1 : m ∈ ks (dr s.tk x) := h1
        exact ⟨(mem_ks_dr.mp h1).2, (mem_ks_dr.mp h1).1⟩
    exact ⟨h3.1, fun z => (List.mem_cons.mp z).elim h3.2 h2⟩
def spRingsV (K : PySem.W.Frag) : Sp := fun vs H Q _ => ∃ (p : Pl) (ns : List Str) (told : As PyData) (made : As Rc) (ad : As (YV K made).A) (s : Sm), vs = [.ref p.wa] ∧ VW K p ns told made ad H s ∧ OkSm ns told made s ∧ ns.length ≤ 6 ∧
  ∀ (ad' : As (YV K made).A) H', Stp (fpW (YV K made) p.w ad) (fpW (YV K made) p.w ad') H H' → VW K p ns told made ad' H' (ringsM made s) → Q .non H'
section
variable {P : Program} {w : World} {K : PySem.W.Frag} {mg : Str → Option Value} {base : Heap}
theorem c_Weave_settle_rings (W : Wld K mg) : Met P w K mg base 4 (aWeave K) "settle_rings" (spRingsV K) := by
  have c_Weave_ready : Met P w K mg base 3 (aWeave K) "ready" _ := c_Weave_ready W
  have c_Weave_settle_task : Met P w K mg base 1 (aWeave K) "settle_task" _ := c_Weave_settle_task W
  have c_Task_go_round : Met P w K mg base 2 (aTask K) "go_round" _ := c_Task_go_round W
  refine met_of W.cl_Weave W.d_Weave_settle_rings sc_Weave_settle_rings (fun vs H Q E h => ?_) (fun f cdv A outer s H vs Q E hr h => ?_)
  · obtain ⟨p, ns, told, made, ad, s, rfl, _⟩ := h
    rfl
  obtain ⟨p, ns, told, made, ad, sm, rfl, l, ok, hns, k⟩ := h
  have hu := hu_of hr
  refine ⟨_, (pss_cons (ps_if (pt_cmpR op_gt (pe_callB call_lenA (by rfl) W.f_len bt_len (pa_cons (pe_mt0 c_Weave_ready hr (by omega) (pv 0)) pa_nil)) pe_int (nomark _)) (pss_one ps_retN) pss_nil)
    (pss_cons (ps_set (i := 1) sc_Weave_settle_rings.nd rfl (Or.inl rfl) (pe_callB (call_sortedD rfl) (by rfl) W.f_sorted bt_sorted (pa_cons (pe_fld (pv 0) rfl) pa_nil)))
    (pss_cons (ps_for PassesOwn.never rfl (pi_list (pv 1)) (pg_name (i := 2) sc_Weave_settle_rings.nd rfl (Or.inl rfl)) (pss_one (ps_expr (pe_mt0 c_Task_go_round hr (by omega) (pe_dget hu (pe_fld (pv 0) rfl) (pv 2) (fun _ _ => rfl))))))
    (pss_one (ps_for PassesOwn.never rfl (pi_list (pv 1)) (pg_name (i := 2) sc_Weave_settle_rings.nd rfl (Or.inl rfl)) (pss_one (ps_expr (pe_mt c_Weave_settle_task hr (by omega) (pv 0) (pa_cons (pv 2) pa_nil))))))))), ?_⟩
  obtain ⟨z1, z2, z3, z4⟩ := ok.szs l.bo hns
  obtain ⟨dx, hv⟩ := l.hv
  refine ⟨_, rfl, p.wa, dx, _, rfl, hv, wf_m _ (by simp), p, ns, told, made, ad, sm, rfl, l, by omega, fun f H1 e1 hf h1 => ⟨_, _, rfl, .inl ⟨_, SqL.of h1, rfl⟩, _, _, rfl, rfl, _, rfl, iteD (fun c => ?_) (fun c => ?_)⟩⟩
  · have c : (0 : Int) < ((((ableM made sm).map V.str).length : Nat) : Int) := c
    have ne : ableM made sm ≠ [] := fun z => by rw [z] at c; exact absurd c (by decide)
    unfold ringsM at k
    rw [if_neg ne] at k
    exact k ad H1 (Stp.ex e1) (l.ex e1)
  have c : ¬ (0 : Int) < ((((ableM made sm).map V.str).length : Nat) : Int) := c
  have en : ableM made sm = [] := by
    cases q : ableM made sm with
    | nil => rfl
    | cons x xs =>
      rw [q] at c
      exact absurd (by show (0 : Int) < (((xs.map V.str).length + 1 : Nat) : Int); omega) c
  unfold ringsM at k
  rw [if_pos en] at k
  have l1 := l.ex e1
  have eal : ad.length = sm.tk.length := by
    have := congrArg List.length l.co.kk
    rw [ks_len, ks_len] at this
    exact this
  obtain ⟨dx1, hv1⟩ := l1.hv
  refine ⟨_, rfl, p.wa, _, dx1, _, _, rfl, hv1, W.cl_Weave, W.n_Weave_open_tasks, wf_tasks, _, _, ks ad, rfl, .inl l1.co.tk, keys_ad, by rw [ks_len, eal]; omega, fun ys q hperm hsort hq => ?_⟩
  obtain rfl := sortM_eq hperm hsort
  rw [l.co.kk]
  generalize hh : upd H1 q _ = H2
  have e2 : Ex H1 H2 := hh ▸ Ex.new hq
  have h2 : H2 q = some (.lst ((sortM (ks sm.tk)).map V.str)) := by rw [← hh]; exact upd_same
  clear hh
  have l2 := (l1.ex e2).toK
  have nd : (sortM (ks sm.tk)).Nodup := sortM_nd ok.nt
  have qout : q ∉ fpW (YV K made) p.w ad := fun z => l1.co.alloc q z hq
  refine ⟨_, rfl, q, rfl, ⟨_, SqL.of h2⟩, for_list (K := K) (a := q) (xs := (sortM (ks sm.tk)).map V.str) (fun i σ H' => ∃ (y2 : Option V) (ad' : As (YK K made).A), σ = [some (.ref p.wa), some (.ref q), y2] ∧ Stp (fpW (YK K made) p.w ad) (fpW (YK K made) p.w ad') H2 H' ∧ VK K p ns told made ad' H' { sm with tk := mapV (gS ((sortM (ks sm.tk)).take i)) sm.tk })
    ⟨_, ad, rfl, Stp.refl _ _, by rw [List.take_zero, mapV_id]; exact l2⟩ ?_ ?_ ?_⟩
  · rintro i σ H' _ ⟨y2, ad', rfl, st, _⟩
    exact SqL.of (st.keep h2 qout)
  · rintro i x σ H3 hx ⟨y2, ad', rfl, st, l3⟩
    rw [List.getElem?_map] at hx
    obtain ⟨n, hn, rfl⟩ : ∃ n, (sortM (ks sm.tk))[i]? = some n ∧ x = .str n := by
      cases q : (sortM (ks sm.tk))[i]? with
      | none => rw [q] at hx; cases hx
      | some a => rw [q] at hx; cases hx; exact ⟨a, rfl, rfl⟩
    have etk : (sortM (ks sm.tk)).take (i + 1) = (sortM (ks sm.tk)).take i ++ [n] := by rw [List.take_add_one, hn]; rfl
    have nnot : n ∉ (sortM (ks sm.tk)).take i := fun z => by
      have q := nd
      rw [← List.take_append_drop (i + 1) (sortM (ks sm.tk)), etk] at q
      exact (List.nodup_append.mp (List.nodup_append.mp q).1).2.2 _ z _ (List.mem_singleton.mpr rfl) rfl
    have hnk : n ∈ ks sm.tk := mem_sortM.mp (List.mem_of_getElem? hn)
    obtain ⟨t, z, ht, hz⟩ := not_able en hnk
    obtain ⟨r, hrr⟩ := made_lk (ok.st n hnk)
    have otk := ok.ot n t r ht hrr
    have hg : gS ((sortM (ks sm.tk)).take i) (n, t) = t := by
      unfold gS
      rw [if_neg nnot]
    have ht3 : lk (mapV (gS ((sortM (ks sm.tk)).take i)) sm.tk) n = some t := by
      rw [lk_mapV, ht]
      show some (gS _ (n, t)) = _
      rw [hg]
    obtain ⟨a, ha, r', hr', tx⟩ := l3.co.task (s := { sm with tk := mapV (gS ((sortM (ks sm.tk)).take i)) sm.tk }) ht3
    rw [hrr] at hr'
    cases hr'
    have tx : TkX K H3 n r a t none := by
      rcases tx with tx | ⟨w', l', t', e, _⟩
      · exact tx
      · exact absurd e (clT_no (made_ok l.bo hrr) otk w' l')
    obtain ⟨dxt, fs, hi, hfl, hmm, _⟩ := tx.ins
    obtain ⟨dx3, hv3⟩ := l3.hv
    have tnd : (fp3 a).Nodup := tfp_nd_one (Y := YK K made) (List.nodup_append.mp (show ([p.w.la, p.w.ea, p.w.ka, p.w.ra] ++ tfp (YK K made) ad').Nodup from l3.co.nd)).2.1 ha
    refine ⟨_, rfl, p.wa, _, dx3, _, _, rfl, hv3, W.cl_Weave, W.n_Weave_open_tasks, wf_tasks, _, rfl, p.w.ka, .ref a.1, rfl, l3.co.get ha, a.1, dxt, fs, rfl, hi, hmm _ (by simp), a, n, r, t, z, rfl, tx, tnd, hz, otk, fun H4 s4 tx4 => ?_⟩
    obtain ⟨t4, tx4⟩ := tx4
    obtain ⟨c4, st4⟩ := l3.co.setA (a' := a) (t' := cl1 (n, t)) ha ht3 s4.f rfl tnd (fun x hx => .inl hx) ⟨r, hrr, .inr ⟨_, _, t4, rfl, tx4⟩⟩
    refine ⟨_, pt ad' n a, rfl, st.trans st4, ?_⟩
    have es : setM n (cl1 (n, t)) { sm with tk := mapV (gS ((sortM (ks sm.tk)).take i)) sm.tk } = { sm with tk := mapV (gS ((sortM (ks sm.tk)).take (i + 1))) sm.tk } := by
      show ({ sm with tk := pt (mapV _ sm.tk) n (cl1 (n, t)) } : Sm) = _
      rw [pt_mapV (g' := gS ((sortM (ks sm.tk)).take (i + 1))) ok.nt ht]
      · unfold gS
        rw [if_pos (by rw [etk]; exact List.mem_append_right _ (List.mem_singleton.mpr rfl))]
      · intro pp hp
        unfold gS
        by_cases c : pp.1 ∈ (sortM (ks sm.tk)).take i
        · rw [if_pos c, if_pos (by rw [etk]; exact List.mem_append_left _ c)]
        · rw [if_neg c, if_neg (by rw [etk]; exact fun z => (List.mem_append.mp z).elim c fun z => hp (List.mem_singleton.mp z))]
    rw [es] at c4
    exact l3.step st4 c4
  rintro σ H3 ⟨y2, ad3, rfl, st3, l3⟩
  rw [List.length_map, List.take_length] at l3
  have e3 : mapV (gS (sortM (ks sm.tk))) sm.tk = mapV cl1 sm.tk := mapV_congr fun p hp => by
    unfold gS
    have hm : p.1 ∈ sortM (ks sm.tk) := mem_sortM.mpr (List.mem_map.mpr ⟨p, hp, rfl⟩)
    rw [if_pos hm]
  rw [e3] at l3
  have h3 := st3.keep h2 qout
  refine ⟨_, rfl, q, rfl, ⟨_, SqL.of h3⟩, for_list (K := K) (a := q) (xs := (sortM (ks sm.tk)).map V.str) (fun i σ H' => ∃ (y2 : Option V) (ad' : As (YK K made).A), σ = [some (.ref p.wa), some (.ref q), y2] ∧ Stp (fpW (YK K made) p.w ad) (fpW (YK K made) p.w ad') H2 H' ∧ OkSm ns told made (foldR made ((sortM (ks sm.tk)).take i) sm) ∧
      VK K p ns told made ad' H' { foldR made ((sortM (ks sm.tk)).take i) sm with tk := mapV cl1 (foldR made ((sortM (ks sm.tk)).take i) sm).tk } ∧ ∀ n ∈ (sortM (ks sm.tk)).drop i, ∃ t, lk (foldR made ((sortM (ks sm.tk)).take i) sm).tk n = some t)
    ⟨_, ad3, rfl, st3, ok, l3, fun n hn => by
      obtain ⟨t, z, ht, _⟩ := not_able en (mem_sortM.mp hn)
      exact ⟨t, ht⟩⟩ ?_ ?_ ?_⟩
  · rintro i σ H' _ ⟨y2, ad', rfl, st, _⟩
    exact SqL.of (st.keep h2 qout)
  · rintro i x σ H4 hx ⟨y2, ad', rfl, st, ok4, l4, hw⟩
    rw [List.getElem?_map] at hx
    obtain ⟨n, hn, rfl⟩ : ∃ n, (sortM (ks sm.tk))[i]? = some n ∧ x = .str n := by
      cases q : (sortM (ks sm.tk))[i]? with
      | none => rw [q] at hx; cases hx
      | some a => rw [q] at hx; cases hx; exact ⟨a, rfl, rfl⟩
    have etk : (sortM (ks sm.tk)).take (i + 1) = (sortM (ks sm.tk)).take i ++ [n] := by rw [List.take_add_one, hn]; rfl
    have es : foldR made ((sortM (ks sm.tk)).take (i + 1)) sm = roundM made n (foldR made ((sortM (ks sm.tk)).take i) sm) := by rw [etk, foldR_snoc]
    have edr := pw_split hn
    have nnot := drop_not nd hn
    rw [es]
    generalize foldR made ((sortM (ks sm.tk)).take i) sm = si at l4 ok4 hw ⊢
    rw [edr] at hw
    obtain ⟨t, ht⟩ := hw n List.mem_cons_self
    obtain ⟨y1', y2', y3', y4'⟩ := ok4.szs l4.bo hns
    have er : roundM made n si = closesM made n (roundT n t).1 (roundT n t).2 si := by
      unfold roundM
      rw [ht]
    have ro := round_sm (n := n) l4.bo ok4
    have ht4 : lk (mapV cl1 si.tk) n = some (clT (roundT n t).1 (roundT n t).2) := by
      rw [lk_mapV, ht]
      rfl
    obtain ⟨dx4, hv4⟩ := l4.hv
    refine ⟨_, rfl, p.wa, dx4, _, rfl, hv4, wf_m _ (by simp), _, rfl, p, ns, told, made, ad', { si with tk := mapV cl1 si.tk }, n, (roundT n t).1, (roundT n t).2, rfl, l4, ⟨(show si.en.length ≤ 1000 by omega), (show si.ly.length ≤ 1000 by omega), (show si.rw.length ≤ 1000 by omega)⟩, ht4, fun ad5 H5 st5 l5 => ?_⟩
    refine ⟨_, ad5, rfl, st.trans st5, ro.1, ?_, fun m hm => ?_⟩
    · rw [er]
      have ec : closesM made n (roundT n t).1 (roundT n t).2 { si with tk := mapV cl1 si.tk } = { closesM made n (roundT n t).1 (roundT n t).2 si with tk := mapV cl1 (closesM made n (roundT n t).1 (roundT n t).2 si).tk } := by
        show (⟨_, _, dr (mapV cl1 si.tk) n, _⟩ : Sm) = ⟨_, _, mapV cl1 (dr si.tk n), _⟩
        rw [dr_mapV]
        rfl
      rw [ec] at l5
      exact l5
    · obtain ⟨t', h1⟩ := hw m (List.mem_cons_of_mem _ hm)
      exact ⟨t', by rw [roundM_other fun e => nnot (by rw [← e]; exact hm)]; exact h1⟩
  · rintro σ H4 ⟨y2, ad', rfl, st, ok4, l4, _⟩
    rw [List.length_map, List.take_length] at l4
    have etk : (foldR made (sortM (ks sm.tk)) sm).tk = [] := by
      cases q : (foldR made (sortM (ks sm.tk)) sm).tk with
      | nil => rfl
      | cons x xs =>
        have hm : x.1 ∈ ks (foldR made (sortM (ks sm.tk)) sm).tk := by
          rw [q]
          exact List.mem_cons_self
        obtain ⟨h1, h2⟩ := ks_foldR hm
        exact absurd (mem_sortM.mpr h1) h2
    have es : ({ foldR made (sortM (ks sm.tk)) sm with tk := mapV cl1 (foldR made (sortM (ks sm.tk)) sm).tk } : Sm) = foldR made (sortM (ks sm.tk)) sm := by
      rw [etk]
      show ({ foldR made (sortM (ks sm.tk)) sm with tk := [] } : Sm) = _
      conv => rhs; rw [show foldR made (sortM (ks sm.tk)) sm = ⟨(foldR made (sortM (ks sm.tk)) sm).ly, (foldR made (sortM (ks sm.tk)) sm).en, (foldR made (sortM (ks sm.tk)) sm).tk, (foldR made (sortM (ks sm.tk)) sm).rw⟩ from rfl, etk]
    rw [es] at l4
    exact k ad' H4 ((Stp.ex (e1.trans e2)).trans st) (l4.toV fun n t h => by rw [etk] at h; cases h)
end
end Wk
namespace Wk
open PySem PySem.Spec PyProof.Rows L2 SX
def spMoveV (K : PySem.W.Frag) : Sp := fun vs H Q _ => ∃ (p : Pl) (ns : List Str) (told : As PyData) (made : As Rc) (ad : As (YV K made).A) (s : Sm) (n : Str), vs = [.ref p.wa, .str n] ∧ VW K p ns told made ad H s ∧ OkSm ns told made s ∧ ns.length ≤ 6 ∧ n ∈ ableM made s ∧
  ∀ (ad' : As (YV K made).A) H', Stp (fpW (YV K made) p.w ad) (fpW (YV K made) p.w ad') H H' → VW K p ns told made ad' H' (movesM told made n s) → Q .non H'
/-- the closing of a task in the middle of a move -/
theorem RsX.closing {K : PySem.W.Frag} {H : Hp} {n : Str} {r : Rc} {a : A3} {x : Rs} (h : RsX K H n r a x) : ∃ dx fs cv, H a.1 = some (.ins (aTask K) dx fs) ∧ (∀ m ∈ (["go_on", "look_on", "ask_on", "do_on", "close", "take", "take_looked", "begin_anew", "go_round"] : List Str), fs.lookup m = none) ∧ fs.lookup ("closing" : Str) = some cv ∧
    ((∃ t, x = .on t ∧ cv = .non ∧ TkX K H n r a t none ∧ fs.lookup ("waits_for" : Str) = some (optV t.wt)) ∨ ∃ w l t, x = .shut w l ∧ cv ≠ .non ∧ TkX K H n r a t (some (w, l))) := by
  cases x with
  | on t =>
    have tx : TkX K H n r a t none := h
    obtain ⟨dx, fs, hi, hfl, hm, i1, i2, i3, i4, i5, i6, i7, i8, i9, i10, cv, i11, hcv⟩ := tx.ins
    exact ⟨dx, fs, cv, hi, hm, i11, .inl ⟨t, rfl, hcv, tx, i10⟩⟩
  | shut w l =>
    obtain ⟨t, tx⟩ := (show ∃ t, TkX K H n r a t (some (w, l)) from h)
    obtain ⟨dx, fs, hi, hfl, hm, i1, i2, i3, i4, i5, i6, i7, i8, i9, i10, cv, i11, hcv⟩ := tx.ins
    refine ⟨dx, fs, cv, hi, hm, i11, .inr ⟨w, l, t, rfl, fun z => ?_, tx⟩⟩
    have hcv : Dp K H cv (encCl (w, l)) := hcv
    subst z
    cases hcv
section
variable {P : Program} {w : World} {K : PySem.W.Frag} {mg : Str → Option Value} {base : Heap}
theorem c_Weave_move (W : Wld K mg) : Met P w K mg base 24 (aWeave K) "move" (spMoveV K) := by
  have c_Weave_ready : Met P w K mg base 3 (aWeave K) "ready" _ := c_Weave_ready W
  have c_Weave_stamp_now : Met P w K mg base 6 (aWeave K) "stamp_now" _ := c_Weave_stamp_now W
  have c_Weave_open_task : Met P w K mg base 23 (aWeave K) "open_task" _ := c_Weave_open_task W
  have c_Weave_settle_task : Met P w K mg base 1 (aWeave K) "settle_task" _ := c_Weave_settle_task W
  have c_Weave_settle_rings : Met P w K mg base 4 (aWeave K) "settle_rings" _ := c_Weave_settle_rings W
  have c_Task_take : Met P w K mg base 15 (aTask K) "take" _ := c_Task_take W
  have c_Task_go_on : Met P w K mg base 19 (aTask K) "go_on" _ := c_Task_go_on W
  refine met_of W.cl_Weave W.d_Weave_move sc_Weave_move (fun vs H Q E h => ?_) (fun f cdv A outer s H vs Q E hr h => ?_)
  · obtain ⟨p, ns, told, made, ad, s, n, rfl, _⟩ := h
    rfl
  obtain ⟨p, ns, told, made, ad, sm, n, rfl, l, ok, hns, hab, k⟩ := h
  have hu := hu_of hr
  refine ⟨_, (pss_cons (ps_if (pt_cmpR op_notIn_seq (pv 1) (pe_mt0 c_Weave_ready hr (by omega) (pv 0)) (by rfl)) (pss_one ps_never) pss_nil)
    (pss_cons (ps_set (i := 2) sc_Weave_move.nd rfl (Or.inl rfl) (pe_dget hu (pe_fld (pv 0) rfl) (pv 1) (fun _ _ => rfl)))
    (C8.pss_cut (ps_if (pt_cmpR op_notN (pe_fld (pv 2) rfl) pe_non (nomark _)) (pss_one (ps_expr (pe_mt c_Task_take hr (by omega) (pv 2) (pa_cons (pe_mt c_Weave_stamp_now hr (by omega) (pv 0) (pa_cons (pe_fld (pv 2) rfl) pa_nil)) pa_nil)))) pss_nil)
    (C8.pss_cut (ps_if (pt_cmpR op_isN (pe_fld (pv 2) rfl) pe_non (nomark _)) (pss_one (ps_expr (pe_mt0 c_Task_go_on hr (by omega) (pv 2)))) pss_nil)
    (C8.pss_cut (ps_if (pt_cmpR op_isN (pe_fld (pv 2) rfl) pe_non (nomark _)) (pss_one (ps_expr (pe_mt c_Weave_open_task hr (by omega) (pv 0) (pa_cons (pe_fld (pv 2) rfl) pa_nil)))) (pss_one (ps_expr (pe_mt c_Weave_settle_task hr (by omega) (pv 0) (pa_cons (pv 1) pa_nil)))))
    (pss_one (ps_expr (pe_mt0 c_Weave_settle_rings hr (by omega) (pv 0))))))))), ?_⟩
  obtain ⟨z1, z2, z3, z4⟩ := ok.szs l.bo hns
  have szs : Szs sm := ⟨by omega, by omega, by omega⟩
  obtain ⟨dx, hv⟩ := l.hv
  refine ⟨_, rfl, _, rfl, p.wa, dx, _, rfl, hv, wf_m _ (by simp), p, ns, told, made, ad, sm, rfl, l, by omega, fun f H1 e1 hf h1 => ⟨f, _, rfl, .inl (SqL.of h1), rfl, flatS _, _, rfl, ?_⟩⟩
  have et : (if true = true then !inV (V.str n) ((ableM made sm).map V.str) else inV (V.str n) ((ableM made sm).map V.str)) = false := by
    rw [if_pos rfl, inS, decide_eq_true hab]
    rfl
  show if (if true = true then !inV (V.str n) ((ableM made sm).map V.str) else inV (V.str n) ((ableM made sm).map V.str)) = true then _ else _
  rw [et]
  refine iteF ?_
  have l1 := l.ex e1
  have hn : n ∈ ks sm.tk := mem_sortM.mp ((List.mem_filter.mp hab).1)
  have hls := lk_ks.mpr hn
  cases ht : lk sm.tk n with
  | none => rw [ht] at hls; cases hls
  | some t =>
  obtain ⟨r, hm⟩ := made_lk (ok.st n hn)
  have otk := ok.ot n t r ht hm
  have okr := made_ok l.bo hm
  have hnow := now_ok l.bo ok
  obtain ⟨a, ha, r', hr', tx⟩ := l1.co.task ht
  rw [hm] at hr'
  cases hr'
  have tnd : (fp3 a).Nodup := tfp_nd_one (Y := YV K made) (List.nodup_append.mp (show ([p.w.la, p.w.ea, p.w.ka, p.w.ra] ++ tfp (YV K made) ad).Nodup from l1.co.nd)).2.1 ha
  have aft := after_ok l.bo ok ht hm
  have step := step_ok (told := told) (en := sm.en) (n := n) okr otk hnow
  have k : ∀ (ad' : As (YV K made).A) H', Stp (fpW (YV K made) p.w ad) (fpW (YV K made) p.w ad') H H' → VW K p ns told made ad' H' (ringsM made (afterM made n (stepT told sm.en n r t) sm)) → Q .non H' := fun ad' H' st l' => k ad' H' st (by
    unfold movesM
    rw [ht, hm]
    exact l')
  have hst : stepT told sm.en n r t = thenGo n r (firstT told sm.en n t) := stepT_eq
  have mid1 := first_ok (n := n) okr otk hnow
  obtain ⟨dx1, hv1⟩ := l1.hv
  refine ⟨_, rfl, p.wa, _, dx1, _, _, rfl, hv1, W.cl_Weave, W.n_Weave_open_tasks, wf_tasks, _, rfl, p.w.ka, .ref a.1, rfl, l1.co.get ha, ?_⟩
  refine ⟨fun σ' H' => σ' = [some (.ref p.wa), some (.str n), some (.ref a.1)] ∧ ∃ a', Tsp a a' H1 H' ∧ RsX K H' n r a' (firstT told sm.en n t), ?_, ?_⟩
  · obtain ⟨dxt, fs, hi, hfl, hmm, i1, i2, i3, i4, i5, i6, i7, i8, i9, i10, _⟩ := tx.ins
    refine ⟨_, rfl, a.1, _, dxt, fs, _, rfl, hi, W.cl_Task, W.n_Task_waits_for, i10, rfl, _, rfl, ?_⟩
    unfold firstT
    cases hw : t.wt with
    | none => exact iteF ⟨rfl, a, Tsp.ex tnd (Same.refl _), tx⟩
    | some z =>
      rw [hw] at i10
      refine iteT ⟨_, rfl, a.1, dxt, fs, rfl, hi, hmm _ (by simp), _, rfl, p.wa, dx1, _, rfl, hv1, wf_m _ (by simp), _, rfl, a.1, _, dxt, fs, _, rfl, hi, W.cl_Task, W.n_Task_waits_for, i10, p, ns, told, made, sm.en, z, rfl, l1.vb, fun H2 e2 => ?_⟩
      exact ⟨a, n, r, t, z, nowM told sm.en z, rfl, tx.up e2, tnd, hw, otk, hnow z, fun a' H' s' rs => ⟨rfl, a', (Tsp.ex tnd e2).trans s', rs⟩⟩
  rintro _ H2 ⟨rfl, a2, s2, rs2⟩
  refine ⟨fun σ' H' => σ' = [some (.ref p.wa), some (.str n), some (.ref a.1)] ∧ ∃ a', Tsp a a' H1 H' ∧ RsX K H' n r a' (stepT told sm.en n r t), ?_, ?_⟩
  · rw [hst]
    generalize firstT told sm.en n t = x1 at rs2 mid1 ⊢
    obtain ⟨dx2, fs2, cv2, hi2, hm2, hc2, hcase⟩ := rs2.closing
    rw [s2.e] at hi2
    refine ⟨_, rfl, a.1, _, dx2, fs2, _, rfl, hi2, W.cl_Task, W.n_Task_closing, hc2, rfl, _, rfl, ?_⟩
    rcases hcase with ⟨t2, rfl, rfl, tx2, _⟩ | ⟨w', l', t2, rfl, hne, tx2⟩
    · refine iteT ⟨_, rfl, a.1, dx2, fs2, rfl, hi2, hm2 _ (by simp), a2, n, r, t2, (by rw [s2.e]; rfl), tx2, s2.nd, mid1, fun H' s' rs => ⟨rfl, a2, s2.trans s', rs⟩⟩
    · rw [decide_eq_false hne]
      exact iteF ⟨rfl, a2, s2, t2, tx2⟩
  rintro _ H3 ⟨rfl, a3, s3, rs3⟩
  refine ⟨fun σ' H' => (∃ y, σ' = [some (.ref p.wa), some (.str n), y]) ∧ ∃ (ad' : As (YV K made).A), Stp (fpW (YV K made) p.w ad) (fpW (YV K made) p.w ad') H1 H' ∧ VW K p ns told made ad' H' (afterM made n (stepT told sm.en n r t) sm), ?_, ?_⟩
  · obtain ⟨dx3, fs3, cv3, hi3, hm3, hc3, hcase⟩ := rs3.closing
    rw [s3.e] at hi3
    refine ⟨_, rfl, a.1, _, dx3, fs3, _, rfl, hi3, W.cl_Task, W.n_Task_closing, hc3, rfl, _, rfl, ?_⟩
    generalize stepT told sm.en n r t = x2 at rs3 step hcase aft ⊢
    rcases hcase with ⟨t2, rfl, rfl, tx2, hwt⟩ | ⟨w', l', t2, rfl, hne, tx2⟩
    · obtain ⟨q1, ⟨z, hz⟩, q3⟩ := step
      rw [hz] at hwt
      obtain ⟨c4, st4⟩ := l1.co.setA (a' := a3) (t' := t2) ha ht s3.f s3.e s3.nd s3.s ⟨r, hm, tx2⟩
      have l4 := l1.step st4 c4
      obtain ⟨dx4, hv4⟩ := l4.hv
      have hsz : (setM n t2 sm).tk.length ≤ 1000 := by
        show (pt sm.tk n t2).length ≤ 1000
        have := pt_len (l := sm.tk) (n := n) (a := t2)
        omega
      refine iteT ⟨_, rfl, p.wa, dx4, _, rfl, hv4, wf_m _ (by simp), _, rfl, a.1, _, dx3, fs3, _, rfl, hi3, W.cl_Task, W.n_Task_waits_for, hwt, p, ns, told, made, _, setM n t2 sm, z, rfl, l4, hsz, fun ad' H' st l' => ⟨⟨_, rfl⟩, ad', st4.trans st, ?_⟩⟩
      show VW K p ns told made ad' H' (opensM made (t2.wt.getD "") (setM n t2 sm))
      rw [hz]
      exact l'
    · have l1K := l1.toK
      obtain ⟨c4, st4⟩ := l1K.co.setA (a' := a3) (t' := clT w' l') ha ht s3.f s3.e s3.nd s3.s ⟨r, hm, .inr ⟨w', l', t2, rfl, tx2⟩⟩
      have l4 := l1K.step st4 c4
      obtain ⟨dx4, hv4⟩ := l4.hv
      rw [decide_eq_false hne]
      refine iteF ⟨_, rfl, p.wa, dx4, _, rfl, hv4, wf_m _ (by simp), _, rfl, p, ns, told, made, _, setM n (clT w' l') sm, n, w', l', rfl, l4, szs, lk_pt_self, fun ad' H' st l5 => ⟨⟨_, rfl⟩, ad', st4.trans st, ?_⟩⟩
      have ec : closesM made n w' l' (setM n (clT w' l') sm) = closesM made n w' l' sm := appM_two (x := .shut w' l')
      rw [ec] at l5
      refine l5.toV fun m tm hm' w'' l'' => ?_
      have okA : OkSm ns told made (closesM made n w' l' sm) := aft.1
      obtain ⟨rm, hrm⟩ := made_lk (okA.st m (isSome_t hm'))
      exact clT_no (made_ok l.bo hrm) (okA.ot m tm rm hm' hrm) w'' l''
  rintro _ H4 ⟨⟨y, rfl⟩, ad4, st4, l4⟩
  obtain ⟨dx4, hv4⟩ := l4.hv
  exact ⟨_, rfl, p.wa, dx4, _, rfl, hv4, wf_m _ (by simp), p, ns, told, made, ad4, _, rfl, l4, aft.1, hns, fun ad' H' st l' => k ad' H' (((Stp.ex e1).trans st4).trans st) l'⟩
end
end Wk
namespace Wk
open PySem PySem.Spec PyProof.Rows L2 SX
def spSettled (K : PySem.W.Frag) : Sp := fun vs H Q _ => ∃ (p : Pl) (ns : List Str) (told : As PyData) (made : As Rc) (ad : As (YV K made).A) (s : Sm), vs = [.ref p.wa] ∧ VW K p ns told made ad H s ∧ Q (.bl (decide (s.tk.length = 0))) H
def spToldV (K : PySem.W.Frag) : Sp := fun vs H Q _ => ∃ (p : Pl) (ns : List Str) (told : As PyData) (made : As Rc) (ad : As (YV K made).A) (s : Sm), vs = [.ref p.wa] ∧ VW K p ns told made ad H s ∧ s.rw.length ≤ 1000 ∧
  ∀ q d l vals H', Ex H H' → H q = none → H' q = some (.tup [.ref d, .ref l]) → H d = none → H l = none → d ≠ l → DT K H' d encHd s.ly → H' l = some (.lst vals) → DpAll K H' vals (s.rw.map encRow) → Q (.ref q) H'
def startM (held : As Hd) : Sm := ⟨held, [], [], []⟩
def openAll (made : As Rc) (xs : List Str) (s : Sm) : Sm := xs.foldl (fun s n => opensM made n s) s
theorem openAll_snoc {made : As Rc} {xs : List Str} {n : Str} {s : Sm} : openAll made (xs ++ [n]) s = opensM made n (openAll made xs s) := by
  unfold openAll
  rw [List.foldl_append]
  rfl
theorem start_ok {ns : List Str} {told : As PyData} {made : As Rc} {held : As Hd} (h : OkHd ns held) : OkSm ns told made (startM held) :=
  ⟨h, List.nodup_nil, fun n h => (by cases h), fun n h => (by cases h), List.nodup_nil, fun n h => (by cases h), fun n h => (by cases h), fun n t r h => (by cases h), Nat.le_refl _⟩
theorem openAll_ok {ns : List Str} {told : As PyData} {made : As Rc} (bo : BkOk ns told made) : ∀ (xs : List Str) {s : Sm}, OkSm ns told made s → OkSm ns told made (openAll made xs s) ∧ phi made (openAll made xs s) ≤ phi made s
  | [], s, o => ⟨o, Nat.le_refl _⟩
  | x :: xs, s, o => by
    obtain ⟨a, b⟩ := opens_ok (n := x) bo o
    obtain ⟨c, d⟩ := openAll_ok bo xs a
    exact ⟨c, Nat.le_trans d b⟩
def spWeave (K : PySem.W.Frag) : Sp := fun vs H Q _ => ∃ (x dx b t m hl nm : Addr) (ns : List Str) (told : As PyData) (made : As Rc) (held : As Hd) (xs : List Str), vs = [.ref x, .ref b, .ref hl, .ref nm] ∧ H x = some (.ins (aWeave K) dx []) ∧ Bk K H b t m told made ∧ BkOk ns told made ∧ ns.length ≤ 6 ∧ DT K H hl encHd held ∧ OkHd ns held ∧ H nm = some (.lst (xs.map V.str)) ∧
  ∀ (p : Pl) (ad : As (YV K made).A) H', p.wa = x → Fr [x] H H' → (∀ y ∈ p.ba :: p.ta :: p.ma :: fpW (YV K made) p.w ad, H y = none) → VW K p ns told made ad H' (ringsM made (openAll made xs (startM held))) → Q .non H'
section
variable {P : Program} {w : World} {K : PySem.W.Frag} {mg : Str → Option Value} {base : Heap}
theorem c_Weave_settled (W : Wld K mg) : Met P w K mg base 1 (aWeave K) "settled" (spSettled K) := by
  refine met_of W.cl_Weave W.d_Weave_settled sc_Weave_settled (fun vs H Q E h => ?_) (fun f cdv A outer s H vs Q E hr h => ?_)
  · obtain ⟨p, ns, told, made, ad, s, rfl, _⟩ := h
    rfl
  obtain ⟨p, ns, told, made, ad, sm, rfl, l, k⟩ := h
  refine ⟨_, (pss_one (ps_ret (pe_cmpR op_eq (pe_callB call_lenA (by rfl) W.f_len bt_len (pa_cons (pe_fld (pv 0) rfl) pa_nil)) pe_int (nomark _)))), ?_⟩
  obtain ⟨dx, hv⟩ := l.hv
  have eal : ad.length = sm.tk.length := by
    have := congrArg List.length l.co.kk
    rw [ks_len, ks_len] at this
    exact this
  refine ⟨_, rfl, p.wa, _, dx, _, _, rfl, hv, W.cl_Weave, W.n_Weave_open_tasks, wf_tasks, _, _, rfl, .inr (.inr ⟨_, l.co.tk, rfl⟩), rfl, ?_⟩
  have e : decide (V.int (((ad.map fun p => ((Sum.inr p.1 : Key), V.ref ((YV K made).ref p.2))).length : Nat) : Int) = V.int 0) = decide (sm.tk.length = 0) := by
    rw [List.length_map, eal]
    refine decide_eq_decide.mpr ⟨fun h => ?_, fun h => by rw [h]; rfl⟩
    injection h with h
    omega
  rw [← e] at k
  exact k
theorem c_Weave_told (W : Wld K mg) : Met P w K mg base 1 (aWeave K) "told" (spToldV K) := by
  refine met_of W.cl_Weave W.d_Weave_told sc_Weave_told (fun vs H Q E h => ?_) (fun f cdv A outer s H vs Q E hr h => ?_)
  · obtain ⟨p, ns, told, made, ad, s, rfl, _⟩ := h
    rfl
  obtain ⟨p, ns, told, made, ad, sm, rfl, l, hrw, k⟩ := h
  refine ⟨_, (pss_one (ps_ret (pe_tup (pa_cons (pe_callTy call_copyD (by rfl) W.f_dict bt_dict (pa_cons (pe_fld (pv 0) rfl) pa_nil)) (pa_cons (pe_callTy call_list_of (by rfl) W.f_list bt_list (pa_cons (pe_fld (pv 0) rfl) pa_nil)) pa_nil))))), ?_⟩
  obtain ⟨dx, hv⟩ := l.hv
  obtain ⟨kl, hkl, dkl⟩ := l.co.ly
  refine ⟨_, rfl, p.wa, _, dx, _, _, rfl, hv, W.cl_Weave, W.n_Weave_weave_held, wf_held, _, _, rfl, .inl hkl, fun d hd => ?_⟩
  generalize hh : upd H d _ = H1
  have e1 : Ex H H1 := hh ▸ Ex.new hd
  have h1 : H1 d = some (.dK kl) := by rw [← hh]; exact upd_same
  clear hh
  have hv1 := e1 _ _ hv
  obtain ⟨vals, hvr, dvr⟩ := l.co.rw
  refine ⟨_, rfl, p.wa, _, dx, _, _, rfl, hv1, W.cl_Weave, W.n_Weave_weave_log, wf_log, _, _, rfl, .inl (SqL.of (e1 _ _ hvr)), fun q hq => ?_⟩
  generalize hh : upd H1 q _ = H2
  have e2 : Ex H1 H2 := hh ▸ Ex.new hq
  have h2 : H2 q = some (.lst vals) := by rw [← hh]; exact upd_same
  clear hh
  refine ⟨(show 2 ≤ sizeLine by decide), fun g hg => ?_⟩
  have E2 := e1.trans e2
  have E3 := E2.trans (Ex.new (o := .tup [.ref d, .ref q]) hg)
  have ne : d ≠ q := fun z => by rw [z, hq] at h1; cases h1
  refine k g d q vals _ E3 (Ex.back E2 hg) upd_same hd (e1.back hq) ne ⟨kl, (e2.trans (Ex.new hg)) _ _ h1, dkl.mono fun v x _ dd => dd.up E3⟩ (Ex.new hg _ _ h2) (dvr.up E3)
theorem k_Weave (W : Wld K mg) : Mak P w K mg base 24 (aWeave K) (spWeave K) := by
  have c_Weave_open_task : Met P w K mg base 23 (aWeave K) "open_task" _ := c_Weave_open_task W
  have c_Weave_settle_rings : Met P w K mg base 4 (aWeave K) "settle_rings" _ := c_Weave_settle_rings W
  refine mak_of W.d_Weave_init sc_Weave_init (fun vs H Q E h => ?_) (fun f cdv A outer s H vs Q E hr h => ?_)
  · obtain ⟨x, dx, b, t, m, hl, nm, ns, told, made, held, xs, rfl, _⟩ := h
    rfl
  obtain ⟨x, dx, b, t, m, hl, nm, ns, told, made, held, xs, rfl, hx, bk, bo, hns, dh, oh, hnm, k⟩ := h
  refine ⟨_, (pss_cons (ps_fld (pv 0) (pe_tup (pa_cons (pe_callTy call_copyD (by rfl) W.f_dict bt_dict (pa_cons (pe_ix ix_tup (pv 1) pe_int (fun _ _ => rfl)) pa_nil)) (pa_cons (pe_callTy call_copyD (by rfl) W.f_dict bt_dict (pa_cons (pe_ix ix_tup (pv 1) pe_int (fun _ _ => rfl)) pa_nil)) pa_nil))) rfl)
    (pss_cons (ps_fld (pv 0) (pe_callTy call_copyD (by rfl) W.f_dict bt_dict (pa_cons (pv 2) pa_nil)) rfl)
    (pss_cons (ps_fld (pv 0) pe_dnewK rfl)
    (pss_cons (ps_fld (pv 0) pe_dnewK rfl)
    (pss_cons (ps_fld (pv 0) (pe_lst pa_nil) rfl)
    (pss_cons (ps_for PassesOwn.never rfl (pi_list (pv 3)) (pg_name (i := 4) sc_Weave_init.nd rfl (Or.inl rfl)) (pss_one (ps_expr (pe_mt c_Weave_open_task hr (by omega) (pv 0) (pa_cons (pv 4) pa_nil)))))
    (pss_one (ps_expr (pe_mt0 c_Weave_settle_rings hr (by omega) (pv 0)))))))))), ?_⟩
  obtain ⟨kt, hkt, dkt⟩ := bk.t
  obtain ⟨km, hkm, dkm⟩ := bk.m
  have lz : ∀ {fs : List (Str × V)}, fs.length ≤ 11 → fs.length < 1000 := fun h => by omega
  refine ⟨_, rfl, b, _, _, _, rfl, rfl, SqT.of bk.p, atI_nat (j := 0) rfl, _, _, rfl, .inl hkt, fun ta hta => ?_⟩
  generalize hh : upd H ta _ = H1
  have e1 : Ex H H1 := hh ▸ Ex.new hta
  have h1 : H1 ta = some (.dK kt) := by rw [← hh]; exact upd_same
  clear hh
  refine ⟨_, rfl, b, _, _, _, rfl, rfl, SqT.of (e1 _ _ bk.p), atI_nat (j := 1) rfl, _, _, rfl, .inl (e1 _ _ hkm), fun ma hma => ?_⟩
  generalize hh : upd H1 ma _ = H2
  have e2 : Ex H1 H2 := hh ▸ Ex.new hma
  have h2 : H2 ma = some (.dK km) := by rw [← hh]; exact upd_same
  clear hh
  refine ⟨(show 2 ≤ sizeLine by decide), fun ba hba => ?_⟩
  generalize hh : upd H2 ba _ = H3
  have e3 : Ex H2 H3 := hh ▸ Ex.new hba
  have h3 : H3 ba = some (.tup [.ref ta, .ref ma]) := by rw [← hh]; exact upd_same
  clear hh
  have E3 := e1.trans (e2.trans e3)
  have hmaH : H ma = none := e1.back hma
  have hbaH : H ba = none := e1.back (e2.back hba)
  have bk3 : Bk K H3 ba ta ma told made := ⟨h3, ⟨kt, (e2.trans e3) _ _ h1, dkt.mono fun v q _ d => d.up E3⟩, ⟨km, e3 _ _ h2, dkm.mono fun v q _ d => d.up E3⟩⟩
  have hiH3 := E3 _ _ hx
  have nx : ∀ {y : Addr} {G : Hp}, G y = none → G x ≠ none → y ≠ x := fun h h2 z => h2 (z ▸ h)
  have nn : ∀ {G : Hp} {o : HO}, G x = some o → G x ≠ none := fun h z => by rw [h] at z; cases z
  refine ⟨_, rfl, x, _, dx, _, rfl, hiH3, W.cl_Weave, W.n_Weave_weave_book, lz (by decide), ?_⟩
  generalize hh : upd H3 x _ = H4
  have hiH4 : H4 x = some (.ins (aWeave K) dx [("weave_book", .ref ba)]) := by rw [← hh]; exact upd_same
  have frH4 : Fr [x] H3 H4 := by rw [← hh]; exact Fr.mut hiH3
  clear hh
  obtain ⟨kl, hkl, dkl⟩ := dh
  have nhx : hl ≠ x := fun z => by rw [z, hx] at hkl; cases hkl
  have F4 : Fr [x] H H4 := (Fr.ex E3).tr frH4
  refine ⟨_, rfl, _, _, rfl, .inl (F4.k _ _ hkl fun z => nhx (List.mem_singleton.mp z)), fun la hla => ?_⟩
  generalize hh : upd H4 la _ = H5
  have e5 : Ex H4 H5 := hh ▸ Ex.new hla
  have h5 : H5 la = some (.dK kl) := by rw [← hh]; exact upd_same
  clear hh
  have hiH5 := e5 _ _ hiH4
  have nla := nx hla (nn hiH4)
  refine ⟨_, rfl, x, _, dx, _, rfl, hiH5, W.cl_Weave, W.n_Weave_weave_held, lz (show 1 ≤ 11 by decide), ?_⟩
  generalize hh : upd H5 x _ = H6
  have hiH6 : H6 x = some (.ins (aWeave K) dx [("weave_book", .ref ba), ("weave_held", .ref la)]) := by rw [← hh]; exact upd_same
  have frH6 : Fr [x] H5 H6 := by rw [← hh]; exact Fr.mut hiH5
  clear hh
  refine fun ka hka => ?_
  generalize hh : upd H6 ka _ = H7
  have e7 : Ex H6 H7 := hh ▸ Ex.new hka
  have h7 : H7 ka = some (.dK []) := by rw [← hh]; exact upd_same
  clear hh
  have hiH7 := e7 _ _ hiH6
  have nka := nx hka (nn hiH6)
  refine ⟨_, rfl, x, _, dx, _, rfl, hiH7, W.cl_Weave, W.n_Weave_open_tasks, lz (show 2 ≤ 11 by decide), ?_⟩
  generalize hh : upd H7 x _ = H8
  have hiH8 : H8 x = some (.ins (aWeave K) dx [("weave_book", .ref ba), ("weave_held", .ref la), ("open_tasks", .ref ka)]) := by rw [← hh]; exact upd_same
  have frH8 : Fr [x] H7 H8 := by rw [← hh]; exact Fr.mut hiH7
  clear hh
  refine fun ea hea => ?_
  generalize hh : upd H8 ea _ = H9
  have e9 : Ex H8 H9 := hh ▸ Ex.new hea
  have h9 : H9 ea = some (.dK []) := by rw [← hh]; exact upd_same
  clear hh
  have hiH9 := e9 _ _ hiH8
  have nea := nx hea (nn hiH8)
  refine ⟨_, rfl, x, _, dx, _, rfl, hiH9, W.cl_Weave, W.n_Weave_all_ends, lz (show 3 ≤ 11 by decide), ?_⟩
  generalize hh : upd H9 x _ = H10
  have hiH10 : H10 x = some (.ins (aWeave K) dx [("weave_book", .ref ba), ("weave_held", .ref la), ("open_tasks", .ref ka), ("all_ends", .ref ea)]) := by rw [← hh]; exact upd_same
  have frH10 : Fr [x] H9 H10 := by rw [← hh]; exact Fr.mut hiH9
  clear hh
  refine ⟨Nat.zero_le _, fun ra hra => ?_⟩
  generalize hh : upd H10 ra _ = H11
  have e11 : Ex H10 H11 := hh ▸ Ex.new hra
  have h11 : H11 ra = some (.lst []) := by rw [← hh]; exact upd_same
  clear hh
  have hiH11 := e11 _ _ hiH10
  have nra := nx hra (nn hiH10)
  refine ⟨_, rfl, x, _, dx, _, rfl, hiH11, W.cl_Weave, W.n_Weave_weave_log, lz (show 4 ≤ 11 by decide), ?_⟩
  generalize hh : upd H11 x _ = H12
  have hiH12 : H12 x = some (.ins (aWeave K) dx (wvF ba la ka ea ra)) := by rw [← hh]; exact upd_same
  have frH12 : Fr [x] H11 H12 := by rw [← hh]; exact Fr.mut hiH11
  clear hh
  -- all at H12
  have f1112 := frH12
  have f912 : Fr [x] H9 H12 := frH10.tr ((Fr.ex e11).tr f1112)
  have f712 : Fr [x] H7 H12 := frH8.tr ((Fr.ex e9).tr f912)
  have f512 : Fr [x] H5 H12 := frH6.tr ((Fr.ex e7).tr f712)
  have f312 : Fr [x] H3 H12 := frH4.tr ((Fr.ex e5).tr f512)
  have FH : Fr [x] H H12 := (Fr.ex E3).tr f312
  have ke : ∀ {G : Hp} {y : Addr} {o : HO}, Fr [x] G H12 → G y = some o → y ≠ x → H12 y = some o := fun f h n => f.k _ _ h fun z => n (List.mem_singleton.mp z)
  have back : ∀ {G : Hp} {y : Addr}, Fr [x] H G → G x ≠ none → G y = none → H y = none := fun {G y} f g h => f.fresh h fun a ha _ => by rw [List.mem_singleton.mp ha]; exact g
  have F6 : Fr [x] H H6 := (F4.up e5).tr frH6
  have F8 : Fr [x] H H8 := (F6.up e7).tr frH8
  have F10 : Fr [x] H H10 := (F8.up e9).tr frH10
  have gla := back F4 (nn hiH4) hla
  have gka := back F6 (nn hiH6) hka
  have gea := back F8 (nn hiH8) hea
  have gra := back F10 (nn hiH10) hra
  have nta : ta ≠ x := nx hta (nn hx)
  have nma : ma ≠ x := nx hma (nn (e1 _ _ hx))
  have nba : ba ≠ x := nx hba (nn ((e1.trans e2) _ _ hx))
  have hne : ∀ {G : Hp} {y z : Addr} {o : HO}, G y = none → G z = some o → y ≠ z := fun h1 h2 e => by rw [e, h2] at h1; cases h1
  -- those that came first are not those that came later
  have l6 : H6 la = some (.dK kl) := frH6.k _ _ h5 fun z => nla (List.mem_singleton.mp z)
  have l8 : H8 la = some (.dK kl) := frH8.k _ _ (e7 _ _ l6) fun z => nla (List.mem_singleton.mp z)
  have k8 : H8 ka = some (.dK []) := frH8.k _ _ h7 fun z => nka (List.mem_singleton.mp z)
  have l10 : H10 la = some (.dK kl) := frH10.k _ _ (e9 _ _ l8) fun z => nla (List.mem_singleton.mp z)
  have k10 : H10 ka = some (.dK []) := frH10.k _ _ (e9 _ _ k8) fun z => nka (List.mem_singleton.mp z)
  have e10 : H10 ea = some (.dK []) := frH10.k _ _ h9 fun z => nea (List.mem_singleton.mp z)
  have a1 : ka ≠ la := hne hka l6
  have a2 : ea ≠ la := hne hea l8
  have a3 : ea ≠ ka := hne hea k8
  have a4 : ra ≠ la := hne hra l10
  have a5 : ra ≠ ka := hne hra k10
  have a6 : ra ≠ ea := hne hra e10
  have t4 : H4 ta = some (.dK kt) := frH4.k _ _ ((e2.trans e3) _ _ h1) fun z => nta (List.mem_singleton.mp z)
  have m4 : H4 ma = some (.dK km) := frH4.k _ _ (e3 _ _ h2) fun z => nma (List.mem_singleton.mp z)
  have m12 : ∀ {y : Addr} {o : HO}, H4 y = some o → y ≠ x → y ≠ la ∧ y ≠ ea ∧ y ≠ ka ∧ y ≠ ra := fun {y o} h n => by
    have g6 : H6 y = some o := frH6.k _ _ (e5 _ _ h) fun z => n (List.mem_singleton.mp z)
    have g8 : H8 y = some o := frH8.k _ _ (e7 _ _ g6) fun z => n (List.mem_singleton.mp z)
    have g10 : H10 y = some o := frH10.k _ _ (e9 _ _ g8) fun z => n (List.mem_singleton.mp z)
    exact ⟨fun z => hne hla h z.symm, fun z => hne hea g8 z.symm, fun z => hne hka g6 z.symm, fun z => hne hra g10 z.symm⟩
  have dh12 : DT K H12 la encHd held := ⟨kl, ke f512 h5 nla, dkl.mono fun v q _ d => Dp.tu FH.t _ _ (immHd q.2) d⟩
  have co : Core K (YV K made) ⟨la, ea, ka, ra⟩ [] H12 (startM held) :=
    ⟨dh12, .nil (ke f912 h9 nea), ke f712 h7 nka, rfl, fun n a t h => (by cases h), ⟨[], ke f1112 h11 nra, .nil⟩, (by
      show [la, ea, ka, ra].Nodup
      have b1 : la ≠ ea := a2.symm
      have b2 : la ≠ ka := a1.symm
      have b3 : la ≠ ra := a4.symm
      have b4 : ea ≠ ra := a6.symm
      have b5 : ka ≠ ra := a5.symm
      simp [b1, b2, b3, a3, b4, b5]), List.nodup_nil⟩
  have no4 : ∀ {y : Addr}, y ≠ la ∧ y ≠ ea ∧ y ≠ ka ∧ y ≠ ra → y ∉ fpW (YV K made) ⟨la, ea, ka, ra⟩ [] := fun h z => by
    rcases mem_fpW.mp z with z | z | z | z | z
    · exact h.1 z
    · exact h.2.1 z
    · exact h.2.2.1 z
    · exact h.2.2.2 z
    · cases z
  have l12 : VW K ⟨x, ba, ta, ma, ⟨la, ea, ka, ra⟩⟩ ns told made [] H12 (startM held) :=
    ⟨⟨dx, hiH12⟩, bk3.keep bo (fun y hy o ho => ke f312 ho (by rcases hy with rfl | rfl <;> assumption)) f312.t, bo, co, no4 ⟨nla.symm, nea.symm, nka.symm, nra.symm⟩, no4 (m12 t4 nta), no4 (m12 m4 nma)⟩
  have fr0 : ∀ y ∈ fpW (YV K made) ⟨la, ea, ka, ra⟩ ([] : As (YV K made).A), H y = none := fun y hy => by
    rcases mem_fpW.mp hy with rfl | rfl | rfl | rfl | z
    · exact gla
    · exact gea
    · exact gka
    · exact gra
    · cases z
  have nnm : nm ≠ x := fun z => by rw [z, hx] at hnm; cases hnm
  have hnm12 := ke FH hnm nnm
  have nmo : nm ∉ fpW (YV K made) ⟨la, ea, ka, ra⟩ ([] : As (YV K made).A) := fun z => by
    have := fr0 nm z
    rw [hnm] at this
    cases this
  refine ⟨_, rfl, nm, rfl, ⟨_, SqL.of hnm12⟩, for_list (K := K) (a := nm) (xs := xs.map V.str) (fun i σ H' => ∃ (y4 : Option V) (ad' : As (YV K made).A), σ = [some (.ref x), some (.ref b), some (.ref hl), some (.ref nm), y4] ∧ Stp (fpW (YV K made) ⟨la, ea, ka, ra⟩ []) (fpW (YV K made) ⟨la, ea, ka, ra⟩ ad') H12 H' ∧ VW K ⟨x, ba, ta, ma, ⟨la, ea, ka, ra⟩⟩ ns told made ad' H' (openAll made (xs.take i) (startM held)) ∧ OkSm ns told made (openAll made (xs.take i) (startM held)))
    ⟨_, [], rfl, Stp.refl _ _, l12, start_ok oh⟩ ?_ ?_ ?_⟩
  · rintro i σ H' _ ⟨y4, ad', rfl, st, _⟩
    exact SqL.of (st.keep hnm12 nmo)
  · rintro i v σ H13 hv ⟨y4, ad', rfl, st, l13, ok13⟩
    rw [List.getElem?_map] at hv
    obtain ⟨n, hn, rfl⟩ : ∃ n, xs[i]? = some n ∧ v = .str n := by
      cases q : xs[i]? with
      | none => rw [q] at hv; cases hv
      | some a => rw [q] at hv; cases hv; exact ⟨a, rfl, rfl⟩
    obtain ⟨z1, z2, z3, z4⟩ := ok13.szs bo hns
    obtain ⟨dx13, hv13⟩ := l13.hv
    have es : openAll made (xs.take (i + 1)) (startM held) = opensM made n (openAll made (xs.take i) (startM held)) := by
      rw [List.take_add_one, hn]
      exact openAll_snoc
    refine ⟨_, rfl, x, dx13, _, rfl, hv13, wf_m _ (by simp), _, rfl, ⟨x, ba, ta, ma, ⟨la, ea, ka, ra⟩⟩, ns, told, made, ad', _, n, rfl, l13, by omega, fun ad14 H14 st14 l14 => ⟨_, ad14, rfl, st.trans st14, ?_, ?_⟩⟩
    · rw [es]
      exact l14
    · rw [es]
      exact (opens_ok bo ok13).1
  · rintro σ H13 ⟨y4, ad', rfl, st, l13, ok13⟩
    rw [List.length_map, List.take_length] at l13 ok13
    obtain ⟨dx13, hv13⟩ := l13.hv
    refine ⟨_, rfl, x, dx13, _, rfl, hv13, wf_m _ (by simp), ⟨x, ba, ta, ma, ⟨la, ea, ka, ra⟩⟩, ns, told, made, ad', _, rfl, l13, ok13, hns, fun ad14 H14 st14 l14 => ?_⟩
    have stA := st.trans st14
    refine k ⟨x, ba, ta, ma, ⟨la, ea, ka, ra⟩⟩ ad14 H14 rfl (FH.trans stA.f fun a ha => .inr (fr0 a ha)) (fun y hy => ?_) l14
    rcases List.mem_cons.mp hy with rfl | hy
    · exact hbaH
    rcases List.mem_cons.mp hy with rfl | hy
    · exact hta
    rcases List.mem_cons.mp hy with rfl | hy
    · exact hmaH
    rcases stA.s y hy with z | z
    · exact fr0 y z
    · exact back FH (nn hiH12) z
end
end Wk
namespace Wk
open PySem PySem.Spec PySem.SeqAt PyProof.Rows
open AutoSeq1 (wpAny_loadPart')
open MeetsSeq MeetsSeq2 MeetsSeq3 SeqRoads2
/-! ### != of nested things that are equal -/
section
variable {prog : Program} {w : World}
theorem ne_loopT (l b : Addr) (items items2 : Array Value) (n n2 : Nat) (dd dd2 : Option Addr) (sl sl2 : Array (Option Value)) (hsz : items.size = items2.size) (k : Nat) :
    ∀ i : Nat, items.size - i = k → MeetsIn prog w (Builtin.«list.__eq__.loop» ⟨[.ref l, .ref b, rawInt i, rawInt 3], []⟩)
      (fun A R s => s.heap.get? l = some { cls := .type "list", dict := dd, data := .seq items n, slots := sl } ∧ s.heap.get? b = some { cls := .type "list", dict := dd2, data := .seq items2 n2, slots := sl2 } ∧
        (∀ j (h1 : j < items.size) (h2 : j < items2.size), EqIn prog w A.in1 s items[j] items2[j] true) ∧ R (.ok (.ret (.bool false))) s) := by
  induction k with
  | zero =>
    intro i hk A R s h
    obtain ⟨hp, g, d, tk, os⟩ := s
    obtain ⟨hl, hb, he, h⟩ := h
    wp_walk using wpAny_loadPart' hl, wpAny_loadPart' hb
    have hi1 : items[((i : Nat) : Int).toNat]? = none := by simp; omega
    have hi2 : items2[((i : Nat) : Int).toNat]? = none := by simp; omega
    rw [hi1, hi2]
    wp_walk using wpAny_loadPart' hl, wpAny_loadPart' hb
    show R (.ok (.ret (.bool (items.size != items2.size)))) _
    rw [hsz]
    simpa using h
  | succ k ih =>
    intro i hk A R s h
    obtain ⟨hp, g, d, tk, os⟩ := s
    obtain ⟨hl, hb, he, h⟩ := h
    wp_walk using wpAny_loadPart' hl, wpAny_loadPart' hb
    have hlt : i < items.size := by omega
    have hlt2 : i < items2.size := by omega
    have hi1 : items[((i : Nat) : Int).toNat]? = some items[i] := by simp [hlt]
    have hi2 : items2[((i : Nat) : Int).toNat]? = some items2[i] := by simp [hlt2]
    have hc : ((i : Int) + 1) = ((i + 1 : Nat) : Int) := by omega
    rw [hi1, hi2]
    refine wpAny_bind (he i hlt hlt2 _ _ ?_)
    wp_walk
    rw [hc]
    exact ⟨plainId_quiet plain_eq_loop _, codeAny_builtin entry_eq_loop (by
      rw [Around.under_plainId plain_eq_loop _]
      exact ih (i + 1) (by omega) A R _ ⟨hl, hb, he, h⟩)⟩
theorem list_neT (l b : Addr) (items items2 : Array Value) (n n2 : Nat) (dd dd2 : Option Addr) (sl sl2 : Array (Option Value)) (hsz : items.size = items2.size) :
    MeetsIn prog w (Builtin.«list.__ne__» ⟨[.ref l, .ref b], []⟩)
      (fun A R s => s.heap.get? l = some { cls := .type "list", dict := dd, data := .seq items n, slots := sl } ∧ s.heap.get? b = some { cls := .type "list", dict := dd2, data := .seq items2 n2, slots := sl2 } ∧
        (∀ j (h1 : j < items.size) (h2 : j < items2.size), EqIn prog w A.in1 s items[j] items2[j] true) ∧ R (.ok (.ret (.bool false))) s) := by
  intro A R s h
  obtain ⟨hp, g, d, tk, os⟩ := s
  obtain ⟨hl, hb, he, h⟩ := h
  have f3 := AutoSeq1.sub_list_list
  have hne : ¬ (items.size != items2.size) = true := by simp [hsz]
  wp_walk using wpAny_loadPart' hl, wpAny_loadPart' hb
  exact ⟨plainId_quiet plain_eq_loop _, codeAny_builtin entry_eq_loop (by
    rw [Around.under_plainId plain_eq_loop _]
    exact ne_loopT l b items items2 n n2 dd dd2 sl sl2 hsz _ 0 rfl A R _ ⟨hl, hb, he, h⟩)⟩
theorem tuple_neT (l b : Addr) (items items2 : Array Value) (n n2 : Nat) (dd dd2 : Option Addr) (sl sl2 : Array (Option Value)) (hsz : items.size = items2.size) :
    MeetsIn prog w (Builtin.«tuple.__ne__» ⟨[.ref l, .ref b], []⟩)
      (fun A R s => s.heap.get? l = some { cls := .type "tuple", dict := dd, data := .seq items n, slots := sl } ∧ s.heap.get? b = some { cls := .type "tuple", dict := dd2, data := .seq items2 n2, slots := sl2 } ∧
        (∀ j (h1 : j < items.size) (h2 : j < items2.size), EqIn prog w A.in1 s items[j] items2[j] true) ∧ R (.ok (.ret (.bool false))) s) :=
  .of_wp fun A R s h => by
    obtain ⟨hp, g, d, tk, os⟩ := s
    obtain ⟨hl, hb, he, h⟩ := h
    have f2 := AutoSeq1.sub_tuple_tuple
    have hZ : (items.toList.zip items2.toList).length = min items.size items2.size := by simp
    wp_walk using wpAny_loadPart' hl, wpAny_loadPart' hb, wpAny_forIn_list _ (fun rest b s' => b.1 = none ∧ s' = ⟨hp, g, d, tk, os⟩ ∧ ∃ i, rest = (items.toList.zip items2.toList).drop i) _
    case turn =>
      rintro ⟨y, x⟩ rest b s' ⟨hb', rfl, i, hz⟩
      have hlt : i < (items.toList.zip items2.toList).length := by
        rcases Nat.lt_or_ge i (items.toList.zip items2.toList).length with h' | h'
        · exact h'
        · rw [List.drop_of_length_le h'] at hz; cases hz
      have hm : i < min items.size items2.size := hZ ▸ hlt
      have h1 : i < items.size := Nat.lt_of_lt_of_le hm (Nat.min_le_left _ _)
      have h2 : i < items2.size := Nat.lt_of_lt_of_le hm (Nat.min_le_right _ _)
      rw [List.drop_eq_getElem_cons hlt] at hz
      injection hz with hyx hrest
      have hy : y = items[i] := by have := congrArg Prod.fst hyx; simpa using this
      have hx : x = items2[i] := by have := congrArg Prod.snd hyx; simpa using this
      subst hy hx
      refine wpAny_bind (he i h1 h2 _ _ ?_)
      wp_walk
      exact ⟨rfl, rfl, i + 1, hrest⟩
    case fin =>
      rintro ⟨b1, b2⟩ s' ⟨hb', rfl, i, hz⟩
      simp only at hb'
      subst hb'
      wp_walk
      exact ⟨_, rfl, by simpa [Builtin.Tuple.tupleCompareSizes, bne, hsz] using h⟩
    case h =>
      exact ⟨rfl, rfl, 0, rfl⟩
end
section
variable {prog : Program} {w : World} {A : Around} {s : Shared}
theorem rcNe_lists {E : Value → Shared → Prop} {l b : Addr} {items items2 : Array Value} {Q : Value → Shared → Prop} (hl : s.heap.IsList l items) (hb : s.heap.IsList b items2) (hsz : items.size = items2.size) (hu : A.units < cLine)
    (he : ∀ j (h1 : j < items.size) (h2 : j < items2.size), EqIn prog w A.in1 s items[j] items2[j] true) (h : Q (.bool false) s) : wpAny (model prog w) A (richCompare .NotEq (.ref l) (.ref b)) Q E s := by
  obtain ⟨⟨cls, dd, data, sl⟩, ho, hc, n, hd⟩ := id hl
  obtain ⟨⟨cls2, dd2, data2, sl2⟩, ho2, hc2, n2, hd2⟩ := id hb
  simp only at hc hd hc2 hd2
  subst hc hd hc2 hd2
  exact wpAny_richCompare_same_room (T := "list") (op := .NotEq) ⟨_, ho, rfl⟩ ⟨_, ho2, rfl⟩ F.slot_list_ne (call_meetsIn F.slot_list_ne ⟨_, ho, rfl⟩ F.entry_list_ne (F.args_list_ne_2 _ _) (list_neT l b items items2 n n2 dd dd2 sl sl2 hsz)
    ⟨ho, ho2, he, show Value.bool false ≠ Value.notImplemented ∧ Q (.bool false) s from ⟨(fun x => nomatch x), h⟩⟩) hu
theorem rcNe_tuples {E : Value → Shared → Prop} {l b : Addr} {items items2 : Array Value} {Q : Value → Shared → Prop} (hl : s.heap.IsTuple l items) (hb : s.heap.IsTuple b items2) (hsz : items.size = items2.size) (hu : A.units < cLine)
    (he : ∀ j (h1 : j < items.size) (h2 : j < items2.size), EqIn prog w A.in1 s items[j] items2[j] true) (h : Q (.bool false) s) : wpAny (model prog w) A (richCompare .NotEq (.ref l) (.ref b)) Q E s := by
  obtain ⟨⟨cls, dd, data, sl⟩, ho, hc, n, hd⟩ := id hl
  obtain ⟨⟨cls2, dd2, data2, sl2⟩, ho2, hc2, n2, hd2⟩ := id hb
  simp only at hc hd hc2 hd2
  subst hc hd hc2 hd2
  exact wpAny_richCompare_same_room (T := "tuple") (op := .NotEq) ⟨_, ho, rfl⟩ ⟨_, ho2, rfl⟩ F.slot_tuple_ne (call_meetsIn F.slot_tuple_ne ⟨_, ho, rfl⟩ F.entry_tuple_ne (F.args_tuple_ne_2 _ _) (tuple_neT l b items items2 n n2 dd dd2 sl sl2 hsz)
    ⟨ho, ho2, he, show Value.bool false ≠ Value.notImplemented ∧ Q (.bool false) s from ⟨(fun x => nomatch x), h⟩⟩) hu
end
end Wk
namespace Wk
open PySem PySem.Spec PyProof.Rows L2 SX
mutual
theorem imm_plain : ∀ d : PyData, imm d = true → d.plain = true
  | .none, _ => rfl
  | .bool _, _ => rfl
  | .int _, _ => rfl
  | .str _, _ => rfl
  | .list _, h => by cases h
  | .dict _, h => by cases h
  | .tuple ds, h => immAll_plain ds h
theorem immAll_plain : ∀ ds : List PyData, immAll ds = true → PyData.plainAll ds = true
  | [], _ => rfl
  | d :: ds, h => by
    have h : (imm d && immAll ds) = true := h
    rw [Bool.and_eq_true] at h
    show (d.plain && PyData.plainAll ds) = true
    rw [imm_plain d h.1, immAll_plain ds h.2]
    rfl
end
/-- equal, of nesting below n -/
def EqN (K : PySem.W.Frag) (H : Hp) : Nat → V → V → Prop
  | 0, _, _ => False
  | n + 1, x, y => (∃ d, Dp K H x d ∧ Dp K H y d ∧ imm d = true ∧ d.depth ≤ n) ∨ (∃ a b xs ys, x = .ref a ∧ y = .ref b ∧ SqL K H a xs ∧ SqL K H b ys ∧ Paired (EqN K H n) xs ys) ∨
    (∃ a b xs ys, x = .ref a ∧ y = .ref b ∧ SqT K H a xs ∧ SqT K H b ys ∧ Paired (EqN K H n) xs ys) ∨
    ∃ a b ks ls, x = .ref a ∧ y = .ref b ∧ H a = some (.dK ks) ∧ H b = some (.dK ls) ∧ ks.length = ls.length ∧ ∀ p ∈ ks, ∃ u, valV ls p.1 = some u ∧ EqN K H n p.2 u
section
variable {X : Cx} {pins : List (Addr × Obj)} {σ : L2.St} {H : Hp} {s : Shared}
theorem eqN_run (I : Inv X pins σ H s) : ∀ (n : Nat) (A : Around), A.units + n < cLine → ∀ (x y : V) (v u : Value), EqN X.K H n x y → RelV x v → RelV y u → SeqAt.EqP X.prog X.w A s v u true
  | 0, _, _, _, _, _, _, h, _, _ => (show False from h).elim
  | n + 1, A, hu, x, y, v, u, h, rx, ry => by
    have ih := eqN_run I n A.in1 (by show A.units + 1 + n < cLine; omega)
    rcases h with ⟨d, hd, he, hi, hn⟩ | ⟨a, b, xs, ys, rfl, rfl, ha, hb, hp⟩ | ⟨a, b, xs, ys, rfl, rfl, ha, hb, hp⟩ | ⟨a, b, ks, ls, rfl, rfl, ha, hb, hl, hp⟩
    · obtain ⟨as, r1⟩ := Dp.reads I d x v hd rx
      obtain ⟨bs, r2⟩ := Dp.reads I d y u he ry
      have q := PySem.SeqAt.eqAt_plain d d A s v u as bs r1 r2 (imm_plain d hi) (imm_plain d hi) (by omega)
      rw [PySem.SeqAt.eqv_refl_plain d (imm_plain d hi)] at q
      exact q.eqP
    · cases (show v = Value.ref a from rx)
      cases (show u = Value.ref b from ry)
      by_cases e : a = b
      · subst e
        exact (SeqAt.EqAt.same _).eqP
      obtain ⟨us, r1, p1, _⟩ := I.list ha
      obtain ⟨ws, r2, p2, _⟩ := I.list hb
      have hsz : us.toArray.size = ws.toArray.size := by
        rw [List.size_toArray, List.size_toArray, ← r1.length, ← r2.length]
        exact Paired.length hp
      refine SeqAt.eqP_refs e fun E Q q => SeqAt.rcP_lists (e := fun _ => true) p1.isList p2.isList hsz (by omega) (fun j h1 h2 => ?_) E Q ?_
      · have k := items_run ih hp r1 r2 j (by simpa using h1) (by simpa using h2)
        simpa using k
      · rw [show ((List.range us.toArray.size).all fun _ => true) = true from List.all_eq_true.mpr fun _ _ => rfl]
        exact q
    · cases (show v = Value.ref a from rx)
      cases (show u = Value.ref b from ry)
      by_cases e : a = b
      · subst e
        exact (SeqAt.EqAt.same _).eqP
      obtain ⟨us, r1, p1, _⟩ := I.tuple ha
      obtain ⟨ws, r2, p2, _⟩ := I.tuple hb
      have hsz : us.toArray.size = ws.toArray.size := by
        rw [List.size_toArray, List.size_toArray, ← r1.length, ← r2.length]
        exact Paired.length hp
      refine SeqAt.eqP_refs e fun E Q q => PySem.SeqAt.rcIn_tuples (e := fun _ => true) p1 p2 (by omega) (fun j h1 h2 => ?_) ?_
      · have k := items_run ih hp r1 r2 j (by simpa using h1) (by simpa using h2)
        have k' : SeqAt.EqP X.prog X.w A.in1 s us.toArray[j] ws.toArray[j] true := by simpa using k
        exact k'
      · rw [show ((List.range (min us.toArray.size ws.toArray.size)).all fun _ => true) = true from List.all_eq_true.mpr fun _ _ => rfl, hsz]
        simpa using q
    · cases (show v = Value.ref a from rx)
      cases (show u = Value.ref b from ry)
      by_cases e : a = b
      · subst e
        exact (SeqAt.EqAt.same _).eqP
      obtain ⟨_, ya, va, ra, da⟩ := (show ObjOk X.prog X.w H s.heap a (.dK ks) from I.hok a _ ha)
      obtain ⟨_, yb, vb, rb, db⟩ := (show ObjOk X.prog X.w H s.heap b (.dK ls) from I.hok b _ hb)
      refine SeqAt.eqP_refs e fun E Q q => PySem.W.rcP_dicts (knd := mixKind X.prog X.w) (r := true) ya yb da db (by omega) (fun _ => hits_run ih rb ra hp) E Q ?_
      have e : va.length = vb.length := by rw [← ra.length, ← rb.length]; exact hl
      rw [show (va.length == vb.length && true) = true from by rw [e]; simp]
      exact q
end
section
variable {X : Cx}
/-- a != b, two lists or two tuples that are equal -/
def rNeN (K : PySem.W.Frag) : R2 := fun x y H Q => ∃ n, n ≤ 60 ∧ ((∃ a b xs ys, x = .ref a ∧ y = .ref b ∧ SqL K H a xs ∧ SqL K H b ys ∧ Paired (EqN K H n) xs ys) ∨ (∃ a b xs ys, x = .ref a ∧ y = .ref b ∧ SqT K H a xs ∧ SqT K H b ys ∧ Paired (EqN K H n) xs ys)) ∧ Q (.bl false) H
theorem op_neN (hu : X.A.units + 64 < cLine) : OpR X (compareOp .NotEq) (rNeN X.K) := by
  intro pins s σ H x y v u Q I rx ry h
  obtain ⟨n, hn, h, q⟩ := h
  have ih := eqN_run I n X.A.in1 (by show X.A.units + 1 + n < cLine; omega)
  rcases h with ⟨a, b, xs, ys, rfl, rfl, ha, hb, hp⟩ | ⟨a, b, xs, ys, rfl, rfl, ha, hb, hp⟩
  · cases (show v = Value.ref a from rx)
    cases (show u = Value.ref b from ry)
    obtain ⟨us, r1, p1, _⟩ := I.list ha
    obtain ⟨ws, r2, p2, _⟩ := I.list hb
    have hsz : us.toArray.size = ws.toArray.size := by
      rw [List.size_toArray, List.size_toArray, ← r1.length, ← r2.length]
      exact Paired.length hp
    refine rcNe_lists p1.isList p2.isList hsz (by omega) (fun j h1 h2 => ?_) ⟨.bl false, H, I, rfl, q⟩
    have k := items_run ih hp r1 r2 j (by simpa using h1) (by simpa using h2)
    have k' : SeqAt.EqP X.prog X.w X.A.in1 s us.toArray[j] ws.toArray[j] true := by simpa using k
    exact k'
  · cases (show v = Value.ref a from rx)
    cases (show u = Value.ref b from ry)
    obtain ⟨us, r1, p1, _⟩ := I.tuple ha
    obtain ⟨ws, r2, p2, _⟩ := I.tuple hb
    have hsz : us.toArray.size = ws.toArray.size := by
      rw [List.size_toArray, List.size_toArray, ← r1.length, ← r2.length]
      exact Paired.length hp
    refine rcNe_tuples p1 p2 hsz (by omega) (fun j h1 h2 => ?_) ⟨.bl false, H, I, rfl, q⟩
    have k := items_run ih hp r1 r2 j (by simpa using h1) (by simpa using h2)
    have k' : SeqAt.EqP X.prog X.w X.A.in1 s us.toArray[j] ws.toArray[j] true := by simpa using k
    exact k'
end
end Wk
namespace Wk
open PySem PySem.Spec PyProof.Rows L2 SX
section
variable {K : PySem.W.Frag} {H : Hp} {α : Type}
theorem DRel.pick {R : V → α → Prop} {kvs : List (Key × V)} {l : As α} (r : DRel R kvs l) : ∀ p ∈ kvs, ∃ q ∈ l, p.1 = Sum.inr q.1 ∧ R p.2 q.2 := by
  unfold DRel at r
  induction r with
  | nil => exact fun p h => (by cases h)
  | @cons kv q kvs l h t ih =>
    intro p hp
    rcases List.mem_cons.mp hp with rfl | hp
    · exact ⟨q, List.mem_cons_self, h.1, h.2⟩
    · obtain ⟨q', h1, h2⟩ := ih p hp
      exact ⟨q', List.mem_cons_of_mem _ h1, h2⟩
/-- two dicts of the same table are equal -/
theorem DT.eqn {a b : Addr} {enc : α → PyData} {l : As α} {n : Nat} (ha : DT K H a enc l) (hb : DT K H b enc l) (hd : (ks l).Nodup) (hi : ∀ p ∈ l, imm (enc p.2) = true ∧ (enc p.2).depth ≤ n) : EqN K H (n + 2) (.ref a) (.ref b) := by
  obtain ⟨k1, g1, r1⟩ := ha
  obtain ⟨k2, g2, r2⟩ := hb
  refine .inr (.inr (.inr ⟨a, b, k1, k2, rfl, rfl, g1, g2, by rw [r1.len, r2.len], fun p hp => ?_⟩))
  obtain ⟨q, hq, e1, e2⟩ := r1.pick p hp
  have hl := lk_of_mem hd (show (q.1, q.2) ∈ l from hq)
  rcases r2.lk q.1 with ⟨_, z⟩ | ⟨u, x, h1, h2, h3⟩
  · rw [hl] at z
    cases z
  · rw [hl] at h2
    cases h2
    exact ⟨u, by rw [e1]; exact h1, .inl ⟨_, e2, h3, (hi q hq).1, (hi q hq).2⟩⟩
/-- the same data, told twice -/
theorem eqn_all : ∀ {xs ys : List V} {ds : List PyData} {n : Nat}, DpAll K H xs ds → DpAll K H ys ds → (∀ d ∈ ds, imm d = true ∧ d.depth ≤ n) → Paired (EqN K H (n + 1)) xs ys
  | _, _, [], _, h1, h2, _ => by
    cases h1
    cases h2
    exact .nil
  | _, _, d :: ds, n, h1, h2, hi => by
    cases h1 with
    | cons a1 b1 =>
      cases h2 with
      | cons a2 b2 => exact .cons (.inl ⟨d, a1, a2, (hi d List.mem_cons_self).1, (hi d List.mem_cons_self).2⟩) (eqn_all b1 b2 fun x hx => hi x (List.mem_cons_of_mem _ hx))
end
theorem depth_L {n : Nat} {l : Lf} (h : wfL n l = true) : (encL l).depth ≤ 5 := by
  cases l with
  | put v =>
    have := (okV_vp (show okV v = true from h)).2.1
    simp [encL, PyData.depth, PyData.depthAll]
    omega
  | got k => simp [encL, PyData.depth, PyData.depthAll]
theorem depth_X {n : Nat} {e : Xp} (h : wfX n e = true) : (encX e).depth ≤ 7 := by
  have hs := wfX_sub h
  cases e with
  | lf l =>
    have := depth_L (l := l) h
    show (encL l).depth ≤ 7
    omega
  | many l =>
    have := depth_L (hs l (by simp [subsX]))
    simp [encX, PyData.depth, PyData.depthAll]
    omega
  | row a b =>
    have := depth_L (hs a (by simp [subsX]))
    have := depth_L (hs b (by simp [subsX]))
    simp [encX, PyData.depth, PyData.depthAll]
    omega
  | bin o a b =>
    have := depth_L (hs a (by simp [subsX]))
    have := depth_L (hs b (by simp [subsX]))
    simp [encX, PyData.depth, PyData.depthAll]
    omega
theorem depth_R : ∀ {n : Nat} {r : Rc}, wfR n r = true → (encR r).depth ≤ 8 + depthR r
  | n, .say e, h => by
    have := depth_X (e := e) h
    simp [encR, PyData.depth, PyData.depthAll]
    omega
  | n, .fail w, h => by
    simp [encR, PyData.depth, PyData.depthAll]
    omega
  | n, .ask p e r, h => by
    have h1 := (Bool.and_eq_true _ _).mp (show (wfX n e && wfR (n + 1) r) = true from h)
    have := depth_X h1.1
    have := depth_R h1.2
    simp [encR, PyData.depth, PyData.depthAll, depthR]
    omega
  | n, .when_ e a b, h => by
    have h1 := (Bool.and_eq_true _ _).mp (show (wfX n e && (wfR n a && wfR n b)) = true from h)
    have h2 := (Bool.and_eq_true _ _).mp h1.2
    have := depth_X h1.1
    have := depth_R h2.1
    have := depth_R h2.2
    simp [encR, PyData.depth, PyData.depthAll, depthR]
    omega
theorem depth_Ss : ∀ qs : List Pr, PyData.depthAll (qs.map encS) ≤ 1
  | [] => by simp [PyData.depthAll]
  | q :: qs => by
    have := depth_Ss qs
    simp [PyData.depthAll, encS, PyData.depth]
    omega
theorem depth_Hd (h : Hd) : (encHd h).depth ≤ 4 := by
  have := depth_Ss h.2.rd
  have e : (encE h.2.en).depth ≤ 1 := by cases h.2.en <;> simp [encE, PyData.depth, PyData.depthAll]
  simp [encHd, encLn, PyData.depth, PyData.depthAll]
  omega
theorem depth_row (q : Str × Str) : (encRow q).depth ≤ 1 := by simp [encRow, PyData.depth, PyData.depthAll]
section
variable {K : PySem.W.Frag} {p : Pl} {ns : List Str} {told : As PyData} {made : As Rc} {H H' : Hp} {s : Sm}
/-- the weave, beside what was touched -/
theorem VW.beside {ad : As (YV K made).A} (l : VW K p ns told made ad H s) {q : List Addr} (f : Fr q H H') (h : ∀ x ∈ p.wa :: p.ta :: p.ma :: fpW (YV K made) p.w ad, x ∉ q) : VW K p ns told made ad H' s := by
  obtain ⟨dx, hv⟩ := l.hv
  refine ⟨⟨dx, f.k _ _ hv (h _ (by simp))⟩, l.bk.keep l.bo (fun x hx o ho => f.k x o ho (h x (by rcases hx with rfl | rfl <;> simp))) f.t, l.bo, l.co.up (fun x hx o ho => f.k x o ho (h x (by simp [hx]))) f.t, l.dw, l.dt, l.dm⟩
theorem LW.beside {ad : As (YL K).A} (l : LW K p ad ns told made H s) {q : List Addr} (f : Fr q H H') (h : ∀ x ∈ p.wa :: p.ta :: p.ma :: fpW (YL K) p.w ad, x ∉ q) : LW K p ad ns told made H' s := by
  refine ⟨f.k _ _ l.hw (h _ (by simp)), l.bk.keep l.bo (fun x hx o ho => f.k x o ho (h x (by rcases hx with rfl | rfl <;> simp))) f.t, l.bo, l.co.up (fun x hx o ho => f.k x o ho (h x (by simp [hx]))) f.t, l.dw, l.dt, l.dm⟩
end
end Wk
namespace Wk
open PySem PySem.Spec PyProof.Rows L2 SX
section
variable {K : PySem.W.Frag} {p pv : Pl} {ns : List Str} {told : As PyData} {made : As Rc} {H H' : Hp} {s s' : Sm}
/-- the law's world and the weave, side by side -/
structure Two (K : PySem.W.Frag) (p pv : Pl) (ns : List Str) (told : As PyData) (made : As Rc) (ad : As (YL K).A) (adv : As (YV K made).A) (H : Hp) (sl sv : Sm) : Prop where
  l : LW K p ad ns told made H sl
  v : VW K pv ns told made adv H sv
  a : ∀ x ∈ pv.wa :: pv.ta :: pv.ma :: fpW (YV K made) pv.w adv, x ∉ fpW (YL K) p.w ad
  b : ∀ x ∈ p.wa :: p.ta :: p.ma :: fpW (YL K) p.w ad, x ∉ fpW (YV K made) pv.w adv
theorem VW.alloc {adv : As (YV K made).A} (v : VW K pv ns told made adv H s) : ∀ x ∈ pv.wa :: pv.ta :: pv.ma :: fpW (YV K made) pv.w adv, ∃ o, H x = some o := fun x hx => by
  obtain ⟨dx, hv⟩ := v.hv
  obtain ⟨⟨o1, h1⟩, ⟨o2, h2⟩⟩ := v.bk.tne
  rcases List.mem_cons.mp hx with rfl | hx
  · exact ⟨_, hv⟩
  rcases List.mem_cons.mp hx with rfl | hx
  · exact ⟨_, h1⟩
  rcases List.mem_cons.mp hx with rfl | hx
  · exact ⟨_, h2⟩
  · have := v.co.alloc x hx
    cases q : H x with
    | none => exact absurd q this
    | some o => exact ⟨o, rfl⟩
theorem LW.alloc {ad : As (YL K).A} (l : LW K p ad ns told made H s) : ∀ x ∈ p.wa :: p.ta :: p.ma :: fpW (YL K) p.w ad, ∃ o, H x = some o := fun x hx => by
  obtain ⟨⟨o1, h1⟩, ⟨o2, h2⟩⟩ := l.bk.tne
  rcases List.mem_cons.mp hx with rfl | hx
  · exact ⟨_, l.hw⟩
  rcases List.mem_cons.mp hx with rfl | hx
  · exact ⟨_, h1⟩
  rcases List.mem_cons.mp hx with rfl | hx
  · exact ⟨_, h2⟩
  · have := l.co.alloc x hx
    cases q : H x with
    | none => exact absurd q this
    | some o => exact ⟨o, rfl⟩
variable {ad ad' : As (YL K).A} {adv adv' : As (YV K made).A} {sl sv sl' sv' : Sm}
theorem Two.ex (t : Two K p pv ns told made ad adv H sl sv) (e : Ex H H') : Two K p pv ns told made ad adv H' sl sv := ⟨t.l.ex e, t.v.ex e, t.a, t.b⟩
theorem Two.stepL (t : Two K p pv ns told made ad adv H sl sv) (st : Stp (fpW (YL K) p.w ad) (fpW (YL K) p.w ad') H H') (l : LW K p ad' ns told made H' sl') : Two K p pv ns told made ad' adv H' sl' sv := by
  refine ⟨l, t.v.beside st.f t.a, fun x hx => ?_, fun x hx => ?_⟩
  · obtain ⟨o, ho⟩ := t.v.alloc x hx
    exact st.out ho (t.a x hx)
  · rcases List.mem_cons.mp hx with rfl | hx
    · exact t.b _ (by simp)
    rcases List.mem_cons.mp hx with rfl | hx
    · exact t.b _ (by simp)
    rcases List.mem_cons.mp hx with rfl | hx
    · exact t.b _ (by simp)
    rcases st.s x hx with z | z
    · exact t.b x (by simp [z])
    · exact fun q => t.v.co.alloc x q z
theorem Two.stepV (t : Two K p pv ns told made ad adv H sl sv) (st : Stp (fpW (YV K made) pv.w adv) (fpW (YV K made) pv.w adv') H H') (v : VW K pv ns told made adv' H' sv') : Two K p pv ns told made ad adv' H' sl sv' := by
  refine ⟨t.l.beside st.f t.b, v, fun x hx => ?_, fun x hx => ?_⟩
  · rcases List.mem_cons.mp hx with rfl | hx
    · exact t.a _ (by simp)
    rcases List.mem_cons.mp hx with rfl | hx
    · exact t.a _ (by simp)
    rcases List.mem_cons.mp hx with rfl | hx
    · exact t.a _ (by simp)
    rcases st.s x hx with z | z
    · exact t.a x (by simp [z])
    · exact fun q => t.l.co.alloc x q z
  · obtain ⟨o, ho⟩ := t.l.alloc x hx
    exact st.out ho (t.b x hx)
end
section
variable {X : Cx}
/-- isinstance of a tuple that stands in the heap -/
def rIsiTup : List V → Hp → L2.VK → Prop := fun xs H Q => ∃ (a : Addr) (ys : List V), xs = [.ref a, .ty "tuple"] ∧ H a = some (.tup ys) ∧ Q (.bl true) H
theorem call_isiTup : CallR X (.builtin "isinstance") rIsiTup := by
  intro pins s σ H xs us Q I r h
  obtain ⟨a, ys, rfl, ha, q⟩ := h
  exact call_isi pins s σ H _ us Q I r ⟨.ref a, .ty "tuple", _, _, true, rfl, .ty "tuple", .base (.tup ha), kit_ty (by decide +kernel), q⟩
/-- the same of a list -/
def rIsiLst : List V → Hp → L2.VK → Prop := fun xs H Q => ∃ (a : Addr) (ys : List V), xs = [.ref a, .ty "list"] ∧ H a = some (.lst ys) ∧ Q (.bl true) H
theorem call_isiLst : CallR X (.builtin "isinstance") rIsiLst := by
  intro pins s σ H xs us Q I r h
  obtain ⟨a, ys, rfl, ha, q⟩ := h
  exact call_isi pins s σ H _ us Q I r ⟨.ref a, .ty "list", _, _, true, rfl, .ty "list", .base (.lst ha), kit_ty (by decide +kernel), q⟩
end
end Wk
namespace Wk
open PySem PySem.Spec PyProof.Rows L2 SX
/-! ### the law's loop -/
theorem rings_fin {made : As Rc} {s : Sm} (h : ableM made (ringsM made s) = []) : (ringsM made s).tk = [] := by
  unfold ringsM at h ⊢
  by_cases c : ableM made s = []
  · rw [if_pos c]
    show (foldR made (sortM (ks s.tk)) s).tk = []
    refine List.eq_nil_iff_forall_not_mem.mpr fun p hp => ?_
    have hk : p.1 ∈ ks (foldR made (sortM (ks s.tk)) s).tk := List.mem_map.mpr ⟨p, hp, rfl⟩
    obtain ⟨h1, h2⟩ := ks_foldR hk
    exact h2 (mem_sortM.mpr h1)
  · rw [if_neg c] at h
    exact absurd h c
theorem able_mem {made : As Rc} {s : Sm} {n : Str} (h : n ∈ ableM made s) : n ∈ ks s.tk := mem_sortM.mp ((List.mem_filter.mp h).1)
theorem able_len {made : As Rc} {s : Sm} : (ableM made s).length ≤ s.tk.length := by
  have h1 : (ableM made s).length ≤ (sortM (ks s.tk)).length := List.length_filter_le _ _
  rw [sortM_len, ks_len] at h1
  exact h1
theorem phi_start (made : As Rc) (held : As Hd) : phi made (startM held) ≤ 8 * made.length := by
  have h1 : ((ks made).filter (freeN (startM held))).length ≤ (ks made).length := List.length_filter_le _ _
  rw [ks_len] at h1
  show 0 + 8 * _ ≤ _
  omega
theorem BkOk.mle {ns : List Str} {told : As PyData} {made : As Rc} (b : BkOk ns told made) : made.length ≤ ns.length := by
  have := nodup_sub b.nm b.sm
  rw [ks_len] at this
  exact this
section
variable {K : PySem.W.Frag} {p pv : Pl} {ns : List Str} {told : As PyData} {made : As Rc} {H H' H1 H2 : Hp} {s s' sl sv : Sm} {n : Str}
variable {ad ad' : As (YL K).A} {adv adv' : As (YV K made).A} {x : Addr}
theorem moves_fin (o : OkSm ns told made s) (hn : n ∈ ks s.tk) : ableM made (movesM told made n s) = [] → (movesM told made n s).tk = [] := by
  have ht := lk_ks.mpr hn
  cases q : lk s.tk n with
  | none => rw [q] at ht; cases ht
  | some t =>
    obtain ⟨r, hr⟩ := made_lk (o.st n hn)
    unfold movesM
    rw [q, hr]
    exact rings_fin
/-- beside both worlds' footprints -/
def OutW (K : PySem.W.Frag) (p pv : Pl) (made : As Rc) (ad : As (YL K).A) (adv : As (YV K made).A) (x : Addr) : Prop := x ∉ fpW (YL K) p.w ad ∧ x ∉ fpW (YV K made) pv.w adv
theorem OutW.stepL {o : HO} (a : OutW K p pv made ad adv x) (h : H x = some o) (st : Stp (fpW (YL K) p.w ad) (fpW (YL K) p.w ad') H H') : OutW K p pv made ad' adv x := ⟨st.out h a.1, a.2⟩
theorem OutW.stepV {o : HO} (a : OutW K p pv made ad adv x) (h : H x = some o) (st : Stp (fpW (YV K made) pv.w adv) (fpW (YV K made) pv.w adv') H H') : OutW K p pv made ad adv' x := ⟨a.1, st.out h a.2⟩
/-- beside all that both worlds stand on -/
def Apart (K : PySem.W.Frag) (p pv : Pl) (made : As Rc) (ad : As (YL K).A) (adv : As (YV K made).A) (x : Addr) : Prop := x ∉ p.wa :: p.ta :: p.ma :: fpW (YL K) p.w ad ∧ x ∉ pv.wa :: pv.ta :: pv.ma :: fpW (YV K made) pv.w adv
theorem Apart.out (a : Apart K p pv made ad adv x) : OutW K p pv made ad adv x := ⟨fun z => a.1 (by simp [z]), fun z => a.2 (by simp [z])⟩
theorem Two.fresh (t : Two K p pv ns told made ad adv H sl sv) (h : H x = none) : Apart K p pv made ad adv x :=
  ⟨fun z => (by obtain ⟨o, ho⟩ := t.l.alloc x z; rw [h] at ho; cases ho), fun z => (by obtain ⟨o, ho⟩ := t.v.alloc x z; rw [h] at ho; cases ho)⟩
theorem Apart.stepL {o : HO} (a : Apart K p pv made ad adv x) (h : H x = some o) (st : Stp (fpW (YL K) p.w ad) (fpW (YL K) p.w ad') H H') : Apart K p pv made ad' adv x := by
  refine ⟨fun z => ?_, a.2⟩
  rcases List.mem_cons.mp z with z | z
  · exact a.1 (by simp [z])
  rcases List.mem_cons.mp z with z | z
  · exact a.1 (by simp [z])
  rcases List.mem_cons.mp z with z | z
  · exact a.1 (by simp [z])
  exact st.out h a.out.1 z
theorem Apart.stepV {o : HO} (a : Apart K p pv made ad adv x) (h : H x = some o) (st : Stp (fpW (YV K made) pv.w adv) (fpW (YV K made) pv.w adv') H H') : Apart K p pv made ad adv' x := by
  refine ⟨a.1, fun z => ?_⟩
  rcases List.mem_cons.mp z with z | z
  · exact a.2 (by simp [z])
  rcases List.mem_cons.mp z with z | z
  · exact a.2 (by simp [z])
  rcases List.mem_cons.mp z with z | z
  · exact a.2 (by simp [z])
  exact st.out h a.out.2 z
theorem Two.fr (t : Two K p pv ns told made ad adv H sl sv) {q : List Addr} (f : Fr q H H') (h : ∀ x ∈ q, Apart K p pv made ad adv x) : Two K p pv ns told made ad adv H' sl sv :=
  ⟨t.l.beside f fun x hx z => (h x z).1 hx, t.v.beside f fun x hx z => (h x z).2 hx, t.a, t.b⟩
/-- what stood before stays beside the worlds -/
structure Old (K : PySem.W.Frag) (p pv : Pl) (made : As Rc) (G : Hp) (ad : As (YL K).A) (adv : As (YV K made).A) (H : Hp) : Prop where
  ex : Ex G H
  out : ∀ y o, G y = some o → OutW K p pv made ad adv y
variable {G : Hp}
theorem Old.up (a : Old K p pv made G ad adv H) (e : Ex H H') : Old K p pv made G ad adv H' := ⟨a.ex.trans e, a.out⟩
theorem Old.stepL (a : Old K p pv made G ad adv H) (st : Stp (fpW (YL K) p.w ad) (fpW (YL K) p.w ad') H H') : Old K p pv made G ad' adv H' :=
  ⟨fun y o h => st.keep (a.ex _ _ h) (a.out y o h).1, fun y o h => (a.out y o h).stepL (a.ex _ _ h) st⟩
theorem Old.stepV (a : Old K p pv made G ad adv H) (st : Stp (fpW (YV K made) pv.w adv) (fpW (YV K made) pv.w adv') H H') : Old K p pv made G ad adv' H' :=
  ⟨fun y o h => st.keep (a.ex _ _ h) (a.out y o h).2, fun y o h => (a.out y o h).stepV (a.ex _ _ h) st⟩
theorem Old.fr (a : Old K p pv made G ad adv H) {q : List Addr} (f : Fr q H H') (h : ∀ x ∈ q, G x = none) : Old K p pv made G ad adv H' :=
  ⟨fun y o g => f.k _ _ (a.ex _ _ g) fun z => (by rw [h y z] at g; cases g), a.out⟩
/-- before each turn of the loop -/
structure LpI (K : PySem.W.Frag) (p pv : Pl) (ns : List Str) (told : As PyData) (made : As Rc) (G : Hp) (ptu ps : Addr) (ts : List Int) (c : Nat) (ad : As (YL K).A) (adv : As (YV K made).A) (H : Hp) (s : Sm) : Prop where
  t : Two K p pv ns told made ad adv H s s
  ok : OkSm ns told made s
  fin : ableM made s = [] → s.tk = []
  cnt : c + phi made s ≤ 8 * made.length
  old : Old K p pv made G ad adv H
  ht : H ptu = some (.lst (ts.map V.int))
  hp : H ps = some (.lst ((ableM made s).map V.str))
  ot : OutW K p pv made ad adv ptu
  op : OutW K p pv made ad adv ps
variable {ptu ps f : Addr} {ts : List Int} {c : Nat}
/-- what the weave's move leaves -/
theorem LpI.mid (I : LpI K p pv ns told made G ptu ps ts c ad adv H s) {xs : List V} (e1 : Ex H H1) (hf : H f = none) (h1 : H1 f = some (.lst xs)) (st : Stp (fpW (YV K made) pv.w adv) (fpW (YV K made) pv.w adv') H1 H2) (v2 : VW K pv ns told made adv' H2 s') :
    Two K p pv ns told made ad adv' H2 s s' ∧ Apart K p pv made ad adv' f ∧ H2 f = some (.lst xs) ∧ H2 ps = some (.lst ((ableM made s).map V.str)) ∧ Old K p pv made G ad adv' H2 ∧ G f = none ∧ H2 ptu = some (.lst (ts.map V.int)) ∧ OutW K p pv made ad adv' ptu ∧ ptu ≠ f := by
  have af := I.t.fresh hf
  have ne : ∀ {y : Addr} {o : HO}, H y = some o → y ≠ f := fun h z => by rw [z, hf] at h; cases h
  exact ⟨(I.t.ex e1).stepV st v2, af.stepV h1 st, st.keep h1 af.out.2, st.keep (e1 _ _ I.hp) I.op.2, (I.old.up e1).stepV st, Ex.back I.old.ex hf, st.keep (e1 _ _ I.ht) I.ot.2, I.ot.stepV (e1 _ _ I.ht) st, ne I.ht⟩
/-- what the law's move leaves -/
theorem LpI.next {H3 H4 H5 : Hp} {ps' : Addr} (bo : BkOk ns told made) (ok : OkSm ns told made s) (cnt : c + phi made s ≤ 8 * made.length) (hm : n ∈ ks s.tk) (t2 : Two K p pv ns told made ad adv H2 s (movesM told made n s)) (af : Apart K p pv made ad adv f) (old : Old K p pv made G ad adv H2) (gf : G f = none) (ht : H2 ptu = some (.lst (ts.map V.int)))
    (ot : OutW K p pv made ad adv ptu) (nt : ptu ≠ f) (f3 : Fr [f] H2 H3) (st : Stp (fpW (YL K) p.w ad) (fpW (YL K) p.w ad') H3 H4) (l4 : LW K p ad' ns told made H4 (movesM told made n s))
    (e5 : Ex H4 H5) (hps : H4 ps' = none) (h5 : H5 ps' = some (.lst ((ableM made (movesM told made n s)).map V.str))) : LpI K p pv ns told made G ptu ps' ts (c + 1) ad' adv H5 (movesM told made n s) := by
  have t3 := t2.fr f3 fun x hx => by rw [List.mem_singleton.mp hx]; exact af
  have o3 := old.fr f3 fun x hx => by rw [List.mem_singleton.mp hx]; exact gf
  have ht3 := f3.k _ _ ht fun z => nt (List.mem_singleton.mp z)
  have t4 := t3.stepL st l4
  obtain ⟨q1, q2⟩ := moves_ok bo ok hm
  exact ⟨t4.ex e5, q1, moves_fin ok hm, by omega, (o3.stepL st).up e5, e5 _ _ (st.keep ht3 ot.1), h5, ot.stepL ht3 st, (t4.fresh hps).out⟩
end
end Wk
namespace Wk
open PySem PySem.Spec PyProof.Rows L2 SX
def spLaw (K : PySem.W.Frag) : Sp := fun vs H Q _ => ∃ (v : V) (cells : List Int), vs = [v] ∧ Dp K H v (.list (cells.map PyData.int)) ∧ cells.length ≤ 1000 ∧ ∀ H', Ex H H' → Q (.bl true) H'
section
variable {P : Program} {w : World} {K : PySem.W.Frag} {mg : Str → Option Value} {base : Heap}
theorem law_len (vs : List V) (H : Hp) (Q : L2.VK) (E : XK) (h : spLaw K vs H Q E) : vs.length = (["_law_script"] : List Str).length := by
  obtain ⟨v, cells, rfl, _⟩ := h
  rfl
theorem law_body (W : Wld K mg) : BodyOk P w K mg base 29 "law" (top 80) N_law (spLaw K) := by
  have c_law_draws : Cal P w K mg base 1 "_law_draws" _ := c_law_draws W
  have c_law_names : Cal P w K mg base 2 "_law_names" _ := c_law_names W
  have c_law_books : Cal P w K mg base 11 "_law_books" _ := c_law_books W
  have c_law_held : Cal P w K mg base 21 "_law_held" _ := c_law_held W
  have c_law_asked : Cal P w K mg base 2 "_law_asked" _ := c_law_asked W
  have c_law_opens : Cal P w K mg base 21 "_law_opens" _ := c_law_opens W
  have c_law_rings : Cal P w K mg base 22 "_law_rings" _ := c_law_rings W
  have c_law_able : Cal P w K mg base 1 "_law_able" _ := c_law_able W
  have c_law_moves : Cal P w K mg base 23 "_law_moves" _ := c_law_moves W
  have k_Weave : Mak P w K mg base 24 (aWeave K) _ := k_Weave W
  have c_Weave_ready : Met P w K mg base 3 (aWeave K) "ready" _ := c_Weave_ready W
  have c_Weave_move : Met P w K mg base 24 (aWeave K) "move" _ := c_Weave_move W
  have c_Weave_settled : Met P w K mg base 1 (aWeave K) "settled" _ := c_Weave_settled W
  have c_Weave_told : Met P w K mg base 1 (aWeave K) "told" _ := c_Weave_told W
  intro f cdv A outer s H vs Q E hr h
  obtain ⟨v, cells, rfl, hv, hcl, kk⟩ := h
  have hu := hu_of hr
  refine ⟨_, (pss_cons (ps_set (i := 1) sc_law.nd rfl (Or.inl rfl) (pe_cl c_law_names hr (by omega) (by rfl) (pa_cons (pv 0) (pa_cons pe_int (pa_cons (pe_op op_add pe_int (pe_ix ix_list (pe_cl c_law_draws hr (by omega) (by rfl) (pa_cons (pv 0) (pa_cons pe_int (pa_cons (pe_lst (pa_cons pe_int pa_nil)) pa_nil)))) pe_int (fun _ _ => rfl))) pa_nil)))))
    (pss_cons (ps_asg (pe_cl c_law_books hr (by omega) (by rfl) (pa_cons (pv 0) (pa_cons (pv 1) (pa_cons (pe_cmpR op_eq (pe_ix ix_list (pe_cl c_law_draws hr (by omega) (by rfl) (pa_cons (pv 0) (pa_cons pe_int (pa_cons (pe_lst (pa_cons pe_int pa_nil)) pa_nil)))) pe_int (fun _ _ => rfl)) pe_int (nomark _)) pa_nil)))) (pg_tup rfl (pgs_cons (pg_name (i := 2) sc_law.nd rfl (Or.inl rfl)) (pgs_cons (pg_name (i := 3) sc_law.nd rfl (Or.inl rfl)) pgs_nil))))
    (pss_cons (ps_set (i := 4) sc_law.nd rfl (Or.inl rfl) (pe_cl c_law_held hr (by omega) (by rfl) (pa_cons (pv 0) (pa_cons pe_int (pa_cons (pv 3) pa_nil)))))
    (pss_cons (ps_set (i := 5) sc_law.nd rfl (Or.inl rfl) (pe_cl c_law_asked hr (by omega) (by rfl) (pa_cons (pv 0) (pa_cons pe_int (pa_cons (pv 1) pa_nil)))))
    (pss_cons (ps_set (i := 6) sc_law.nd rfl (Or.inl rfl) (pe_disp (pps_cons pe_str (pv 2) (pps_cons pe_str (pe_callTy call_copyD (by rfl) W.f_dict bt_dict (pa_cons (pv 4) pa_nil)) (pps_cons pe_str pe_dnewK (pps_cons pe_str pe_dnewK (pps_cons pe_str (pe_lst pa_nil) pps_nil))))) (by rfl) (by rfl) (fun z => by cases z) (by decide)))
    (C8.pss_cut (ps_for PassesOwn.never rfl (pi_list (pv 5)) (pg_name (i := 7) sc_law.nd rfl (Or.inl rfl)) (pss_one (ps_expr (pe_cl c_law_opens hr (by omega) (by rfl) (pa_cons (pv 6) (pa_cons (pv 7) pa_nil))))))
    (pss_cons (ps_expr (pe_cl c_law_rings hr (by omega) (by rfl) (pa_cons (pv 6) pa_nil)))
    (pss_cons (ps_set (i := 8) sc_law.nd rfl (Or.inl rfl) (pe_lst (pa_cons (pe_tup (pa_cons (pe_callTy call_copyD (by rfl) W.f_dict bt_dict (pa_cons (pe_ix ix_tup (pv 2) pe_int (fun _ _ => rfl)) pa_nil)) (pa_cons (pe_callTy call_copyD (by rfl) W.f_dict bt_dict (pa_cons (pe_ix ix_tup (pv 2) pe_int (fun _ _ => rfl)) pa_nil)) pa_nil))) (pa_cons (pe_callTy call_copyD (by rfl) W.f_dict bt_dict (pa_cons (pv 4) pa_nil)) (pa_cons (pe_callTy call_list_of (by rfl) W.f_list bt_list (pa_cons (pv 5) pa_nil)) pa_nil)))))
    (pss_cons (ps_set (i := 9) sc_law.nd rfl (Or.inl rfl) (pe_mk k_Weave hr (by omega) (by rfl) W.gc_Weave (pa_cons (pe_ix ix_list (pv 8) pe_int (fun _ _ => rfl)) (pa_cons (pe_ix ix_list (pv 8) pe_int (fun _ _ => rfl)) (pa_cons (pe_ix ix_list (pv 8) pe_int (fun _ _ => rfl)) pa_nil)))))
    (pss_cons (ps_if (pt_cmpR (op_neN hr.units) (pv 8) (pe_lst (pa_cons (pv 2) (pa_cons (pv 4) (pa_cons (pv 5) pa_nil)))) (nomark _)) (pss_one (ps_ret pe_bl)) pss_nil)
    (C8.pss_cut (ps_for PassesOwn.never rfl (pi_list (pe_lst (pa_cons (pe_ix ix_tup (pe_ix ix_list (pv 8) pe_int (fun _ _ => rfl)) pe_int (fun _ _ => rfl)) (pa_cons (pe_ix ix_tup (pe_ix ix_list (pv 8) pe_int (fun _ _ => rfl)) pe_int (fun _ _ => rfl)) (pa_cons (pe_ix ix_list (pv 8) pe_int (fun _ _ => rfl)) (pa_cons (pe_ix ix_list (pv 8) pe_int (fun _ _ => rfl)) pa_nil)))))) (pg_name (i := 10) sc_law.nd rfl (Or.inl rfl)) (pss_one (ps_expr (pe_or2 (pe_dclear (pv 10)) (pe_bm0 PySem.F.plainAttrs_list PySem.F.slot_list_clear PySem.F.type_list_clear mt_clear (pv 10))))))
    (pss_cons (ps_set (i := 11) sc_law.nd rfl (Or.inl rfl) (pe_cl c_law_draws hr (by omega) (by rfl) (pa_cons (pv 0) (pa_cons pe_int (pa_cons (pe_op op_rep (pe_lst (pa_cons pe_int pa_nil)) pe_int) pa_nil)))))
    (pss_cons (ps_set (i := 12) sc_law.nd rfl (Or.inl rfl) pe_int)
    (pss_cons (ps_set (i := 13) sc_law.nd rfl (Or.inl rfl) (pe_cl c_law_able hr (by omega) (by rfl) (pa_cons (pv 6) pa_nil)))
    (C8.pss_cut (ps_while PassesOwn.never (pt_cmpR op_gt (pe_callB call_lenA (by rfl) W.f_len bt_len (pa_cons (pv 13) pa_nil)) pe_int (nomark _)) (pss_cons (ps_set (i := 14) sc_law.nd rfl (Or.inl rfl) (pe_mt0 c_Weave_ready hr (by omega) (pv 9)))
    (pss_cons (ps_if (PW.pt (pw_or (pt_not (pt_val (pe_callB call_isiLst (by rfl) W.f_isinstance bt_isinstance (pa_cons (pv 14) (pa_cons (pe_bt (by rfl) W.f_list bt_list) pa_nil))))) (pw_or (pt_cmpR (op_neN hr.units) (pv 14) (pv 13) (nomark _)) (pw_or1 (pt_cmpR op_notBl (pe_mt0 c_Weave_settled hr (by omega) (pv 9)) pe_bl (nomark _)))))) (pss_one (ps_ret pe_bl)) pss_nil)
    (pss_cons (ps_set (i := 7) sc_law.nd rfl (Or.inl rfl) (pe_ix ix_list (pv 13) (pe_op op_mod (pe_op op_add (pe_ix ix_list (pv 11) (pe_op op_mod (pv 12) pe_int) (fun _ _ => rfl)) (pv 12)) (pe_callB call_lenA (by rfl) W.f_len bt_len (pa_cons (pv 13) pa_nil))) (fun _ _ => rfl)))
    (pss_cons (ps_if (PW.pt (pw_or (pt_cmpR op_notN (pe_mt c_Weave_move hr (by omega) (pv 9) (pa_cons (pv 7) pa_nil)) pe_non (nomark _)) (pw_or1 (pt_cmpR (op_neN hr.units) (pv 14) (pv 13) (nomark _))))) (pss_one (ps_ret pe_bl)) pss_nil)
    (pss_cons (ps_expr (pe_bm0 PySem.F.plainAttrs_list PySem.F.slot_list_clear PySem.F.type_list_clear mt_clear (pv 14)))
    (pss_cons (ps_expr (pe_bm PySem.F.plainAttrs_list PySem.F.slot_list_append PySem.F.type_list_append mt_append (pv 14) (pa_cons pe_str pa_nil)))
    (pss_cons (ps_expr (pe_cl c_law_moves hr (by omega) (by rfl) (pa_cons (pv 6) (pa_cons (pv 7) pa_nil))))
    (pss_cons (ps_set (i := 12) sc_law.nd rfl (Or.inl rfl) (pe_op op_add (pv 12) pe_int))
    (pss_one (ps_set (i := 13) sc_law.nd rfl (Or.inl rfl) (pe_cl c_law_able hr (by omega) (by rfl) (pa_cons (pv 6) pa_nil)))))))))))))
    (pss_cons (ps_if (PW.pt (pw_or (pt_cmpR (op_neN hr.units) (pe_mt0 c_Weave_ready hr (by omega) (pv 9)) (pe_lst pa_nil) (nomark _)) (pw_or (pt_cmpR op_notBl (pe_mt0 c_Weave_settled hr (by omega) (pv 9)) pe_bl (nomark _)) (pw_or1 (pt_cmpR op_gt (pv 12) (pe_op op_mul pe_int (pe_callB call_lenA (by rfl) W.f_len bt_len (pa_cons (pv 1) pa_nil))) (nomark _)))))) (pss_one (ps_ret pe_bl)) pss_nil)
    (pss_cons (ps_for PassesOwn.never rfl (pi_range1 (by rfl) W.f_range (pa_cons pe_int pa_nil)) (pg_name (i := 15) sc_law.nd rfl (Or.inl rfl)) (pss_cons (ps_set (i := 16) sc_law.nd rfl (Or.inl rfl) (pe_mt0 c_Weave_told hr (by omega) (pv 9)))
    (pss_cons (ps_if (PW.pt (pw_or (pt_not (pt_val (pe_callB call_isiTup (by rfl) W.f_isinstance bt_isinstance (pa_cons (pv 16) (pa_cons (pe_bt (by rfl) W.f_tuple bt_tuple) pa_nil))))) (pw_or (pt_cmpR op_ne (pe_callB call_lenA (by rfl) W.f_len bt_len (pa_cons (pv 16) pa_nil)) pe_int (nomark _)) (pw_or1 (pt_cmpR (op_neN hr.units) (pv 16) (pe_tup (pa_cons (pe_dget hu (pv 6) pe_str (fun _ _ => rfl)) (pa_cons (pe_dget hu (pv 6) pe_str (fun _ _ => rfl)) pa_nil))) (nomark _)))))) (pss_one (ps_ret pe_bl)) pss_nil)
    (pss_cons (ps_expr (pe_dclear (pe_ix ix_tup (pv 16) pe_int (fun _ _ => rfl))))
    (pss_one (ps_expr (pe_bm PySem.F.plainAttrs_list PySem.F.slot_list_append PySem.F.type_list_append mt_append (pe_ix ix_tup (pv 16) pe_int (fun _ _ => rfl)) (pa_cons pe_int pa_nil))))))))
    (pss_one (ps_ret pe_bl))))))))))))))))))), ?_⟩
  refine ⟨_, rfl, _, rfl, (show 1 ≤ sizeLine by decide), fun p1 hp1 => ?_⟩
  generalize hh : upd H p1 _ = H1
  have e1 : Ex H H1 := hh ▸ Ex.new hp1
  have h1 : H1 p1 = some (.lst (([5] : List Int).map V.int)) := by rw [← hh]; exact upd_same
  clear hh
  refine ⟨v, cells, 1, p1, [5], rfl, hv.up e1, hcl, by decide, by decide, SqL.of h1, by decide, by decide, fun xs p2 H2 e2 hp2 h2 dx => ?_⟩
  obtain ⟨x0, hx0, g0, g1⟩ := dx.at (i := 0) (s := 5) rfl
  obtain ⟨m, rfl⟩ := Int.eq_ofNat_of_zero_le g0
  have at0 : atI (xs.map V.int) 0 = some (V.int ((m : Nat) : Int)) := atI_nat (j := 0) (by rw [List.getElem?_map, hx0]; rfl)
  refine ⟨p2, _, _, _, rfl, rfl, SqL.of h2, at0, _, _, rfl, rfl, v, cells, 0, 2 + m, rfl, hv.up (e1.trans e2), hcl, by decide, by decide, by omega, fun ns pn H3 e3 hpn h3 hnl hnd hnn => ?_⟩
  have E3 := e1.trans (e2.trans e3)
  have hns : Ns pn ns H3 := ⟨h3, hnn, by omega, by omega, hnd⟩
  -- the books
  refine ⟨_, rfl, _, rfl, _, rfl, (show 1 ≤ sizeLine by decide), fun p4 hp4 => ?_⟩
  generalize hh : upd H3 p4 _ = H4
  have e4 : Ex H3 H4 := hh ▸ Ex.new hp4
  have h4 : H4 p4 = some (.lst (([3] : List Int).map V.int)) := by rw [← hh]; exact upd_same
  clear hh
  refine ⟨v, cells, 2, p4, [3], rfl, hv.up (E3.trans e4), hcl, by decide, by decide, SqL.of h4, by decide, by decide, fun xs2 p5 H5 e5 hp5 h5 dx2 => ?_⟩
  obtain ⟨x1, hx1, _, _⟩ := dx2.at (i := 0) (s := 3) rfl
  have at1 : atI (xs2.map V.int) 0 = some (V.int x1) := atI_nat (j := 0) (by rw [List.getElem?_map, hx1]; rfl)
  have E5 := E3.trans (e4.trans e5)
  refine ⟨p5, _, _, _, rfl, rfl, SqL.of h5, at1, rfl, v, cells, pn, ns, decide (V.int x1 = V.int 1), rfl, hv.up E5, hcl, hns.up (e4.trans e5), fun pb b1 t1 m1 told1 made1 b2 t2 m2 told2 made2 H6 e6 hpb h6 bk1 ok1 bk2 ok2 => ?_⟩
  have E6 := E5.trans e6
  have hns6 := hns.up ((e4.trans e5).trans e6)
  have hn6 : ns.length ≤ 6 := by omega
  refine ⟨pb, _, rfl, SqT.of h6, rfl, _, _, rfl, _, _, rfl, rfl, ?_⟩
  -- the held lines, the names asked
  refine ⟨_, rfl, _, rfl, v, cells, 3, b2, t2, m2, told2, made2, ns, rfl, hv.up E6, hcl, by decide, by decide, bk2, ok2, hn6, fun L held H7 e7 hL dL okL => ?_⟩
  have E7 := E6.trans e7
  refine ⟨_, rfl, _, rfl, v, cells, 4, pn, ns, rfl, hv.up E7, hcl, by decide, by decide, hns6.up e7, fun pa asked H8 e8 hpa h8 hal => ?_⟩
  have E8 := E7.trans e8
  -- the law's world
  refine fun wa hwa => ?_
  generalize hh : upd H8 wa _ = H9
  have e9 : Ex H8 H9 := hh ▸ Ex.new hwa
  have h9 : H9 wa = some (.dK []) := by rw [← hh]; exact upd_same
  clear hh
  obtain ⟨kl, hkl, dkl⟩ := dL.up (e8.trans e9)
  refine ⟨_, rfl, _, rfl, _, _, rfl, .inl hkl, fun la hla => ?_⟩
  generalize hh : upd H9 la _ = H10
  have e10 : Ex H9 H10 := hh ▸ Ex.new hla
  have h10 : H10 la = some (.dK kl) := by rw [← hh]; exact upd_same
  clear hh
  refine fun ea hea => ?_
  generalize hh : upd H10 ea _ = H11
  have e11 : Ex H10 H11 := hh ▸ Ex.new hea
  have h11 : H11 ea = some (.dK []) := by rw [← hh]; exact upd_same
  clear hh
  refine fun ka hka => ?_
  generalize hh : upd H11 ka _ = H12
  have e12 : Ex H11 H12 := hh ▸ Ex.new hka
  have h12 : H12 ka = some (.dK []) := by rw [← hh]; exact upd_same
  clear hh
  refine ⟨Nat.zero_le _, fun ra hra => ?_⟩
  generalize hh : upd H12 ra _ = H13
  have e13 : Ex H12 H13 := hh ▸ Ex.new hra
  have h13 : H13 ra = some (.lst []) := by rw [← hh]; exact upd_same
  clear hh
  have e913 := e10.trans (e11.trans (e12.trans e13))
  refine ⟨e913 _ _ h9, wdD b1 la ea ka ra, rfl, (show 5 ≤ 15 by decide), ?_⟩
  have E13 : Ex H8 H13 := e9.trans e913
  have X14 : Ex H8 (upd H13 wa (.dK (wdD b1 la ea ka ra))) := Ex.mut E13 hwa
  have w14 : (upd H13 wa (.dK (wdD b1 la ea ka ra))) wa = some (.dK (wdD b1 la ea ka ra)) := upd_same
  have nw : ∀ {G : Hp} {y : Addr}, Ex H9 G → G y = none → y ≠ wa := fun e h z => by
    have := e _ _ h9
    rw [← z, h] at this
    cases this
  have wla := nw (Same.refl _) hla
  have wea := nw e10 hea
  have wka := nw (e10.trans e11) hka
  have wra := nw (e10.trans (e11.trans e12)) hra
  have la14 : (upd H13 wa (.dK (wdD b1 la ea ka ra))) la = some (.dK kl) := by rw [upd_ne wla]; exact (e11.trans (e12.trans e13)) _ _ h10
  have ea14 : (upd H13 wa (.dK (wdD b1 la ea ka ra))) ea = some (.dK []) := by rw [upd_ne wea]; exact (e12.trans e13) _ _ h11
  have ka14 : (upd H13 wa (.dK (wdD b1 la ea ka ra))) ka = some (.dK []) := by rw [upd_ne wka]; exact e13 _ _ h12
  have ra14 : (upd H13 wa (.dK (wdD b1 la ea ka ra))) ra = some (.lst []) := by rw [upd_ne wra]; exact h13
  have hne : ∀ {G : Hp} {y z : Addr} {o : HO}, G y = none → G z = some o → y ≠ z := fun h1 h2 e => by rw [e, h2] at h1; cases h1
  have c1 : la ≠ ea := (hne hea h10).symm
  have c2 : la ≠ ka := (hne hka (e11 _ _ h10)).symm
  have c3 : la ≠ ra := (hne hra ((e11.trans e12) _ _ h10)).symm
  have c4 : ea ≠ ka := (hne hka h11).symm
  have c5 : ea ≠ ra := (hne hra (e12 _ _ h11)).symm
  have c6 : ka ≠ ra := (hne hra h12).symm
  generalize hh : upd H13 wa _ = H14
  have X14 : Ex H8 H14 := hh ▸ X14
  have w14 : H14 wa = some (.dK (wdD b1 la ea ka ra)) := hh ▸ w14
  have la14 : H14 la = some (.dK kl) := hh ▸ la14
  have ea14 : H14 ea = some (.dK []) := hh ▸ ea14
  have ka14 : H14 ka = some (.dK []) := hh ▸ ka14
  have ra14 : H14 ra = some (.lst []) := hh ▸ ra14
  clear hh
  have gla : H8 la = none := e9.back hla
  have gea : H8 ea = none := e9.back (e10.back hea)
  have gka : H8 ka = none := Ex.back (e9.trans (e10.trans e11)) hka
  have gra : H8 ra = none := Ex.back (e9.trans (e10.trans (e11.trans e12))) hra
  have bk8 := (bk1.up e7).up e8
  obtain ⟨kl', hkl', dkl'⟩ := dL.up (e8.trans X14)
  have ekl : kl' = kl := by
    obtain ⟨k0, hk0, _⟩ := dL
    have q1 := (e8.trans X14) _ _ hk0
    have q2 := (e8.trans e9) _ _ hk0
    rw [hkl'] at q1
    rw [hkl] at q2
    cases q1
    cases q2
    rfl
  subst ekl
  have dL14 : DRel (fun v e => Dp K H14 v (encHd e)) kl' held := dkl'
  have co14 : Core K (YL K) ⟨la, ea, ka, ra⟩ [] H14 (startM held) :=
    ⟨⟨kl', la14, dL14⟩, .nil ea14, ka14, rfl, fun n a t h => (by cases h), ⟨[], ra14, .nil⟩, (by
      show [la, ea, ka, ra].Nodup
      simp [c1, c2, c3, c4, c5, c6]), List.nodup_nil⟩
  have fr0 : ∀ y ∈ fpW (YL K) ⟨la, ea, ka, ra⟩ ([] : As (YL K).A), H8 y = none := fun y hy => by
    rcases mem_fpW.mp hy with rfl | rfl | rfl | rfl | z
    · exact gla
    · exact gea
    · exact gka
    · exact gra
    · cases z
  have out0 : ∀ {y : Addr} {o : HO}, H8 y = some o → y ∉ fpW (YL K) ⟨la, ea, ka, ra⟩ ([] : As (YL K).A) := fun h z => by
    have := fr0 _ z
    rw [h] at this
    cases this
  obtain ⟨⟨o1, ht1⟩, ⟨o2, hm1⟩⟩ := bk8.tne
  have l14 : LW K ⟨wa, b1, t1, m1, ⟨la, ea, ka, ra⟩⟩ [] ns told1 made1 H14 (startM held) :=
    ⟨w14, bk8.up X14, ok1, co14, (fun z => by
      rcases mem_fpW.mp z with z | z | z | z | z
      · exact wla z.symm
      · exact wea z.symm
      · exact wka z.symm
      · exact wra z.symm
      · cases z), out0 ht1, out0 hm1⟩
  have E14 := E8.trans X14
  have pa14 := X14 _ _ h8
  have oks := start_ok (told := told1) (made := made1) okL
  refine ⟨fun σ' H' => ∃ (y7 : Option V) (ad' : As (YL K).A), σ' = [some v, some (.ref pn), some (.ref b1), some (.ref b2), some (.ref L), some (.ref pa), some (.ref wa), y7, none, none, none, none, none, none, none, none, none] ∧ Stp (fpW (YL K) ⟨la, ea, ka, ra⟩ []) (fpW (YL K) ⟨la, ea, ka, ra⟩ ad') H14 H' ∧
    LW K ⟨wa, b1, t1, m1, ⟨la, ea, ka, ra⟩⟩ ad' ns told1 made1 H' (openAll made1 asked (startM held)), ?_, ?_⟩
  · refine ⟨_, rfl, pa, rfl, ⟨_, SqL.of pa14⟩, for_list (K := K) (a := pa) (xs := asked.map V.str) (fun i σ' H' => ∃ (y7 : Option V) (ad' : As (YL K).A), σ' = [some v, some (.ref pn), some (.ref b1), some (.ref b2), some (.ref L), some (.ref pa), some (.ref wa), y7, none, none, none, none, none, none, none, none, none] ∧ Stp (fpW (YL K) ⟨la, ea, ka, ra⟩ []) (fpW (YL K) ⟨la, ea, ka, ra⟩ ad') H14 H' ∧
      LW K ⟨wa, b1, t1, m1, ⟨la, ea, ka, ra⟩⟩ ad' ns told1 made1 H' (openAll made1 (asked.take i) (startM held)) ∧ OkSm ns told1 made1 (openAll made1 (asked.take i) (startM held)))
      ⟨_, [], rfl, Stp.refl _ _, l14, oks⟩ ?_ ?_ ?_⟩
    · rintro i σ' H' _ ⟨y7, ad', rfl, st, _⟩
      exact SqL.of (st.keep pa14 (out0 h8))
    · rintro i x σ' H15 hx ⟨y7, ad', rfl, st, l15, ok15⟩
      rw [List.getElem?_map] at hx
      obtain ⟨n, hn, rfl⟩ : ∃ n, asked[i]? = some n ∧ x = .str n := by
        cases q : asked[i]? with
        | none => rw [q] at hx; cases hx
        | some a => rw [q] at hx; cases hx; exact ⟨a, rfl, rfl⟩
      obtain ⟨z1, z2, z3, z4⟩ := ok15.szs ok1 hn6
      have es : openAll made1 (asked.take (i + 1)) (startM held) = opensM made1 n (openAll made1 (asked.take i) (startM held)) := by
        rw [List.take_add_one, hn]
        exact openAll_snoc
      refine ⟨_, rfl, _, rfl, ⟨wa, b1, t1, m1, ⟨la, ea, ka, ra⟩⟩, ad', ns, told1, made1, _, n, rfl, l15, by omega, fun ad16 H16 st16 l16 => ⟨_, ad16, rfl, st.trans st16, ?_, ?_⟩⟩
      · rw [es]
        exact l16
      · rw [es]
        exact (opens_ok ok1 ok15).1
    · rintro σ' H15 ⟨y7, ad', rfl, st, l15, ok15⟩
      rw [List.length_map, List.take_length] at l15
      exact ⟨_, ad', rfl, st, l15⟩
  rintro _ H15 ⟨y7, ad15, rfl, st15, l15⟩
  obtain ⟨ok15, ph15⟩ := openAll_ok ok1 asked oks
  refine ⟨_, rfl, ⟨wa, b1, t1, m1, ⟨la, ea, ka, ra⟩⟩, ad15, ns, told1, made1, _, rfl, l15, ok15, hn6, fun ad16 H16 st16 l16 => ?_⟩
  obtain ⟨ok16, ph16⟩ := rings_ok ok1 ok15
  have S16 := st15.trans st16
  have kp16 : ∀ {y : Addr} {o : HO}, H8 y = some o → H16 y = some o := fun h => S16.keep (X14 _ _ h) (out0 h)
  have tu16 : Tu H8 H16 := (Same.tu X14).trans S16.f.t
  have ex16 : Ex H8 H16 := fun a o h => kp16 h
  have bk16 := l16.bk
  obtain ⟨kt, hkt, dkt⟩ := bk16.t
  obtain ⟨km, hkm, dkm⟩ := bk16.m
  obtain ⟨kL, hkL, dkL⟩ := dL.up (e8.trans ex16)
  have pa16 := kp16 h8
  refine ⟨_, rfl, b1, _, _, _, rfl, rfl, SqT.of bk16.p, atI_nat (j := 0) rfl, _, _, rfl, .inl hkt, fun dt hdt => ?_⟩
  generalize hh : upd H16 dt _ = H17
  have e17 : Ex H16 H17 := hh ▸ Ex.new hdt
  have h17 : H17 dt = some (.dK kt) := by rw [← hh]; exact upd_same
  clear hh
  refine ⟨_, rfl, b1, _, _, _, rfl, rfl, SqT.of (e17 _ _ bk16.p), atI_nat (j := 1) rfl, _, _, rfl, .inl (e17 _ _ hkm), fun dm hdm => ?_⟩
  generalize hh : upd H17 dm _ = H18
  have e18 : Ex H17 H18 := hh ▸ Ex.new hdm
  have h18 : H18 dm = some (.dK km) := by rw [← hh]; exact upd_same
  clear hh
  refine ⟨(show 2 ≤ sizeLine by decide), fun pt0 hpt0 => ?_⟩
  generalize hh : upd H18 pt0 _ = H19
  have e19 : Ex H18 H19 := hh ▸ Ex.new hpt0
  have h19 : H19 pt0 = some (.tup [.ref dt, .ref dm]) := by rw [← hh]; exact upd_same
  clear hh
  have E19 := e17.trans (e18.trans e19)
  refine ⟨_, rfl, _, _, rfl, .inl (E19 _ _ hkL), fun dl hdl => ?_⟩
  generalize hh : upd H19 dl _ = H20
  have e20 : Ex H19 H20 := hh ▸ Ex.new hdl
  have h20 : H20 dl = some (.dK kL) := by rw [← hh]; exact upd_same
  clear hh
  refine ⟨_, rfl, _, _, rfl, .inl (SqL.of ((E19.trans e20) _ _ pa16)), fun pl hpl => ?_⟩
  generalize hh : upd H20 pl _ = H21
  have e21 : Ex H20 H21 := hh ▸ Ex.new hpl
  have h21 : H21 pl = some (.lst (asked.map V.str)) := by rw [← hh]; exact upd_same
  clear hh
  refine ⟨(show 3 ≤ sizeLine by decide), fun ph hph => ?_⟩
  generalize hh : upd H21 ph _ = H22
  have e22 : Ex H21 H22 := hh ▸ Ex.new hph
  have h22 : H22 ph = some (.lst [.ref pt0, .ref dl, .ref pl]) := by rw [← hh]; exact upd_same
  clear hh
  have E22 : Ex H16 H22 := E19.trans (e20.trans (e21.trans e22))
  have bk22 : Bk K H22 pt0 dt dm told1 made1 := ⟨(e20.trans (e21.trans e22)) _ _ h19, ⟨kt, (e18.trans (e19.trans (e20.trans (e21.trans e22)))) _ _ h17, dkt.mono fun v q _ d => d.up E22⟩, ⟨km, (e19.trans (e20.trans (e21.trans e22))) _ _ h18, dkm.mono fun v q _ d => d.up E22⟩⟩
  have dl22 : DT K H22 dl encHd held := ⟨kL, (e21.trans e22) _ _ h20, dkL.mono fun v q _ d => d.up E22⟩
  have pl22 := e22 _ _ h21
  refine ⟨_, rfl, ph, _, _, _, rfl, rfl, SqL.of h22, atI_nat (j := 0) rfl, _, rfl, ph, _, _, _, rfl, rfl, SqL.of h22, atI_nat (j := 1) rfl, _, rfl, ph, _, _, _, rfl, rfl, SqL.of h22, atI_nat (j := 2) rfl, fun wx wdx hwx hwdx hwne => ?_⟩
  have e23 : Ex H22 (upd (upd H22 wdx (.own wx)) wx (.ins (aWeave K) wdx [])) := Ex.mut (Ex.new hwdx) hwx
  have hwi : (upd (upd H22 wdx (.own wx)) wx (.ins (aWeave K) wdx [])) wx = some (.ins (aWeave K) wdx []) := upd_same
  generalize upd (upd H22 wdx (.own wx)) wx (.ins (aWeave K) wdx []) = H23 at e23 hwi ⊢
  refine ⟨wx, wdx, pt0, dt, dm, dl, pl, ns, told1, made1, held, asked, rfl, hwi, bk22.up e23, ok1, hn6, dl22.up e23, okL, e23 _ _ pl22, fun pv adv H24 hpv f24 fresh24 v24 => ⟨rfl, ?_⟩⟩
  have ex24 : Ex H22 H24 := f24.toExN e23 fun a z => by rw [List.mem_singleton.mp z]; exact hwx
  have E24 : Ex H16 H24 := E22.trans ex24
  have E824 : Ex H8 H24 := ex16.trans E24
  -- what was handed in is as it was
  refine ⟨_, rfl, _, rfl, _, rfl, _, rfl, (show 3 ≤ sizeLine by decide), fun pc hpc => ?_⟩
  generalize hh : upd H24 pc _ = H25
  have e25 : Ex H24 H25 := hh ▸ Ex.new hpc
  have h25 : H25 pc = some (.lst [.ref b1, .ref L, .ref pa]) := by rw [← hh]; exact upd_same
  clear hh
  have E25 : Ex H16 H25 := E24.trans e25
  have ex25 : Ex H22 H25 := ex24.trans e25
  have bkA := bk22.up ex25
  have bkB := bk16.up E25
  have dlA := dl22.up ex25
  have dlB := dL.up ((e8.trans ex16).trans E25)
  have plA := ex25 _ _ pl22
  have paB := E25 _ _ pa16
  refine ⟨14, by decide, .inl ⟨ph, pc, _, _, rfl, rfl, SqL.of (ex25 _ _ h22), SqL.of h25, .cons ?_ (.cons ?_ (.cons ?_ .nil))⟩, _, rfl, iteF ?_⟩
  · refine .inr (.inr (.inl ⟨pt0, b1, _, _, rfl, rfl, SqT.of bkA.p, SqT.of bkB.p, .cons ?_ (.cons ?_ .nil)⟩))
    · exact DT.eqn (n := 11) bkA.t bkB.t ok1.nt fun q hq => ⟨imm_vp (ok1.ov q hq), by have := (okV_vp (ok1.ov q hq)).2.1; omega⟩
    · exact DT.eqn (n := 11) bkA.m bkB.m ok1.nm fun q hq => ⟨immR (okR_wf (ok1.orr q hq)).1, by
        have h1 := depth_R (okR_wf (ok1.orr q hq)).1
        have h2 := (okR_wf (ok1.orr q hq)).2
        omega⟩
  · exact DT.eqn (n := 12) dlA dlB okL.d fun q hq => ⟨immHd q.2, by have := depth_Hd q.2; omega⟩
  · refine .inr (.inl ⟨pl, pa, _, _, rfl, rfl, SqL.of plA, SqL.of paB, ?_⟩)
    exact eqn_all (n := 12) (DpAll.strs asked) (DpAll.strs asked) fun d hd => by
      obtain ⟨z, _, rfl⟩ := List.mem_map.mp hd
      exact ⟨rfl, Nat.zero_le _⟩
  -- it may be emptied
  have dt22 : H22 dt = some (.dK kt) := (e18.trans (e19.trans (e20.trans (e21.trans e22)))) _ _ h17
  have dm22 : H22 dm = some (.dK km) := (e19.trans (e20.trans (e21.trans e22))) _ _ h18
  have dl22' : H22 dl = some (.dK kL) := (e21.trans e22) _ _ h20
  have pl25 := ex25 _ _ pl22
  have ph25 := ex25 _ _ h22
  have pt25 : H25 pt0 = some (.tup [.ref dt, .ref dm]) := bkA.p
  refine ⟨fun σ' H' => ∃ y10 : Option V, σ' = [some v, some (.ref pn), some (.ref b1), some (.ref b2), some (.ref L), some (.ref pa), some (.ref wa), y7, some (.ref ph), some (.ref wx), y10, none, none, none, none, none, none] ∧ Fr [dt, dm, dl, pl] H25 H', ?_, ?_⟩
  · refine ⟨_, rfl, ph, _, _, _, rfl, rfl, SqL.of ph25, atI_nat (j := 0) rfl, pt0, _, _, _, rfl, rfl, SqT.of pt25, atI_nat (j := 0) rfl, _, rfl, ph, _, _, _, rfl, rfl, SqL.of ph25, atI_nat (j := 0) rfl, pt0, _, _, _, rfl, rfl, SqT.of pt25, atI_nat (j := 1) rfl, _, rfl, ph, _, _, _, rfl, rfl, SqL.of ph25, atI_nat (j := 1) rfl, _, rfl, ph, _, _, _, rfl, rfl, SqL.of ph25, atI_nat (j := 2) rfl, (show 4 ≤ sizeLine by decide), fun pf hpf => ?_⟩
    generalize hh : upd H25 pf _ = H26
    have e26 : Ex H25 H26 := hh ▸ Ex.new hpf
    have h26 : H26 pf = some (.lst [.ref dt, .ref dm, .ref dl, .ref pl]) := by rw [← hh]; exact upd_same
    clear hh
    have pf26 : ∀ {H' : Hp}, Fr [dt, dm, dl, pl] H26 H' → H' pf = some (.lst [.ref dt, .ref dm, .ref dl, .ref pl]) := fun f => f.k _ _ h26 fun z => by
      have q : H25 pf ≠ none := by
        simp only [List.mem_cons, List.not_mem_nil, or_false] at z
        rcases z with z | z | z | z <;> rw [z] <;> intro e
        · rw [ex25 _ _ dt22] at e; cases e
        · rw [ex25 _ _ dm22] at e; cases e
        · rw [ex25 _ _ dl22'] at e; cases e
        · rw [pl25] at e; cases e
      exact q hpf
    have stD : ∀ {H' : Hp} {a y : Addr}, (∃ kvs, H' y = some (.dK kvs)) → ∃ kvs, (upd H' a (.dK [])) y = some (.dK kvs) := fun {H' a y} h => by
      by_cases e : y = a
      · exact ⟨[], by rw [e]; exact upd_same⟩
      · obtain ⟨kvs, h⟩ := h
        exact ⟨kvs, by rw [upd_ne e]; exact h⟩
    have stL : ∀ {H' : Hp} {a y : Addr}, (∃ kvs, H' a = some (.dK kvs)) → (∃ xs, H' y = some (.lst xs)) → ∃ xs, (upd H' a (.dK [])) y = some (.lst xs) := fun {H' a y} h1 h2 => by
      obtain ⟨kvs, h1⟩ := h1
      obtain ⟨xs, h2⟩ := h2
      exact ⟨xs, by rw [upd_ne fun e => by rw [e, h1] at h2; cases h2]; exact h2⟩
    have step : ∀ {H' : Hp} (a : Addr), a ∈ [dt, dm, dl, pl] → (∃ kvs, H' a = some (.dK kvs)) → (tyV K "dict" (.ref a) H' ∧ ∃ kvs, H' a = some (.dK kvs)) := fun a _ h => ⟨.inr (.inr (.inl ⟨rfl, .inl h⟩)), h⟩
    refine ⟨pf, rfl, ⟨_, SqL.of h26⟩, for_list (K := K) (a := pf) (xs := [.ref dt, .ref dm, .ref dl, .ref pl]) (fun i σ' H' => (∃ y10 : Option V, σ' = [some v, some (.ref pn), some (.ref b1), some (.ref b2), some (.ref L), some (.ref pa), some (.ref wa), y7, some (.ref ph), some (.ref wx), y10, none, none, none, none, none, none]) ∧ Fr [dt, dm, dl, pl] H26 H' ∧ (∃ kvs, H' dt = some (.dK kvs)) ∧ (∃ kvs, H' dm = some (.dK kvs)) ∧ (∃ kvs, H' dl = some (.dK kvs)) ∧ ∃ xs, H' pl = some (.lst xs))
      ⟨⟨_, rfl⟩, Fr.refl _ _, ⟨_, e26 _ _ (ex25 _ _ dt22)⟩, ⟨_, e26 _ _ (ex25 _ _ dm22)⟩, ⟨_, e26 _ _ (ex25 _ _ dl22')⟩, ⟨_, e26 _ _ pl25⟩⟩ (fun i σ' H' _ h => SqL.of (pf26 h.2.1)) ?_ ?_⟩
    · rintro i x σ' H27 hx ⟨⟨y10, rfl⟩, f27, g1, g2, g3, g4⟩
      have dcl : ∀ a, a ∈ [dt, dm, dl, pl] → (∃ kvs, H27 a = some (.dK kvs)) → x = .ref a → ∃ kvs, H27 a = some (.dK kvs) ∧ (Fr [dt, dm, dl, pl] H26 (upd H27 a (.dK []))) ∧ (∃ kvs, (upd H27 a (.dK [])) dt = some (.dK kvs)) ∧ (∃ kvs, (upd H27 a (.dK [])) dm = some (.dK kvs)) ∧ (∃ kvs, (upd H27 a (.dK [])) dl = some (.dK kvs)) ∧ ∃ xs, (upd H27 a (.dK [])) pl = some (.lst xs) := fun a ha h _ => by
        have h' := h
        obtain ⟨kvs, h⟩ := h
        exact ⟨kvs, h, f27.mutIn ha h, stD g1, stD g2, stD g3, stL h' g4⟩
      rcases i with _ | _ | _ | _ | i
      · cases hx
        obtain ⟨kvs, q, r⟩ := dcl dt (by simp) g1 rfl
        exact .inl ⟨_, rfl, .inr (.inr (.inl ⟨rfl, .inl ⟨_, q⟩⟩)), dt, kvs, rfl, rfl, q, ⟨_, rfl⟩, r⟩
      · cases hx
        obtain ⟨kvs, q, r⟩ := dcl dm (by simp) g2 rfl
        exact .inl ⟨_, rfl, .inr (.inr (.inl ⟨rfl, .inl ⟨_, q⟩⟩)), dm, kvs, rfl, rfl, q, ⟨_, rfl⟩, r⟩
      · cases hx
        obtain ⟨kvs, q, r⟩ := dcl dl (by simp) g3 rfl
        exact .inl ⟨_, rfl, .inr (.inr (.inl ⟨rfl, .inl ⟨_, q⟩⟩)), dl, kvs, rfl, rfl, q, ⟨_, rfl⟩, r⟩
      · cases hx
        obtain ⟨xs4, q⟩ := g4
        have nd : ∀ {y : Addr}, (∃ kvs, H27 y = some (.dK kvs)) → ∃ kvs, (upd H27 pl (.lst [])) y = some (.dK kvs) := fun {y} h => by
          obtain ⟨kvs, h⟩ := h
          exact ⟨kvs, by rw [upd_ne fun e => by rw [e, q] at h; cases h]; exact h⟩
        exact .inr ⟨_, rfl, .inl ⟨rfl, _, SqL.of q⟩, pl, xs4, rfl, rfl, q, ⟨_, rfl⟩, f27.mutIn (by simp) q, nd g1, nd g2, nd g3, [], upd_same⟩
      · cases hx
    · rintro σ' H27 ⟨⟨y10, rfl⟩, f27, _⟩
      exact ⟨_, rfl, (Fr.ex e26).tr f27⟩
  rintro _ H27 ⟨y10, rfl, f27⟩
  have gdt : H16 dt = none := hdt
  have gdm : H16 dm = none := e17.back hdm
  have gdl : H16 dl = none := Ex.back E19 hdl
  have gpl : H16 pl = none := Ex.back (E19.trans e20) hpl
  have ex27 : Ex H16 H27 := f27.toExN E25 fun a z => by
    simp only [List.mem_cons, List.not_mem_nil, or_false] at z
    rcases z with rfl | rfl | rfl | rfl <;> assumption
  have l27 := l16.ex ex27
  have v27 : VW K pv ns told1 made1 adv H27 (ringsM made1 (openAll made1 asked (startM held))) := (v24.ex e25).beside f27 fun x hx z => by
    have q22 : H22 x ≠ none := by
      simp only [List.mem_cons, List.not_mem_nil, or_false] at z
      rcases z with rfl | rfl | rfl | rfl <;> intro e
      · rw [dt22] at e; cases e
      · rw [dm22] at e; cases e
      · rw [dl22'] at e; cases e
      · rw [pl22] at e; cases e
    rcases List.mem_cons.mp hx with rfl | hx
    · rw [hpv] at q22
      exact q22 hwx
    have hf := fresh24 x (by
      rcases List.mem_cons.mp hx with rfl | hx
      · simp
      rcases List.mem_cons.mp hx with rfl | hx
      · simp
      · simp [hx])
    exact q22 (e23.back hf)
  have hv27 : Dp K H27 v (.list (cells.map PyData.int)) := hv.up (E8.trans (ex16.trans ex27))
  refine ⟨_, rfl, (show 1 ≤ sizeLine by decide), fun p28 hp28 => ?_⟩
  generalize hh : upd H27 p28 _ = H28
  have e28 : Ex H27 H28 := hh ▸ Ex.new hp28
  have h28 : H28 p28 = some (.lst [.int 60]) := by rw [← hh]; exact upd_same
  clear hh
  refine ⟨p28, _, _, rfl, rfl, h28, by decide, by decide, (show 1 * 30 ≤ sizeLine by decide), fun p29 hp29 => ?_⟩
  generalize hh : upd H28 p29 _ = H29
  have e29 : Ex H28 H29 := hh ▸ Ex.new hp29
  have h29 : H29 p29 = some (.lst ((List.replicate 30 (60 : Int)).map V.int)) := by rw [← hh]; exact upd_same
  clear hh
  refine ⟨v, cells, 5, p29, List.replicate 30 60, rfl, hv27.up (e28.trans e29), hcl, by decide, by decide, SqL.of h29, by decide, ?_, fun ts ptu H30 e30 hptu h30 dts => ?_⟩
  · intro s hs
    rw [(List.mem_replicate.mp hs).2]
    decide
  have ex30 := e28.trans (e29.trans e30)
  have l30 := l27.ex ex30
  have v30 := v27.ex ex30
  have htl : ts.length = 30 := by rw [dts.1, List.length_replicate]
  obtain ⟨y1, y2, y3, y4⟩ := ok16.szs ok1 hn6
  refine ⟨_, rfl, ⟨wa, b1, t1, m1, ⟨la, ea, ka, ra⟩⟩, ad16, ns, told1, made1, _, rfl, l30, by omega, fun ps H31 e31 hps h31 => ?_⟩
  have wfresh : ∀ x ∈ pv.wa :: pv.ta :: pv.ma :: fpW (YV K made1) pv.w adv, H22 x = none := fun x hx => by
    rcases List.mem_cons.mp hx with rfl | hx
    · rw [hpv]
      exact hwx
    refine e23.back (fresh24 x ?_)
    rcases List.mem_cons.mp hx with rfl | hx
    · simp
    rcases List.mem_cons.mp hx with rfl | hx
    · simp
    · simp [hx]
  have two : Two K ⟨wa, b1, t1, m1, ⟨la, ea, ka, ra⟩⟩ pv ns told1 made1 ad16 adv H31 (ringsM made1 (openAll made1 asked (startM held))) (ringsM made1 (openAll made1 asked (startM held))) := by
    refine ⟨l30.ex e31, v30.ex e31, fun x hx z => ?_, fun x hx z => ?_⟩
    · have h0 := wfresh x hx
      have h1 := l16.co.alloc x z
      cases q : H16 x with
      | none => exact h1 q
      | some o =>
        rw [E22 _ _ q] at h0
        cases h0
    · obtain ⟨o, ho⟩ := l16.alloc x hx
      have h0 := wfresh x (by simp [z])
      rw [E22 _ _ ho] at h0
      cases h0
  -- the loop
  subst hpv
  have old31 : Old K ⟨wa, b1, t1, m1, ⟨la, ea, ka, ra⟩⟩ pv made1 H8 ad16 adv H31 := by
    refine ⟨ex16.trans (ex27.trans (ex30.trans e31)), fun y o h => ⟨S16.out (X14 _ _ h) (out0 h), fun z => ?_⟩⟩
    have h0 := wfresh y (by simp [z])
    rw [(ex16.trans E22) _ _ h] at h0
    cases h0
  have t29 : ∀ {x : Addr}, H29 x = none → OutW K ⟨wa, b1, t1, m1, ⟨la, ea, ka, ra⟩⟩ pv made1 ad16 adv x := fun {x} h => by
    have e29 := e28.trans e29
    exact ⟨fun z => l27.co.alloc x z (Ex.back e29 h), fun z => v27.co.alloc x z (Ex.back e29 h)⟩
  have I31 : LpI K ⟨wa, b1, t1, m1, ⟨la, ea, ka, ra⟩⟩ pv ns told1 made1 H8 ptu ps ts 0 ad16 adv H31 (ringsM made1 (openAll made1 asked (startM held))) :=
    ⟨two, ok16, rings_fin, by have := phi_start made1 held; omega, old31, e31 _ _ h30, h31, t29 hptu, t29 (e30.back hps)⟩
  clear two old31 t29
  have bo1 := ok1
  have pnH8 := (hns.up ((e4.trans e5).trans (e6.trans (e7.trans e8)))).h
  generalize ringsM made1 (openAll made1 asked (startM held)) = s31 at I31
  refine ⟨fun σ' H' => ∃ (y7 y14 : Option V) (ps : Addr) (c : Nat) (ad : As (YL K).A) (adv : As (YV K made1).A) (s : Sm), σ' = [some v, some (.ref pn), some (.ref b1), some (.ref b2), some (.ref L), some (.ref pa), some (.ref wa), y7, some (.ref ph), some (.ref pv.wa), y10, some (.ref ptu), some (.int ((c : Nat) : Int)), some (.ref ps), y14, none, none] ∧ ableM made1 s = [] ∧ LpI K ⟨wa, b1, t1, m1, ⟨la, ea, ka, ra⟩⟩ pv ns told1 made1 H8 ptu ps ts c ad adv H' s,
    ⟨fun m σ' H' => ∃ (y7 y14 : Option V) (ps : Addr) (c : Nat) (ad : As (YL K).A) (adv : As (YV K made1).A) (s : Sm), m = phi made1 s ∧ σ' = [some v, some (.ref pn), some (.ref b1), some (.ref b2), some (.ref L), some (.ref pa), some (.ref wa), y7, some (.ref ph), some (.ref pv.wa), y10, some (.ref ptu), some (.int ((c : Nat) : Int)), some (.ref ps), y14, none, none] ∧ LpI K ⟨wa, b1, t1, m1, ⟨la, ea, ka, ra⟩⟩ pv ns told1 made1 H8 ptu ps ts c ad adv H' s,
    ⟨_, _, _, _, 0, _, _, _, rfl, rfl, I31⟩, ?_⟩, ?_⟩
  · rintro m _ H32 ⟨y7', y14, ps2, c, ad2, adv2, s, rfl, rfl, I⟩
    refine ⟨_, rfl, _, _, rfl, .inl ⟨_, SqL.of I.hp, rfl⟩, _, _, rfl, rfl, _, rfl, iteD (fun c' => ?_) (fun c' => ?_)⟩
    · have c' : (0 : Int) < ((((ableM made1 s).map V.str).length : Nat) : Int) := c'
      have tkl : s.tk.length ≤ 6 := (I.ok.szs bo1 hn6).1
      have all := able_len (made := made1) (s := s)
      have alp : 0 < (ableM made1 s).length := by rw [List.length_map] at c'; omega
      have tkp : ¬ s.tk.length = 0 := by omega
      obtain ⟨tv, htv, g0, g1⟩ := dts.at (i := c % 30) (s := 60) (by rw [List.getElem?_replicate, if_pos (by omega)])
      obtain ⟨a, rfl⟩ := Int.eq_ofNat_of_zero_le g0
      have hk : (a + c) % (ableM made1 s).length < (ableM made1 s).length := Nat.mod_lt _ alp
      obtain ⟨n, hn⟩ : ∃ n, (ableM made1 s)[(a + c) % (ableM made1 s).length]? = some n := ⟨_, List.getElem?_eq_getElem hk⟩
      have nab : n ∈ ableM made1 s := List.mem_of_getElem? hn
      have ntk := able_mem nab
      have atA : atI (ts.map V.int) (((c : Nat) : Int) % 30) = some (V.int ((a : Nat) : Int)) := by
        rw [show ((c : Nat) : Int) % 30 = ((c % 30 : Nat) : Int) by omega]
        exact atI_nat (by rw [List.getElem?_map, htv]; rfl)
      have atN : atI ((ableM made1 s).map V.str) ((((a : Nat) : Int) + ((c : Nat) : Int)) % ((((ableM made1 s).map V.str).length : Nat) : Int)) = some (V.str n) := by
        rw [List.length_map, show (((a : Nat) : Int) + ((c : Nat) : Int)) % (((ableM made1 s).length : Nat) : Int) = (((a + c) % (ableM made1 s).length : Nat) : Int) by push_cast; rfl]
        exact atI_nat (by rw [List.getElem?_map, hn]; rfl)
      have eqL : ∀ {G : Hp}, Paired (EqN K G 2) ((ableM made1 s).map V.str) ((ableM made1 s).map V.str) := fun {G} => eqn_all (n := 1) (DpAll.strs (ableM made1 s)) (DpAll.strs (ableM made1 s)) fun d hd => by
        obtain ⟨z, _, rfl⟩ := List.mem_map.mp hd
        exact ⟨rfl, Nat.zero_le _⟩
      obtain ⟨mok, mph⟩ := moves_ok bo1 I.ok ntk
      refine ⟨fun σ' H' => ∃ (y7 y14 : Option V) (ps : Addr) (ad : As (YL K).A) (adv : As (YV K made1).A), σ' = [some v, some (.ref pn), some (.ref b1), some (.ref b2), some (.ref L), some (.ref pa), some (.ref wa), y7, some (.ref ph), some (.ref pv.wa), y10, some (.ref ptu), some (.int ((c + 1 : Nat) : Int)), some (.ref ps), y14, none, none] ∧ LpI K ⟨wa, b1, t1, m1, ⟨la, ea, ka, ra⟩⟩ pv ns told1 made1 H8 ptu ps ts (c + 1) ad adv H' (movesM told1 made1 n s), ?_, ?_⟩
      · rintro σ' H' ⟨y7, y14, ps, ad, adv, rfl, I'⟩
        exact ⟨_, mph, y7, y14, ps, c + 1, ad, adv, _, rfl, rfl, I'⟩
      obtain ⟨dx9, hv9⟩ := I.t.v.hv
      refine ⟨_, rfl, pv.wa, dx9, _, rfl, hv9, wf_m _ (by simp), pv, ns, told1, made1, adv2, s, rfl, I.t.v, by omega, fun f1 H33 e33 hf h33 => ?_⟩
      have v33 := I.t.v.ex e33
      have hp33 := e33 _ _ I.hp
      refine ⟨_, rfl, f1, _, rfl, h33, _, rfl, iteF ?_⟩
      refine ⟨_, rfl, _, rfl, 2, by decide, .inl ⟨f1, ps2, _, _, rfl, rfl, SqL.of h33, SqL.of hp33, eqL⟩, _, rfl, iteF ?_⟩
      refine ⟨_, rfl, pv.wa, dx9, _, rfl, e33 _ _ hv9, wf_m _ (by simp), pv, ns, told1, made1, adv2, s, rfl, v33, _, false, rfl, rfl, _, rfl, ?_⟩
      rw [decide_eq_false tkp]
      refine iteF ?_
      refine ⟨_, rfl, _, rfl, _, rfl, _, _, rfl, rfl, (show (0 : Int) < 30 by decide), ptu, _, _, _, rfl, rfl, SqL.of (e33 _ _ I.ht), atA, _, rfl, _, _, rfl, rfl, _, rfl, _, _, rfl, .inl ⟨_, SqL.of hp33, rfl⟩, _, _, rfl, rfl, c', ps2, _, _, _, rfl, rfl, SqL.of hp33, atN, ?_⟩
      refine ⟨_, rfl, pv.wa, dx9, _, rfl, e33 _ _ hv9, wf_m _ (by simp), _, rfl, pv, ns, told1, made1, adv2, s, n, rfl, v33, I.ok, hn6, nab, fun adv4 H34 st34 v34 => ⟨rfl, _, rfl, iteF ?_⟩⟩
      obtain ⟨t34, af, f34, p34, o34, gf, tu34, ou34, nf⟩ := I.mid e33 hf h33 st34 v34
      refine ⟨_, rfl, _, rfl, 2, by decide, .inl ⟨f1, ps2, _, _, rfl, rfl, SqL.of f34, SqL.of p34, eqL⟩, _, rfl, iteF ?_⟩
      refine ⟨_, rfl, .inl ⟨rfl, _, SqL.of f34⟩, f1, _, rfl, rfl, f34, ?_⟩
      refine ⟨_, rfl, .inl ⟨rfl, _, SqL.of (H := upd H34 f1 (.lst [])) upd_same⟩, f1, _, _, rfl, rfl, upd_same, (show 0 < sizeLine by decide), ?_⟩
      have f35 : Fr [f1] H34 (upd (upd H34 f1 (.lst [])) f1 (.lst ([] ++ [.str "zzzzzzz"]))) := (Fr.mut f34).tr (Fr.mut upd_same)
      generalize upd (upd H34 f1 (.lst [])) f1 _ = H35 at f35 ⊢
      have l35 := (t34.fr f35 fun x hx => by rw [List.mem_singleton.mp hx]; exact af).l
      refine ⟨_, rfl, _, rfl, ⟨wa, b1, t1, m1, ⟨la, ea, ka, ra⟩⟩, ad2, ns, told1, made1, s, n, rfl, l35, I.ok, hn6, ntk, fun ad6 H36 st36 l36 => ?_⟩
      refine ⟨_, rfl, _, _, rfl, rfl, ?_⟩
      refine ⟨_, rfl, ⟨wa, b1, t1, m1, ⟨la, ea, ka, ra⟩⟩, ad6, ns, told1, made1, _, rfl, l36, by have := (mok.szs bo1 hn6).1; omega, fun ps7 H37 e37 hps7 h37 => ?_⟩
      exact ⟨_, _, ps7, ad6, adv4, rfl, LpI.next bo1 I.ok I.cnt ntk t34 af o34 gf tu34 ou34 nf f35 st36 l36 e37 hps7 h37⟩
    · have c' : ¬ (0 : Int) < ((((ableM made1 s).map V.str).length : Nat) : Int) := c'
      refine ⟨_, _, _, _, _, _, _, rfl, ?_, I⟩
      cases q : ableM made1 s with
      | nil => rfl
      | cons x xs =>
        rw [q] at c'
        exact absurd (by show (0 : Int) < (((xs.map V.str).length + 1 : Nat) : Int); omega) c'
  rintro _ H32 ⟨y7', y14, ps2, c, ad2, adv2, s, rfl, han, I⟩
  have tk0 : s.tk.length = 0 := by rw [I.fin han]; rfl
  have hcm : c ≤ 8 * ns.length := by
    have h1 := I.cnt
    have h2 := bo1.mle
    omega
  obtain ⟨sz1, sz2, sz3, sz4⟩ := I.ok.szs bo1 hn6
  obtain ⟨dx9, hv9⟩ := I.t.v.hv
  refine ⟨_, rfl, pv.wa, dx9, _, rfl, hv9, wf_m _ (by simp), pv, ns, told1, made1, adv2, s, rfl, I.t.v, by omega, fun f1 H33 e33 hf h33 => ⟨Nat.zero_le _, fun f2 hf2 => ?_⟩⟩
  rw [han] at h33
  generalize hh : upd H33 f2 _ = H34
  have e34 : Ex H33 H34 := hh ▸ Ex.new hf2
  have h34 : H34 f2 = some (.lst []) := by rw [← hh]; exact upd_same
  clear hh
  have t34 := I.t.ex (e33.trans e34)
  have o34 := I.old.up (e33.trans e34)
  refine ⟨2, by decide, .inl ⟨f1, f2, _, _, rfl, rfl, SqL.of (e34 _ _ h33), SqL.of h34, .nil⟩, _, rfl, iteF ?_⟩
  refine ⟨_, rfl, pv.wa, dx9, _, rfl, (e33.trans e34) _ _ hv9, wf_m _ (by simp), pv, ns, told1, made1, adv2, s, rfl, t34.v, _, true, rfl, rfl, _, rfl, ?_⟩
  rw [decide_eq_true tk0]
  refine iteF ?_
  have pn34 := o34.ex _ _ pnH8
  refine ⟨_, rfl, _, rfl, _, _, rfl, .inl ⟨_, SqL.of pn34, rfl⟩, _, _, rfl, rfl, .inl ⟨by decide, by decide⟩, _, _, rfl, rfl, _, rfl, ?_⟩
  have ncl : ¬ (30 : Int) * ((((ns.map V.str).length : Nat)) : Int) < ((c : Nat) : Int) := by
    rw [List.length_map]
    omega
  rw [decide_eq_false ncl]
  refine iteF ?_
  refine ⟨_, rfl, by decide, by decide, for_range (fun i σ' H' => ∃ (y15 y16 : Option V), σ' = [some v, some (.ref pn), some (.ref b1), some (.ref b2), some (.ref L), some (.ref pa), some (.ref wa), y7', some (.ref ph), some (.ref pv.wa), y10, some (.ref ptu), some (.int ((c : Nat) : Int)), some (.ref ps2), y14, y15, y16] ∧ Two K ⟨wa, b1, t1, m1, ⟨la, ea, ka, ra⟩⟩ pv ns told1 made1 ad2 adv2 H' s s ∧ Old K ⟨wa, b1, t1, m1, ⟨la, ea, ka, ra⟩⟩ pv made1 H8 ad2 adv2 H') ⟨_, _, rfl, t34, o34⟩ ?_ ?_⟩
  · rintro i σ' H35 _ ⟨y15, y16, rfl, t35, o35⟩
    obtain ⟨dx9, hv9⟩ := t35.v.hv
    refine ⟨_, rfl, pv.wa, dx9, _, rfl, hv9, wf_m _ (by simp), pv, ns, told1, made1, adv2, s, rfl, t35.v, by omega, fun q d l vals H36 e36 hq h36 hd hl hdl dd hl2 dv => ?_⟩
    have vl : vals.length ≤ 6 := by
      rw [dv.length, List.length_map]
      exact sz4
    refine ⟨_, rfl, q, _, rfl, h36, _, rfl, iteF ?_⟩
    refine ⟨_, rfl, _, _, rfl, .inr (.inl ⟨_, SqT.of h36, rfl⟩), rfl, _, rfl, iteF ?_⟩
    have t36 := t35.ex e36
    have o36 := o35.up e36
    refine ⟨_, rfl, _, rfl, wa, .ref la, rfl, t36.l.g_lying, _, rfl, wa, .ref ra, rfl, t36.l.g_rows, (show 2 ≤ sizeLine by decide), fun g hg => ?_⟩
    generalize hh : upd H36 g _ = H37
    have e37 : Ex H36 H37 := hh ▸ Ex.new hg
    have h37 : H37 g = some (.tup [.ref la, .ref ra]) := by rw [← hh]; exact upd_same
    clear hh
    have t37 := t36.ex e37
    have o37 := o36.up e37
    obtain ⟨vr, hvr, dvr⟩ := t37.l.co.rw
    have dl37 := dd.up e37
    have dv37 := dv.up e37
    have h37q := e37 _ _ h36
    have hl37 := e37 _ _ hl2
    refine ⟨8, by decide, .inr ⟨q, g, _, _, rfl, rfl, SqT.of h37q, SqT.of h37, .cons (DT.eqn (n := 6) dl37 t37.l.co.ly I.ok.hd.d fun z hz => ⟨immHd z.2, by have := depth_Hd z.2; omega⟩) (.cons (.inr (.inl ⟨l, ra, _, _, rfl, rfl, SqL.of hl37, SqL.of hvr, eqn_all (n := 6) dv37 dvr fun z hz => ?_⟩)) .nil)⟩, _, rfl, iteF ?_⟩
    · obtain ⟨y, _, rfl⟩ := List.mem_map.mp hz
      exact ⟨rfl, by have := depth_row y; omega⟩
    obtain ⟨kd, hkd, _⟩ := dl37
    refine ⟨_, rfl, q, _, _, _, rfl, rfl, SqT.of h37q, atI_nat (j := 0) rfl, .inr (.inr (.inl ⟨rfl, .inl ⟨_, hkd⟩⟩)), d, kd, rfl, rfl, hkd, ?_⟩
    have q38 : (upd H37 d (.dK [])) q = some (.tup [.ref d, .ref l]) := by
      rw [upd_ne fun z => by rw [z, hkd] at h37q; cases h37q]
      exact h37q
    have l38 : (upd H37 d (.dK [])) l = some (.lst vals) := by
      rw [upd_ne fun z => hdl z.symm]
      exact hl37
    refine ⟨_, rfl, q, _, _, _, rfl, rfl, SqT.of q38, atI_nat (j := 1) rfl, .inl ⟨rfl, _, SqL.of l38⟩, l, vals, _, rfl, rfl, l38, szlt (show vals.length < 100000 by omega), ?_⟩
    have f39 : Fr [d, l] H37 (upd (upd H37 d (.dK [])) l (.lst (vals ++ [.int 0]))) := ((Fr.refl [d, l] H37).mutIn (by simp) hkd).mutIn (by simp) l38
    refine ⟨_, _, rfl, t37.fr f39 fun x hx => ?_, o37.fr f39 fun x hx => ?_⟩
    · rcases List.mem_cons.mp hx with rfl | hx
      · exact t35.fresh hd
      · rw [List.mem_singleton.mp hx]
        exact t35.fresh hl
    · rcases List.mem_cons.mp hx with rfl | hx
      · exact Ex.back o35.ex hd
      · rw [List.mem_singleton.mp hx]
        exact Ex.back o35.ex hl
  · rintro σ' H35 ⟨y15, y16, rfl, t35, o35⟩
    exact kk _ (E8.trans o35.ex)
end
end Wk
namespace WkHd
open PySem PySem.Spec PyProof.Rows L2 Wk
theorem wld {w : World} {K : PySem.W.Frag} {h h' : Heap} {mg : Str → Option Value} (X : K.In h) (G : h.Ns mainGlobals mg) (c : He.SaysX fa fn [] [] exB w h' K) : Wld K mg := by
  obtain ⟨x1, x2⟩ := He.ba (show (tupA K (He.ga K "PAIRS") _ && (tupA K (He.ga K "KIND") _ && (tupA K (He.ga K "NOTHINGS") _ && tupA K (ntE K) []))) = true from c.more)
  obtain ⟨x2, x3⟩ := He.ba x2
  obtain ⟨x3, x4⟩ := He.ba x3
  exact {
    f_len := He.free_ok X G (c.t.d.fact 62 (f := .free "len") rfl)
    f_isinstance := He.free_ok X G (c.t.d.fact 63 (f := .free "isinstance") rfl)
    f_all := He.free_ok X G (c.t.d.fact 64 (f := .free "all") rfl)
    f_sum := He.free_ok X G (c.t.d.fact 65 (f := .free "sum") rfl)
    f_sorted := He.free_ok X G (c.t.d.fact 66 (f := .free "sorted") rfl)
    f_min := He.free_ok X G (c.t.d.fact 67 (f := .free "min") rfl)
    f_int := He.free_ok X G (c.t.d.fact 68 (f := .free "int") rfl)
    f_bool := He.free_ok X G (c.t.d.fact 69 (f := .free "bool") rfl)
    f_str := He.free_ok X G (c.t.d.fact 70 (f := .free "str") rfl)
    f_tuple := He.free_ok X G (c.t.d.fact 71 (f := .free "tuple") rfl)
    f_list := He.free_ok X G (c.t.d.fact 72 (f := .free "list") rfl)
    f_dict := He.free_ok X G (c.t.d.fact 73 (f := .free "dict") rfl)
    f_range := He.free_ok X G (c.t.d.fact 74 (f := .free "range") rfl)
    g_GREATEST := by
      obtain ⟨t, e⟩ := He.int_ok X G (c.t.d.fact 75 (f := .int "GREATEST" 1000000000000000000) rfl)
      exact ⟨_, e, t, rfl⟩
    g_MOST_SIGNS := by
      obtain ⟨t, e⟩ := He.int_ok X G (c.t.d.fact 76 (f := .int "MOST_SIGNS" 20) rfl)
      exact ⟨_, e, t, rfl⟩
    g_MOST_PARTS := by
      obtain ⟨t, e⟩ := He.int_ok X G (c.t.d.fact 77 (f := .int "MOST_PARTS" 8) rfl)
      exact ⟨_, e, t, rfl⟩
    g_MOST_DEEP := by
      obtain ⟨t, e⟩ := He.int_ok X G (c.t.d.fact 78 (f := .int "MOST_DEEP" 4) rfl)
      exact ⟨_, e, t, rfl⟩
    g_MOST_IN_ALL := by
      obtain ⟨t, e⟩ := He.int_ok X G (c.t.d.fact 79 (f := .int "MOST_IN_ALL" 40) rfl)
      exact ⟨_, e, t, rfl⟩
    g_LETTERS := by
      obtain ⟨t, e⟩ := He.str_ok X G (c.t.d.fact 80 (f := .str "LETTERS" "abcdefghijklmnopqrstuvwxyz") rfl)
      exact ⟨_, e, t, rfl⟩
    g_SIGNS := by
      obtain ⟨t, e⟩ := He.str_ok X G (c.t.d.fact 81 (f := .str "SIGNS" "abcdefghijklmnopqrstuvwxyz0123456789-") rfl)
      exact ⟨_, e, t, rfl⟩
    g_FIGURES := by
      obtain ⟨t, e⟩ := He.str_ok X G (c.t.d.fact 82 (f := .str "FIGURES" "0123456789") rfl)
      exact ⟨_, e, t, rfl⟩
    g_PAIRS := ⟨_, He.glo_ok X G (c.t.d.fact 59 (f := .glo "PAIRS") rfl), rfl⟩
    g_KIND := ⟨_, He.glo_ok X G (c.t.d.fact 60 (f := .glo "KIND") rfl), rfl⟩
    g_NOTHINGS := ⟨_, He.glo_ok X G (c.t.d.fact 61 (f := .glo "NOTHINGS") rfl), rfl⟩
    t_PAIRS := tupA_ok x1
    t_KIND := fun H => .tup (tupA_ok x2 H) (.cons (.str _) (.one (.str _)))
    t_NOTHINGS := fun H => .tup (tupA_ok x3 H) (.cons (.int _) (.cons (.str _) (.one (.tup (tupA_ok x4 H) .nil))))
    gc_Task := He.glo_ok X G (c.t.d.fact 30 (f := .glo "Task") rfl)
    cl_Task := He.cls_ok (c.t.d.fact 83 (f := .cls "Task") rfl)
    n_Task_task_name := He.noat_ok (c.t.d.fact 85 (f := .noat "Task" "task_name") rfl)
    n_Task_task_recipe := He.noat_ok (c.t.d.fact 86 (f := .noat "Task" "task_recipe") rfl)
    n_Task_task_text := He.noat_ok (c.t.d.fact 87 (f := .noat "Task" "task_text") rfl)
    n_Task_task_shelf := He.noat_ok (c.t.d.fact 88 (f := .noat "Task" "task_shelf") rfl)
    n_Task_elder_line := He.noat_ok (c.t.d.fact 89 (f := .noat "Task" "elder_line") rfl)
    n_Task_task_stage := He.noat_ok (c.t.d.fact 90 (f := .noat "Task" "task_stage") rfl)
    n_Task_got_reads := He.noat_ok (c.t.d.fact 91 (f := .noat "Task" "got_reads") rfl)
    n_Task_got_peeks := He.noat_ok (c.t.d.fact 92 (f := .noat "Task" "got_peeks") rfl)
    n_Task_is_peeking := He.noat_ok (c.t.d.fact 93 (f := .noat "Task" "is_peeking") rfl)
    n_Task_waits_for := He.noat_ok (c.t.d.fact 94 (f := .noat "Task" "waits_for") rfl)
    n_Task_closing := He.noat_ok (c.t.d.fact 95 (f := .noat "Task" "closing") rfl)
    gc_Weave := He.glo_ok X G (c.t.d.fact 31 (f := .glo "Weave") rfl)
    cl_Weave := He.cls_ok (c.t.d.fact 96 (f := .cls "Weave") rfl)
    n_Weave_weave_book := He.noat_ok (c.t.d.fact 98 (f := .noat "Weave" "weave_book") rfl)
    n_Weave_weave_held := He.noat_ok (c.t.d.fact 99 (f := .noat "Weave" "weave_held") rfl)
    n_Weave_open_tasks := He.noat_ok (c.t.d.fact 100 (f := .noat "Weave" "open_tasks") rfl)
    n_Weave_all_ends := He.noat_ok (c.t.d.fact 101 (f := .noat "Weave" "all_ends") rfl)
    n_Weave_weave_log := He.noat_ok (c.t.d.fact 102 (f := .noat "Weave" "weave_log") rfl)
    d_is_whole := by
      obtain ⟨fd, F⟩ := c.t.d.def_ 0 (d := WkHd.d_is_whole) rfl
      exact ⟨_, fd, F, He.glo_ok X G (c.t.d.fact 0 (f := .glo "is_whole") rfl), F.bindsN fun _ _ _ _ _ _ us hl => match us, hl with | [_], _ => rfl⟩
    d_is_name := by
      obtain ⟨fd, F⟩ := c.t.d.def_ 1 (d := WkHd.d_is_name) rfl
      exact ⟨_, fd, F, He.glo_ok X G (c.t.d.fact 1 (f := .glo "is_name") rfl), F.bindsN fun _ _ _ _ _ _ us hl => match us, hl with | [_], _ => rfl⟩
    d_is_plain_value := by
      obtain ⟨fd, F⟩ := c.t.d.def_ 2 (d := WkHd.d_is_plain_value) rfl
      exact ⟨_, fd, F, He.glo_ok X G (c.t.d.fact 2 (f := .glo "is_plain_value") rfl), F.bindsN fun _ _ _ _ _ _ us hl => match us, hl with | [_], _ => rfl⟩
    d_values_in := by
      obtain ⟨fd, F⟩ := c.t.d.def_ 3 (d := WkHd.d_values_in) rfl
      exact ⟨_, fd, F, He.glo_ok X G (c.t.d.fact 3 (f := .glo "values_in") rfl), F.bindsN fun _ _ _ _ _ _ us hl => match us, hl with | [_, _], _ => rfl⟩
    d_is_value := by
      obtain ⟨fd, F⟩ := c.t.d.def_ 4 (d := WkHd.d_is_value) rfl
      exact ⟨_, fd, F, He.glo_ok X G (c.t.d.fact 4 (f := .glo "is_value") rfl), F.bindsN fun _ _ _ _ _ _ us hl => match us, hl with | [_], _ => rfl⟩
    d_many_of := by
      obtain ⟨fd, F⟩ := c.t.d.def_ 5 (d := WkHd.d_many_of) rfl
      exact ⟨_, fd, F, He.glo_ok X G (c.t.d.fact 5 (f := .glo "many_of") rfl), F.bindsN fun _ _ _ _ _ _ us hl => match us, hl with | [_], _ => rfl⟩
    d_exprs_in := by
      obtain ⟨fd, F⟩ := c.t.d.def_ 6 (d := WkHd.d_exprs_in) rfl
      exact ⟨_, fd, F, He.glo_ok X G (c.t.d.fact 6 (f := .glo "exprs_in") rfl), F.bindsN fun _ _ _ _ _ _ us hl => match us, hl with | [_], _ => rfl⟩
    d_recipes_in := by
      obtain ⟨fd, F⟩ := c.t.d.def_ 7 (d := WkHd.d_recipes_in) rfl
      exact ⟨_, fd, F, He.glo_ok X G (c.t.d.fact 7 (f := .glo "recipes_in") rfl), F.bindsN fun _ _ _ _ _ _ us hl => match us, hl with | [_], _ => rfl⟩
    d_sort_at := by
      obtain ⟨fd, F⟩ := c.t.d.def_ 8 (d := WkHd.d_sort_at) rfl
      exact ⟨_, fd, F, He.glo_ok X G (c.t.d.fact 8 (f := .glo "sort_at") rfl), F.bindsN fun _ _ _ _ _ _ us hl => match us, hl with | [_, _], _ => rfl⟩
    d_stamp_of := by
      obtain ⟨fd, F⟩ := c.t.d.def_ 9 (d := WkHd.d_stamp_of) rfl
      exact ⟨_, fd, F, He.glo_ok X G (c.t.d.fact 11 (f := .glo "stamp_of") rfl), F.bindsN fun _ _ _ _ _ _ us hl => match us, hl with | [_], _ => rfl⟩
    d_number_by := by
      obtain ⟨fd, F⟩ := c.t.d.def_ 10 (d := WkHd.d_number_by) rfl
      exact ⟨_, fd, F, He.glo_ok X G (c.t.d.fact 12 (f := .glo "number_by") rfl), F.bindsN fun _ _ _ _ _ _ us hl => match us, hl with | [_], _ => rfl⟩
    d_plain_by := by
      obtain ⟨fd, F⟩ := c.t.d.def_ 11 (d := WkHd.d_plain_by) rfl
      exact ⟨_, fd, F, He.glo_ok X G (c.t.d.fact 13 (f := .glo "plain_by") rfl), F.bindsN fun _ _ _ _ _ _ us hl => match us, hl with | [_], _ => rfl⟩
    d_value_at := by
      obtain ⟨fd, F⟩ := c.t.d.def_ 12 (d := WkHd.d_value_at) rfl
      exact ⟨_, fd, F, He.glo_ok X G (c.t.d.fact 14 (f := .glo "value_at") rfl), F.bindsN fun _ _ _ _ _ _ us hl => match us, hl with | [_, _, _], _ => rfl⟩
    d_row_at := by
      obtain ⟨fd, F⟩ := c.t.d.def_ 13 (d := WkHd.d_row_at) rfl
      exact ⟨_, fd, F, He.glo_ok X G (c.t.d.fact 15 (f := .glo "row_at") rfl), F.bindsN fun _ _ _ _ _ _ us hl => match us, hl with | [_, _, _], _ => rfl⟩
    d_value_by := by
      obtain ⟨fd, F⟩ := c.t.d.def_ 14 (d := WkHd.d_value_by) rfl
      exact ⟨_, fd, F, He.glo_ok X G (c.t.d.fact 16 (f := .glo "value_by") rfl), F.bindsN fun _ _ _ _ _ _ us hl => match us, hl with | [_], _ => rfl⟩
    d_expr_words := by
      obtain ⟨fd, F⟩ := c.t.d.def_ 15 (d := WkHd.d_expr_words) rfl
      exact ⟨_, fd, F, He.glo_ok X G (c.t.d.fact 17 (f := .glo "expr_words") rfl), F.bindsN fun _ _ _ _ _ _ us hl => match us, hl with | [_], _ => rfl⟩
    d_recipe_words := by
      obtain ⟨fd, F⟩ := c.t.d.def_ 16 (d := WkHd.d_recipe_words) rfl
      exact ⟨_, fd, F, He.glo_ok X G (c.t.d.fact 18 (f := .glo "recipe_words") rfl), F.bindsN fun _ _ _ _ _ _ us hl => match us, hl with | [_], _ => rfl⟩
    d_show_recipe := by
      obtain ⟨fd, F⟩ := c.t.d.def_ 17 (d := WkHd.d_show_recipe) rfl
      exact ⟨_, fd, F, He.glo_ok X G (c.t.d.fact 19 (f := .glo "show_recipe") rfl), F.bindsN fun _ _ _ _ _ _ us hl => match us, hl with | [_], _ => rfl⟩
    d_as_value := by
      obtain ⟨fd, F⟩ := c.t.d.def_ 18 (d := WkHd.d_as_value) rfl
      exact ⟨_, fd, F, He.glo_ok X G (c.t.d.fact 20 (f := .glo "as_value") rfl), F.bindsN fun _ _ _ _ _ _ us hl => match us, hl with | [_], _ => rfl⟩
    d_part_told := by
      obtain ⟨fd, F⟩ := c.t.d.def_ 19 (d := WkHd.d_part_told) rfl
      exact ⟨_, fd, F, He.glo_ok X G (c.t.d.fact 21 (f := .glo "part_told") rfl), F.bindsN fun _ _ _ _ _ _ us hl => match us, hl with | [_, _], _ => rfl⟩
    d_joined_told := by
      obtain ⟨fd, F⟩ := c.t.d.def_ 20 (d := WkHd.d_joined_told) rfl
      exact ⟨_, fd, F, He.glo_ok X G (c.t.d.fact 22 (f := .glo "joined_told") rfl), F.bindsN fun _ _ _ _ _ _ us hl => match us, hl with | [_, _], _ => rfl⟩
    d_pair_told := by
      obtain ⟨fd, F⟩ := c.t.d.def_ 21 (d := WkHd.d_pair_told) rfl
      exact ⟨_, fd, F, He.glo_ok X G (c.t.d.fact 23 (f := .glo "pair_told") rfl), F.bindsN fun _ _ _ _ _ _ us hl => match us, hl with | [_, _, _], _ => rfl⟩
    d_told_by := by
      obtain ⟨fd, F⟩ := c.t.d.def_ 22 (d := WkHd.d_told_by) rfl
      exact ⟨_, fd, F, He.glo_ok X G (c.t.d.fact 24 (f := .glo "told_by") rfl), F.bindsN fun _ _ _ _ _ _ us hl => match us, hl with | [_, _], _ => rfl⟩
    d_asked_name := by
      obtain ⟨fd, F⟩ := c.t.d.def_ 23 (d := WkHd.d_asked_name) rfl
      exact ⟨_, fd, F, He.glo_ok X G (c.t.d.fact 25 (f := .glo "asked_name") rfl), F.bindsN fun _ _ _ _ _ _ us hl => match us, hl with | [_, _], _ => rfl⟩
    d_along := by
      obtain ⟨fd, F⟩ := c.t.d.def_ 24 (d := WkHd.d_along) rfl
      exact ⟨_, fd, F, He.glo_ok X G (c.t.d.fact 26 (f := .glo "along") rfl), F.bindsN fun _ _ _ _ _ _ us hl => match us, hl with | [_, _], _ => rfl⟩
    d_end_at := by
      obtain ⟨fd, F⟩ := c.t.d.def_ 25 (d := WkHd.d_end_at) rfl
      exact ⟨_, fd, F, He.glo_ok X G (c.t.d.fact 27 (f := .glo "end_at") rfl), F.bindsN fun _ _ _ _ _ _ us hl => match us, hl with | [_, _], _ => rfl⟩
    d_is_next := by
      obtain ⟨fd, F⟩ := c.t.d.def_ 26 (d := WkHd.d_is_next) rfl
      exact ⟨_, fd, F, He.glo_ok X G (c.t.d.fact 28 (f := .glo "is_next") rfl), F.bindsN fun _ _ _ _ _ _ us hl => match us, hl with | [_, _, _], _ => rfl⟩
    d_replay := by
      obtain ⟨fd, F⟩ := c.t.d.def_ 27 (d := WkHd.d_replay) rfl
      exact ⟨_, fd, F, He.glo_ok X G (c.t.d.fact 29 (f := .glo "replay") rfl), F.bindsN fun _ _ _ _ _ _ us hl => match us, hl with | [_, _, _], _ => rfl⟩
    d_Task_init := by
      obtain ⟨fd, F⟩ := c.t.d.def_ 28 (d := WkHd.d_Task_init) rfl
      exact ⟨_, fd, F, He.mkr_ok (c.t.d.fact 84 (f := .mkr "Task") rfl), F.bindsN fun _ _ _ _ _ _ us hl => match us, hl with | [_, _, _, _, _], _ => rfl⟩
    d_Task_go_on := by
      obtain ⟨fd, F⟩ := c.t.d.def_ 29 (d := WkHd.d_Task_go_on) rfl
      exact ⟨_, fd, F, He.meth_ok (c.t.d.fact 103 (f := .meth "Task" "go_on") rfl), F.bindsN fun _ _ _ _ _ _ us hl => match us, hl with | [_], _ => rfl⟩
    d_Task_look_on := by
      obtain ⟨fd, F⟩ := c.t.d.def_ 30 (d := WkHd.d_Task_look_on) rfl
      exact ⟨_, fd, F, He.meth_ok (c.t.d.fact 104 (f := .meth "Task" "look_on") rfl), F.bindsN fun _ _ _ _ _ _ us hl => match us, hl with | [_], _ => rfl⟩
    d_Task_ask_on := by
      obtain ⟨fd, F⟩ := c.t.d.def_ 31 (d := WkHd.d_Task_ask_on) rfl
      exact ⟨_, fd, F, He.meth_ok (c.t.d.fact 105 (f := .meth "Task" "ask_on") rfl), F.bindsN fun _ _ _ _ _ _ us hl => match us, hl with | [_], _ => rfl⟩
    d_Task_do_on := by
      obtain ⟨fd, F⟩ := c.t.d.def_ 32 (d := WkHd.d_Task_do_on) rfl
      exact ⟨_, fd, F, He.meth_ok (c.t.d.fact 106 (f := .meth "Task" "do_on") rfl), F.bindsN fun _ _ _ _ _ _ us hl => match us, hl with | [_], _ => rfl⟩
    d_Task_close := by
      obtain ⟨fd, F⟩ := c.t.d.def_ 33 (d := WkHd.d_Task_close) rfl
      exact ⟨_, fd, F, He.meth_ok (c.t.d.fact 107 (f := .meth "Task" "close") rfl), F.bindsN fun _ _ _ _ _ _ us hl => match us, hl with | [_, _, _], _ => rfl⟩
    d_Task_take := by
      obtain ⟨fd, F⟩ := c.t.d.def_ 34 (d := WkHd.d_Task_take) rfl
      exact ⟨_, fd, F, He.meth_ok (c.t.d.fact 108 (f := .meth "Task" "take") rfl), F.bindsN fun _ _ _ _ _ _ us hl => match us, hl with | [_, _], _ => rfl⟩
    d_Task_take_looked := by
      obtain ⟨fd, F⟩ := c.t.d.def_ 35 (d := WkHd.d_Task_take_looked) rfl
      exact ⟨_, fd, F, He.meth_ok (c.t.d.fact 109 (f := .meth "Task" "take_looked") rfl), F.bindsN fun _ _ _ _ _ _ us hl => match us, hl with | [_, _, _], _ => rfl⟩
    d_Task_begin_anew := by
      obtain ⟨fd, F⟩ := c.t.d.def_ 36 (d := WkHd.d_Task_begin_anew) rfl
      exact ⟨_, fd, F, He.meth_ok (c.t.d.fact 110 (f := .meth "Task" "begin_anew") rfl), F.bindsN fun _ _ _ _ _ _ us hl => match us, hl with | [_], _ => rfl⟩
    d_Task_go_round := by
      obtain ⟨fd, F⟩ := c.t.d.def_ 37 (d := WkHd.d_Task_go_round) rfl
      exact ⟨_, fd, F, He.meth_ok (c.t.d.fact 111 (f := .meth "Task" "go_round") rfl), F.bindsN fun _ _ _ _ _ _ us hl => match us, hl with | [_], _ => rfl⟩
    d_Weave_init := by
      obtain ⟨fd, F⟩ := c.t.d.def_ 38 (d := WkHd.d_Weave_init) rfl
      exact ⟨_, fd, F, He.mkr_ok (c.t.d.fact 97 (f := .mkr "Weave") rfl), F.bindsN fun _ _ _ _ _ _ us hl => match us, hl with | [_, _, _, _], _ => rfl⟩
    d_Weave_is_open_thing := by
      obtain ⟨fd, F⟩ := c.t.d.def_ 39 (d := WkHd.d_Weave_is_open_thing) rfl
      exact ⟨_, fd, F, He.meth_ok (c.t.d.fact 112 (f := .meth "Weave" "is_open_thing") rfl), F.bindsN fun _ _ _ _ _ _ us hl => match us, hl with | [_, _], _ => rfl⟩
    d_Weave_open_task := by
      obtain ⟨fd, F⟩ := c.t.d.def_ 40 (d := WkHd.d_Weave_open_task) rfl
      exact ⟨_, fd, F, He.meth_ok (c.t.d.fact 113 (f := .meth "Weave" "open_task") rfl), F.bindsN fun _ _ _ _ _ _ us hl => match us, hl with | [_, _], _ => rfl⟩
    d_Weave_stamp_now := by
      obtain ⟨fd, F⟩ := c.t.d.def_ 41 (d := WkHd.d_Weave_stamp_now) rfl
      exact ⟨_, fd, F, He.meth_ok (c.t.d.fact 114 (f := .meth "Weave" "stamp_now") rfl), F.bindsN fun _ _ _ _ _ _ us hl => match us, hl with | [_, _], _ => rfl⟩
    d_Weave_ready := by
      obtain ⟨fd, F⟩ := c.t.d.def_ 42 (d := WkHd.d_Weave_ready) rfl
      exact ⟨_, fd, F, He.meth_ok (c.t.d.fact 115 (f := .meth "Weave" "ready") rfl), F.bindsN fun _ _ _ _ _ _ us hl => match us, hl with | [_], _ => rfl⟩
    d_Weave_move := by
      obtain ⟨fd, F⟩ := c.t.d.def_ 43 (d := WkHd.d_Weave_move) rfl
      exact ⟨_, fd, F, He.meth_ok (c.t.d.fact 116 (f := .meth "Weave" "move") rfl), F.bindsN fun _ _ _ _ _ _ us hl => match us, hl with | [_, _], _ => rfl⟩
    d_Weave_settle_task := by
      obtain ⟨fd, F⟩ := c.t.d.def_ 44 (d := WkHd.d_Weave_settle_task) rfl
      exact ⟨_, fd, F, He.meth_ok (c.t.d.fact 117 (f := .meth "Weave" "settle_task") rfl), F.bindsN fun _ _ _ _ _ _ us hl => match us, hl with | [_, _], _ => rfl⟩
    d_Weave_settle_rings := by
      obtain ⟨fd, F⟩ := c.t.d.def_ 45 (d := WkHd.d_Weave_settle_rings) rfl
      exact ⟨_, fd, F, He.meth_ok (c.t.d.fact 118 (f := .meth "Weave" "settle_rings") rfl), F.bindsN fun _ _ _ _ _ _ us hl => match us, hl with | [_], _ => rfl⟩
    d_Weave_settled := by
      obtain ⟨fd, F⟩ := c.t.d.def_ 46 (d := WkHd.d_Weave_settled) rfl
      exact ⟨_, fd, F, He.meth_ok (c.t.d.fact 119 (f := .meth "Weave" "settled") rfl), F.bindsN fun _ _ _ _ _ _ us hl => match us, hl with | [_], _ => rfl⟩
    d_Weave_told := by
      obtain ⟨fd, F⟩ := c.t.d.def_ 47 (d := WkHd.d_Weave_told) rfl
      exact ⟨_, fd, F, He.meth_ok (c.t.d.fact 120 (f := .meth "Weave" "told") rfl), F.bindsN fun _ _ _ _ _ _ us hl => match us, hl with | [_], _ => rfl⟩
    d_law_draws := by
      obtain ⟨fd, F⟩ := c.t.d.def_ 48 (d := WkHd.d_law_draws) rfl
      exact ⟨_, fd, F, He.glo_ok X G (c.t.d.fact 32 (f := .glo "_law_draws") rfl), F.bindsN fun _ _ _ _ _ _ us hl => match us, hl with | [_, _, _], _ => rfl⟩
    d_law_names := by
      obtain ⟨fd, F⟩ := c.t.d.def_ 49 (d := WkHd.d_law_names) rfl
      exact ⟨_, fd, F, He.glo_ok X G (c.t.d.fact 33 (f := .glo "_law_names") rfl), F.bindsN fun _ _ _ _ _ _ us hl => match us, hl with | [_, _, _], _ => rfl⟩
    d_law_next := by
      obtain ⟨fd, F⟩ := c.t.d.def_ 50 (d := WkHd.d_law_next) rfl
      exact ⟨_, fd, F, He.glo_ok X G (c.t.d.fact 34 (f := .glo "_law_next") rfl), F.bindsN fun _ _ _ _ _ _ us hl => match us, hl with | [_], _ => rfl⟩
    d_law_value := by
      obtain ⟨fd, F⟩ := c.t.d.def_ 51 (d := WkHd.d_law_value) rfl
      exact ⟨_, fd, F, He.glo_ok X G (c.t.d.fact 35 (f := .glo "_law_value") rfl), F.bindsN fun _ _ _ _ _ _ us hl => match us, hl with | [_, _], _ => rfl⟩
    d_law_leaf := by
      obtain ⟨fd, F⟩ := c.t.d.def_ 52 (d := WkHd.d_law_leaf) rfl
      exact ⟨_, fd, F, He.glo_ok X G (c.t.d.fact 36 (f := .glo "_law_leaf") rfl), F.bindsN fun _ _ _ _ _ _ us hl => match us, hl with | [_, _, _], _ => rfl⟩
    d_law_expr := by
      obtain ⟨fd, F⟩ := c.t.d.def_ 53 (d := WkHd.d_law_expr) rfl
      exact ⟨_, fd, F, He.glo_ok X G (c.t.d.fact 37 (f := .glo "_law_expr") rfl), F.bindsN fun _ _ _ _ _ _ us hl => match us, hl with | [_, _, _], _ => rfl⟩
    d_law_recipe := by
      obtain ⟨fd, F⟩ := c.t.d.def_ 54 (d := WkHd.d_law_recipe) rfl
      exact ⟨_, fd, F, He.glo_ok X G (c.t.d.fact 38 (f := .glo "_law_recipe") rfl), F.bindsN fun _ _ _ _ _ _ us hl => match us, hl with | [_, _, _, _, _], _ => rfl⟩
    d_law_thing := by
      obtain ⟨fd, F⟩ := c.t.d.def_ 55 (d := WkHd.d_law_thing) rfl
      exact ⟨_, fd, F, He.glo_ok X G (c.t.d.fact 39 (f := .glo "_law_thing") rfl), F.bindsN fun _ _ _ _ _ _ us hl => match us, hl with | [_, _, _, _], _ => rfl⟩
    d_law_book_of := by
      obtain ⟨fd, F⟩ := c.t.d.def_ 56 (d := WkHd.d_law_book_of) rfl
      exact ⟨_, fd, F, He.glo_ok X G (c.t.d.fact 40 (f := .glo "_law_book_of") rfl), F.bindsN fun _ _ _ _ _ _ us hl => match us, hl with | [_, _], _ => rfl⟩
    d_law_rung := by
      obtain ⟨fd, F⟩ := c.t.d.def_ 57 (d := WkHd.d_law_rung) rfl
      exact ⟨_, fd, F, He.glo_ok X G (c.t.d.fact 41 (f := .glo "_law_rung") rfl), F.bindsN fun _ _ _ _ _ _ us hl => match us, hl with | [_, _, _], _ => rfl⟩
    d_law_books := by
      obtain ⟨fd, F⟩ := c.t.d.def_ 58 (d := WkHd.d_law_books) rfl
      exact ⟨_, fd, F, He.glo_ok X G (c.t.d.fact 42 (f := .glo "_law_books") rfl), F.bindsN fun _ _ _ _ _ _ us hl => match us, hl with | [_, _, _], _ => rfl⟩
    d_law_stamp := by
      obtain ⟨fd, F⟩ := c.t.d.def_ 59 (d := WkHd.d_law_stamp) rfl
      exact ⟨_, fd, F, He.glo_ok X G (c.t.d.fact 43 (f := .glo "_law_stamp") rfl), F.bindsN fun _ _ _ _ _ _ us hl => match us, hl with | [_], _ => rfl⟩
    d_law_run := by
      obtain ⟨fd, F⟩ := c.t.d.def_ 60 (d := WkHd.d_law_run) rfl
      exact ⟨_, fd, F, He.glo_ok X G (c.t.d.fact 44 (f := .glo "_law_run") rfl), F.bindsN fun _ _ _ _ _ _ us hl => match us, hl with | [_, _, _], _ => rfl⟩
    d_law_line := by
      obtain ⟨fd, F⟩ := c.t.d.def_ 61 (d := WkHd.d_law_line) rfl
      exact ⟨_, fd, F, He.glo_ok X G (c.t.d.fact 45 (f := .glo "_law_line") rfl), F.bindsN fun _ _ _ _ _ _ us hl => match us, hl with | [_, _, _], _ => rfl⟩
    d_law_lines := by
      obtain ⟨fd, F⟩ := c.t.d.def_ 62 (d := WkHd.d_law_lines) rfl
      exact ⟨_, fd, F, He.glo_ok X G (c.t.d.fact 46 (f := .glo "_law_lines") rfl), F.bindsN fun _ _ _ _ _ _ us hl => match us, hl with | [_], _ => rfl⟩
    d_law_held := by
      obtain ⟨fd, F⟩ := c.t.d.def_ 63 (d := WkHd.d_law_held) rfl
      exact ⟨_, fd, F, He.glo_ok X G (c.t.d.fact 47 (f := .glo "_law_held") rfl), F.bindsN fun _ _ _ _ _ _ us hl => match us, hl with | [_, _, _], _ => rfl⟩
    d_law_asked := by
      obtain ⟨fd, F⟩ := c.t.d.def_ 64 (d := WkHd.d_law_asked) rfl
      exact ⟨_, fd, F, He.glo_ok X G (c.t.d.fact 48 (f := .glo "_law_asked") rfl), F.bindsN fun _ _ _ _ _ _ us hl => match us, hl with | [_, _, _], _ => rfl⟩
    d_law_now := by
      obtain ⟨fd, F⟩ := c.t.d.def_ 65 (d := WkHd.d_law_now) rfl
      exact ⟨_, fd, F, He.glo_ok X G (c.t.d.fact 49 (f := .glo "_law_now") rfl), F.bindsN fun _ _ _ _ _ _ us hl => match us, hl with | [_, _, _], _ => rfl⟩
    d_law_opens := by
      obtain ⟨fd, F⟩ := c.t.d.def_ 66 (d := WkHd.d_law_opens) rfl
      exact ⟨_, fd, F, He.glo_ok X G (c.t.d.fact 50 (f := .glo "_law_opens") rfl), F.bindsN fun _ _ _ _ _ _ us hl => match us, hl with | [_, _], _ => rfl⟩
    d_law_closes := by
      obtain ⟨fd, F⟩ := c.t.d.def_ 67 (d := WkHd.d_law_closes) rfl
      exact ⟨_, fd, F, He.glo_ok X G (c.t.d.fact 51 (f := .glo "_law_closes") rfl), F.bindsN fun _ _ _ _ _ _ us hl => match us, hl with | [_, _, _, _], _ => rfl⟩
    d_law_did := by
      obtain ⟨fd, F⟩ := c.t.d.def_ 68 (d := WkHd.d_law_did) rfl
      exact ⟨_, fd, F, He.glo_ok X G (c.t.d.fact 52 (f := .glo "_law_did") rfl), F.bindsN fun _ _ _ _ _ _ us hl => match us, hl with | [_, _, _], _ => rfl⟩
    d_law_goes := by
      obtain ⟨fd, F⟩ := c.t.d.def_ 69 (d := WkHd.d_law_goes) rfl
      exact ⟨_, fd, F, He.glo_ok X G (c.t.d.fact 53 (f := .glo "_law_goes") rfl), F.bindsN fun _ _ _ _ _ _ us hl => match us, hl with | [_, _], _ => rfl⟩
    d_law_takes := by
      obtain ⟨fd, F⟩ := c.t.d.def_ 70 (d := WkHd.d_law_takes) rfl
      exact ⟨_, fd, F, He.glo_ok X G (c.t.d.fact 54 (f := .glo "_law_takes") rfl), F.bindsN fun _ _ _ _ _ _ us hl => match us, hl with | [_, _], _ => rfl⟩
    d_law_able := by
      obtain ⟨fd, F⟩ := c.t.d.def_ 71 (d := WkHd.d_law_able) rfl
      exact ⟨_, fd, F, He.glo_ok X G (c.t.d.fact 55 (f := .glo "_law_able") rfl), F.bindsN fun _ _ _ _ _ _ us hl => match us, hl with | [_], _ => rfl⟩
    d_law_rings := by
      obtain ⟨fd, F⟩ := c.t.d.def_ 72 (d := WkHd.d_law_rings) rfl
      exact ⟨_, fd, F, He.glo_ok X G (c.t.d.fact 56 (f := .glo "_law_rings") rfl), F.bindsN fun _ _ _ _ _ _ us hl => match us, hl with | [_], _ => rfl⟩
    d_law_moves := by
      obtain ⟨fd, F⟩ := c.t.d.def_ 73 (d := WkHd.d_law_moves) rfl
      exact ⟨_, fd, F, He.glo_ok X G (c.t.d.fact 57 (f := .glo "_law_moves") rfl), F.bindsN fun _ _ _ _ _ _ us hl => match us, hl with | [_, _], _ => rfl⟩
    d_law := by
      obtain ⟨fd, F⟩ := c.t.d.def_ 74 (d := WkHd.d_law) rfl
      exact ⟨_, fd, F, He.glo_ok X G (c.t.d.fact 58 (f := .glo "law") rfl), F.bindsN fun _ _ _ _ _ _ us hl => match us, hl with | [_], _ => rfl⟩
  }
theorem facts {P : Program} {w : World} {K : PySem.W.Frag} {h h' : Heap} {mg : Str → Option Value} {f : Addr} (X : K.In h) (G : h.Ns mainGlobals mg) (hfa : mg ("law" : Str) = some (.ref f)) (c : He.SaysX fa fn [] [] exB w h' K) :
    ∃ fd : FuncData, (∀ (s : Shared) (v : Value), BindsTo s fd ⟨[v], []⟩ [("_law_script", v)]) ∧ ∀ base : Heap, K.In base → base.Ns mainGlobals mg → FnOk P w K mg base CX0 30 f fd ["_law_script"] (spLaw K) := by
  have W := wld X G c
  obtain ⟨fd, F⟩ := c.t.d.def_ 74 (d := WkHd.d_law) rfl
  have e := hfa.symm.trans (He.glo_ok X G (c.t.d.fact 58 (f := .glo "law") rfl))
  cases e
  have b := FunD.bindsA (ps := ["_law_script"]) F fun _ _ _ _ _ _ us hl => match us, hl with | [_], _ => rfl
  exact ⟨fd, fun s v => b s [v] rfl, fun base _ _ => fnok_of F sc_law law_len (law_body W)⟩
theorem law_room : Room 30 callerA := ⟨rfl, by decide, by decide⟩
end WkHd
open PySem PySem.W PySem.Calls PyProof.Rows
set_option maxHeartbeats 0 in
theorem PySem.Challenge.cw_redo_k55_weave_moves_holds : PySem.Challenge.rw_redo_k55_weave_moves.Holds := by
  w_on; o_law
  refine HandSHeadRun.head_any (r := OpenLaw.row PySem.Challenge.rw_redo_k55_weave_moves) (q := view (OpenLaw.row PySem.Challenge.rw_redo_k55_weave_moves).prog [80]) (H := WkHd.hk) (ob := WkHd.ob) (M := 4000) (loose := WkHd.nms) (d := HandSHeadRun.topDef (OpenLaw.row PySem.Challenge.rw_redo_k55_weave_moves).prog 80) (kwd := [])
    WkHd.ob_eq (by kernel_rfl) (fun s => by kernel_rfl) WkHd.run (by kernel_rfl) (by kernel_rfl) (by kernel_rfl) (by rfl) (by first | assumption | decide +kernel) (by decide +kernel) ⟨rfl, rfl, rfl, rfl, rfl, by decide +kernel⟩ ?hw ?hc
  case hw => w_witness2
  case hc =>
    refine L2.walk_ofE (l := PySem.Challenge.rw_redo_k55_weave_moves) (n := 63) (k := 30) (x := "_law_script") (CX := L2.CX0) rfl (by decide) (by kernel_rfl) WkHd.law_room ?F (fun _ _ _ _ z => z)
    intro w mg fa h Y G hmg0
    obtain ⟨K, KX, c⟩ := Y
    have hmg : mg ("law" : PySem.Str) = some (.ref fa) := by
      have e : (HandSHeadRun.topDef (OpenLaw.row PySem.Challenge.rw_redo_k55_weave_moves).prog 80).name = ("law" : PySem.Str) := by kernel_rfl
      rw [← e]
      exact hmg0
    obtain ⟨fd, hb, hF⟩ := WkHd.facts (P := (PySem.Challenge.rw_redo_k55_weave_moves).prog) (w := w) KX G hmg c
    exact ⟨K, fd, Wk.spLaw K, KX, hb, fun H a ns hl _ hS => ⟨_, ns, rfl, .lst hS (L2.DpAll.ints ns), by omega, fun _ _ => rfl⟩, hF⟩
