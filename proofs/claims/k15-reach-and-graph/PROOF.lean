import PyProof.Rows.All
import Wide.All
import OpenK.AllK
import Wide.FinOn
import KE.KStateDown
import HandS.ForMost
import HandS.Flow
import HandS.IsInst
import HandS.Head0
import HandS.Head1
import HandS.Head2
import HandS.HeadEnd
import HandS.Defaults
import HandS.HeadHook1
import HandS.HeadHook2
import KE.KSuper
import HandS.Sort
import HandS.Iter
import HandS.Evl
import HandS.WordsDict
import OpenK.KOps
import HandS.ClsMeth
import HandS.Walk
import PySem.Challenge.RW_likerun_k15_reach_and_graph
set_option Elab.async false
set_option linter.all false
set_option maxRecDepth 100000
set_option maxHeartbeats 4000000
/-! The ground that the laws of the memory share: callable defs, data trees, frames. -/
namespace M14
open PySem PySem.Spec PyProof.Rows L2

/-! ### defs by name -/
abbrev FnP (K : PySem.W.Frag) (x qual : Str) (st : Stmt) (f : Addr) (fd : FuncData) : Prop := FunD K x qual (defArgs st) (defBody st) (defScope st) [] [] f fd
/-- a module's def as it stands behind the top -/
def Def1 (K : PySem.W.Frag) (mg : Str → Option Value) (x : Str) (st : Stmt) : Prop := ∃ f fd, FnP K x x st f fd ∧ mg x = some (.ref f)
/-- a method of the class at C -/
def Def2 (K : PySem.W.Frag) (C : Addr) (m qual : Str) (st : Stmt) : Prop := ∃ f fd, FnP K m qual st f fd ∧ Meth K C m f
section
variable (P : Program) (w : World) (K : PySem.W.Frag) (mg : Str → Option Value) (base : Heap)
def Cal (k : Nat) (x : Str) (ps : List Str) (sp : Sp) : Prop := ∃ f fd, FnOk P w K mg base CX0 k f fd ps sp ∧ mg x = some (.ref f) ∧ PySem.W.keepIn K (.ref f) = true ∧ Binds K fd ps []
def CalM (k : Nat) (C : Addr) (m : Str) (ps : List Str) (sp : Sp) : Prop := ∃ f fd, FnOk P w K mg base CX0 k f fd ps sp ∧ Cls K C ∧ Meth K C m f ∧ Binds K fd ps []
def CalC (k : Nat) (C : Addr) (x : Str) (ps : List Str) (sp : Sp) : Prop := ∃ f fd, FnOk P w K mg base CX0 k f fd ps sp ∧ mg x = some (.ref C) ∧ Mk K C f ∧ Binds K fd ps []
end
section
variable {X : Cx} {x m : Str} {p pos apos : Pos} {e o : Expr} {es : List Expr} {k : Nat} {ps : List Str} {sp : Sp} {t : TA} {ta : TE} {C : Addr}
theorem pe_cal (c : Cal X.prog X.w X.K X.mg X.base k x ps sp) (hr : Room k X.A) (hg : Gl X x) (ha : PA X (e :: es) t) (hdb : (x == ("__debug__" : Str)) = false := by decide) (he : starEach (e :: es) X.env = (false, eval e X.env) :: starEach es X.env := by rfl) (hpl : (backTo pos (starEach es X.env)).any (·.1) = false := by rfl) :
    PE X (.Call (.Name x p) (e :: es) [] pos) (tCall sp [] E0 t) := by
  obtain ⟨f, fd, F, hm, hk, hb⟩ := c
  exact pe_call F hr hg hm hk hb .nil pass0 ha hdb he hpl
theorem pe_cal0 (c : Cal X.prog X.w X.K X.mg X.base k x ps sp) (hr : Room k X.A) (hg : Gl X x) (hdb : (x == ("__debug__" : Str)) = false := by decide) : PE X (.Call (.Name x p) [] [] pos) (tCall sp [] E0 tNil) := by
  obtain ⟨f, fd, F, hm, hk, hb⟩ := c
  exact pe_call0 F hr hg hm hk hb .nil pass0 hdb
theorem pe_mcal {pl : Sem Bool} (he : PE X o ta) (c : CalM X.prog X.w X.K X.mg X.base k C m ps sp) (hr : Room k X.A) (ha : PA X (e :: es) t)
    (hst : starEach (e :: es) X.env = (false, eval e X.env) :: starEach es X.env := by rfl) (hpl : (backTo pos (starEach es X.env)).any (·.1) = false := by rfl)
    (ht : eval (.Call (.Attribute o m apos) (e :: es) [] pos) X.env = (do
      let ov ← eval o X.env
      standAt apos.atName
      let (f, first) ← holding [ov] (getMethod ov m pl)
      callWith pos f first (backTo pos (starEach (e :: es) X.env)) (backToKw pos (keywordEach [] X.env))) := by rfl) :
    PE X (.Call (.Attribute o m apos) (e :: es) [] pos) (tMeth C m sp [] E0 ta t) := by
  obtain ⟨f, fd, F, cl, hm, hb⟩ := c
  exact pe_meth he cl hm F hr hb .nil pass0 ha hst hpl ht
theorem pe_mcal0 {pl : Sem Bool} (he : PE X o ta) (c : CalM X.prog X.w X.K X.mg X.base k C m ps sp) (hr : Room k X.A)
    (ht : eval (.Call (.Attribute o m apos) [] [] pos) X.env = (do
      let ov ← eval o X.env
      standAt apos.atName
      let (f, first) ← holding [ov] (getMethod ov m pl)
      callWith pos f first (backTo pos (starEach [] X.env)) (backToKw pos (keywordEach [] X.env))) := by rfl) :
    PE X (.Call (.Attribute o m apos) [] [] pos) (tMeth C m sp [] E0 ta tNil) := by
  obtain ⟨f, fd, F, cl, hm, hb⟩ := c
  exact pe_meth0 he cl hm F hr hb .nil pass0 ht
theorem pe_mk (c : CalC X.prog X.w X.K X.mg X.base k C x ps sp) (hr : Room (k + 1) X.A) (hg : Gl X x) (ha : PA X (e :: es) t) (hdb : (x == ("__debug__" : Str)) = false := by decide) (he : starEach (e :: es) X.env = (false, eval e X.env) :: starEach es X.env := by rfl) (hpl : (backTo pos (starEach es X.env)).any (·.1) = false := by rfl) :
    PE X (.Call (.Name x p) (e :: es) [] pos) (tMake C sp [] E0 t) := by
  obtain ⟨f, fd, F, hm, M, hb⟩ := c
  exact pe_make M F hr hg hm hb .nil pass0 ha hdb he hpl
theorem pe_mk0 (c : CalC X.prog X.w X.K X.mg X.base k C x ps sp) (hr : Room (k + 1) X.A) (hg : Gl X x) (hdb : (x == ("__debug__" : Str)) = false := by decide) : PE X (.Call (.Name x p) [] [] pos) (tMake C sp [] E0 tNil) := by
  obtain ⟨f, fd, F, hm, M, hb⟩ := c
  exact pe_make0 M F hr hg hm hb .nil pass0 hdb
end
section
variable {P : Program} {w : World} {K : PySem.W.Frag} {mg : Str → Option Value} {base : Heap}
/-- from the walk of a def's body to the def's promise -/
theorem Def1.cal {x : Str} {st : Stmt} {N ps : List Str} {k : Nat} {sp : Sp} (D : Def1 K mg x st) (S : FnScope N ps (defScope st))
    (hb : ∀ (kV doc pm : Value) (an : Option Addr) (cdv ct : Value) (us : List Value), us.length = ps.length → bindArgs (PySem.W.fnOf x x (defArgs st) (defBody st) (defScope st) .none kV doc pm an cdv ct) ⟨us, []⟩ = pure (ps.zip us))
    (len : ∀ vs H Q E, sp vs H Q E → vs.length = ps.length)
    (hbody : ∀ (f : Addr) (cdv : Value) (A : Around) (outer : List Env) (s : Shared) (H : Hp) (vs : List V) (Q : VK) (E : XK), Room k (A.deeper (envOfC x (defScope st) s.heap.objs.size f cdv)) → sp vs H Q E →
      ∃ t, PSs (cxOf CX0 P w K mg base N x (defScope st) f cdv A outer s H E).nox (defBody st) t ∧ t { nx := fun _ H' => Q .non H', rt := Q } (start N vs) H) : Cal P w K mg base (k + 1) x ps sp := by
  obtain ⟨f, fd, F, g⟩ := D
  refine ⟨f, fd, F.ok S len fun cdv A outer s H vs Q E hr h => ?_, g, F.kp, F.bindsN hb⟩
  obtain ⟨t, h1, h2⟩ := hbody f cdv A outer s H vs Q E hr h
  exact ⟨t, h1.nox, h2⟩
theorem Def2.fn {C : Addr} {m qual : Str} {st : Stmt} {N ps : List Str} {k : Nat} {sp : Sp} (D : Def2 K C m qual st) (S : FnScope N ps (defScope st))
    (hb : ∀ (kV doc pm : Value) (an : Option Addr) (cdv ct : Value) (us : List Value), us.length = ps.length → bindArgs (PySem.W.fnOf m qual (defArgs st) (defBody st) (defScope st) .none kV doc pm an cdv ct) ⟨us, []⟩ = pure (ps.zip us))
    (len : ∀ vs H Q E, sp vs H Q E → vs.length = ps.length)
    (hbody : ∀ (f : Addr) (cdv : Value) (A : Around) (outer : List Env) (s : Shared) (H : Hp) (vs : List V) (Q : VK) (E : XK), Room k (A.deeper (envOfC qual (defScope st) s.heap.objs.size f cdv)) → sp vs H Q E →
      ∃ t, PSs (cxOf CX0 P w K mg base N qual (defScope st) f cdv A outer s H E).nox (defBody st) t ∧ t { nx := fun _ H' => Q .non H', rt := Q } (start N vs) H) : ∃ f fd, FnOk P w K mg base CX0 (k + 1) f fd ps sp ∧ Meth K C m f ∧ Binds K fd ps [] := by
  obtain ⟨f, fd, F, g⟩ := D
  refine ⟨f, fd, F.ok S len fun cdv A outer s H vs Q E hr h => ?_, g, F.bindsN hb⟩
  obtain ⟨t, h1, h2⟩ := hbody f cdv A outer s H vs Q E hr h
  exact ⟨t, h1.nox, h2⟩
theorem Def2.cal {C : Addr} {m qual : Str} {st : Stmt} {N ps : List Str} {k : Nat} {sp : Sp} (D : Def2 K C m qual st) (cl : Cls K C) (S : FnScope N ps (defScope st))
    (hb : ∀ (kV doc pm : Value) (an : Option Addr) (cdv ct : Value) (us : List Value), us.length = ps.length → bindArgs (PySem.W.fnOf m qual (defArgs st) (defBody st) (defScope st) .none kV doc pm an cdv ct) ⟨us, []⟩ = pure (ps.zip us))
    (len : ∀ vs H Q E, sp vs H Q E → vs.length = ps.length)
    (hbody : ∀ (f : Addr) (cdv : Value) (A : Around) (outer : List Env) (s : Shared) (H : Hp) (vs : List V) (Q : VK) (E : XK), Room k (A.deeper (envOfC qual (defScope st) s.heap.objs.size f cdv)) → sp vs H Q E →
      ∃ t, PSs (cxOf CX0 P w K mg base N qual (defScope st) f cdv A outer s H E).nox (defBody st) t ∧ t { nx := fun _ H' => Q .non H', rt := Q } (start N vs) H) : CalM P w K mg base (k + 1) C m ps sp := by
  obtain ⟨f, fd, F, g, b⟩ := D.fn S hb len hbody
  exact ⟨f, fd, F, cl, g, b⟩
end

theorem CalM.mono {P : Program} {w : World} {K : PySem.W.Frag} {mg : Str → Option Value} {base : Heap} {j k : Nat} {C : Addr} {m : Str} {ps : List Str} {sp : Sp} (c : CalM P w K mg base j C m ps sp) (h : j ≤ k) : CalM P w K mg base k C m ps sp :=
  let ⟨f, fd, F, a, b, d⟩ := c; ⟨f, fd, F.mono h, a, b, d⟩
/-! ### frames -/
/-- what stood stands, but for the objects at M; these are no tuples -/
structure Fr (M : List Addr) (H H' : Hp) : Prop where
  kp : ∀ a o, H a = some o → a ∉ M → H' a = some o
  nt : ∀ a ∈ M, ∀ xs, H a ≠ some (.tup xs)
theorem Fr.refl0 (H : Hp) : Fr [] H H := ⟨fun _ _ h _ => h, fun _ h => nomatch h⟩
theorem Fr.refl {M : List Addr} {H : Hp} (n : ∀ a ∈ M, ∀ xs, H a ≠ some (.tup xs)) : Fr M H H := ⟨fun _ _ h _ => h, n⟩
theorem Fr.trans {M : List Addr} {H H1 H2 : Hp} (a : Fr M H H1) (b : Fr M H1 H2) : Fr M H H2 := ⟨fun x o h n => b.kp x o (a.kp x o h n) n, a.nt⟩
/-- a frame within -/
theorem Fr.to {M M' : List Addr} {H H' : Hp} (a : Fr M H H') (s : ∀ x ∈ M, x ∈ M' ∨ H x = none) (n : ∀ a ∈ M', ∀ xs, H a ≠ some (.tup xs)) : Fr M' H H' :=
  ⟨fun x o h m => a.kp x o h fun z => (s x z).elim m fun e => (by rw [e] at h; cases h), n⟩
theorem Fr.tr {M : List Addr} {H H1 H2 : Hp} (a : Fr M H H1) (b : Fr [] H1 H2) : Fr M H H2 := ⟨fun x o h n => b.kp x o (a.kp x o h n) (by simp), a.nt⟩
theorem Fr.new {H : Hp} {p : Addr} {o : HO} (h : H p = none) : Fr [] H (upd H p o) := ⟨fun a u e _ => by rw [upd_ne (ne_of_none e h)]; exact e, fun _ h => nomatch h⟩
theorem Fr.put {H : Hp} {p : Addr} {o u : HO} (h : H p = some u) (n : ∀ xs, u ≠ .tup xs) : Fr [p] H (upd H p o) :=
  ⟨fun a v e m => (upd_ne (fun q => m (by rw [q]; exact List.mem_cons_self))).trans e, fun a m xs e => by
    have q : a = p := by simpa using m
    rw [q, h] at e
    exact n xs (Option.some.inj e)⟩
theorem Fr.free {H H' : Hp} (e : Fr [] H H') {l : Addr} (h : H' l = none) : H l = none := by
  cases q : H l with
  | none => rfl
  | some o => rw [e.kp l o q (by simp)] at h; cases h
theorem Fr.freeM {M : List Addr} {H H' : Hp} (e : Fr M H H') (hm : ∀ a ∈ M, H' a ≠ none) {l : Addr} (h : H' l = none) : H l = none := by
  cases q : H l with
  | none => rfl
  | some o =>
    rw [e.kp l o q fun m => hm l m h] at h; cases h
theorem Fr.tup {M : List Addr} {H H' : Hp} (e : Fr M H H') {a : Addr} {xs : List V} (h : H a = some (.tup xs)) : H' a = some (.tup xs) := e.kp a _ h fun m => e.nt a m xs h
theorem Fr.at1 {b : Addr} {H H' : Hp} (e : Fr [b] H H') {a : Addr} {o : HO} (h : H a = some o) (n : a ≠ b) : H' a = some o := e.kp a o h fun m => n (by simpa using m)

/-! ### data -/
inductive T where
  | non | bl (b : Bool) | int (i : Int) | str (s : Str) | tup (ts : List T)
/-- a tuple that may be read, and whose type is known -/
def TupAt (K : PySem.W.Frag) (H : Hp) (a : Addr) (xs : List V) : Prop := SqT K H a xs ∧ TyX K H (.ref a) (.type "tuple")
theorem TupAt.of {K : PySem.W.Frag} {H : Hp} {a : Addr} {xs : List V} (h : H a = some (.tup xs)) : TupAt K H a xs := ⟨SqT.of h, .base (.tup h)⟩
inductive Den (K : PySem.W.Frag) (H : Hp) : V → T → Prop where
  | non : Den K H .non .non
  | bl (b : Bool) : Den K H (.bl b) (.bl b)
  | int (i : Int) : Den K H (.int i) (.int i)
  | str (s : Str) : Den K H (.str s) (.str s)
  | tup {a : Addr} {xs : List V} {ts : List T} (h : H a = some (.tup xs)) (l : xs.length = ts.length) (c : ∀ (i : Nat) (x : V) (t : T), xs[i]? = some x → ts[i]? = some t → Den K H x t) : Den K H (.ref a) (.tup ts)
inductive Dep : Nat → T → Prop where
  | non {d} : Dep d .non
  | bl {d b} : Dep d (.bl b)
  | int {d i} : Dep d (.int i)
  | str {d s} : Dep d (.str s)
  | tup {d ts} (l : ts.length ≤ 2000) (h : ∀ t ∈ ts, Dep d t) : Dep (d + 1) (.tup ts)
theorem Dep.mono {d e : Nat} {t : T} (h : Dep d t) : d ≤ e → Dep e t := by
  induction h generalizing e with
  | non => intro _; exact .non
  | bl => intro _; exact .bl
  | int => intro _; exact .int
  | str => intro _; exact .str
  | tup l' h ih =>
    intro l
    obtain ⟨e, rfl⟩ : ∃ n, e = n + 1 := ⟨e - 1, by omega⟩
    exact .tup l' fun t m => ih t m (by omega)
theorem Den.fr {K : PySem.W.Frag} {M : List Addr} {H H' : Hp} {v : V} {t : T} (e : Fr M H H') (h : Den K H v t) : Den K H' v t := by
  induction h with
  | non => exact .non
  | bl b => exact .bl b
  | int i => exact .int i
  | str s => exact .str s
  | tup h l _ ih => exact .tup (e.tup h) l ih
/-- the items of a list of data -/
def Dens (K : PySem.W.Frag) (H : Hp) (xs : List V) (ts : List T) : Prop := xs.length = ts.length ∧ ∀ (i : Nat) (x : V) (t : T), xs[i]? = some x → ts[i]? = some t → Den K H x t
theorem Dens.fr {K : PySem.W.Frag} {M : List Addr} {H H' : Hp} {xs : List V} {ts : List T} (e : Fr M H H') (h : Dens K H xs ts) : Dens K H' xs ts := ⟨h.1, fun i x t a b => (h.2 i x t a b).fr e⟩
theorem Dens.nil {K : PySem.W.Frag} {H : Hp} : Dens K H [] [] := ⟨rfl, fun i x t h => by simp at h⟩
theorem Dens.cons {K : PySem.W.Frag} {H : Hp} {x : V} {t : T} {xs : List V} {ts : List T} (h : Den K H x t) (r : Dens K H xs ts) : Dens K H (x :: xs) (t :: ts) :=
  ⟨by simp [r.1], fun i y u a b => by
    cases i with
    | zero => simp at a b; subst a b; exact h
    | succ i => exact r.2 i y u (by simpa using a) (by simpa using b)⟩
theorem Dens.app {K : PySem.W.Frag} {H : Hp} {xs ys : List V} {ts us : List T} (h : Dens K H xs ts) (r : Dens K H ys us) : Dens K H (xs ++ ys) (ts ++ us) := by
  refine ⟨by simp [h.1, r.1], fun i y u a b => ?_⟩
  by_cases hi : i < xs.length
  · rw [List.getElem?_append_left hi] at a
    rw [List.getElem?_append_left (by rw [← h.1]; exact hi)] at b
    exact h.2 i y u a b
  · rw [List.getElem?_append_right (by omega)] at a
    rw [List.getElem?_append_right (by rw [← h.1]; omega), ← h.1] at b
    exact r.2 _ y u a b
theorem Dens.snoc {K : PySem.W.Frag} {H : Hp} {xs : List V} {ts : List T} {x : V} {t : T} (r : Dens K H xs ts) (h : Den K H x t) : Dens K H (xs ++ [x]) (ts ++ [t]) := r.app (.cons h .nil)
theorem Dens.get {K : PySem.W.Frag} {H : Hp} {xs : List V} {ts : List T} (h : Dens K H xs ts) {i : Nat} {x : V} (e : xs[i]? = some x) : ∃ t, ts[i]? = some t ∧ Den K H x t := by
  have hi := (List.getElem?_eq_some_iff.mp e).1
  have hj : i < ts.length := by rw [← h.1]; exact hi
  exact ⟨ts[i], List.getElem?_eq_getElem hj, h.2 i x _ e (List.getElem?_eq_getElem hj)⟩
theorem Dens.uncons {K : PySem.W.Frag} {H : Hp} {xs : List V} {t : T} {ts : List T} (h : Dens K H xs (t :: ts)) : ∃ x r, xs = x :: r ∧ Den K H x t ∧ Dens K H r ts := by
  cases xs with
  | nil => have := h.1; simp at this
  | cons x r => exact ⟨x, r, rfl, h.2 0 x t rfl rfl, by have := h.1; simpa using this, fun i y u a b => h.2 (i + 1) y u (by simpa using a) (by simpa using b)⟩
theorem Dens.unnil {K : PySem.W.Frag} {H : Hp} {xs : List V} (h : Dens K H xs []) : xs = [] := by
  have := h.1
  exact List.eq_nil_of_length_eq_zero (by simpa using this)
theorem Den.unstr {K : PySem.W.Frag} {H : Hp} {v : V} {s : Str} (h : Den K H v (.str s)) : v = .str s := by cases h; rfl
theorem Den.unint {K : PySem.W.Frag} {H : Hp} {v : V} {i : Int} (h : Den K H v (.int i)) : v = .int i := by cases h; rfl
theorem Den.tups {K : PySem.W.Frag} {H : Hp} {p : Addr} {xs : List V} {ts : List T} (h : H p = some (.tup xs)) (d : Dens K H xs ts) : Den K H (.ref p) (.tup ts) := .tup h d.1 d.2
theorem Den.tup_inv {K : PySem.W.Frag} {H : Hp} {v : V} {ts : List T} (h : Den K H v (.tup ts)) : ∃ p xs, v = .ref p ∧ H p = some (.tup xs) ∧ Dens K H xs ts := by
  cases h with
  | tup h l c => exact ⟨_, _, rfl, h, l, c⟩
theorem Den.inj {K : PySem.W.Frag} {H : Hp} {v : V} {t : T} (h : Den K H v t) : ∀ {u : T}, Den K H v u → t = u := by
  induction h with
  | non => intro u h; cases h; rfl
  | bl b => intro u h; cases h; rfl
  | int i => intro u h; cases h; rfl
  | str s => intro u h; cases h; rfl
  | @tup a xs ts h l c ih =>
    intro u h'
    cases h' with
    | @tup _ ys us h2 l2 c2 =>
      rw [h] at h2; cases h2
      congr 1
      refine List.ext_getElem? fun i => ?_
      cases e : xs[i]? with
      | none =>
        have hi := List.getElem?_eq_none_iff.mp e
        rw [List.getElem?_eq_none_iff.mpr (by omega), List.getElem?_eq_none_iff.mpr (by omega)]
      | some x =>
        have hi := (List.getElem?_eq_some_iff.mp e).1
        have h1 : i < ts.length := by omega
        have h3 : i < us.length := by omega
        rw [List.getElem?_eq_getElem h1, List.getElem?_eq_getElem h3]
        exact congrArg some (ih i x _ e (List.getElem?_eq_getElem h1) (c2 i x _ e (List.getElem?_eq_getElem h3)))
/-- lists stand apart from the box -/
theorem atI_in {α : Type} {xs : List α} {z : Int} (h0 : 0 ≤ z) (h1 : z < xs.length) : ∃ v, atI xs z = some v ∧ xs[z.toNat]? = some v := by
  obtain ⟨j, rfl⟩ : ∃ j : Nat, z = (j : Int) := ⟨z.toNat, by omega⟩
  have hj : j < xs.length := by omega
  exact ⟨xs[j], atI_nat (List.getElem?_eq_getElem hj), by rw [Int.toNat_natCast]; exact List.getElem?_eq_getElem hj⟩
theorem ixN_in {n : Nat} {z : Int} (h0 : 0 ≤ z) (h1 : z < n) : ixN n z = some z.toNat := by
  unfold ixN
  rw [if_pos h0, if_pos h1]
end M14
set_option Elab.async false
set_option linter.all false
set_option maxRecDepth 100000
set_option maxHeartbeats 4000000
/-! Steps: what a reading asks, turned into heaps that are known by their facts alone; the tactic words. -/
namespace M14
open PySem PySem.Spec PyProof.Rows L2

structure Bl (mg : Str → Option Value) : Prop where
  z_len : mg "len" = none
  z_int : mg "int" = none
  z_sum : mg "sum" = none
  z_range : mg "range" = none
  z_list : mg "list" = none
  z_tuple : mg "tuple" = none
  z_str : mg "str" = none
  z_isinstance : mg "isinstance" = none
  z_bool : mg "bool" = none
  z_sorted : mg "sorted" = none
  z_enumerate : mg "enumerate" = none
  z_min : mg "min" = none
  z_max : mg "max" = none

/-! ### frames, further -/
theorem Fr.comp {M : List Addr} {H H1 H2 : Hp} (a : Fr M H H1) (b : Fr M H1 H2) : Fr M H H2 := a.trans b
theorem Fr.comp0 {M : List Addr} {H H1 H2 : Hp} (a : Fr M H H1) (b : Fr [] H1 H2) : Fr M H H2 := a.tr b
/-- what is changed was not there at first -/
theorem Fr.compN {M : List Addr} {p : Addr} {H H1 H2 : Hp} (a : Fr M H H1) (b : Fr [p] H1 H2) (n : H p = none) : Fr M H H2 :=
  ⟨fun x o h m => b.kp x o (a.kp x o h m) fun z => (by
    have e : x = p := by simpa using z
    rw [e, n] at h
    cases h), a.nt⟩
theorem Fr.cons {M : List Addr} {p : Addr} {H H1 : Hp} (a : Fr M H H1) (n : ∀ xs, H p ≠ some (.tup xs)) : Fr (p :: M) H H1 :=
  ⟨fun x o h m => a.kp x o h fun z => m (List.mem_cons_of_mem _ z), fun x m => by
    rcases List.mem_cons.mp m with rfl | m
    · exact n
    · exact a.nt x m⟩
theorem Fr.freeb {b : Addr} {H H' : Hp} {o : HO} (e : Fr [b] H H') (hb : H' b = some o) {l : Addr} (h : H' l = none) : H l = none := e.freeM (fun a m q => by
  have z : a = b := by simpa using m
  rw [z, hb] at q; cases q) h
theorem sqFr {K : PySem.W.Frag} {M : List Addr} {H H' : Hp} {a : Addr} {xs : List V} (e : Fr M H H') (m : a ∉ M) (h : SqL K H a xs) : SqL K H' a xs := by
  rcases h with (h | ⟨o, h⟩) | h
  · exact .inl (.inl (e.kp _ _ h m))
  · exact .inl (.inr ⟨o, e.kp _ _ h m⟩)
  · exact .inr h
theorem sqFr0 {K : PySem.W.Frag} {H H' : Hp} {a : Addr} {xs : List V} (e : Fr [] H H') (h : SqL K H a xs) : SqL K H' a xs := sqFr e (by simp) h
theorem sqFr1 {K : PySem.W.Frag} {b : Addr} {H H' : Hp} {a : Addr} {xs : List V} (e : Fr [b] H H') (n : a ≠ b) (h : SqL K H a xs) : SqL K H' a xs := sqFr e (by simpa using n) h
theorem Fr.at0 {H H' : Hp} {a : Addr} {o : HO} (e : Fr [] H H') (h : H a = some o) : H' a = some o := e.kp a o h (by simp)

theorem Fr.at1n {b : Addr} {H H' : Hp} (e : Fr [b] H H') {a : Addr} {o : HO} (n : a ≠ b) (h : H a = some o) : H' a = some o := e.at1 h n

/-! ### the box of draws: a list of five ints -/
def Box (H : Hp) (b : Addr) : Prop := ∃ i0 i1 i2 i3 i4 : Int, H b = some (.lst [.int i0, .int i1, .int i2, .int i3, .int i4])
theorem Box.fr0 {H H' : Hp} {b : Addr} (e : Fr [] H H') (h : Box H b) : Box H' b := let ⟨i0, i1, i2, i3, i4, h⟩ := h; ⟨i0, i1, i2, i3, i4, e.at0 h⟩
theorem Box.fr1 {H H' : Hp} {b p : Addr} (e : Fr [p] H H') (n : b ≠ p) (h : Box H b) : Box H' b := let ⟨i0, i1, i2, i3, i4, h⟩ := h; ⟨i0, i1, i2, i3, i4, e.at1 h n⟩
theorem Box.has {H : Hp} {b : Addr} (h : Box H b) : ∃ o, H b = some o := let ⟨_, _, _, _, _, h⟩ := h; ⟨_, h⟩
theorem Box.nt {H : Hp} {b : Addr} (h : Box H b) : ∀ a ∈ [b], ∀ (xs : List V), H a ≠ some (HO.tup xs) := fun a m xs e => by
  obtain ⟨_, _, _, _, _, h⟩ := h
  have z : a = b := by simpa using m
  rw [z, h] at e; cases e
theorem Box.free {H H' : Hp} {b l : Addr} (B : Box H' b) (e : Fr [b] H H') (h : H' l = none) : H l = none := let ⟨_, q⟩ := B.has; e.freeb q h
theorem Box.ne {H : Hp} {b l : Addr} (B : Box H b) (h : H l = none) : l ≠ b := fun e => by
  obtain ⟨o, q⟩ := B.has
  rw [e, q] at h; cases h

theorem updFree {H : Hp} {q p : Addr} {o : HO} (h : upd H q o p = none) : H p = none := by
  unfold upd at h
  split at h
  · cases h
  · exact h
theorem ne_of_none2 {H : Hp} {a b : Addr} {o : HO} (h' : H b = none) (h : H a = some o) : a ≠ b := ne_of_none h h'
theorem Box.ne2 {H : Hp} {b l : Addr} (h : H l = none) (B : Box H b) : l ≠ b := B.ne h

theorem len1000 {n : Nat} (h : n ≤ 1000) : n ≤ sizeLine := Nat.le_of_lt (small1000 h)

/-! ### relations by name, over a fixed K -/
section
variable {X : Cx}
@[irreducible] def rxL (K : PySem.W.Frag) : R2 := rIxL K
@[irreducible] def rxT (K : PySem.W.Frag) : R2 := rIxT K
@[irreducible] def rxS : R2 := rIxS
@[irreducible] def rxIn (K : PySem.W.Frag) (neg : Bool) : R2 := rIn K neg
@[irreducible] def rxLn (K : PySem.W.Frag) : List V → Hp → VK → Prop := fun xs H Q => ∃ p ys, xs = [.ref p] ∧ (SqL K H p ys ∨ SqT K H p ys) ∧ Q (.int ys.length) H
@[irreducible] def rxCat : R2 := rCat
@[irreducible] def rxCatT (K : PySem.W.Frag) : R2 := rCatT K
@[irreducible] def rxRep : R2 := rRep
theorem opRep : OpR X (binaryOp .Mult) rxRep := by unfold rxRep; exact op_rep
@[irreducible] def rxSortP (K : PySem.W.Frag) : List V → Hp → VK → Prop := rSortedP K
theorem cSortP (K : PySem.W.Frag) (hK : X.K = K := by rfl) : CallR X (.builtin "sorted") (rxSortP K) := by unfold rxSortP; rw [← hK]; exact cr_sortedP
@[irreducible] def rxSet : TSet := rSetL
@[irreducible] def rxLst (K : PySem.W.Frag) : List V → Hp → VK → Prop := fun xs H Q => ∃ p ys, xs = [.ref p] ∧ (SqL K H p ys ∨ SqT K H p ys) ∧ ∀ l, H l = none → Q (.ref l) (upd H l (.lst ys))
@[irreducible] def rxTup (K : PySem.W.Frag) : List V → Hp → VK → Prop := fun xs H Q => ∃ p ys, xs = [.ref p] ∧ ((SqL K H p ys ∧ ∀ l, H l = none → Q (.ref l) (upd H l (.tup ys))) ∨ (SqT K H p ys ∧ Q (.ref p) H))
def tTruK (K : PySem.W.Frag) (ta : TE) : TT := fun σ H Q => ta σ H fun x H' => ∃ k, TruV K x H' k ∧ Q k H'
@[irreducible] def rxTru (K : PySem.W.Frag) (x : V) (H : Hp) (Q : Bool → Hp → Prop) : Prop := ∃ k, TruV K x H k ∧ Q k H
def tTrx (K : PySem.W.Frag) (ta : TE) : TT := fun σ H Q => ta σ H fun x H' => rxTru K x H' Q
@[irreducible] def rxApp : V → List V → Hp → VK → Prop := rAppend
theorem mtApp : MtM X "list.append" rxApp := by unfold rxApp; exact mt_append
@[irreducible] def rxIs (K : PySem.W.Frag) : List V → Hp → VK → Prop := rIsi K
theorem cIsi (K : PySem.W.Frag) (hK : X.K = K := by rfl) : CallR X (.builtin "isinstance") (rxIs K) := by unfold rxIs; rw [← hK]; exact call_isi
@[irreducible] def rxSum (K : PySem.W.Frag) : List V → Hp → VK → Prop := rSum K
theorem cSum (K : PySem.W.Frag) (hc : X.calm = true := by rfl) (hK : X.K = K := by rfl) : CallR X (.builtin "sum") (rxSum K) := by unfold rxSum; rw [← hK]; exact cr_sum hc
@[irreducible] def rxSl (K : PySem.W.Frag) : V → Option Int → Option Int → Hp → VK → Prop := rSlL K
theorem slL (K : PySem.W.Frag) (hK : X.K = K := by rfl) : SlR X (rxSl K) := by unfold rxSl; rw [← hK]; exact sl_list
@[irreducible] def rxQ (K : PySem.W.Frag) : R2 := fun x y H Q => rIxL K x y H Q ∨ rIxT K x y H Q
theorem ixQ (K : PySem.W.Frag) (hK : X.K = K := by rfl) : IxR X (rxQ K) := by
  intro value slice pins s σ H x y v u Q I rx ry h hs
  unfold rxQ at h
  rw [← hK] at h
  rcases h with h | h
  · exact ix_list value slice pins s σ H x y v u Q I rx ry h hs
  · exact ix_tup value slice pins s σ H x y v u Q I rx ry h hs
theorem ixL (K : PySem.W.Frag) (hK : X.K = K := by rfl) : IxR X (rxL K) := by unfold rxL; rw [← hK]; exact ix_list
theorem ixT (K : PySem.W.Frag) (hK : X.K = K := by rfl) : IxR X (rxT K) := by unfold rxT; rw [← hK]; exact ix_tup
theorem ixS : IxR X rxS := by unfold rxS; exact ix_str
theorem opIn (K : PySem.W.Frag) (hK : X.K = K := by rfl) : OpR X (compareOp .In) (rxIn K false) := by unfold rxIn; rw [← hK]; exact op_in_seq
theorem opNotIn (K : PySem.W.Frag) (hK : X.K = K := by rfl) : OpR X (compareOp .NotIn) (rxIn K true) := by unfold rxIn; rw [← hK]; exact op_notIn_seq
theorem cLen (K : PySem.W.Frag) (hK : X.K = K := by rfl) : CallR X (.builtin "len") (rxLn K) := by unfold rxLn; rw [← hK]; exact call_len_seq
theorem opCat : OpR X (binaryOp .Add) rxCat := by unfold rxCat; exact op_cat
theorem opCatT (K : PySem.W.Frag) (hK : X.K = K := by rfl) : OpR X (binaryOp .Add) (rxCatT K) := by unfold rxCatT; rw [← hK]; exact op_catT
theorem setL : PSet X rxSet := by unfold rxSet; exact set_list
theorem cList (K : PySem.W.Frag) (hK : X.K = K := by rfl) : CallR X (.type "list") (rxLst K) := by unfold rxLst; rw [← hK]; exact call_list_of
theorem cTuple (K : PySem.W.Frag) (hK : X.K = K := by rfl) : CallR X (.type "tuple") (rxTup K) := by unfold rxTup; rw [← hK]; exact call_tuple_of
theorem ptTru (K : PySem.W.Frag) {a : Expr} {ta : TE} (h : PE X a ta) (he : ∀ whole, isTrue a X.env whole = (do let v ← whole; standAt a.pos; holding [v] (truthy v)) := by intro _; rfl) (hK : X.K = K := by rfl) : PT X a (tTrx K ta) := by
  have e : tTrx K ta = fun σ H Q => ta σ H fun x H' => ∃ k, TruV X.K x H' k ∧ Q k H' := by
    funext σ H Q
    unfold tTrx rxTru
    rw [hK]
  rw [e]
  exact pt_truth h he
end
/-! ### steps -/
theorem new_step {H : Hp} {o : HO} {Q : VK} (h : ∀ p H', H p = none → H' p = some o → Fr [] H H' → Q (.ref p) H') : ∀ p, H p = none → Q (.ref p) (upd H p o) := fun p hp => h p _ hp upd_same (Fr.new hp)
theorem newl_step {n : Nat} {H : Hp} {o : HO} {Q : VK} (hl : n ≤ 1000) (h : ∀ p H', H p = none → H' p = some o → Fr [] H H' → Q (.ref p) H') : n ≤ sizeLine ∧ ∀ p, H p = none → Q (.ref p) (upd H p o) :=
  ⟨Nat.le_of_lt (small1000 hl), new_step h⟩
theorem set_step {H : Hp} {p : Addr} {xs : List V} {k : Int} {v : V} {Q : Hp → Prop} (hp : H p = some (.lst xs)) (h0 : 0 ≤ k) (h1 : k < xs.length) (h : ∀ H', H' p = some (.lst (xs.set k.toNat v)) → Fr [p] H H' → Q H') : rxSet (.ref p) (.int k) v H Q := by
  unfold rxSet
  exact ⟨p, xs, k, k.toNat, rfl, rfl, hp, ixN_in h0 h1, h _ upd_same (Fr.put hp (by intro _ z; cases z))⟩
theorem app_step {H : Hp} {p : Addr} {xs : List V} {v : V} {Q : VK} (hp : H p = some (.lst xs)) (hz : xs.length < 10000) (h : ∀ H', H' p = some (.lst (xs ++ [v])) → Fr [p] H H' → Q .non H') : rxApp (.ref p) [v] H Q := by
  unfold rxApp
  exact ⟨p, xs, v, rfl, rfl, hp, Nat.lt_of_lt_of_le hz (by decide), h _ upd_same (Fr.put hp (by intro _ z; cases z))⟩
theorem tyL_and {K : PySem.W.Frag} {H : Hp} {p : Addr} {xs : List V} {A : Prop} (hp : SqL K H p xs) (h : A) : tyV K "list" (.ref p) H ∧ A := ⟨.inl ⟨rfl, xs, hp⟩, h⟩
theorem ixl_step {K : PySem.W.Frag} {H : Hp} {p : Addr} {xs : List V} {z : Int} {Q : VK} (hp : SqL K H p xs) (h0 : 0 ≤ z) (h1 : z < xs.length) (h : ∀ v, xs[z.toNat]? = some v → Q v H) : rxL K (.ref p) (.int z) H Q := by
  unfold rxL
  obtain ⟨v, e1, e2⟩ := atI_in h0 h1
  exact ⟨p, xs, z, v, rfl, rfl, hp, e1, h v e2⟩
/-- a place of a written list -/
theorem ixr_step {K : PySem.W.Frag} {H : Hp} {p : Addr} {xs : List V} {z : Int} {v : V} {Q : VK} (hp : SqL K H p xs) (ha : atI xs z = some v) (h : Q v H) : rxL K (.ref p) (.int z) H Q := by
  unfold rxL
  exact ⟨p, xs, z, v, rfl, rfl, hp, ha, h⟩
theorem ixi_step {K : PySem.W.Frag} {H : Hp} {p : Addr} {ns : List Int} {z : Int} {Q : VK} (hp : SqL K H p (ns.map V.int)) (h0 : 0 ≤ z) (h1 : z < ns.length) (h : ∀ n, n ∈ ns → ns[z.toNat]? = some n → Q (.int n) H) : rxL K (.ref p) (.int z) H Q := by
  refine ixl_step hp h0 (by simpa using h1) fun v hv => ?_
  rw [List.getElem?_map] at hv
  cases e : ns[z.toNat]? with
  | none => rw [e] at hv; cases hv
  | some n =>
    rw [e] at hv
    cases hv
    exact h n (List.mem_of_getElem? e) e
theorem ixt_step {K : PySem.W.Frag} {H : Hp} {p : Addr} {xs : List V} {z : Int} {Q : VK} (hp : H p = some (.tup xs)) (h0 : 0 ≤ z) (h1 : z < xs.length) (h : ∀ v, v ∈ xs → xs[z.toNat]? = some v → Q v H) : rxT K (.ref p) (.int z) H Q := by
  unfold rxT
  obtain ⟨v, e1, e2⟩ := atI_in h0 h1
  exact ⟨p, xs, z, v, rfl, rfl, SqT.of hp, e1, h v (List.mem_of_getElem? e2) e2⟩
theorem ixs_step {z : Str} {i : Int} {H : Hp} {Q : VK} (hz : z.length ≤ sizeLine) (h0 : 0 ≤ i) (h1 : i < z.length) (h : ∀ c, Q (.str ⟨#[c]⟩) H) : rxS (.str z) (.int i) H Q := by
  unfold rxS
  obtain ⟨c, e, _⟩ := atI_in (xs := z.cps.toList) h0 (by rw [Array.length_toList]; exact h1)
  exact ⟨z, i, c, rfl, rfl, hz, e, h c⟩
theorem ix0_step {K : PySem.W.Frag} {H : Hp} {p : Addr} {x : V} {r : List V} {Q : VK} (hp : H p = some (.tup (x :: r))) (h : Q x H) : rxT K (.ref p) (.int 0) H Q := by
  unfold rxT
  exact ⟨p, _, 0, x, rfl, rfl, SqT.of hp, atI_nat (j := 0) rfl, h⟩
theorem ix1_step {K : PySem.W.Frag} {H : Hp} {p : Addr} {x y : V} {r : List V} {Q : VK} (hp : H p = some (.tup (x :: y :: r))) (h : Q y H) : rxT K (.ref p) (.int 1) H Q := by
  unfold rxT
  exact ⟨p, _, 1, y, rfl, rfl, SqT.of hp, atI_nat (j := 1) rfl, h⟩
theorem ix2_step {K : PySem.W.Frag} {H : Hp} {p : Addr} {x y z : V} {r : List V} {Q : VK} (hp : H p = some (.tup (x :: y :: z :: r))) (h : Q z H) : rxT K (.ref p) (.int 2) H Q := by
  unfold rxT
  exact ⟨p, _, 2, z, rfl, rfl, SqT.of hp, atI_nat (j := 2) rfl, h⟩
theorem rep_step {H : Hp} {a : Addr} {x : V} {n : Int} {Q : VK} (h : H a = some (.lst [x])) (h0 : 0 ≤ n) (h1 : n ≤ 10000) (k : ∀ p H', H p = none → H' p = some (.lst (List.replicate n.toNat x)) → Fr [] H H' → Q (.ref p) H') : rxRep (.ref a) (.int n) H Q := by
  unfold rxRep
  refine ⟨a, n, [x], rfl, rfl, h, by omega, by omega, ?_, fun p hp => ?_⟩
  · have : ([x] : List V).length * n.toNat ≤ 10000 := by simp; omega
    exact Nat.le_trans this (by decide)
  · have e : (List.replicate n.toNat [x]).flatten = List.replicate n.toNat x := by
      generalize n.toNat = m
      induction m with
      | zero => rfl
      | succ m ih => rw [List.replicate_succ, List.flatten_cons, ih]; rfl
    rw [e]
    exact k p _ hp upd_same (Fr.new hp)
theorem sortP_step {K : PySem.W.Frag} {H : Hp} {a : Addr} {xs : List V} {Q : VK} (h : H a = some (.lst xs)) (hx : ∀ x ∈ xs, ∃ t i j, x = V.ref t ∧ H t = some (.tup [.int i, .int j])) (k : ∀ ys p H', ys.Perm xs → H p = none → H' p = some (.lst ys) → Fr [] H H' → Q (.ref p) H') : rxSortP K [.ref a] H Q := by
  unfold rxSortP
  exact ⟨a, xs, rfl, .of h, hx, fun ys p hp n => k ys p _ hp n upd_same (Fr.new n)⟩
/-! ### ways -/
theorem iteD {c A B : Prop} [Decidable c] (h1 : c → A) (h2 : ¬ c → B) : if decide c = true then A else B := by
  by_cases h : c
  · rw [if_pos (decide_eq_true h)]; exact h1 h
  · rw [if_neg (by simp [h])]; exact h2 h
theorem iteDI {i j : Int} {A B : Prop} (h1 : i = j → A) (h2 : i ≠ j → B) : if decide (V.int i = V.int j) = true then A else B := iteD (fun e => h1 (V.int.inj e)) fun e => h2 fun q => e (by rw [q])
theorem iteDS {i j : Str} {A B : Prop} (h1 : i = j → A) (h2 : i ≠ j → B) : if decide (V.str i = V.str j) = true then A else B := iteD (fun e => h1 (V.str.inj e)) fun e => h2 fun q => e (by rw [q])
theorem iteN {c : Bool} {A B : Prop} (h : if c = true then B else A) : if (!c) = true then A else B := by
  cases c with
  | true => simpa using h
  | false => simpa using h
theorem iteE {α : Type} {xs : List α} {A B : Prop} (h1 : 0 < xs.length → A) (h2 : xs.length = 0 → B) : if (!xs.isEmpty) = true then A else B := by
  cases xs with
  | nil => simpa using h2 rfl
  | cons x r => simpa using h1 (by simp)
theorem iteEM {α β : Type} {f : α → β} {xs : List α} {A B : Prop} (h1 : 0 < xs.length → A) (h2 : xs.length = 0 → B) : if (!(xs.map f).isEmpty) = true then A else B :=
  iteE (fun h => h1 (by simpa using h)) fun h => h2 (by simpa using h)
def isI (v : V) : Prop := ∃ i : Int, v = .int i
def intB : V → Bool
  | .int _ => true
  | _ => false
theorem isI_of {l : List V} {v : V} (h : l.all intB = true) (m : v ∈ l) : isI v := by
  have q := List.all_eq_true.mp h v m
  cases v with
  | int i => exact ⟨i, rfl⟩
  | _ => cases q
theorem wayB {c : Bool} {A B : Prop} (h1 : c = true → A) (h2 : c = false → B) : if c = true then A else B := by
  cases c with
  | true => exact h1 rfl
  | false => exact h2 rfl


/-! ### texts -/
def isS (n : Nat) (v : V) : Prop := ∃ s : Str, v = .str s ∧ s.length ≤ n
def strB (n : Nat) : V → Bool
  | .str s => decide (s.length ≤ n)
  | _ => false
theorem isS_of {n : Nat} {l : List V} {v : V} (h : l.all (strB n) = true) (m : v ∈ l) : isS n v := by
  have q := List.all_eq_true.mp h v m
  cases v with
  | str s => exact ⟨s, rfl, of_decide_eq_true q⟩
  | _ => cases q
theorem strs_of {n : Nat} : ∀ {ys : List V}, (∀ y ∈ ys, isS n y) → ∃ ss : List Str, ys = ss.map V.str ∧ ∀ s ∈ ss, s.length ≤ n
  | [], _ => ⟨[], rfl, fun _ h => nomatch h⟩
  | y :: r, h => by
    obtain ⟨s, e, l⟩ := h y List.mem_cons_self
    obtain ⟨ss, e2, l2⟩ := strs_of (ys := r) fun z m => h z (List.mem_cons_of_mem _ m)
    refine ⟨s :: ss, by rw [e, e2]; rfl, fun z m => ?_⟩
    rcases List.mem_cons.mp m with rfl | m
    · exact l
    · exact l2 z m
theorem sum_le {n : Nat} : ∀ {ss : List Str}, (∀ s ∈ ss, s.length ≤ n) → (ss.map (·.length)).sum ≤ n * ss.length
  | [], _ => Nat.zero_le _
  | s :: r, h => by
    have h1 := h s List.mem_cons_self
    have h2 := sum_le (ss := r) fun z m => h z (List.mem_cons_of_mem _ m)
    simp only [List.map_cons, List.sum_cons, List.length_cons, Nat.mul_add, Nat.mul_one]
    omega
theorem join_le {n : Nat} : ∀ {ss : List Str}, (∀ s ∈ ss, s.length ≤ n) → (Txt.join (Str.ofString "") ss).length ≤ n * ss.length := fun {ss} h => by
  rw [TL.join_eq]
  have e0 : (Str.ofString "").length = 0 := by decide +kernel
  have go : ∀ ss : List Str, (Str.join (Str.ofString "") ss).length ≤ (ss.map (·.length)).sum := fun ss => by
    induction ss with
    | nil => exact Nat.zero_le _
    | cons s r ih =>
      cases r with
      | nil => simp [Str.join]
      | cons u r =>
        rw [Str.join, Str.length_append, Str.length_append, e0, List.map_cons, List.sum_cons]
        · omega
        · simp
  exact Nat.le_trans (go ss) (sum_le h)
/-- sep.join(ys), ys a list of short texts -/
theorem join_step {K : PySem.W.Frag} {H : Hp} {p : Addr} {ys : List V} {n : Nat} {Q : VK} (hp : SqL K H p ys) (hy : ∀ y ∈ ys, isS n y) (hn : n ≤ 100) (hl : ys.length ≤ 1000) (h : ∀ v, isS (n * ys.length) v → Q v H) :
    ∃ a q, ∃ zs : List Str, V.str (Str.ofString "") = .str a ∧ [V.ref p] = [.ref q] ∧ (SqL K H q (zs.map V.str) ∨ SqT K H q (zs.map V.str)) ∧ (zs.map (·.length)).sum + zs.length * a.length ≤ 16777216 ∧ Q (.str (Txt.join a zs)) H := by
  obtain ⟨ss, rfl, l⟩ := strs_of hy
  rw [List.length_map] at hl h
  have s1 := sum_le l
  have s2 : n * ss.length ≤ 100 * 1000 := Nat.mul_le_mul hn hl
  have e0 : (Str.ofString "").length = 0 := by decide +kernel
  exact ⟨_, p, ss, rfl, rfl, .inl hp, by rw [e0]; omega, h _ ⟨_, rfl, join_le l⟩⟩
theorem isS.mono {n m : Nat} {v : V} (h : isS n v) (l : n ≤ m) : isS m v := let ⟨s, e, q⟩ := h; ⟨s, e, Nat.le_trans q l⟩
theorem len1 (c : Nat) : isS 1 (.str ⟨#[c]⟩) := ⟨_, rfl, by show (#[c] : Array Nat).size ≤ 1; simp⟩
/-! ### further steps -/
@[irreducible] def rStrI : List V → Hp → VK → Prop := fun xs H Q => ∃ i : Int, xs = [.int i] ∧ i.natAbs.log2 < 1920 ∧ Q (.str (toString i)) H
theorem call_strI {X : Cx} : CallR X (.type "str") rStrI := by unfold rStrI; exact call_str_int
@[irreducible] def rAddT : R2 := fun x y H Q => ∃ i j : Str, x = .str i ∧ y = .str j ∧ i.length + j.length ≤ sizeLine ∧ Q (.str (i ++ j)) H
theorem op_addT {X : Cx} : OpR X (binaryOp .Add) rAddT := by unfold rAddT; exact op_add_str
theorem strInt_step {k : Int} {H : Hp} {Q : VK} (h : k.natAbs ≤ 1000) (q : ∀ s : Str, s.length ≤ 1921 → Q (.str s) H) : rStrI [V.int k] H Q := by
  unfold rStrI
  have l : k.natAbs.log2 < 1920 := Nat.lt_of_le_of_lt (Nat.log2_le_self _) (by omega)
  exact ⟨k, rfl, l, q _ (PyProof.Rows.int_text_len_1921 l)⟩
theorem addS_step {x y : Str} {H : Hp} {Q : VK} (h : x.length + y.length ≤ 10000) (q : ∀ s : Str, s.length ≤ 10000 → Q (.str s) H) : rAddT (.str x) (.str y) H Q := by
  unfold rAddT
  exact ⟨x, y, rfl, rfl, Nat.le_trans h (by decide), q _ (by rw [Str.length_append]; exact h)⟩
theorem in_step {K : PySem.W.Frag} {H : Hp} {x : V} {p : Addr} {xs : List V} {Q : VK} (hp : H p = some (.tup xs)) (hx : flatV x = true) (hf : xs.all flatV = true) (h : Q (.bl (inV x xs)) H) : rxIn K false x (.ref p) H Q := by
  unfold rxIn
  exact ⟨p, xs, rfl, .inr (SqT.of hp), hx, hf, by rw [if_neg Bool.false_ne_true]; exact h⟩
theorem len_step {K : PySem.W.Frag} {H : Hp} {p : Addr} {xs : List V} {Q : VK} (hp : SqL K H p xs) (h : Q (.int xs.length) H) : rxLn K [.ref p] H Q := by
  unfold rxLn
  exact ⟨p, xs, rfl, .inl hp, h⟩
theorem lst_step {K : PySem.W.Frag} {H : Hp} {p : Addr} {xs : List V} {Q : VK} (hp : SqL K H p xs) (h : ∀ l, H l = none → Q (.ref l) (upd H l (.lst xs))) : rxLst K [.ref p] H Q := by
  unfold rxLst
  exact ⟨p, xs, rfl, .inl hp, h⟩
theorem tupl_step {K : PySem.W.Frag} {H : Hp} {p : Addr} {xs : List V} {Q : VK} (hp : SqL K H p xs) (h : ∀ l, H l = none → Q (.ref l) (upd H l (.tup xs))) : rxTup K [.ref p] H Q := by
  unfold rxTup
  exact ⟨p, xs, rfl, .inl ⟨hp, h⟩⟩
theorem tru_step {K : PySem.W.Frag} {H : Hp} {p : Addr} {xs : List V} {Q : Bool → Hp → Prop} (hp : SqL K H p xs) (h : Q (!xs.isEmpty) H) : rxTru K (.ref p) H Q := by
  unfold rxTru
  exact ⟨_, .inl ⟨xs, hp, rfl⟩, h⟩
theorem catT_step {K : PySem.W.Frag} {H : Hp} {a b : Addr} {x y : V} {xs ys : List V} {Q : VK} (ha : H a = some (.tup (x :: xs))) (hb : H b = some (.tup (y :: ys))) (hl : (x :: xs).length + (y :: ys).length ≤ 1000)
    (h : ∀ p, H p = none → Q (.ref p) (upd H p (.tup (x :: xs ++ y :: ys)))) : rxCatT K (.ref a) (.ref b) H Q := by
  unfold rxCatT
  exact ⟨a, b, _, _, rfl, rfl, SqT.of ha, SqT.of hb, by simp, len1000 hl, fun e => (nomatch e), fun _ => h⟩
theorem cat_step {H : Hp} {a b : Addr} {xs ys : List V} {Q : VK} (ha : H a = some (.lst xs)) (hb : H b = some (.lst ys)) (hl : xs.length + ys.length ≤ 10000) (h : ∀ p, H p = none → Q (.ref p) (upd H p (.lst (xs ++ ys)))) : rxCat (.ref a) (.ref b) H Q := by
  unfold rxCat
  exact ⟨a, b, _, _, rfl, rfl, ha, hb, Nat.le_trans hl (by decide), h⟩
theorem dens_ex {K : PySem.W.Frag} {H : Hp} {p : T → Prop} : ∀ {ys : List V}, (∀ y ∈ ys, ∃ t, Den K H y t ∧ p t) → ∃ ts, Dens K H ys ts ∧ ∀ t ∈ ts, p t
  | [], _ => ⟨[], .nil, fun _ m => nomatch m⟩
  | y :: r, h => by
    obtain ⟨t, d, q⟩ := h y List.mem_cons_self
    obtain ⟨ts, ds, qs⟩ := dens_ex (ys := r) fun z m => h z (List.mem_cons_of_mem _ m)
    refine ⟨t :: ts, .cons d ds, fun u m => ?_⟩
    rcases List.mem_cons.mp m with rfl | m
    · exact q
    · exact qs u m
theorem dens_strs {K : PySem.W.Frag} {H : Hp} {n : Nat} {ys : List V} (h : ∀ y ∈ ys, isS n y) : ∃ ts, Dens K H ys ts ∧ ∀ t ∈ ts, Dep 0 t :=
  dens_ex fun y m => let ⟨s, e, _⟩ := h y m; ⟨.str s, by rw [e]; exact .str s, .str⟩
/-- for x in range(lo, lo + n) -/
theorem forR {lo : Int} {n : Nat} {j : Nat} {tb : TS} {D : Ends} {σ : L2.St} {H : Hp} (Pv : Nat → L2.St → Hp → Prop) (h0 : Pv 0 σ H)
    (hs : ∀ i σ H, i < n → Pv i σ H → tb { D with nx := Pv (i + 1), ct := Pv (i + 1), bk := D.nx } (σ.set j (some (.int (lo + i)))) H) (hd : ∀ σ H, Pv n σ H → D.nx σ H) :
    ∃ W : Nat → Nat → L2.St → Hp → Prop, (∃ m, W 0 m σ H) ∧ ∀ i m σ H, W i m σ H →
      ((Itr lo n).stop i H ∧ D.nx σ H) ∨ ((Itr lo n).go i H ∧ ∃ N : L2.St → Hp → Prop, (∀ σ' H', N σ' H' → ∃ m', m' < m ∧ W (i + 1) m' σ' H') ∧ ∀ x H', (Itr lo n).yld i H x H' → gName j x σ H' fun σ2 H2 => tb { D with nx := N, ct := N, bk := D.nx } σ2 H2) :=
  for_range Pv h0 hs hd
/-! ### isinstance, sums, slices, items of lists and tuples alike -/
theorem isi_tt {K : PySem.W.Frag} {H : Hp} {x : V} {a : String} {Q : VK} (ty : TyX K H x (.type a)) (e : kitB a a = some true) (h : Q (.bl true) H) : rxIs K [x, .ty a] H Q := by
  unfold rxIs
  exact ⟨x, _, _, _, _, rfl, .ty a, ty, kit_ty e, h⟩
theorem isi_ff {K : PySem.W.Frag} {H : Hp} {x : V} {a c : String} {Q : VK} (ty : TyX K H x (.type a)) (e : kitB a c = some false) (h : Q (.bl false) H) : rxIs K [x, .ty c] H Q := by
  unfold rxIs
  exact ⟨x, _, _, _, _, rfl, .ty c, ty, kit_ty e, h⟩
theorem ixq_step {K : PySem.W.Frag} {H : Hp} {p : Addr} {xs : List V} {z : Int} {Q : VK} (hp : SqL K H p xs ∨ SqT K H p xs) (h0 : 0 ≤ z) (h1 : z < xs.length) (h : ∀ v, xs[z.toNat]? = some v → Q v H) : rxQ K (.ref p) (.int z) H Q := by
  unfold rxQ
  obtain ⟨v, e1, e2⟩ := atI_in h0 h1
  rcases hp with hp | hp
  · exact .inl ⟨p, xs, z, v, rfl, rfl, hp, e1, h v e2⟩
  · exact .inr ⟨p, xs, z, v, rfl, rfl, hp, e1, h v e2⟩
theorem lenq_step {K : PySem.W.Frag} {H : Hp} {p : Addr} {xs : List V} {Q : VK} (hp : SqL K H p xs ∨ SqT K H p xs) (h : Q (.int xs.length) H) : rxLn K [.ref p] H Q := by
  unfold rxLn
  exact ⟨p, xs, rfl, hp, h⟩
theorem ints_of : ∀ {ys : List V}, (∀ y ∈ ys, isI y) → ∃ ms : List Int, ys = ms.map V.int
  | [], _ => ⟨[], rfl⟩
  | y :: r, h => by
    obtain ⟨i, e⟩ := h y List.mem_cons_self
    obtain ⟨ms, e2⟩ := ints_of (ys := r) fun z m => h z (List.mem_cons_of_mem _ m)
    exact ⟨i :: ms, by rw [e, e2]; rfl⟩
theorem sl_step {K : PySem.W.Frag} {H : Hp} {p : Addr} {ns : List Int} {lo hi : Option Int} {Q : VK} (hp : SqL K H p (ns.map V.int)) (h : ∀ q H' (ms : List Int), H q = none → H' q = some (.lst (ms.map V.int)) → Fr [] H H' → Q (.ref q) H') : rxSl K (.ref p) lo hi H Q := by
  unfold rxSl
  refine ⟨p, _, rfl, hp, fun q hq => ?_⟩
  obtain ⟨ms, e⟩ := ints_of (ys := cutV (ns.map V.int) lo hi) fun y hy => by
    unfold cutV at hy
    have m := List.mem_of_mem_drop (List.mem_of_mem_take hy)
    obtain ⟨i, _, e⟩ := List.mem_map.mp m
    exact ⟨i, e.symm⟩
  rw [e]
  exact h q _ ms hq upd_same (Fr.new hq)
theorem sum_step {K : PySem.W.Frag} {H : Hp} {p : Addr} {ns : List Int} {Q : VK} (hp : SqL K H p (ns.map V.int)) (h : ∀ i : Int, Q (.int i) H) : rxSum K [.ref p] H Q := by
  unfold rxSum
  exact ⟨p, ns, rfl, hp, h _⟩
theorem fin_bl {Q : VK} {H : Hp} {b : Bool} (e : b = true) (h : Q (.bl true) H) : Q (.bl b) H := by rw [e]; exact h
end M14
set_option Elab.async false
set_option linter.all false
set_option maxRecDepth 100000
set_option maxHeartbeats 4000000
/-! Comprehensions: what they leave, with and without draws from the box. -/
namespace M14
open PySem PySem.Spec PyProof.Rows L2

/-- a property of values that stays when other things change -/
def Stab (P : Hp → Nat → V → Prop) : Prop := ∀ (M : List Addr) (H H' : Hp) (i : Nat) (y : V), Fr M H H' → P H i y → P H' i y
theorem stab_v {p : Nat → V → Prop} : Stab fun _ i y => p i y := fun _ _ _ _ _ _ h => h
theorem stab_den {K : PySem.W.Frag} {p : Nat → T → Prop} : Stab fun H i y => ∃ t, Den K H y t ∧ p i t := fun _ _ _ _ _ f ⟨t, d, q⟩ => ⟨t, d.fr f, q⟩
theorem wipe_again (σ : L2.St) (j : Nat) (x : Option V) : wipe ((wipe σ [j]).set j x) [j] = wipe σ [j] := by
  show ((σ.set j none).set j x).set j none = σ.set j none
  rw [List.set_set, List.set_set]
/-- what is kept of i turns -/
def keptN (f : Nat → Bool) (i : Nat) : List Nat := (List.range i).filter f
theorem keptN_yes {f : Nat → Bool} {i : Nat} (h : f i = true) : keptN f (i + 1) = keptN f i ++ [i] := by
  unfold keptN; rw [List.range_succ, List.filter_append]; simp [h]
theorem keptN_no {f : Nat → Bool} {i : Nat} (h : f i = false) : keptN f (i + 1) = keptN f i := by
  unfold keptN; rw [List.range_succ, List.filter_append]; simp [h]
theorem keptN_le (f : Nat → Bool) (i : Nat) : (keptN f i).length ≤ i := by
  unfold keptN
  have := List.length_filter_le f (List.range i)
  simpa using this
theorem keptN_all (i : Nat) : keptN (fun _ => true) i = List.range i := by
  unfold keptN
  exact List.filter_eq_self.mpr fun _ _ => rfl
/-- the kept turns and what was made of them -/
def Made (P : Hp → Nat → V → Prop) (H : Hp) (is : List Nat) (ys : List V) : Prop := ys.length = is.length ∧ ∀ (k i : Nat) (y : V), is[k]? = some i → ys[k]? = some y → P H i y
theorem Made.snoc {P : Hp → Nat → V → Prop} {H : Hp} {is : List Nat} {ys : List V} {i : Nat} {y : V} (m : Made P H is ys) (p : P H i y) : Made P H (is ++ [i]) (ys ++ [y]) := by
  refine ⟨by simp [m.1], fun k l z a b => ?_⟩
  by_cases hk : k < is.length
  · rw [List.getElem?_append_left hk] at a
    rw [List.getElem?_append_left (by rw [m.1]; exact hk)] at b
    exact m.2 k l z a b
  · rw [List.getElem?_append_right (by omega)] at a
    rw [List.getElem?_append_right (by rw [m.1]; omega), m.1] at b
    cases e : k - is.length with
    | zero =>
      rw [e] at a b
      simp at a b
      subst a b
      exact p
    | succ q => rw [e] at a; simp at a
theorem Made.fr {P : Hp → Nat → V → Prop} (st : Stab P) {M : List Addr} {H H' : Hp} {is : List Nat} {ys : List V} (f : Fr M H H') (m : Made P H is ys) : Made P H' is ys := ⟨m.1, fun k i y a b => st M H H' i y f (m.2 k i y a b)⟩
theorem Made.all {P : Hp → Nat → V → Prop} {H : Hp} {n : Nat} {ys : List V} (m : Made P H (List.range n) ys) : ys.length = n ∧ ∀ (i : Nat) (y : V), ys[i]? = some y → P H i y := by
  have l : ys.length = n := by rw [m.1, List.length_range]
  refine ⟨l, fun i y e => m.2 i i y ?_ e⟩
  have hi : i < n := by rw [← l]; exact (List.getElem?_eq_some_iff.mp e).1
  rw [List.getElem?_range hi]
theorem Made.mem {P : Hp → Nat → V → Prop} {H : Hp} {is : List Nat} {ys : List V} (m : Made P H is ys) {y : V} (h : y ∈ ys) : ∃ i, i ∈ is ∧ P H i y := by
  obtain ⟨k, e⟩ := List.getElem?_of_mem h
  have hk : k < is.length := by rw [← m.1]; exact (List.getElem?_eq_some_iff.mp e).1
  exact ⟨is[k], List.getElem_mem hk, m.2 k _ y (List.getElem?_eq_getElem hk) e⟩

/-- what a comprehension may touch (M) and what holds throughout (S) -/
structure Cg (M : List Addr) (S : Hp → Prop) (H1 : Hp) : Prop where
  nt : ∀ a ∈ M, ∀ (xs : List V), H1 a ≠ some (HO.tup xs)
  th : ∀ a ∈ M, H1 a ≠ none
  s0 : ∀ H', Fr [] H1 H' → S H'
  sD : ∀ D H H', H1 D = none → Fr [D] H H' → S H → S H'
theorem Cg.nil (H1 : Hp) : Cg [] (fun _ => True) H1 := ⟨fun _ h => (nomatch h), fun _ h => (nomatch h), fun _ _ => trivial, fun _ _ _ _ _ _ => trivial⟩
theorem Cg.box {H1 : Hp} {b : Addr} (hB : Box H1 b) : Cg [b] (fun H => Box H b) H1 :=
  ⟨hB.nt, fun a m e => (by
    obtain ⟨o, q⟩ := hB.has
    have z : a = b := by simpa using m
    rw [z, q] at e; cases e), fun H' f => hB.fr0 f, fun D H H' n f h => h.fr1 f (hB.ne n).symm⟩
section
variable {te : TE} {tt : TT} {σ : L2.St} {H1 : Hp} {j : Nat} {M : List Addr} {S : Hp → Prop} {f : Nat → Bool} {P : Hp → Nat → V → Prop} {Qd : Addr → Hp → Prop}
/-- between two turns -/
def CI (M : List Addr) (S : Hp → Prop) (H1 : Hp) (f : Nat → Bool) (P : Hp → Nat → V → Prop) (D : Addr) (i : Nat) (H : Hp) : Prop := S H ∧ Fr M H1 H ∧ ∃ ys, H D = some (.lst ys) ∧ Made P H (keptN f i) ys
theorem CI.start (G : Cg M S H1) {D : Addr} (hD : H1 D = none) : CI M S H1 f P D 0 (upd H1 D (.lst [])) :=
  ⟨G.s0 _ (Fr.new hD), (Fr.refl G.nt).comp0 (Fr.new hD), [], upd_same, rfl, fun k i y e _ => by
    have z : keptN f 0 = [] := rfl
    rw [z] at e; simp at e⟩
/-- one turn: the test's answer is f i, the item fits P -/
theorem CI.turn {i n : Nat} {H : Hp} {σ2 : L2.St} {D : Addr} (G : Cg M S H1) (st : Stab P) (hD : H1 D = none) (hi : i < n) (hz : n ≤ 10000) (h : CI M S H1 f P D i H)
    (ht : ∀ R : Bool → Hp → Prop, (∀ H', S H' → Fr M H H' → R (f i) H') → tt σ2 H R)
    (he : f i = true → ∀ H', S H' → Fr M H1 H' → ∀ R : VK, (∀ y H'', S H'' → Fr M H' H'' → P H'' i y → R y H'') → te σ2 H' R) :
    tt σ2 H fun b H3 => if b = true then te σ2 H3 fun y H4 => ∃ acc, H4 D = some (.lst acc) ∧ acc.length < sizeLine ∧ CI M S H1 f P D (i + 1) (upd H4 D (.lst (acc ++ [y]))) else CI M S H1 f P D (i + 1) H3 := by
  obtain ⟨s, fr, ys, e, m⟩ := h
  have dm : D ∉ M := fun z => G.th D z hD
  refine ht _ fun H3 s3 f3 => ?_
  have e3 := f3.kp D _ e dm
  cases hf : f i with
  | false =>
    refine iteF ?_
    exact ⟨s3, fr.comp f3, ys, e3, by rw [keptN_no hf]; exact m.fr st f3⟩
  | true =>
    refine iteT ?_
    refine he hf H3 s3 (fr.comp f3) _ fun y H4 s4 f4 p => ?_
    have e4 := f4.kp D _ e3 dm
    have fp : Fr [D] H4 (upd H4 D (.lst (ys ++ [y]))) := Fr.put e4 (by intro _ z; cases z)
    have ly : ys.length ≤ i := by rw [m.1]; exact keptN_le f i
    refine ⟨ys, e4, Nat.lt_of_le_of_lt (Nat.le_trans ly (Nat.le_of_lt (Nat.lt_of_lt_of_le hi hz))) (by decide), G.sD D _ _ hD fp s4, ((fr.comp f3).comp f4).compN fp hD, ys ++ [y], upd_same, ?_⟩
    rw [keptN_yes hf]
    exact (((m.fr st f3).fr st f4).fr st fp).snoc (st _ _ _ _ _ fp p)
/-- [elt for x in range(lo, lo + n) if test] -/
theorem lcR {lo : Int} {n : Nat} (f : Nat → Bool) (P : Hp → Nat → V → Prop) (G : Cg M S H1) (st : Stab P) (hz : n ≤ 10000)
    (ht : ∀ (i : Nat) H, i < n → S H → Fr M H1 H → ∀ R : Bool → Hp → Prop, (∀ H', S H' → Fr M H H' → R (f i) H') → tt ((wipe σ [j]).set j (some (.int (lo + i)))) H R)
    (he : ∀ (i : Nat) H, i < n → f i = true → S H → Fr M H1 H → ∀ R : VK, (∀ y H', S H' → Fr M H H' → P H' i y → R y H') → te ((wipe σ [j]).set j (some (.int (lo + i)))) H R)
    (hd : ∀ D H' ys, H1 D = none → H' D = some (.lst ys) → Made P H' (keptN f n) ys → S H' → Fr M H1 H' → Qd D H') :
    ∀ D, H1 D = none → ∃ W : Nat → Nat → Hp → Prop, (∃ m, W 0 m (upd H1 D (.lst []))) ∧ ∀ i m H, W i m H →
      ((Itr lo n).stop i H ∧ Qd D H) ∨ ((Itr lo n).go i H ∧ ∃ Nx : Hp → Prop, (∀ H', Nx H' → ∃ m', m' < m ∧ W (i + 1) m' H') ∧ ∀ x H', (Itr lo n).yld i H x H' → gName j x (wipe σ [j]) H' fun σ2 H2 => wipe σ2 [j] = wipe σ [j] ∧ tt σ2 H2 fun b H3 =>
        if b = true then te σ2 H3 fun y H4 => ∃ acc, H4 D = some (.lst acc) ∧ acc.length < sizeLine ∧ Nx (upd H4 D (.lst (acc ++ [y]))) else Nx H3) := fun D hD =>
  lc_range (CI M S H1 f P D) (CI.start G hD) (fun i H hi h => ⟨wipe_again σ j _, CI.turn G st hD hi hz h (ht i H hi h.1 h.2.1) fun hf H' s f' => he i H' hi hf s f'⟩) fun H h => let ⟨s, fr, ys, e, m⟩ := h; hd D H ys hD e m s fr
/-- .. for x in a list -/
theorem lcL {K : PySem.W.Frag} {a : Addr} {xs : List V} (f : Nat → Bool) (P : Hp → Nat → V → Prop) (G : Cg M S H1) (st : Stab P) (hx : SqL K H1 a xs) (na : a ∉ M) (hz : xs.length ≤ 10000)
    (ht : ∀ (i : Nat) (x : V) H, xs[i]? = some x → S H → Fr M H1 H → ∀ R : Bool → Hp → Prop, (∀ H', S H' → Fr M H H' → R (f i) H') → tt ((wipe σ [j]).set j (some x)) H R)
    (he : ∀ (i : Nat) (x : V) H, xs[i]? = some x → f i = true → S H → Fr M H1 H → ∀ R : VK, (∀ y H', S H' → Fr M H H' → P H' i y → R y H') → te ((wipe σ [j]).set j (some x)) H R)
    (hd : ∀ D H' ys, H1 D = none → H' D = some (.lst ys) → Made P H' (keptN f xs.length) ys → S H' → Fr M H1 H' → Qd D H') :
    ∀ D, H1 D = none → ∃ W : Nat → Nat → Hp → Prop, (∃ m, W 0 m (upd H1 D (.lst []))) ∧ ∀ i m H, W i m H →
      ((Itl K a).stop i H ∧ Qd D H) ∨ ((Itl K a).go i H ∧ ∃ Nx : Hp → Prop, (∀ H', Nx H' → ∃ m', m' < m ∧ W (i + 1) m' H') ∧ ∀ x H', (Itl K a).yld i H x H' → gName j x (wipe σ [j]) H' fun σ2 H2 => wipe σ2 [j] = wipe σ [j] ∧ tt σ2 H2 fun b H3 =>
        if b = true then te σ2 H3 fun y H4 => ∃ acc, H4 D = some (.lst acc) ∧ acc.length < sizeLine ∧ Nx (upd H4 D (.lst (acc ++ [y]))) else Nx H3) := fun D hD =>
  lc_list (CI M S H1 f P D) (CI.start G hD) (fun i H _ h => sqFr h.2.1 na hx) (fun i x H hi h => ⟨wipe_again σ j _, CI.turn G st hD (List.getElem?_eq_some_iff.mp hi).1 hz h (ht i x H hi h.1 h.2.1) fun hf H' s f' => he i x H' hi hf s f'⟩) fun H h => let ⟨s, fr, ys, e, m⟩ := h; hd D H ys hD e m s fr
/-- no test -/
theorem tyes_ok {σ2 : L2.St} {H : Hp} (hs : S H) (nt : ∀ a ∈ M, ∀ (xs : List V), H a ≠ some (HO.tup xs)) : ∀ R : Bool → Hp → Prop, (∀ H', S H' → Fr M H H' → R true H') → tYes σ2 H R := fun R k => k H hs (Fr.refl nt)
end
end M14
set_option Elab.async false
set_option linter.all false
set_option maxRecDepth 100000
set_option maxHeartbeats 4000000
/-! Entries as data: plain ones, those that refer to an object, pending ones; what moving makes of them. -/
namespace M14
open PySem PySem.Spec PyProof.Rows L2

def EntP (t : T) : Prop := ∃ w ts, t = .tup (.str w :: ts) ∧ w ≠ Str.ofString "ref" ∧ w ≠ Str.ofString "handled" ∧ w ≠ Str.ofString "pending" ∧ ts.length ≤ 10 ∧ ∀ x ∈ ts, Dep 0 x
def EntI (n : Int) (t : T) : Prop := EntP t ∨ ∃ w j, t = .tup [.str w, .int j] ∧ (w = Str.ofString "ref" ∨ w = Str.ofString "handled") ∧ 0 ≤ j ∧ j < n
def EntOk (n : Int) (t : T) : Prop := EntI n t ∨ ∃ r i, t = .tup [.str (Str.ofString "pending"), .int r, i] ∧ EntI n i
theorem EntI.mono {n m : Int} {t : T} (h : EntI n t) (l : n ≤ m) : EntI m t := by
  rcases h with h | ⟨w, j, e, hw, h0, h1⟩
  · exact .inl h
  · exact .inr ⟨w, j, e, hw, h0, by omega⟩
theorem EntOk.mono {n m : Int} {t : T} (h : EntOk n t) (l : n ≤ m) : EntOk m t := by
  rcases h with h | ⟨r, i, e, h⟩
  · exact .inl (h.mono l)
  · exact .inr ⟨r, i, e, h.mono l⟩
theorem EntP.dep {t : T} (h : EntP t) : Dep 1 t := by
  obtain ⟨w, ts, rfl, _, _, _, l, h⟩ := h
  exact .tup (by simp only [List.length_cons]; omega) fun x m => by
    rcases List.mem_cons.mp m with rfl | m
    · exact .str
    · exact h x m
theorem EntI.dep {n : Int} {t : T} (h : EntI n t) : Dep 1 t := by
  rcases h with h | ⟨w, j, rfl, _⟩
  · exact h.dep
  · exact .tup (by simp) fun x m => by
      simp only [List.mem_cons, List.not_mem_nil, or_false] at m
      rcases m with rfl | rfl
      · exact .str
      · exact .int
theorem EntOk.dep {n : Int} {t : T} (h : EntOk n t) : Dep 2 t := by
  rcases h with h | ⟨r, i, rfl, h⟩
  · exact h.dep.mono (by decide)
  · exact .tup (by simp) fun x m => by
      simp only [List.mem_cons, List.not_mem_nil, or_false] at m
      rcases m with rfl | rfl | rfl
      · exact .str
      · exact .int
      · exact h.dep
theorem memN {α : Type} {p : α → Prop} : ∀ t ∈ ([] : List α), p t := fun _ m => nomatch m
theorem memC {α : Type} {p : α → Prop} {a : α} {l : List α} (h : p a) (r : ∀ t ∈ l, p t) : ∀ t ∈ a :: l, p t := fun t m => by
  rcases List.mem_cons.mp m with rfl | m
  · exact h
  · exact r t m
theorem in_snoc {α : Type} {p : α → Prop} {xs : List α} {y : α} (h : ∀ x ∈ xs, p x) (hy : p y) : ∀ x ∈ xs ++ [y], p x := fun x m => by
  rcases List.mem_append.mp m with m | m
  · exact h x m
  · have e : x = y := by simpa using m
    rw [e]; exact hy
/-- plain entries by their word and their leaves -/
theorem entP1 {w : Str} (h1 : w ≠ Str.ofString "ref") (h2 : w ≠ Str.ofString "handled") (h3 : w ≠ Str.ofString "pending") : EntP (.tup [.str w]) := ⟨w, [], rfl, h1, h2, h3, by simp, fun _ m => nomatch m⟩
theorem entP2 {w : Str} {x : T} (h1 : w ≠ Str.ofString "ref") (h2 : w ≠ Str.ofString "handled") (h3 : w ≠ Str.ofString "pending") (hx : Dep 0 x) : EntP (.tup [.str w, x]) := ⟨w, [x], rfl, h1, h2, h3, by simp, fun y m => by
  have e : y = x := by simpa using m
  rw [e]; exact hx⟩

theorem entI_h {n x : Int} (h : 0 ≤ x ∧ x < n) : EntI n (.tup [.str (Str.ofString "handled"), .int x]) := .inr ⟨_, x, rfl, .inr rfl, h.1, h.2⟩
theorem entI_r {n x : Int} (h : 0 ≤ x ∧ x < n) : EntI n (.tup [.str (Str.ofString "ref"), .int x]) := .inr ⟨_, x, rfl, .inl rfl, h.1, h.2⟩
theorem entOk_p {n r : Int} {i : T} (h : EntI n i) : EntOk n (.tup [.str (Str.ofString "pending"), .int r, i]) := .inr ⟨r, i, rfl, h⟩
/-- an entry is a tuple that begins with its word -/
theorem ent_head {K : PySem.W.Frag} {H : Hp} {n : Int} {v : V} {t : T} (d : Den K H v t) (h : EntOk n t) : ∃ a w r, v = .ref a ∧ H a = some (.tup (.str w :: r)) := by
  have key : ∃ w ts, t = .tup (.str w :: ts) := by
    rcases h with (⟨w, ts, e, _⟩ | ⟨w, j, e, _⟩) | ⟨r, i, e, _⟩
    · exact ⟨w, ts, e⟩
    · exact ⟨w, _, e⟩
    · exact ⟨_, _, e⟩
  obtain ⟨w, ts, rfl⟩ := key
  obtain ⟨p, xs, rfl, hp, l, c⟩ := d.tup_inv
  cases xs with
  | nil => simp at l
  | cons x r =>
    have q := c 0 x (.str w) rfl rfl
    cases q
    exact ⟨p, w, r, rfl, hp⟩
/-- an entry with its address replaced by g of it -/
def movI (g : Int → Int) : T → T
  | .tup [.str w, .int j] => if w = Str.ofString "ref" ∨ w = Str.ofString "handled" then .tup [.str w, .int (g j)] else .tup [.str w, .int j]
  | t => t
def movT (g : Int → Int) : T → T
  | .tup [.str w, r, i] => if w = Str.ofString "pending" then .tup [.str w, r, movI g i] else .tup [.str w, r, i]
  | t => movI g t
theorem movI_plain {g : Int → Int} {t : T} (h : EntP t) : movI g t = t := by
  obtain ⟨w, ts, rfl, h1, h2, h3, _, _⟩ := h
  match ts with
  | [] => rfl
  | [.int j] => exact if_neg fun z => z.elim h1 h2
  | [.non] => rfl
  | [.bl _] => rfl
  | [.str _] => rfl
  | [.tup _] => rfl
  | a :: _ :: _ => cases a <;> rfl
theorem movT_plain {g : Int → Int} {t : T} (h : EntP t) : movT g t = t := by
  have q := movI_plain (g := g) h
  obtain ⟨w, ts, rfl, h1, h2, h3, _, _⟩ := h
  match ts, q with
  | [], _ => rfl
  | [x], q => exact q
  | [r, i], _ => simp only [movT, if_neg h3]
  | a :: _ :: _ :: _, _ => cases a <;> rfl
theorem movI_ref {g : Int → Int} {w : Str} {j : Int} (h : w = Str.ofString "ref" ∨ w = Str.ofString "handled") : movI g (.tup [.str w, .int j]) = .tup [.str w, .int (g j)] := if_pos h
theorem movT_ref {g : Int → Int} {w : Str} {j : Int} (h : w = Str.ofString "ref" ∨ w = Str.ofString "handled") : movT g (.tup [.str w, .int j]) = .tup [.str w, .int (g j)] := movI_ref h
theorem movT_pend {g : Int → Int} {r i : T} : movT g (.tup [.str (Str.ofString "pending"), r, i]) = .tup [.str (Str.ofString "pending"), r, movI g i] := by simp only [movT, if_pos]
theorem movI_dep {g : Int → Int} {n : Int} {t : T} (h : EntI n t) : Dep 1 (movI g t) := by
  rcases h with h | ⟨w, j, rfl, hw, _⟩
  · rw [movI_plain h]; exact h.dep
  · rw [movI_ref hw]
    exact .tup (by simp) fun x m => by
      simp only [List.mem_cons, List.not_mem_nil, or_false] at m
      rcases m with rfl | rfl
      · exact .str
      · exact .int
theorem movT_dep {g : Int → Int} {n : Int} {t : T} (h : EntOk n t) : Dep 2 (movT g t) := by
  rcases h with (h | ⟨w, j, rfl, hw, _⟩) | ⟨r, i, rfl, h⟩
  · rw [movT_plain h]; exact h.dep.mono (by decide)
  · rw [movT_ref hw]
    exact .tup (by simp) fun x m => by
      simp only [List.mem_cons, List.not_mem_nil, or_false] at m
      rcases m with rfl | rfl
      · exact .str
      · exact .int
  · rw [movT_pend]
    exact .tup (by simp) fun x m => by
      simp only [List.mem_cons, List.not_mem_nil, or_false] at m
      rcases m with rfl | rfl | rfl
      · exact .str
      · exact .int
      · exact movI_dep h
end M14
set_option Elab.async false
set_option linter.all false
set_option maxRecDepth 100000
set_option maxHeartbeats 4000000
namespace M14
open PySem PySem.Spec PyProof.Rows L2

def top (i : Nat) : Stmt := PySem.Challenge.pw_likerun_k15_reach_and_graph.main.body.getD i (.Pass ⟨0, 0, 0, 0⟩)
@[irreducible] def spTake : Sp := fun vs H Q _ => ∃ (b : Addr) (n : Int), vs = [.ref b, .int n] ∧ Box H b ∧ 0 < n ∧ n < 1073741824 ∧ ∀ (r : Int) H', 0 ≤ r → r < n → Box H' b → Fr [b] H H' → Q (.int r) H'
theorem take_step {b : Addr} {n : Int} {H : Hp} {Q : VK} {E : XK} (hB : Box H b) (h0 : 0 < n) (h1 : n < 1073741824) (k : ∀ (r : Int) H', 0 ≤ r → r < n → Box H' b → Fr [b] H H' → Q (.int r) H') : spTake ([.ref b, .int n] ++ []) H Q E := by
  unfold spTake
  exact ⟨b, n, rfl, hB, h0, h1, k⟩
/-- a def that draws from the box b: what it gives fits P -/
def Dr (b : Addr) (P : Hp → V → Prop) (H : Hp) (Q : VK) : Prop := Box H b ∧ ∀ v H', P H' v → Box H' b → Fr [b] H H' → Q v H'
section
variable {P : Program} {w : World} {K : PySem.W.Frag} {mg : Str → Option Value} {base : Heap}
set_option hygiene false
local macro_rules | `(tactic| tm_at "sc") => `(tactic| (first | omega | (simp only [List.length_cons, List.length_nil, List.length_map, List.length_set, List.length_append]; omega) | (simp only [List.length_map] at h1 ⊢; omega) | (simp only [List.length_map] at c ⊢; omega) | with_reducible assumption | exact And.intro (by omega) (by omega) | exact Or.inl (And.intro (by omega) (by omega)) | exact Or.inr (And.intro (by omega) (by omega)) | decide +kernel | exact len1000 (by simp) | rfl | fail "no way"))
local macro_rules | `(tactic| tm_at "sc1") => `(tactic| (focus (simp; done)))
local macro_rules | `(tactic| tm_at "ne") => `(tactic| (first | assumption | exact Ne.symm (by assumption) | (apply Box.ne2; assumption; tm_at "hp") | (apply Ne.symm; apply Box.ne2; assumption; tm_at "hp") | (apply ne_of_none2; assumption; tm_at "hp") | (apply Ne.symm; apply ne_of_none2; assumption; tm_at "hp") | fail "no way"))
local macro_rules | `(tactic| tm_at "f0") => `(tactic| (first | assumption | (apply Fr.new; assumption) | fail "no way"))
local macro_rules | `(tactic| tm_at "hp") => `(tactic| (first | assumption | exact upd_same | (apply SqL.of; first | assumption | exact upd_same) | (apply Fr.at0; tm_at "f0"; tm_at "hp") | (apply Fr.at1n; assumption; tm_at "ne"; tm_at "hp") | (apply sqFr0; tm_at "f0"; tm_at "hp") | (apply sqFr1; assumption; tm_at "ne"; tm_at "hp") | (apply Box.fr0; tm_at "f0"; tm_at "hp") | (apply Box.fr1; assumption; tm_at "ne"; tm_at "hp") | (apply Den.fr; tm_at "f0"; tm_at "hp") | (apply Dens.fr; tm_at "f0"; tm_at "hp") | fail "no way"))
local macro_rules | `(tactic| tm_at "free0") => `(tactic| (first | assumption | (apply updFree; assumption) | (apply updFree; apply updFree; assumption) | (apply updFree; apply updFree; apply updFree; assumption) | (apply updFree; apply updFree; apply updFree; apply updFree; assumption) | fail "no way"))
local macro_rules | `(tactic| tm_at "free") => `(tactic| (first | tm_at "free0" | (apply Fr.free; assumption; tm_at "free0") | (apply Box.free; assumption; tm_at "fr"; tm_at "free0") | (apply Fr.free; assumption; apply Fr.free; assumption; tm_at "free0") | fail "no way"))
local macro_rules | `(tactic| tm_at "fr") => `(tactic| (first | assumption | exact Fr.refl0 _ | exact Fr.refl (Box.nt (by assumption)) | (refine Fr.comp0 ?_ (by tm_at "f0"); tm_at "fr") | (refine Fr.comp ?_ (by assumption); tm_at "fr") | (refine Fr.compN ?_ (by assumption) (by tm_at "free"); tm_at "fr") | fail "no way"))
local macro_rules | `(tactic| tm_at "call") => `(tactic| fail "no call")
local macro_rules | `(tactic| tm_at "call") => `(tactic| (apply take_step; tm_at "hp"; tm_at "sc"; tm_at "sc"; intro r H1 h0 h1 hB fr))
local macro_rules | `(tactic| tm_at "ty") => `(tactic| (first | assumption | exact .base .non | exact .base (.bl _) | exact .base (.int _) | exact .base (.str _) | (apply TyX.base; apply TyOf.lst; tm_at "hp") | (apply TyX.base; apply TyOf.tup; tm_at "hp") | fail "no way"))
local macro_rules | `(tactic| tm_at "pre") => `(tactic| fail "none")
local macro_rules | `(tactic| tm_at "go1") => `(tactic| (first | tm_at "pre" | refine ⟨_, rfl, ?_⟩ | refine ⟨_, _, rfl, rfl, ?_⟩ | (apply set_step; tm_at "hp"; tm_at "sc"; tm_at "sc"; intro H1 hp fr) | (with_reducible refine iteDI ?_ ?_ <;> intro c) | (with_reducible refine iteDS ?_ ?_ <;> intro c) | (with_reducible refine iteD ?_ ?_ <;> intro c) | (with_reducible refine iteEM ?_ ?_ <;> intro c) | (with_reducible refine iteE ?_ ?_ <;> intro c) | with_reducible refine iteN ?_ | with_reducible refine iteF ?_ | with_reducible refine iteT ?_ | (refine fun (p : Addr) (np : _ = (none : Option HO)) => ?_; fail_if_success (refine ⟨fun (_ _ : Nat) (_ : Hp) => True, ?_⟩)) | (apply isi_tt; tm_at "ty"; focus (decide +kernel)) | (apply isi_ff; tm_at "ty"; focus (decide +kernel)) | (apply sl_step; tm_at "hp"; intro qq H1 ms nq hq fr) | (apply sum_step; tm_at "hp"; intro i) | (apply tru_step; tm_at "hp") | (apply len_step; tm_at "hp") | (apply lenq_step; assumption) | (apply ixq_step; assumption; tm_at "sc"; tm_at "sc"; intro v hv) | (apply lst_step; tm_at "hp") | (apply tupl_step; tm_at "hp") | (apply ixr_step; tm_at "hp"; exact rfl) | (apply ix0_step; tm_at "hp") | (apply ix1_step; tm_at "hp") | (apply ix2_step; tm_at "hp") | (apply ixi_step; tm_at "hp"; tm_at "sc"; tm_at "sc"; intro n hn hn') | (apply ixl_step; tm_at "hp"; tm_at "sc"; tm_at "sc"; intro v hv) | (apply ixt_step; tm_at "hp"; tm_at "sc"; tm_at "sc"; intro v hm hv) | (apply in_step; tm_at "hp"; rfl; rfl) | (apply cat_step; tm_at "hp"; tm_at "hp"; tm_at "sc") | (apply catT_step; tm_at "hp"; tm_at "hp"; tm_at "sc1") | (apply tyL_and; tm_at "hp") | (apply app_step; tm_at "hp"; tm_at "sc"; intro H1 hp fr) | tm_at "call" | refine ⟨⟨_, rfl⟩, ?_⟩ | (apply ixs_step; tm_at "sc"; tm_at "sc"; tm_at "sc"; intro ch) | refine .inl ⟨_, rfl, ?_⟩ | refine .inr ⟨_, rfl, ?_⟩ | (apply And.intro; tm_at "sc") | (with_reducible refine wayB ?_ ?_ <;> intro c) | fail "no way"))
local macro_rules | `(tactic| tm_at "go") => `(tactic| (repeat tm_at "go1"))
local macro_rules | `(tactic| tm_at "goo") => `(tactic| (repeat' tm_at "go1"))
local macro_rules | `(tactic| tm_at "den") => `(tactic| (first | assumption | exact Den.str _ | exact Den.int _ | exact Den.bl _ | exact Den.non | (apply Den.tups; tm_at "hp"; tm_at "dens") | (apply Den.fr; tm_at "f0"; tm_at "den") | fail "no way"))
local macro_rules | `(tactic| tm_at "dens") => `(tactic| (first | assumption | exact Dens.nil | (apply Dens.cons; tm_at "den"; tm_at "dens") | (apply Dens.fr; tm_at "f0"; tm_at "dens") | fail "no way"))
local macro_rules | `(tactic| tm_at "ix") => `(tactic| (apply Ix.mk; tm_at "hp"; tm_at "ne"; assumption; assumption))
local macro_rules | `(tactic| tm_at "dep") => `(tactic| (first | assumption | exact Dep.int | exact Dep.str | exact Dep.bl | exact Dep.non | (apply Dep.tup; tm_at "dlen"; tm_at "deps") | (apply Dep.mono; assumption; decide) | fail "no way"))
local macro_rules | `(tactic| tm_at "deps") => `(tactic| (first | assumption | exact memN | (apply memC; tm_at "dep"; tm_at "deps") | fail "no way"))
local macro_rules | `(tactic| tm_at "dlen") => `(tactic| (first | assumption | (focus (simp; done)) | omega | fail "no way"))
local macro_rules | `(tactic| tm_at "pre") => `(tactic| (apply rep_step; tm_at "hp"; tm_at "sc"; tm_at "sc"; intro rp H1 nrp hrp fr))

abbrev s_take : Stmt := top 16
theorem sc_take : FnScope ["_law_box_here", "_law_many", "_law_digit", "_law_first", "_law_second"] ["_law_box_here", "_law_many"] (defScope s_take) := ⟨rfl, rfl, rfl, by decide +kernel, rfl, by decide +kernel, by decide +kernel⟩

theorem ok_take (T : Bl mg) (D : Def1 K mg "_law_take" s_take) : Cal P w K mg base 1 "_law_take" ["_law_box_here", "_law_many"] spTake := by
  refine D.cal sc_take (fun _ _ _ _ _ _ us hl => match us, hl with | [_, _], _ => rfl) (fun vs H Q E h => ?_) (fun f cdv A outer s H vs Q E hr h => ?_) <;> unfold spTake at h
  · obtain ⟨b, n, rfl, _⟩ := h
    rfl
  · obtain ⟨b, n, rfl, ⟨i0, i1, i2, i3, i4, hb⟩, n0, n1, k⟩ := h
    refine ⟨_, (pss_cons (ps_if (PW.pt (pw_and (pt_cmpR op_gt (pe_ix (ixL K) (pv 0) pe_int (fun _ _ => rfl)) pe_int (nomark _)) (pw_and1 (pt_cmpR op_gt (pe_ix (ixL K) (pv 0) pe_int (fun _ _ => rfl)) pe_int (nomark _)))))
      (pss_cons (ps_set (i := 2) sc_take.nd rfl (Or.inl rfl) (pe_op op_mod (pe_callTy call_int1 (by rfl) T.z_int (by decide +kernel) (pa_cons (pe_ix (ixL K) (pv 0) pe_int (fun _ _ => rfl)) pa_nil)) (pv 1)))
      (pss_cons (ps_asg (pe_op op_fdiv (pe_ix (ixL K) (pv 0) pe_int (fun _ _ => rfl)) (pv 1)) (pg_sub (pv 0) pe_int setL))
      (pss_cons (ps_asg (pe_op op_sub (pe_ix (ixL K) (pv 0) pe_int (fun _ _ => rfl)) pe_int) (pg_sub (pv 0) pe_int setL))
      (pss_one (ps_ret (pv 2))))))
      pss_nil)
    (pss_cons (ps_asg (pe_op op_add (pe_ix (ixL K) (pv 0) pe_int (fun _ _ => rfl)) pe_int) (pg_sub (pv 0) pe_int setL))
    (pss_cons (ps_set (i := 3) sc_take.nd rfl (Or.inl rfl) (pe_op op_mod (pe_callTy call_int1 (by rfl) T.z_int (by decide +kernel) (pa_cons (pe_op op_add (pe_op op_add (pe_op op_mul (pe_ix (ixL K) (pv 0) pe_int (fun _ _ => rfl)) pe_int) (pe_op op_mul (pe_ix (ixL K) (pv 0) pe_int (fun _ _ => rfl)) pe_int)) (pe_op op_mul (pe_ix (ixL K) (pv 0) pe_int (fun _ _ => rfl)) pe_int)) pa_nil)) pe_int))
    (pss_cons (ps_set (i := 4) sc_take.nd rfl (Or.inl rfl) (pe_op op_mod (pe_callTy call_int1 (by rfl) T.z_int (by decide +kernel) (pa_cons (pe_op op_add (pe_op op_add (pe_op op_mul (pv 3) (pv 3)) (pe_op op_mul (pe_ix (ixL K) (pv 0) pe_int (fun _ _ => rfl)) pe_int)) pe_int) pa_nil)) pe_int))
    (pss_one (ps_ret (pe_op op_mod (pe_callTy call_int1 (by rfl) T.z_int (by decide +kernel) (pa_cons (pe_op op_fdiv (pv 4) pe_int) pa_nil)) (pv 1)))))))), ?_⟩
    have hB : Box H b := ⟨_, _, _, _, _, hb⟩
    tm_at "goo"
    all_goals (refine k _ _ (Int.emod_nonneg _ (by omega)) (Int.emod_lt_of_pos _ n0) ?_ (by tm_at "fr"))
    · exact ⟨_, _, _, _, _, hp⟩
    · exact ⟨_, _, _, _, _, hp⟩
    · exact ⟨_, _, _, _, _, hp⟩
/-! ### texts -/
/-- letters[take(box, len(letters))], letters[take(box, n)] -/
theorem letter_step {b : Addr} {L : Str} {σ : L2.St} {H : Hp} {i : Nat} {R : VK} (h0 : σ[0]? = some (some (.ref b))) (hi : σ[i]? = some (some (.str L))) (l0 : 0 < L.length) (l1 : L.length ≤ 1000) (hB : Box H b)
    (k : ∀ c H', Box H' b → Fr [b] H H' → R (.str ⟨#[c]⟩) H') : tOp rxS (tVar i) (tCall spTake [] E0 (tCons (tVar 0) (tCons (tCB (fun xs H Q => ∃ z, xs = [.str z] ∧ z.length ≤ sizeLine ∧ Q (.int z.length) H) (tCons (tVar i) tNil)) tNil))) σ H R := by
  have l2 : L.length ≤ sizeLine := Nat.le_trans l1 (by decide)
  refine ⟨_, hi, _, h0, _, hi, L, rfl, l2, ?_⟩
  refine take_step hB (by omega) (by omega) fun r H1 h0 h1 hB f => ?_
  exact ixs_step l2 h0 h1 fun c => k c _ hB f
theorem letter_stepN {b : Addr} {L : Str} {σ : L2.St} {H : Hp} {i : Nat} {n : Int} {R : VK} (h0 : σ[0]? = some (some (.ref b))) (hi : σ[i]? = some (some (.str L))) (l0 : 0 < n) (ln : n ≤ L.length) (l1 : L.length ≤ 1000) (hB : Box H b)
    (k : ∀ c H', Box H' b → Fr [b] H H' → R (.str ⟨#[c]⟩) H') : tOp rxS (tVar i) (tCall spTake [] E0 (tCons (tVar 0) (tCons (tC (.int n)) tNil))) σ H R := by
  have l2 : L.length ≤ sizeLine := Nat.le_trans l1 (by decide)
  refine ⟨_, hi, _, h0, ?_⟩
  refine take_step hB (by omega) (by omega) fun r H1 h0 h1 hB f => ?_
  exact ixs_step l2 h0 (by omega) fun c => k c _ hB f
@[irreducible] def spWord : Sp := fun vs H Q _ => ∃ b : Addr, vs = [.ref b] ∧ Dr b (fun _ v => isS 100 v) H Q
theorem word_step {b : Addr} {H : Hp} {Q : VK} {E : XK} (hB : Box H b) (k : ∀ v H', isS 100 v → Box H' b → Fr [b] H H' → Q v H') : spWord ([.ref b] ++ []) H Q E := by unfold spWord; exact ⟨b, rfl, hB, k⟩
local macro_rules | `(tactic| tm_at "call") => `(tactic| (apply word_step; tm_at "hp"; intro v H1 hv hB fr))
abbrev s_word : Stmt := top 18
theorem sc_word : FnScope ["_law_box_here", "_law_menu", "_law_letters", "_law_k"] ["_law_box_here"] (defScope s_word) := ⟨rfl, rfl, rfl, by decide +kernel, rfl, by decide +kernel, by decide +kernel⟩

theorem ok_word (T : Bl mg) (G_take : Cal P w K mg base 1 "_law_take" ["_law_box_here", "_law_many"] spTake) (D : Def1 K mg "_law_word" s_word) : Cal P w K mg base 2 "_law_word" ["_law_box_here"] spWord := by
  refine D.cal sc_word (fun _ _ _ _ _ _ us hl => match us, hl with | [_], _ => rfl) (fun vs H Q E h => ?_) (fun f cdv A outer s H vs Q E hr h => ?_) <;> unfold spWord at h
  · obtain ⟨b, rfl, _⟩ := h
    rfl
  · obtain ⟨b, rfl, hB, k⟩ := h
    refine ⟨_, (pss_cons (ps_if (pt_cmpR op_eq (pe_cal G_take (hr.mono (by omega)) (by rfl) (pa_cons (pv 0) (pa_cons pe_int pa_nil))) pe_int (nomark _))
      (pss_cons (ps_set (i := 1) sc_word.nd rfl (Or.inl rfl) (pe_tup (pa_cons pe_str (pa_cons pe_str (pa_cons pe_str (pa_cons pe_str (pa_cons pe_str (pa_cons pe_str pa_nil))))))))
      (pss_one (ps_ret (pe_ix (ixT K) (pv 1) (pe_cal G_take (hr.mono (by omega)) (by rfl) (pa_cons (pv 0) (pa_cons pe_int pa_nil))) (fun _ _ => rfl)))))
      pss_nil)
    (pss_cons (ps_set (i := 2) sc_word.nd rfl (Or.inr rfl) pe_str)
    (pss_cons (ps_set (i := 2) sc_word.nd rfl (Or.inr rfl) (pe_op op_add_str (pv 2) pe_str))
    (pss_one (ps_ret (pe_join pe_str (pe_lc (own := [("_law_k", 3)]) (g := gName 3) (by rfl) sc_word.nd (pi_range1 (by rfl) T.z_range (pa_cons (pe_cal G_take (hr.mono (by omega)) (by rfl) (pa_cons (pv 0) (pa_cons pe_int pa_nil))) pa_nil)) (blkOk_by (own := [("_law_k", 3)]) (N := [("_law_box_here" : Str), ("_law_menu" : Str), ("_law_letters" : Str), ("_law_k" : Str)]) (sc := defScope s_word) (by decide +kernel)) (fun _ _ _ _ _ => pg_name (i := 3) sc_word.nd rfl (Or.inl rfl)) (fun _ _ _ _ _ => pts_nil) (fun _ _ _ _ _ => (pe_ix ixS (pv 2) (pe_cal G_take (hr.mono (by omega)) (by rfl) (pa_cons (pv 0) (pa_cons (pe_callB call_len_str (by rfl) T.z_len (by decide +kernel) (pa_cons (pv 2) pa_nil)) pa_nil))) (fun _ _ => rfl)))))))))), ?_⟩
    tm_at "goo"
    · exact k _ _ (isS_of (by decide +kernel) hm) (by tm_at "hp") (by tm_at "fr")
    · refine lcR (fun _ => true) (fun _ _ y => isS 1 y) (Cg.box hB) stab_v (by omega) (fun i H hi hS f => tyes_ok hS hS.nt) (fun i H hi _ hS f R k => ?_) (fun D H' ys nD hD m hS f => ?_)
      · exact letter_step rfl rfl (by decide +kernel) (by decide +kernel) hS fun c H' hB' f' => k _ _ hB' f' (len1 c)
      · rw [keptN_all] at m
        have ma := m.all
        refine join_step (n := 1) (SqL.of hD) (fun y hy => ?_) (by decide) (by omega) fun v hv => ?_
        · obtain ⟨i, _, q⟩ := m.mem hy
          exact q
        · exact k _ _ (hv.mono (by omega)) hS (by tm_at "fr")
@[irreducible] def spName : Sp := fun vs H Q _ => ∃ b : Addr, vs = [.ref b] ∧ Dr b (fun _ v => isS 100 v) H Q
theorem name_step {b : Addr} {H : Hp} {Q : VK} {E : XK} (hB : Box H b) (k : ∀ v H', isS 100 v → Box H' b → Fr [b] H H' → Q v H') : spName ([.ref b] ++ []) H Q E := by unfold spName; exact ⟨b, rfl, hB, k⟩
local macro_rules | `(tactic| tm_at "call") => `(tactic| (apply name_step; tm_at "hp"; intro v H1 hv hB fr))
abbrev s_name : Stmt := top 19
theorem sc_name : FnScope ["_law_box_here", "_law_letters", "_law_k"] ["_law_box_here"] (defScope s_name) := ⟨rfl, rfl, rfl, by decide +kernel, rfl, by decide +kernel, by decide +kernel⟩

theorem ok_name (T : Bl mg) (G_take : Cal P w K mg base 1 "_law_take" ["_law_box_here", "_law_many"] spTake) (D : Def1 K mg "_law_name" s_name) : Cal P w K mg base 2 "_law_name" ["_law_box_here"] spName := by
  refine D.cal sc_name (fun _ _ _ _ _ _ us hl => match us, hl with | [_], _ => rfl) (fun vs H Q E h => ?_) (fun f cdv A outer s H vs Q E hr h => ?_) <;> unfold spName at h
  · obtain ⟨b, rfl, _⟩ := h
    rfl
  · obtain ⟨b, rfl, hB, k⟩ := h
    refine ⟨_, (pss_cons (ps_set (i := 1) sc_name.nd rfl (Or.inr rfl) pe_str)
    (pss_one (ps_ret (pe_join pe_str (pe_lc (own := [("_law_k", 2)]) (g := gName 2) (by rfl) sc_name.nd (pi_range1 (by rfl) T.z_range (pa_cons (pe_op op_add pe_int (pe_cal G_take (hr.mono (by omega)) (by rfl) (pa_cons (pv 0) (pa_cons pe_int pa_nil)))) pa_nil)) (blkOk_by (own := [("_law_k", 2)]) (N := [("_law_box_here" : Str), ("_law_letters" : Str), ("_law_k" : Str)]) (sc := defScope s_name) (by decide +kernel)) (fun _ _ _ _ _ => pg_name (i := 2) sc_name.nd rfl (Or.inl rfl)) (fun _ _ _ _ _ => pts_nil) (fun _ _ _ _ _ => (pe_ix ixS (pv 1) (pe_cal G_take (hr.mono (by omega)) (by rfl) (pa_cons (pv 0) (pa_cons pe_int pa_nil))) (fun _ _ => rfl)))))))), ?_⟩
    tm_at "goo"
    refine lcR (fun _ => true) (fun _ _ y => isS 1 y) (Cg.box hB) stab_v (by omega) (fun i H hi hS f => tyes_ok hS hS.nt) (fun i H hi _ hS f R k => ?_) (fun D H' ys nD hD m hS f => ?_)
    · exact letter_stepN rfl rfl (by decide +kernel) (by decide +kernel) (by decide +kernel) hS fun c H' hB' f' => k _ _ hB' f' (len1 c)
    · rw [keptN_all] at m
      have ma := m.all
      refine join_step (n := 1) (SqL.of hD) (fun y hy => ?_) (by decide) (by omega) fun v hv => ?_
      · obtain ⟨i, _, q⟩ := m.mem hy
        exact q
      · exact k _ _ (hv.mono (by omega)) hS (by tm_at "fr")
end
end M14
set_option Elab.async false
set_option linter.all false
set_option maxRecDepth 100000
set_option maxHeartbeats 4000000
namespace M14
open PySem PySem.Spec PyProof.Rows L2

section
variable {P : Program} {w : World} {K : PySem.W.Frag} {mg : Str → Option Value} {base : Heap}
set_option hygiene false
local macro_rules | `(tactic| tm_at "sc") => `(tactic| (first | omega | (simp only [List.length_cons, List.length_nil, List.length_map, List.length_set, List.length_append]; omega) | (simp only [List.length_map] at h1 ⊢; omega) | (simp only [List.length_map] at c ⊢; omega) | with_reducible assumption | exact And.intro (by omega) (by omega) | exact Or.inl (And.intro (by omega) (by omega)) | exact Or.inr (And.intro (by omega) (by omega)) | decide +kernel | exact len1000 (by simp) | rfl | fail "no way"))
local macro_rules | `(tactic| tm_at "sc1") => `(tactic| (focus (simp; done)))
local macro_rules | `(tactic| tm_at "ne") => `(tactic| (first | assumption | exact Ne.symm (by assumption) | (apply Box.ne2; assumption; tm_at "hp") | (apply Ne.symm; apply Box.ne2; assumption; tm_at "hp") | (apply ne_of_none2; assumption; tm_at "hp") | (apply Ne.symm; apply ne_of_none2; assumption; tm_at "hp") | fail "no way"))
local macro_rules | `(tactic| tm_at "f0") => `(tactic| (first | assumption | (apply Fr.new; assumption) | fail "no way"))
local macro_rules | `(tactic| tm_at "hp") => `(tactic| (first | assumption | exact upd_same | (apply SqL.of; first | assumption | exact upd_same) | (apply Fr.at0; tm_at "f0"; tm_at "hp") | (apply Fr.at1n; assumption; tm_at "ne"; tm_at "hp") | (apply sqFr0; tm_at "f0"; tm_at "hp") | (apply sqFr1; assumption; tm_at "ne"; tm_at "hp") | (apply Box.fr0; tm_at "f0"; tm_at "hp") | (apply Box.fr1; assumption; tm_at "ne"; tm_at "hp") | (apply Den.fr; tm_at "f0"; tm_at "hp") | (apply Dens.fr; tm_at "f0"; tm_at "hp") | fail "no way"))
local macro_rules | `(tactic| tm_at "free0") => `(tactic| (first | assumption | (apply updFree; assumption) | (apply updFree; apply updFree; assumption) | (apply updFree; apply updFree; apply updFree; assumption) | (apply updFree; apply updFree; apply updFree; apply updFree; assumption) | fail "no way"))
local macro_rules | `(tactic| tm_at "free") => `(tactic| (first | tm_at "free0" | (apply Fr.free; assumption; tm_at "free0") | (apply Box.free; assumption; tm_at "fr"; tm_at "free0") | (apply Fr.free; assumption; apply Fr.free; assumption; tm_at "free0") | fail "no way"))
local macro_rules | `(tactic| tm_at "fr") => `(tactic| (first | assumption | exact Fr.refl0 _ | exact Fr.refl (Box.nt (by assumption)) | (refine Fr.comp0 ?_ (by tm_at "f0"); tm_at "fr") | (refine Fr.comp ?_ (by assumption); tm_at "fr") | (refine Fr.compN ?_ (by assumption) (by tm_at "free"); tm_at "fr") | fail "no way"))
local macro_rules | `(tactic| tm_at "call") => `(tactic| fail "no call")
local macro_rules | `(tactic| tm_at "call") => `(tactic| (apply take_step; tm_at "hp"; tm_at "sc"; tm_at "sc"; intro r H1 h0 h1 hB fr))
local macro_rules | `(tactic| tm_at "ty") => `(tactic| (first | assumption | exact .base .non | exact .base (.bl _) | exact .base (.int _) | exact .base (.str _) | (apply TyX.base; apply TyOf.lst; tm_at "hp") | (apply TyX.base; apply TyOf.tup; tm_at "hp") | fail "no way"))
local macro_rules | `(tactic| tm_at "pre") => `(tactic| fail "none")
local macro_rules | `(tactic| tm_at "go1") => `(tactic| (first | tm_at "pre" | refine ⟨_, rfl, ?_⟩ | refine ⟨_, _, rfl, rfl, ?_⟩ | (apply set_step; tm_at "hp"; tm_at "sc"; tm_at "sc"; intro H1 hp fr) | (with_reducible refine iteDI ?_ ?_ <;> intro c) | (with_reducible refine iteDS ?_ ?_ <;> intro c) | (with_reducible refine iteD ?_ ?_ <;> intro c) | (with_reducible refine iteEM ?_ ?_ <;> intro c) | (with_reducible refine iteE ?_ ?_ <;> intro c) | with_reducible refine iteN ?_ | with_reducible refine iteF ?_ | with_reducible refine iteT ?_ | (refine fun (p : Addr) (np : _ = (none : Option HO)) => ?_; fail_if_success (refine ⟨fun (_ _ : Nat) (_ : Hp) => True, ?_⟩)) | (apply isi_tt; tm_at "ty"; focus (decide +kernel)) | (apply isi_ff; tm_at "ty"; focus (decide +kernel)) | (apply sl_step; tm_at "hp"; intro qq H1 ms nq hq fr) | (apply sum_step; tm_at "hp"; intro i) | (apply tru_step; tm_at "hp") | (apply len_step; tm_at "hp") | (apply lenq_step; assumption) | (apply ixq_step; assumption; tm_at "sc"; tm_at "sc"; intro v hv) | (apply lst_step; tm_at "hp") | (apply tupl_step; tm_at "hp") | (apply ixr_step; tm_at "hp"; exact rfl) | (apply ix0_step; tm_at "hp") | (apply ix1_step; tm_at "hp") | (apply ix2_step; tm_at "hp") | (apply ixi_step; tm_at "hp"; tm_at "sc"; tm_at "sc"; intro n hn hn') | (apply ixl_step; tm_at "hp"; tm_at "sc"; tm_at "sc"; intro v hv) | (apply ixt_step; tm_at "hp"; tm_at "sc"; tm_at "sc"; intro v hm hv) | (apply in_step; tm_at "hp"; rfl; rfl) | (apply cat_step; tm_at "hp"; tm_at "hp"; tm_at "sc") | (apply catT_step; tm_at "hp"; tm_at "hp"; tm_at "sc1") | (apply tyL_and; tm_at "hp") | (apply app_step; tm_at "hp"; tm_at "sc"; intro H1 hp fr) | tm_at "call" | refine ⟨⟨_, rfl⟩, ?_⟩ | (apply ixs_step; tm_at "sc"; tm_at "sc"; tm_at "sc"; intro ch) | refine .inl ⟨_, rfl, ?_⟩ | refine .inr ⟨_, rfl, ?_⟩ | (apply And.intro; tm_at "sc") | (with_reducible refine wayB ?_ ?_ <;> intro c) | fail "no way"))
local macro_rules | `(tactic| tm_at "go") => `(tactic| (repeat tm_at "go1"))
local macro_rules | `(tactic| tm_at "goo") => `(tactic| (repeat' tm_at "go1"))
local macro_rules | `(tactic| tm_at "den") => `(tactic| (first | assumption | exact Den.str _ | exact Den.int _ | exact Den.bl _ | exact Den.non | (apply Den.tups; tm_at "hp"; tm_at "dens") | (apply Den.fr; tm_at "f0"; tm_at "den") | fail "no way"))
local macro_rules | `(tactic| tm_at "dens") => `(tactic| (first | assumption | exact Dens.nil | (apply Dens.cons; tm_at "den"; tm_at "dens") | (apply Dens.fr; tm_at "f0"; tm_at "dens") | fail "no way"))
local macro_rules | `(tactic| tm_at "ix") => `(tactic| (apply Ix.mk; tm_at "hp"; tm_at "ne"; assumption; assumption))
local macro_rules | `(tactic| tm_at "dep") => `(tactic| (first | assumption | exact Dep.int | exact Dep.str | exact Dep.bl | exact Dep.non | (apply Dep.tup; tm_at "dlen"; tm_at "deps") | (apply Dep.mono; assumption; decide) | fail "no way"))
local macro_rules | `(tactic| tm_at "deps") => `(tactic| (first | assumption | exact memN | (apply memC; tm_at "dep"; tm_at "deps") | fail "no way"))
local macro_rules | `(tactic| tm_at "dlen") => `(tactic| (first | assumption | (focus (simp; done)) | omega | fail "no way"))
local macro_rules | `(tactic| tm_at "pre") => `(tactic| (apply rep_step; tm_at "hp"; tm_at "sc"; tm_at "sc"; intro rp H1 nrp hrp fr))

local macro_rules | `(tactic| tm_at "call") => `(tactic| (apply word_step; tm_at "hp"; intro v H1 hv hB fr))
local macro_rules | `(tactic| tm_at "call") => `(tactic| (apply name_step; tm_at "hp"; intro v H1 hv hB fr))
abbrev CTake (P : Program) (w : World) (K : PySem.W.Frag) (mg : Str → Option Value) (base : Heap) : Prop := Cal P w K mg base 1 "_law_take" ["_law_box_here", "_law_many"] spTake
abbrev CWord (P : Program) (w : World) (K : PySem.W.Frag) (mg : Str → Option Value) (base : Heap) : Prop := Cal P w K mg base 2 "_law_word" ["_law_box_here"] spWord
abbrev CName (P : Program) (w : World) (K : PySem.W.Frag) (mg : Str → Option Value) (base : Heap) : Prop := Cal P w K mg base 2 "_law_name" ["_law_box_here"] spName
local macro_rules | `(tactic| tm_at "finP") => `(tactic| (refine k _ _ ?_ (by tm_at "hp") (by tm_at "fr"); apply Exists.intro; apply And.intro; tm_at "den"; first | exact entP1 (by decide +kernel) (by decide +kernel) (by decide +kernel) | exact entP2 (by decide +kernel) (by decide +kernel) (by decide +kernel) .int | exact entP2 (by decide +kernel) (by decide +kernel) (by decide +kernel) .bl | exact entP2 (by decide +kernel) (by decide +kernel) (by decide +kernel) .str))
/-! ### entries -/
@[irreducible] def spPlain (K : PySem.W.Frag) : Sp := fun vs H Q _ => ∃ b : Addr, vs = [.ref b] ∧ Dr b (fun H' v => ∃ t, Den K H' v t ∧ EntP t) H Q
theorem plain_step {b : Addr} {H : Hp} {Q : VK} {E : XK} (hB : Box H b) (k : ∀ v H' t, Den K H' v t → EntP t → Box H' b → Fr [b] H H' → Q v H') : spPlain K ([.ref b] ++ []) H Q E := by
  unfold spPlain
  exact ⟨b, rfl, hB, fun v H' ⟨t, d, e⟩ => k v H' t d e⟩
abbrev s_plain : Stmt := top 20
theorem sc_plain : FnScope ["_law_box_here", "_law_way", "_law_menu", "_law_words"] ["_law_box_here"] (defScope s_plain) := ⟨rfl, rfl, rfl, by decide +kernel, rfl, by decide +kernel, by decide +kernel⟩

theorem ok_plain (T : Bl mg) (G_take : CTake P w K mg base) (G_word : CWord P w K mg base) (D : Def1 K mg "_law_plain" s_plain) : Cal P w K mg base 3 "_law_plain" ["_law_box_here"] (spPlain K) := by
  refine D.cal sc_plain (fun _ _ _ _ _ _ us hl => match us, hl with | [_], _ => rfl) (fun vs H Q E h => ?_) (fun f cdv A outer s H vs Q E hr h => ?_) <;> unfold spPlain at h
  · obtain ⟨b, rfl, _⟩ := h
    rfl
  · obtain ⟨b, rfl, hB, k⟩ := h
    refine ⟨_, (pss_cons (ps_set (i := 1) sc_plain.nd rfl (Or.inl rfl) (pe_cal G_take (hr.mono (by omega)) (by rfl) (pa_cons (pv 0) (pa_cons pe_int pa_nil))))
    (pss_cons (ps_if (pt_cmpR op_lt (pv 1) pe_int (nomark _))
      (pss_cons (ps_set (i := 2) sc_plain.nd rfl (Or.inl rfl) (pe_tup (pa_cons (pe_tup (pa_cons pe_str pa_nil)) (pa_cons (pe_tup (pa_cons pe_str (pa_cons pe_bl pa_nil))) (pa_cons (pe_tup (pa_cons pe_str (pa_cons pe_bl pa_nil))) pa_nil)))))
      (pss_one (ps_ret (pe_ix (ixT K) (pv 2) (pv 1) (fun _ _ => rfl)))))
      pss_nil)
    (pss_cons (ps_if (pt_cmpR op_lt (pv 1) pe_int (nomark _))
      (pss_one (ps_ret (pe_tup (pa_cons pe_str (pa_cons (pe_cal G_take (hr.mono (by omega)) (by rfl) (pa_cons (pv 0) (pa_cons pe_int pa_nil))) pa_nil)))))
      pss_nil)
    (pss_cons (ps_if (pt_cmpR op_eq (pv 1) pe_int (nomark _))
      (pss_one (ps_ret (pe_tup (pa_cons pe_str (pa_cons (pe_op op_sub (pe_cal G_take (hr.mono (by omega)) (by rfl) (pa_cons (pv 0) (pa_cons pe_int pa_nil))) pe_int) pa_nil)))))
      pss_nil)
    (pss_cons (ps_if (pt_cmpR op_eq (pv 1) pe_int (nomark _))
      (pss_one (ps_ret (pe_tup (pa_cons pe_str (pa_cons (pe_op op_mul (pe_op op_sub (pe_op op_sub (pe_op op_pow pe_int pe_int) pe_int) (pe_cal G_take (hr.mono (by omega)) (by rfl) (pa_cons (pv 0) (pa_cons pe_int pa_nil)))) (pe_op op_sub pe_int (pe_op op_mul pe_int (pe_cal G_take (hr.mono (by omega)) (by rfl) (pa_cons (pv 0) (pa_cons pe_int pa_nil)))))) pa_nil)))))
      pss_nil)
    (pss_cons (ps_if (pt_cmpR op_eq (pv 1) pe_int (nomark _))
      (pss_cons (ps_set (i := 3) sc_plain.nd rfl (Or.inl rfl) (pe_tup (pa_cons pe_str (pa_cons pe_str (pa_cons pe_str pa_nil)))))
      (pss_one (ps_ret (pe_tup (pa_cons pe_str (pa_cons (pe_ix (ixT K) (pv 3) (pe_cal G_take (hr.mono (by omega)) (by rfl) (pa_cons (pv 0) (pa_cons pe_int pa_nil))) (fun _ _ => rfl)) pa_nil))))))
      pss_nil)
    (pss_cons (ps_if (pt_cmpR op_eq (pv 1) pe_int (nomark _))
      (pss_cons (ps_set (i := 3) sc_plain.nd rfl (Or.inl rfl) (pe_tup (pa_cons pe_str (pa_cons pe_str (pa_cons pe_str pa_nil)))))
      (pss_one (ps_ret (pe_tup (pa_cons pe_str (pa_cons (pe_ix (ixT K) (pv 3) (pe_cal G_take (hr.mono (by omega)) (by rfl) (pa_cons (pv 0) (pa_cons pe_int pa_nil))) (fun _ _ => rfl)) pa_nil))))))
      pss_nil)
    (pss_one (ps_ret (pe_tup (pa_cons pe_str (pa_cons (pe_cal G_word (hr.mono (by omega)) (by rfl) (pa_cons (pv 0) pa_nil)) pa_nil)))))))))))), ?_⟩
    tm_at "goo"
    · simp only [List.mem_cons, List.not_mem_nil, or_false] at hm
      rcases hm with rfl | rfl | rfl <;> tm_at "finP"
    · tm_at "finP"
    · tm_at "finP"
    · tm_at "finP"
    · obtain ⟨u, rfl, _⟩ := isS_of (n := 100) (by decide +kernel) hm
      tm_at "finP"
    · obtain ⟨u, rfl, _⟩ := isS_of (n := 100) (by decide +kernel) hm
      tm_at "finP"
    · obtain ⟨u, rfl, _⟩ := hv
      tm_at "finP"
local macro_rules | `(tactic| tm_at "call") => `(tactic| (apply plain_step; tm_at "hp"; intro v H1 t hd he hB fr))
/-- lists of numbers of objects -/
structure Ix (K : PySem.W.Frag) (H : Hp) (p b : Addr) (n : Int) (ns : List Int) : Prop where
  sq : SqL K H p (ns.map V.int)
  ne : p ≠ b
  len : ns.length ≤ 1000
  lt : ∀ x ∈ ns, 0 ≤ x ∧ x < n
end
end M14
set_option Elab.async false
set_option linter.all false
set_option maxRecDepth 100000
set_option maxHeartbeats 4000000
namespace M14
open PySem PySem.Spec PyProof.Rows L2

section
variable {P : Program} {w : World} {K : PySem.W.Frag} {mg : Str → Option Value} {base : Heap}
set_option hygiene false
local macro_rules | `(tactic| tm_at "sc") => `(tactic| (first | omega | (simp only [List.length_cons, List.length_nil, List.length_map, List.length_set, List.length_append]; omega) | (simp only [List.length_map] at h1 ⊢; omega) | (simp only [List.length_map] at c ⊢; omega) | with_reducible assumption | exact And.intro (by omega) (by omega) | exact Or.inl (And.intro (by omega) (by omega)) | exact Or.inr (And.intro (by omega) (by omega)) | decide +kernel | exact len1000 (by simp) | rfl | fail "no way"))
local macro_rules | `(tactic| tm_at "sc1") => `(tactic| (focus (simp; done)))
local macro_rules | `(tactic| tm_at "ne") => `(tactic| (first | assumption | exact Ne.symm (by assumption) | (apply Box.ne2; assumption; tm_at "hp") | (apply Ne.symm; apply Box.ne2; assumption; tm_at "hp") | (apply ne_of_none2; assumption; tm_at "hp") | (apply Ne.symm; apply ne_of_none2; assumption; tm_at "hp") | fail "no way"))
local macro_rules | `(tactic| tm_at "f0") => `(tactic| (first | assumption | (apply Fr.new; assumption) | fail "no way"))
local macro_rules | `(tactic| tm_at "hp") => `(tactic| (first | assumption | exact upd_same | (apply SqL.of; first | assumption | exact upd_same) | (apply Fr.at0; tm_at "f0"; tm_at "hp") | (apply Fr.at1n; assumption; tm_at "ne"; tm_at "hp") | (apply sqFr0; tm_at "f0"; tm_at "hp") | (apply sqFr1; assumption; tm_at "ne"; tm_at "hp") | (apply Box.fr0; tm_at "f0"; tm_at "hp") | (apply Box.fr1; assumption; tm_at "ne"; tm_at "hp") | (apply Den.fr; tm_at "f0"; tm_at "hp") | (apply Dens.fr; tm_at "f0"; tm_at "hp") | fail "no way"))
local macro_rules | `(tactic| tm_at "free0") => `(tactic| (first | assumption | (apply updFree; assumption) | (apply updFree; apply updFree; assumption) | (apply updFree; apply updFree; apply updFree; assumption) | (apply updFree; apply updFree; apply updFree; apply updFree; assumption) | fail "no way"))
local macro_rules | `(tactic| tm_at "free") => `(tactic| (first | tm_at "free0" | (apply Fr.free; assumption; tm_at "free0") | (apply Box.free; assumption; tm_at "fr"; tm_at "free0") | (apply Fr.free; assumption; apply Fr.free; assumption; tm_at "free0") | fail "no way"))
local macro_rules | `(tactic| tm_at "fr") => `(tactic| (first | assumption | exact Fr.refl0 _ | exact Fr.refl (Box.nt (by assumption)) | (refine Fr.comp0 ?_ (by tm_at "f0"); tm_at "fr") | (refine Fr.comp ?_ (by assumption); tm_at "fr") | (refine Fr.compN ?_ (by assumption) (by tm_at "free"); tm_at "fr") | fail "no way"))
local macro_rules | `(tactic| tm_at "call") => `(tactic| fail "no call")
local macro_rules | `(tactic| tm_at "call") => `(tactic| (apply take_step; tm_at "hp"; tm_at "sc"; tm_at "sc"; intro r H1 h0 h1 hB fr))
local macro_rules | `(tactic| tm_at "ty") => `(tactic| (first | assumption | exact .base .non | exact .base (.bl _) | exact .base (.int _) | exact .base (.str _) | (apply TyX.base; apply TyOf.lst; tm_at "hp") | (apply TyX.base; apply TyOf.tup; tm_at "hp") | fail "no way"))
local macro_rules | `(tactic| tm_at "pre") => `(tactic| fail "none")
local macro_rules | `(tactic| tm_at "go1") => `(tactic| (first | tm_at "pre" | refine ⟨_, rfl, ?_⟩ | refine ⟨_, _, rfl, rfl, ?_⟩ | (apply set_step; tm_at "hp"; tm_at "sc"; tm_at "sc"; intro H1 hp fr) | (with_reducible refine iteDI ?_ ?_ <;> intro c) | (with_reducible refine iteDS ?_ ?_ <;> intro c) | (with_reducible refine iteD ?_ ?_ <;> intro c) | (with_reducible refine iteEM ?_ ?_ <;> intro c) | (with_reducible refine iteE ?_ ?_ <;> intro c) | with_reducible refine iteN ?_ | with_reducible refine iteF ?_ | with_reducible refine iteT ?_ | (refine fun (p : Addr) (np : _ = (none : Option HO)) => ?_; fail_if_success (refine ⟨fun (_ _ : Nat) (_ : Hp) => True, ?_⟩)) | (apply isi_tt; tm_at "ty"; focus (decide +kernel)) | (apply isi_ff; tm_at "ty"; focus (decide +kernel)) | (apply sl_step; tm_at "hp"; intro qq H1 ms nq hq fr) | (apply sum_step; tm_at "hp"; intro i) | (apply tru_step; tm_at "hp") | (apply len_step; tm_at "hp") | (apply lenq_step; assumption) | (apply ixq_step; assumption; tm_at "sc"; tm_at "sc"; intro v hv) | (apply lst_step; tm_at "hp") | (apply tupl_step; tm_at "hp") | (apply ixr_step; tm_at "hp"; exact rfl) | (apply ix0_step; tm_at "hp") | (apply ix1_step; tm_at "hp") | (apply ix2_step; tm_at "hp") | (apply ixi_step; tm_at "hp"; tm_at "sc"; tm_at "sc"; intro n hn hn') | (apply ixl_step; tm_at "hp"; tm_at "sc"; tm_at "sc"; intro v hv) | (apply ixt_step; tm_at "hp"; tm_at "sc"; tm_at "sc"; intro v hm hv) | (apply in_step; tm_at "hp"; rfl; rfl) | (apply cat_step; tm_at "hp"; tm_at "hp"; tm_at "sc") | (apply catT_step; tm_at "hp"; tm_at "hp"; tm_at "sc1") | (apply tyL_and; tm_at "hp") | (apply app_step; tm_at "hp"; tm_at "sc"; intro H1 hp fr) | tm_at "call" | refine ⟨⟨_, rfl⟩, ?_⟩ | (apply ixs_step; tm_at "sc"; tm_at "sc"; tm_at "sc"; intro ch) | refine .inl ⟨_, rfl, ?_⟩ | refine .inr ⟨_, rfl, ?_⟩ | (apply And.intro; tm_at "sc") | (with_reducible refine wayB ?_ ?_ <;> intro c) | fail "no way"))
local macro_rules | `(tactic| tm_at "go") => `(tactic| (repeat tm_at "go1"))
local macro_rules | `(tactic| tm_at "goo") => `(tactic| (repeat' tm_at "go1"))
local macro_rules | `(tactic| tm_at "den") => `(tactic| (first | assumption | exact Den.str _ | exact Den.int _ | exact Den.bl _ | exact Den.non | (apply Den.tups; tm_at "hp"; tm_at "dens") | (apply Den.fr; tm_at "f0"; tm_at "den") | fail "no way"))
local macro_rules | `(tactic| tm_at "dens") => `(tactic| (first | assumption | exact Dens.nil | (apply Dens.cons; tm_at "den"; tm_at "dens") | (apply Dens.fr; tm_at "f0"; tm_at "dens") | fail "no way"))
local macro_rules | `(tactic| tm_at "ix") => `(tactic| (apply Ix.mk; tm_at "hp"; tm_at "ne"; assumption; assumption))
local macro_rules | `(tactic| tm_at "dep") => `(tactic| (first | assumption | exact Dep.int | exact Dep.str | exact Dep.bl | exact Dep.non | (apply Dep.tup; tm_at "dlen"; tm_at "deps") | (apply Dep.mono; assumption; decide) | fail "no way"))
local macro_rules | `(tactic| tm_at "deps") => `(tactic| (first | assumption | exact memN | (apply memC; tm_at "dep"; tm_at "deps") | fail "no way"))
local macro_rules | `(tactic| tm_at "dlen") => `(tactic| (first | assumption | (focus (simp; done)) | omega | fail "no way"))
local macro_rules | `(tactic| tm_at "pre") => `(tactic| (apply rep_step; tm_at "hp"; tm_at "sc"; tm_at "sc"; intro rp H1 nrp hrp fr))

local macro_rules | `(tactic| tm_at "call") => `(tactic| (apply word_step; tm_at "hp"; intro v H1 hv hB fr))
local macro_rules | `(tactic| tm_at "call") => `(tactic| (apply name_step; tm_at "hp"; intro v H1 hv hB fr))
local macro_rules | `(tactic| tm_at "call") => `(tactic| (apply plain_step; tm_at "hp"; intro v H1 t hd he hB fr))
local macro_rules | `(tactic| tm_at "finE") => `(tactic| (refine k _ _ ?_ (by tm_at "hp") (by tm_at "fr"); apply Exists.intro; apply And.intro; tm_at "den"; first | exact entOk_p (entI_h (te _ (by assumption))) | exact entOk_p (entI_r (tp _ (by assumption))) | exact entOk_p (.inl (by assumption)) | exact entOk_p (.inl (entP1 (by decide +kernel) (by decide +kernel) (by decide +kernel))) | exact .inl (entI_h (te _ (by assumption))) | exact .inl (entI_r (tp _ (by assumption))) | exact .inl (.inl (by assumption)) | exact .inl (.inl (entP1 (by decide +kernel) (by decide +kernel) (by decide +kernel))) | assumption))
@[irreducible] def spPending (K : PySem.W.Frag) : Sp := fun vs H Q _ => ∃ (b p e : Addr) (n : Int) (ns es : List Int), vs = [.ref b, .ref p, .ref e] ∧ Ix K H p b n ns ∧ Ix K H e b n es ∧ Dr b (fun H' v => ∃ t, Den K H' v t ∧ EntOk n t) H Q
theorem pending_step {b p e : Addr} {n : Int} {ns es : List Int} {H : Hp} {Q : VK} {E : XK} (hB : Box H b) (hp : Ix K H p b n ns) (he : Ix K H e b n es) (k : ∀ v H' t, Den K H' v t → EntOk n t → Box H' b → Fr [b] H H' → Q v H') : spPending K ([.ref b, .ref p, .ref e] ++ []) H Q E := by
  unfold spPending
  exact ⟨b, p, e, n, ns, es, rfl, hp, he, hB, fun v H' ⟨t, d, e⟩ => k v H' t d e⟩
abbrev s_pending : Stmt := top 21
theorem sc_pending : FnScope ["_law_box_here", "_law_pool", "_law_errors", "_law_way", "_law_reasons"] ["_law_box_here", "_law_pool", "_law_errors"] (defScope s_pending) := ⟨rfl, rfl, rfl, by decide +kernel, rfl, by decide +kernel, by decide +kernel⟩

theorem ok_pending (T : Bl mg) (G_take : CTake P w K mg base) (G_plain : Cal P w K mg base 3 "_law_plain" ["_law_box_here"] (spPlain K)) (D : Def1 K mg "_law_pending" s_pending) : Cal P w K mg base 4 "_law_pending" ["_law_box_here", "_law_pool", "_law_errors"] (spPending K) := by
  refine D.cal sc_pending (fun _ _ _ _ _ _ us hl => match us, hl with | [_, _, _], _ => rfl) (fun vs H Q E h => ?_) (fun f cdv A outer s H vs Q E hr h => ?_) <;> unfold spPending at h
  · obtain ⟨b, p, e, n, ns, es, rfl, _⟩ := h
    rfl
  · obtain ⟨b, p, e, n, ns, es, rfl, ⟨sp, np, lp, tp⟩, ⟨se, ne, le, te⟩, hB, k⟩ := h
    refine ⟨_, (pss_cons (ps_set (i := 3) sc_pending.nd rfl (Or.inl rfl) (pe_cal G_take (hr.mono (by omega)) (by rfl) (pa_cons (pv 0) (pa_cons pe_int pa_nil))))
    (pss_cons (ps_if (PW.pt (pw_and (pt_cmpR op_lt (pv 3) pe_int (nomark _)) (pw_and1 (ptTru K (pv 2)))))
      (pss_one (ps_ret (pe_tup (pa_cons pe_str (pa_cons pe_int (pa_cons (pe_tup (pa_cons pe_str (pa_cons (pe_ix (ixL K) (pv 2) (pe_cal G_take (hr.mono (by omega)) (by rfl) (pa_cons (pv 0) (pa_cons (pe_callB (cLen K) (by rfl) T.z_len (by decide +kernel) (pa_cons (pv 2) pa_nil)) pa_nil))) (fun _ _ => rfl)) pa_nil))) pa_nil))))))
      pss_nil)
    (pss_cons (ps_if (PW.pt (pw_and (pt_cmpR op_lt (pv 3) pe_int (nomark _)) (pw_and1 (ptTru K (pv 1)))))
      (pss_one (ps_ret (pe_tup (pa_cons pe_str (pa_cons pe_int (pa_cons (pe_tup (pa_cons pe_str (pa_cons (pe_ix (ixL K) (pv 1) (pe_cal G_take (hr.mono (by omega)) (by rfl) (pa_cons (pv 0) (pa_cons (pe_callB (cLen K) (by rfl) T.z_len (by decide +kernel) (pa_cons (pv 1) pa_nil)) pa_nil))) (fun _ _ => rfl)) pa_nil))) pa_nil))))))
      pss_nil)
    (pss_cons (ps_if (pt_cmpR op_eq (pv 3) pe_int (nomark _))
      (pss_one (ps_ret (pe_tup (pa_cons pe_str (pa_cons pe_int (pa_cons (pe_cal G_plain (hr.mono (by omega)) (by rfl) (pa_cons (pv 0) pa_nil)) pa_nil))))))
      pss_nil)
    (pss_cons (ps_set (i := 4) sc_pending.nd rfl (Or.inl rfl) (pe_tup (pa_cons pe_int (pa_cons pe_int (pa_cons pe_int (pa_cons pe_int (pa_cons pe_int (pa_cons pe_int (pa_cons pe_int (pa_cons pe_int pa_nil))))))))))
    (pss_one (ps_ret (pe_tup (pa_cons pe_str (pa_cons (pe_ix (ixT K) (pv 4) (pv 3) (fun _ _ => rfl)) (pa_cons (pe_tup (pa_cons pe_str pa_nil)) pa_nil))))))))))), ?_⟩
    tm_at "goo"
    all_goals (first | tm_at "finE" | (obtain ⟨u, rfl⟩ := isI_of (by decide +kernel) hm; tm_at "finE"))
local macro_rules | `(tactic| tm_at "call") => `(tactic| (apply pending_step; tm_at "hp"; tm_at "ix"; tm_at "ix"; intro v H1 t hd he hB fr))
@[irreducible] def spMarked (K : PySem.W.Frag) : Sp := fun vs H Q _ => ∃ (b p e : Addr) (n y : Int) (ns es : List Int), vs = [.ref b, .ref p, .ref e, .int y] ∧ Ix K H p b n ns ∧ Ix K H e b n es ∧ Dr b (fun H' v => ∃ t, Den K H' v t ∧ EntOk n t) H Q
theorem marked_step {b p e : Addr} {n y : Int} {ns es : List Int} {H : Hp} {Q : VK} {E : XK} (hB : Box H b) (hp : Ix K H p b n ns) (he : Ix K H e b n es) (k : ∀ v H' t, Den K H' v t → EntOk n t → Box H' b → Fr [b] H H' → Q v H') : spMarked K ([.ref b, .ref p, .ref e, .int y] ++ []) H Q E := by
  unfold spMarked
  exact ⟨b, p, e, n, y, ns, es, rfl, hp, he, hB, fun v H' ⟨t, d, e⟩ => k v H' t d e⟩
abbrev s_marked : Stmt := top 22
theorem sc_marked : FnScope ["_law_box_here", "_law_pool", "_law_errors", "_law_way"] ["_law_box_here", "_law_pool", "_law_errors", "_law_way"] (defScope s_marked) := ⟨rfl, rfl, rfl, by decide +kernel, rfl, by decide +kernel, by decide +kernel⟩

theorem ok_marked (T : Bl mg) (G_take : CTake P w K mg base) (G_plain : Cal P w K mg base 3 "_law_plain" ["_law_box_here"] (spPlain K)) (G_pending : Cal P w K mg base 4 "_law_pending" ["_law_box_here", "_law_pool", "_law_errors"] (spPending K)) (D : Def1 K mg "_law_marked" s_marked) :
    Cal P w K mg base 5 "_law_marked" ["_law_box_here", "_law_pool", "_law_errors", "_law_way"] (spMarked K) := by
  refine D.cal sc_marked (fun _ _ _ _ _ _ us hl => match us, hl with | [_, _, _, _], _ => rfl) (fun vs H Q E h => ?_) (fun f cdv A outer s H vs Q E hr h => ?_) <;> unfold spMarked at h
  · obtain ⟨b, p, e, n, y, ns, es, rfl, _⟩ := h
    rfl
  · obtain ⟨b, p, e, n, y, ns, es, rfl, ⟨sp, np, lp, tp⟩, ⟨se, ne, le, te⟩, hB, k⟩ := h
    refine ⟨_, (pss_cons (ps_if (PW.pt (pw_and (ptTru K (pv 2)) (pw_and1 (pt_cmpR op_lt (pv 3) pe_int (nomark _)))))
      (pss_one (ps_ret (pe_tup (pa_cons pe_str (pa_cons (pe_ix (ixL K) (pv 2) (pe_cal G_take (hr.mono (by omega)) (by rfl) (pa_cons (pv 0) (pa_cons (pe_callB (cLen K) (by rfl) T.z_len (by decide +kernel) (pa_cons (pv 2) pa_nil)) pa_nil))) (fun _ _ => rfl)) pa_nil)))))
      pss_nil)
    (pss_cons (ps_if (pt_cmpR op_lt (pv 3) pe_int (nomark _))
      (pss_one (ps_ret (pe_cal G_pending (hr.mono (by omega)) (by rfl) (pa_cons (pv 0) (pa_cons (pv 1) (pa_cons (pv 2) pa_nil))))))
      pss_nil)
    (pss_cons (ps_if (pt_cmpR op_eq (pv 3) pe_int (nomark _))
      (pss_one (ps_ret (pe_tup (pa_cons pe_str pa_nil))))
      pss_nil)
    (pss_cons (ps_if (PW.pt (pw_and (ptTru K (pv 1)) (pw_and1 (pt_cmpR op_lt (pv 3) pe_int (nomark _)))))
      (pss_one (ps_ret (pe_tup (pa_cons pe_str (pa_cons (pe_ix (ixL K) (pv 1) (pe_cal G_take (hr.mono (by omega)) (by rfl) (pa_cons (pv 0) (pa_cons (pe_callB (cLen K) (by rfl) T.z_len (by decide +kernel) (pa_cons (pv 1) pa_nil)) pa_nil))) (fun _ _ => rfl)) pa_nil)))))
      pss_nil)
    (pss_one (ps_ret (pe_cal G_plain (hr.mono (by omega)) (by rfl) (pa_cons (pv 0) pa_nil)))))))), ?_⟩
    tm_at "goo"
    all_goals tm_at "finE"
local macro_rules | `(tactic| tm_at "call") => `(tactic| (apply marked_step; tm_at "hp"; tm_at "ix"; tm_at "ix"; intro v H1 t hd he hB fr))
@[irreducible] def spEntry (K : PySem.W.Frag) : Sp := fun vs H Q _ => ∃ (b p e : Addr) (n y : Int) (ns es : List Int), vs = [.ref b, .ref p, .ref e, .int y] ∧ Ix K H p b n ns ∧ Ix K H e b n es ∧ Dr b (fun H' v => ∃ t, Den K H' v t ∧ EntOk n t) H Q
theorem entry_step {b p e : Addr} {n y : Int} {ns es : List Int} {H : Hp} {Q : VK} {E : XK} (hB : Box H b) (hp : Ix K H p b n ns) (he : Ix K H e b n es) (k : ∀ v H' t, Den K H' v t → EntOk n t → Box H' b → Fr [b] H H' → Q v H') : spEntry K ([.ref b, .ref p, .ref e, .int y] ++ []) H Q E := by
  unfold spEntry
  exact ⟨b, p, e, n, y, ns, es, rfl, hp, he, hB, fun v H' ⟨t, d, e⟩ => k v H' t d e⟩
abbrev s_entry : Stmt := top 23
theorem sc_entry : FnScope ["_law_box_here", "_law_pool", "_law_errors", "_law_marks_here", "_law_way"] ["_law_box_here", "_law_pool", "_law_errors", "_law_marks_here"] (defScope s_entry) := ⟨rfl, rfl, rfl, by decide +kernel, rfl, by decide +kernel, by decide +kernel⟩

theorem ok_entry (T : Bl mg) (G_take : CTake P w K mg base) (G_plain : Cal P w K mg base 3 "_law_plain" ["_law_box_here"] (spPlain K)) (G_marked : Cal P w K mg base 5 "_law_marked" ["_law_box_here", "_law_pool", "_law_errors", "_law_way"] (spMarked K)) (D : Def1 K mg "_law_entry" s_entry) :
    Cal P w K mg base 6 "_law_entry" ["_law_box_here", "_law_pool", "_law_errors", "_law_marks_here"] (spEntry K) := by
  refine D.cal sc_entry (fun _ _ _ _ _ _ us hl => match us, hl with | [_, _, _, _], _ => rfl) (fun vs H Q E h => ?_) (fun f cdv A outer s H vs Q E hr h => ?_) <;> unfold spEntry at h
  · obtain ⟨b, p, e, n, y, ns, es, rfl, _⟩ := h
    rfl
  · obtain ⟨b, p, e, n, y, ns, es, rfl, ⟨sp, np, lp, tp⟩, ⟨se, ne, le, te⟩, hB, k⟩ := h
    refine ⟨_, (pss_cons (ps_set (i := 4) sc_entry.nd rfl (Or.inl rfl) (pe_cal G_take (hr.mono (by omega)) (by rfl) (pa_cons (pv 0) (pa_cons pe_int pa_nil))))
    (pss_cons (ps_if (pt_cmpR op_gt (pv 3) pe_int (nomark _))
      (pss_one (ps_ret (pe_cal G_marked (hr.mono (by omega)) (by rfl) (pa_cons (pv 0) (pa_cons (pv 1) (pa_cons (pv 2) (pa_cons (pv 4) pa_nil)))))))
      pss_nil)
    (pss_cons (ps_if (PW.pt (pw_and (ptTru K (pv 1)) (pw_and1 (pt_cmpR op_lt (pv 4) pe_int (nomark _)))))
      (pss_one (ps_ret (pe_tup (pa_cons pe_str (pa_cons (pe_ix (ixL K) (pv 1) (pe_cal G_take (hr.mono (by omega)) (by rfl) (pa_cons (pv 0) (pa_cons (pe_callB (cLen K) (by rfl) T.z_len (by decide +kernel) (pa_cons (pv 1) pa_nil)) pa_nil))) (fun _ _ => rfl)) pa_nil)))))
      pss_nil)
    (pss_cons (ps_if (PW.pt (pw_and (pt_cmpR op_gt (pv 3) pe_int (nomark _)) (pw_and1 (pt_cmpR op_eq (pv 4) pe_int (nomark _)))))
      (pss_one (ps_ret (pe_tup (pa_cons pe_str pa_nil))))
      pss_nil)
    (pss_one (ps_ret (pe_cal G_plain (hr.mono (by omega)) (by rfl) (pa_cons (pv 0) pa_nil)))))))), ?_⟩
    tm_at "goo"
    all_goals tm_at "finE"
end
end M14
set_option Elab.async false
set_option linter.all false
set_option maxRecDepth 100000
set_option maxHeartbeats 4000000
namespace M14
open PySem PySem.Spec PyProof.Rows L2

section
variable {P : Program} {w : World} {K : PySem.W.Frag} {mg : Str → Option Value} {base : Heap}
set_option hygiene false
local macro_rules | `(tactic| tm_at "sc") => `(tactic| (first | omega | (simp only [List.length_cons, List.length_nil, List.length_map, List.length_set, List.length_append]; omega) | (simp only [List.length_map] at h1 ⊢; omega) | (simp only [List.length_map] at c ⊢; omega) | with_reducible assumption | exact And.intro (by omega) (by omega) | exact Or.inl (And.intro (by omega) (by omega)) | exact Or.inr (And.intro (by omega) (by omega)) | decide +kernel | exact len1000 (by simp) | rfl | fail "no way"))
local macro_rules | `(tactic| tm_at "sc1") => `(tactic| (focus (simp; done)))
local macro_rules | `(tactic| tm_at "ne") => `(tactic| (first | assumption | exact Ne.symm (by assumption) | (apply Box.ne2; assumption; tm_at "hp") | (apply Ne.symm; apply Box.ne2; assumption; tm_at "hp") | (apply ne_of_none2; assumption; tm_at "hp") | (apply Ne.symm; apply ne_of_none2; assumption; tm_at "hp") | fail "no way"))
local macro_rules | `(tactic| tm_at "f0") => `(tactic| (first | assumption | (apply Fr.new; assumption) | fail "no way"))
local macro_rules | `(tactic| tm_at "hp") => `(tactic| (first | assumption | exact upd_same | (apply SqL.of; first | assumption | exact upd_same) | (apply Fr.at0; tm_at "f0"; tm_at "hp") | (apply Fr.at1n; assumption; tm_at "ne"; tm_at "hp") | (apply sqFr0; tm_at "f0"; tm_at "hp") | (apply sqFr1; assumption; tm_at "ne"; tm_at "hp") | (apply Box.fr0; tm_at "f0"; tm_at "hp") | (apply Box.fr1; assumption; tm_at "ne"; tm_at "hp") | (apply Den.fr; tm_at "f0"; tm_at "hp") | (apply Dens.fr; tm_at "f0"; tm_at "hp") | fail "no way"))
local macro_rules | `(tactic| tm_at "free0") => `(tactic| (first | assumption | (apply updFree; assumption) | (apply updFree; apply updFree; assumption) | (apply updFree; apply updFree; apply updFree; assumption) | (apply updFree; apply updFree; apply updFree; apply updFree; assumption) | fail "no way"))
local macro_rules | `(tactic| tm_at "free") => `(tactic| (first | tm_at "free0" | (apply Fr.free; assumption; tm_at "free0") | (apply Box.free; assumption; tm_at "fr"; tm_at "free0") | (apply Fr.free; assumption; apply Fr.free; assumption; tm_at "free0") | fail "no way"))
local macro_rules | `(tactic| tm_at "fr") => `(tactic| (first | assumption | exact Fr.refl0 _ | exact Fr.refl (Box.nt (by assumption)) | (refine Fr.comp0 ?_ (by tm_at "f0"); tm_at "fr") | (refine Fr.comp ?_ (by assumption); tm_at "fr") | (refine Fr.compN ?_ (by assumption) (by tm_at "free"); tm_at "fr") | fail "no way"))
local macro_rules | `(tactic| tm_at "call") => `(tactic| fail "no call")
local macro_rules | `(tactic| tm_at "call") => `(tactic| (apply take_step; tm_at "hp"; tm_at "sc"; tm_at "sc"; intro r H1 h0 h1 hB fr))
local macro_rules | `(tactic| tm_at "ty") => `(tactic| (first | assumption | exact .base .non | exact .base (.bl _) | exact .base (.int _) | exact .base (.str _) | (apply TyX.base; apply TyOf.lst; tm_at "hp") | (apply TyX.base; apply TyOf.tup; tm_at "hp") | fail "no way"))
local macro_rules | `(tactic| tm_at "pre") => `(tactic| fail "none")
local macro_rules | `(tactic| tm_at "go1") => `(tactic| (first | tm_at "pre" | refine ⟨_, rfl, ?_⟩ | refine ⟨_, _, rfl, rfl, ?_⟩ | (apply set_step; tm_at "hp"; tm_at "sc"; tm_at "sc"; intro H1 hp fr) | (with_reducible refine iteDI ?_ ?_ <;> intro c) | (with_reducible refine iteDS ?_ ?_ <;> intro c) | (with_reducible refine iteD ?_ ?_ <;> intro c) | (with_reducible refine iteEM ?_ ?_ <;> intro c) | (with_reducible refine iteE ?_ ?_ <;> intro c) | with_reducible refine iteN ?_ | with_reducible refine iteF ?_ | with_reducible refine iteT ?_ | (refine fun (p : Addr) (np : _ = (none : Option HO)) => ?_; fail_if_success (refine ⟨fun (_ _ : Nat) (_ : Hp) => True, ?_⟩)) | (apply isi_tt; tm_at "ty"; focus (decide +kernel)) | (apply isi_ff; tm_at "ty"; focus (decide +kernel)) | (apply sl_step; tm_at "hp"; intro qq H1 ms nq hq fr) | (apply sum_step; tm_at "hp"; intro i) | (apply tru_step; tm_at "hp") | (apply len_step; tm_at "hp") | (apply lenq_step; assumption) | (apply ixq_step; assumption; tm_at "sc"; tm_at "sc"; intro v hv) | (apply lst_step; tm_at "hp") | (apply tupl_step; tm_at "hp") | (apply ixr_step; tm_at "hp"; exact rfl) | (apply ix0_step; tm_at "hp") | (apply ix1_step; tm_at "hp") | (apply ix2_step; tm_at "hp") | (apply ixi_step; tm_at "hp"; tm_at "sc"; tm_at "sc"; intro n hn hn') | (apply ixl_step; tm_at "hp"; tm_at "sc"; tm_at "sc"; intro v hv) | (apply ixt_step; tm_at "hp"; tm_at "sc"; tm_at "sc"; intro v hm hv) | (apply in_step; tm_at "hp"; rfl; rfl) | (apply cat_step; tm_at "hp"; tm_at "hp"; tm_at "sc") | (apply catT_step; tm_at "hp"; tm_at "hp"; tm_at "sc1") | (apply tyL_and; tm_at "hp") | (apply app_step; tm_at "hp"; tm_at "sc"; intro H1 hp fr) | tm_at "call" | refine ⟨⟨_, rfl⟩, ?_⟩ | (apply ixs_step; tm_at "sc"; tm_at "sc"; tm_at "sc"; intro ch) | refine .inl ⟨_, rfl, ?_⟩ | refine .inr ⟨_, rfl, ?_⟩ | (apply And.intro; tm_at "sc") | (with_reducible refine wayB ?_ ?_ <;> intro c) | fail "no way"))
local macro_rules | `(tactic| tm_at "go") => `(tactic| (repeat tm_at "go1"))
local macro_rules | `(tactic| tm_at "goo") => `(tactic| (repeat' tm_at "go1"))
local macro_rules | `(tactic| tm_at "den") => `(tactic| (first | assumption | exact Den.str _ | exact Den.int _ | exact Den.bl _ | exact Den.non | (apply Den.tups; tm_at "hp"; tm_at "dens") | (apply Den.fr; tm_at "f0"; tm_at "den") | fail "no way"))
local macro_rules | `(tactic| tm_at "dens") => `(tactic| (first | assumption | exact Dens.nil | (apply Dens.cons; tm_at "den"; tm_at "dens") | (apply Dens.fr; tm_at "f0"; tm_at "dens") | fail "no way"))
local macro_rules | `(tactic| tm_at "ix") => `(tactic| (apply Ix.mk; tm_at "hp"; tm_at "ne"; assumption; assumption))
local macro_rules | `(tactic| tm_at "dep") => `(tactic| (first | assumption | exact Dep.int | exact Dep.str | exact Dep.bl | exact Dep.non | (apply Dep.tup; tm_at "dlen"; tm_at "deps") | (apply Dep.mono; assumption; decide) | fail "no way"))
local macro_rules | `(tactic| tm_at "deps") => `(tactic| (first | assumption | exact memN | (apply memC; tm_at "dep"; tm_at "deps") | fail "no way"))
local macro_rules | `(tactic| tm_at "dlen") => `(tactic| (first | assumption | (focus (simp; done)) | omega | fail "no way"))
local macro_rules | `(tactic| tm_at "pre") => `(tactic| (apply rep_step; tm_at "hp"; tm_at "sc"; tm_at "sc"; intro rp H1 nrp hrp fr))

local macro_rules | `(tactic| tm_at "call") => `(tactic| (apply word_step; tm_at "hp"; intro v H1 hv hB fr))
local macro_rules | `(tactic| tm_at "call") => `(tactic| (apply name_step; tm_at "hp"; intro v H1 hv hB fr))
local macro_rules | `(tactic| tm_at "call") => `(tactic| (apply plain_step; tm_at "hp"; intro v H1 t hd he hB fr))
local macro_rules | `(tactic| tm_at "call") => `(tactic| (apply entry_step; tm_at "hp"; tm_at "ix"; tm_at "ix"; intro v H1 t hd he hB fr))
local macro_rules | `(tactic| tm_at "call") => `(tactic| (apply kinds_step; intro p H1 np hp fr))
local macro_rules | `(tactic| tm_at "call") => `(tactic| (apply kind_step; tm_at "hp"; intro v H1 hv hB fr))
local macro_rules | `(tactic| tm_at "call") => `(tactic| (apply marks_step; intro m))
local macro_rules | `(tactic| tm_at "pre") => `(tactic| (apply strInt_step; tm_at "sc"; intro s hs))
local macro_rules | `(tactic| tm_at "pre") => `(tactic| (apply addS_step; tm_at "sc"; intro s hs))

/-! ### kinds and tags -/
def kindsV : List V := [.str (Str.ofString "list"), .str (Str.ofString "tuple"), .str (Str.ofString "dict"), .str (Str.ofString "cell"), .str (Str.ofString "function"), .str (Str.ofString "method"), .str (Str.ofString "class"), .str (Str.ofString "instance"), .str (Str.ofString "iterator"), .str (Str.ofString "generator")]
@[irreducible] def spKinds : Sp := fun vs H Q _ => vs = [] ∧ ∀ p H', H p = none → H' p = some (.tup kindsV) → Fr [] H H' → Q (.ref p) H'
theorem kinds_step {H : Hp} {Q : VK} {E : XK} (k : ∀ p H', H p = none → H' p = some (.tup kindsV) → Fr [] H H' → Q (.ref p) H') : spKinds ([] ++ []) H Q E := by unfold spKinds; exact ⟨rfl, k⟩
abbrev s_kinds : Stmt := top 24
theorem sc_kinds : FnScope ["_law_first"] [] (defScope s_kinds) := ⟨rfl, rfl, rfl, by decide +kernel, rfl, by decide +kernel, by decide +kernel⟩

theorem ok_kinds (D : Def1 K mg "_law_kinds" s_kinds) : Cal P w K mg base 1 "_law_kinds" [] spKinds := by
  refine D.cal sc_kinds (fun _ _ _ _ _ _ us hl => match us, hl with | [], _ => rfl) (fun vs H Q E h => ?_) (fun f cdv A outer s H vs Q E hr h => ?_) <;> unfold spKinds at h
  · obtain ⟨rfl, _⟩ := h
    rfl
  · obtain ⟨rfl, k⟩ := h
    refine ⟨_, (pss_cons (ps_set (i := 0) sc_kinds.nd rfl (Or.inl rfl) (pe_tup (pa_cons pe_str (pa_cons pe_str (pa_cons pe_str (pa_cons pe_str (pa_cons pe_str pa_nil)))))))
    (pss_one (ps_ret (pe_op (opCatT K) (pv 0) (pe_tup (pa_cons pe_str (pa_cons pe_str (pa_cons pe_str (pa_cons pe_str (pa_cons pe_str pa_nil)))))))))), ?_⟩
    tm_at "goo"
    exact k _ _ (by tm_at "free") upd_same (by tm_at "fr")
local macro_rules | `(tactic| tm_at "call") => `(tactic| (apply kinds_step; intro p H1 np hp fr))
@[irreducible] def spKind : Sp := fun vs H Q _ => ∃ b : Addr, vs = [.ref b] ∧ Dr b (fun _ v => isS 100 v) H Q
theorem kind_step {b : Addr} {H : Hp} {Q : VK} {E : XK} (hB : Box H b) (k : ∀ v H', isS 100 v → Box H' b → Fr [b] H H' → Q v H') : spKind ([.ref b] ++ []) H Q E := by unfold spKind; exact ⟨b, rfl, hB, k⟩
abbrev s_kind : Stmt := top 25
theorem sc_kind : FnScope ["_law_box_here", "_law_menu"] ["_law_box_here"] (defScope s_kind) := ⟨rfl, rfl, rfl, by decide +kernel, rfl, by decide +kernel, by decide +kernel⟩

theorem ok_kind (T : Bl mg) (G_take : CTake P w K mg base) (G_kinds : Cal P w K mg base 1 "_law_kinds" [] spKinds) (D : Def1 K mg "_law_kind" s_kind) : Cal P w K mg base 2 "_law_kind" ["_law_box_here"] spKind := by
  refine D.cal sc_kind (fun _ _ _ _ _ _ us hl => match us, hl with | [_], _ => rfl) (fun vs H Q E h => ?_) (fun f cdv A outer s H vs Q E hr h => ?_) <;> unfold spKind at h
  · obtain ⟨b, rfl, _⟩ := h
    rfl
  · obtain ⟨b, rfl, hB, k⟩ := h
    refine ⟨_, (pss_cons (ps_set (i := 1) sc_kind.nd rfl (Or.inl rfl) (pe_op (opCatT K) (pe_cal0 G_kinds (hr.mono (by omega)) (by rfl)) (pe_tup (pa_cons pe_str (pa_cons pe_str (pa_cons pe_str (pa_cons pe_str pa_nil)))))))
    (pss_one (ps_ret (pe_ix (ixT K) (pv 1) (pe_cal G_take (hr.mono (by omega)) (by rfl) (pa_cons (pv 0) (pa_cons pe_int pa_nil))) (fun _ _ => rfl))))), ?_⟩
    tm_at "goo"
    exact k _ _ (isS_of (by decide +kernel) hm) (by tm_at "hp") (by tm_at "fr")
local macro_rules | `(tactic| tm_at "call") => `(tactic| (apply kind_step; tm_at "hp"; intro v H1 hv hB fr))
@[irreducible] def spMarks : Sp := fun vs H Q _ => ∃ s : Str, vs = [.str s] ∧ ∀ m : Int, Q (.int m) H
theorem marks_step {s : Str} {H : Hp} {Q : VK} {E : XK} (k : ∀ m : Int, Q (.int m) H) : spMarks ([.str s] ++ []) H Q E := by unfold spMarks; exact ⟨s, rfl, k⟩
abbrev s_marks : Stmt := top 26
theorem sc_marks : FnScope ["_law_kind_here"] ["_law_kind_here"] (defScope s_marks) := ⟨rfl, rfl, rfl, by decide +kernel, rfl, by decide +kernel, by decide +kernel⟩

theorem ok_marks (T : Bl mg) (D : Def1 K mg "_law_marks" s_marks) : Cal P w K mg base 1 "_law_marks" ["_law_kind_here"] spMarks := by
  refine D.cal sc_marks (fun _ _ _ _ _ _ us hl => match us, hl with | [_], _ => rfl) (fun vs H Q E h => ?_) (fun f cdv A outer s H vs Q E hr h => ?_) <;> unfold spMarks at h
  · obtain ⟨b, rfl, _⟩ := h
    rfl
  · obtain ⟨x, rfl, k⟩ := h
    refine ⟨_, (pss_one (ps_ret (pe_op op_add (pe_op op_mul pe_int (pe_callTy call_int1 (by rfl) T.z_int (by decide +kernel) (pa_cons (pe_cmpR op_eq (pv 0) pe_str (nomark _)) pa_nil))) (pe_callTy call_int1 (by rfl) T.z_int (by decide +kernel) (pa_cons (pe_cmpR op_eq (pv 0) pe_str (nomark _)) pa_nil))))), ?_⟩
    tm_at "goo"
    exact k _
end
end M14
set_option Elab.async false
set_option linter.all false
set_option maxRecDepth 100000
set_option maxHeartbeats 4000000
namespace M14
open PySem PySem.Spec PyProof.Rows L2

section
variable {P : Program} {w : World} {K : PySem.W.Frag} {mg : Str → Option Value} {base : Heap}
set_option hygiene false
local macro_rules | `(tactic| tm_at "sc") => `(tactic| (first | omega | (simp only [List.length_cons, List.length_nil, List.length_map, List.length_set, List.length_append]; omega) | (simp only [List.length_map] at h1 ⊢; omega) | (simp only [List.length_map] at c ⊢; omega) | with_reducible assumption | exact And.intro (by omega) (by omega) | exact Or.inl (And.intro (by omega) (by omega)) | exact Or.inr (And.intro (by omega) (by omega)) | decide +kernel | exact len1000 (by simp) | rfl | fail "no way"))
local macro_rules | `(tactic| tm_at "sc1") => `(tactic| (focus (simp; done)))
local macro_rules | `(tactic| tm_at "ne") => `(tactic| (first | assumption | exact Ne.symm (by assumption) | (apply Box.ne2; assumption; tm_at "hp") | (apply Ne.symm; apply Box.ne2; assumption; tm_at "hp") | (apply ne_of_none2; assumption; tm_at "hp") | (apply Ne.symm; apply ne_of_none2; assumption; tm_at "hp") | fail "no way"))
local macro_rules | `(tactic| tm_at "f0") => `(tactic| (first | assumption | (apply Fr.new; assumption) | fail "no way"))
local macro_rules | `(tactic| tm_at "hp") => `(tactic| (first | assumption | exact upd_same | (apply SqL.of; first | assumption | exact upd_same) | (apply Fr.at0; tm_at "f0"; tm_at "hp") | (apply Fr.at1n; assumption; tm_at "ne"; tm_at "hp") | (apply sqFr0; tm_at "f0"; tm_at "hp") | (apply sqFr1; assumption; tm_at "ne"; tm_at "hp") | (apply Box.fr0; tm_at "f0"; tm_at "hp") | (apply Box.fr1; assumption; tm_at "ne"; tm_at "hp") | (apply Den.fr; tm_at "f0"; tm_at "hp") | (apply Dens.fr; tm_at "f0"; tm_at "hp") | fail "no way"))
local macro_rules | `(tactic| tm_at "free0") => `(tactic| (first | assumption | (apply updFree; assumption) | (apply updFree; apply updFree; assumption) | (apply updFree; apply updFree; apply updFree; assumption) | (apply updFree; apply updFree; apply updFree; apply updFree; assumption) | fail "no way"))
local macro_rules | `(tactic| tm_at "free") => `(tactic| (first | tm_at "free0" | (apply Fr.free; assumption; tm_at "free0") | (apply Box.free; assumption; tm_at "fr"; tm_at "free0") | (apply Fr.free; assumption; apply Fr.free; assumption; tm_at "free0") | fail "no way"))
local macro_rules | `(tactic| tm_at "fr") => `(tactic| (first | assumption | exact Fr.refl0 _ | exact Fr.refl (Box.nt (by assumption)) | (refine Fr.comp0 ?_ (by tm_at "f0"); tm_at "fr") | (refine Fr.comp ?_ (by assumption); tm_at "fr") | (refine Fr.compN ?_ (by assumption) (by tm_at "free"); tm_at "fr") | fail "no way"))
local macro_rules | `(tactic| tm_at "call") => `(tactic| fail "no call")
local macro_rules | `(tactic| tm_at "call") => `(tactic| (apply take_step; tm_at "hp"; tm_at "sc"; tm_at "sc"; intro r H1 h0 h1 hB fr))
local macro_rules | `(tactic| tm_at "ty") => `(tactic| (first | assumption | exact .base .non | exact .base (.bl _) | exact .base (.int _) | exact .base (.str _) | (apply TyX.base; apply TyOf.lst; tm_at "hp") | (apply TyX.base; apply TyOf.tup; tm_at "hp") | fail "no way"))
local macro_rules | `(tactic| tm_at "pre") => `(tactic| fail "none")
local macro_rules | `(tactic| tm_at "go1") => `(tactic| (first | tm_at "pre" | refine ⟨_, rfl, ?_⟩ | refine ⟨_, _, rfl, rfl, ?_⟩ | (apply set_step; tm_at "hp"; tm_at "sc"; tm_at "sc"; intro H1 hp fr) | (with_reducible refine iteDI ?_ ?_ <;> intro c) | (with_reducible refine iteDS ?_ ?_ <;> intro c) | (with_reducible refine iteD ?_ ?_ <;> intro c) | (with_reducible refine iteEM ?_ ?_ <;> intro c) | (with_reducible refine iteE ?_ ?_ <;> intro c) | with_reducible refine iteN ?_ | with_reducible refine iteF ?_ | with_reducible refine iteT ?_ | (refine fun (p : Addr) (np : _ = (none : Option HO)) => ?_; fail_if_success (refine ⟨fun (_ _ : Nat) (_ : Hp) => True, ?_⟩)) | (apply isi_tt; tm_at "ty"; focus (decide +kernel)) | (apply isi_ff; tm_at "ty"; focus (decide +kernel)) | (apply sl_step; tm_at "hp"; intro qq H1 ms nq hq fr) | (apply sum_step; tm_at "hp"; intro i) | (apply tru_step; tm_at "hp") | (apply len_step; tm_at "hp") | (apply lenq_step; assumption) | (apply ixq_step; assumption; tm_at "sc"; tm_at "sc"; intro v hv) | (apply lst_step; tm_at "hp") | (apply tupl_step; tm_at "hp") | (apply ixr_step; tm_at "hp"; exact rfl) | (apply ix0_step; tm_at "hp") | (apply ix1_step; tm_at "hp") | (apply ix2_step; tm_at "hp") | (apply ixi_step; tm_at "hp"; tm_at "sc"; tm_at "sc"; intro n hn hn') | (apply ixl_step; tm_at "hp"; tm_at "sc"; tm_at "sc"; intro v hv) | (apply ixt_step; tm_at "hp"; tm_at "sc"; tm_at "sc"; intro v hm hv) | (apply in_step; tm_at "hp"; rfl; rfl) | (apply cat_step; tm_at "hp"; tm_at "hp"; tm_at "sc") | (apply catT_step; tm_at "hp"; tm_at "hp"; tm_at "sc1") | (apply tyL_and; tm_at "hp") | (apply app_step; tm_at "hp"; tm_at "sc"; intro H1 hp fr) | tm_at "call" | refine ⟨⟨_, rfl⟩, ?_⟩ | (apply ixs_step; tm_at "sc"; tm_at "sc"; tm_at "sc"; intro ch) | refine .inl ⟨_, rfl, ?_⟩ | refine .inr ⟨_, rfl, ?_⟩ | (apply And.intro; tm_at "sc") | (with_reducible refine wayB ?_ ?_ <;> intro c) | fail "no way"))
local macro_rules | `(tactic| tm_at "go") => `(tactic| (repeat tm_at "go1"))
local macro_rules | `(tactic| tm_at "goo") => `(tactic| (repeat' tm_at "go1"))
local macro_rules | `(tactic| tm_at "den") => `(tactic| (first | assumption | exact Den.str _ | exact Den.int _ | exact Den.bl _ | exact Den.non | (apply Den.tups; tm_at "hp"; tm_at "dens") | (apply Den.fr; tm_at "f0"; tm_at "den") | fail "no way"))
local macro_rules | `(tactic| tm_at "dens") => `(tactic| (first | assumption | exact Dens.nil | (apply Dens.cons; tm_at "den"; tm_at "dens") | (apply Dens.fr; tm_at "f0"; tm_at "dens") | fail "no way"))
local macro_rules | `(tactic| tm_at "ix") => `(tactic| (apply Ix.mk; tm_at "hp"; tm_at "ne"; assumption; assumption))
local macro_rules | `(tactic| tm_at "dep") => `(tactic| (first | assumption | exact Dep.int | exact Dep.str | exact Dep.bl | exact Dep.non | (apply Dep.tup; tm_at "dlen"; tm_at "deps") | (apply Dep.mono; assumption; decide) | fail "no way"))
local macro_rules | `(tactic| tm_at "deps") => `(tactic| (first | assumption | exact memN | (apply memC; tm_at "dep"; tm_at "deps") | fail "no way"))
local macro_rules | `(tactic| tm_at "dlen") => `(tactic| (first | assumption | (focus (simp; done)) | omega | fail "no way"))
local macro_rules | `(tactic| tm_at "pre") => `(tactic| (apply rep_step; tm_at "hp"; tm_at "sc"; tm_at "sc"; intro rp H1 nrp hrp fr))

local macro_rules | `(tactic| tm_at "call") => `(tactic| (apply word_step; tm_at "hp"; intro v H1 hv hB fr))
local macro_rules | `(tactic| tm_at "call") => `(tactic| (apply name_step; tm_at "hp"; intro v H1 hv hB fr))
local macro_rules | `(tactic| tm_at "call") => `(tactic| (apply plain_step; tm_at "hp"; intro v H1 t hd he hB fr))
local macro_rules | `(tactic| tm_at "call") => `(tactic| (apply entry_step; tm_at "hp"; tm_at "ix"; tm_at "ix"; intro v H1 t hd he hB fr))
local macro_rules | `(tactic| tm_at "call") => `(tactic| (apply kinds_step; intro p H1 np hp fr))
local macro_rules | `(tactic| tm_at "call") => `(tactic| (apply kind_step; tm_at "hp"; intro v H1 hv hB fr))
local macro_rules | `(tactic| tm_at "call") => `(tactic| (apply marks_step; intro m))
local macro_rules | `(tactic| tm_at "pre") => `(tactic| (apply strInt_step; tm_at "sc"; intro s hs))
local macro_rules | `(tactic| tm_at "pre") => `(tactic| (apply addS_step; tm_at "sc"; intro s hs))

local macro_rules | `(tactic| tm_at "finT") => `(tactic| (refine k _ _ ?_ (by tm_at "hp") (by tm_at "fr"); apply Exists.intro; apply And.intro; tm_at "den"; tm_at "dep"))
@[irreducible] def spTag (K : PySem.W.Frag) : Sp := fun vs H Q _ => ∃ (b : Addr) (kd : Str) (n : Int), vs = [.ref b, .str kd, .int n] ∧ 0 ≤ n ∧ n ≤ 1000 ∧ Dr b (fun H' v => ∃ t, Den K H' v t ∧ Dep 3 t) H Q
theorem tag_step {b : Addr} {kd : Str} {n : Int} {H : Hp} {Q : VK} {E : XK} (hB : Box H b) (h0 : 0 ≤ n) (h1 : n ≤ 1000) (k : ∀ v H' t, Den K H' v t → Dep 3 t → Box H' b → Fr [b] H H' → Q v H') : spTag K ([.ref b, .str kd, .int n] ++ []) H Q E := by
  unfold spTag
  exact ⟨b, kd, n, rfl, h0, h1, hB, fun v H' ⟨t, d, e⟩ => k v H' t d e⟩
abbrev s_tag : Stmt := top 27
theorem sc_tag : FnScope ["_law_box_here", "_law_kind_here", "_law_many", "_law_name_here", "_law_words", "_law_k"] ["_law_box_here", "_law_kind_here", "_law_many"] (defScope s_tag) := ⟨rfl, rfl, rfl, by decide +kernel, rfl, by decide +kernel, by decide +kernel⟩

theorem ok_tag (T : Bl mg) (G_take : CTake P w K mg base) (G_name : CName P w K mg base) (D : Def1 K mg "_law_tag" s_tag) : Cal P w K mg base 3 "_law_tag" ["_law_box_here", "_law_kind_here", "_law_many"] (spTag K) := by
  refine D.cal sc_tag (fun _ _ _ _ _ _ us hl => match us, hl with | [_, _, _], _ => rfl) (fun vs H Q E h => ?_) (fun f cdv A outer s H vs Q E hr h => ?_) <;> unfold spTag at h
  · obtain ⟨b, kd, n, rfl, _⟩ := h
    rfl
  · obtain ⟨b, kd, n, rfl, n0, n1, hB, k⟩ := h
    refine ⟨_, (pss_cons (ps_if (pt_cmpR (opIn K) (pv 1) (pe_tup (pa_cons pe_str (pa_cons pe_str (pa_cons pe_str (pa_cons pe_str pa_nil))))) (by rfl))
      (pss_one (ps_ret pe_non))
      pss_nil)
    (pss_cons (ps_set (i := 3) sc_tag.nd rfl (Or.inr rfl) (pe_cal G_name (hr.mono (by omega)) (by rfl) (pa_cons (pv 0) pa_nil)))
    (pss_cons (ps_if (pt_cmpR op_eq (pv 1) pe_str (nomark _))
      (pss_one (ps_ret (pe_tup (pa_cons (pe_cal G_take (hr.mono (by omega)) (by rfl) (pa_cons (pv 0) (pa_cons pe_int pa_nil))) (pa_cons (pv 3) pa_nil)))))
      pss_nil)
    (pss_cons (ps_if (pt_cmpR op_eq (pv 1) pe_str (nomark _))
      (pss_one (ps_ret (pv 3)))
      pss_nil)
    (pss_cons (ps_if (pt_cmpR op_eq (pv 1) pe_str (nomark _))
      (pss_one (ps_ret (pe_tup (pa_cons (pe_op op_sub (pe_cal G_take (hr.mono (by omega)) (by rfl) (pa_cons (pv 0) (pa_cons pe_int pa_nil))) pe_int) (pa_cons (pe_cal G_take (hr.mono (by omega)) (by rfl) (pa_cons (pv 0) (pa_cons pe_int pa_nil))) pa_nil)))))
      pss_nil)
    (pss_cons (ps_set (i := 4) sc_tag.nd rfl (Or.inl rfl) (pe_callTy (cTuple K) (by rfl) T.z_tuple (by decide +kernel) (pa_cons (pe_lc (own := [("_law_k", 5)]) (g := gName 5) (by rfl) sc_tag.nd (pi_range1 (by rfl) T.z_range (pa_cons (pv 2) pa_nil)) (blkOk_by (own := [("_law_k", 5)]) (N := [("_law_box_here" : Str), ("_law_kind_here" : Str), ("_law_many" : Str), ("_law_name_here" : Str), ("_law_words" : Str), ("_law_k" : Str)]) (sc := defScope s_tag) (by decide +kernel)) (fun _ _ _ _ _ => pg_name (i := 5) sc_tag.nd rfl (Or.inl rfl)) (fun _ _ _ _ _ => pts_nil) (fun _ _ _ _ _ => (pe_op op_addT (pv 3) (pe_callTy call_strI (by rfl) T.z_str (by decide +kernel) (pa_cons (pv 5) pa_nil))))) pa_nil)))
    (pss_cons (ps_if (pt_cmpR op_eq (pv 1) pe_str (nomark _))
      (pss_one (ps_ret (pe_tup (pa_cons (pv 3) (pa_cons (pv 4) pa_nil)))))
      pss_nil)
    (pss_cons (ps_if (pt_cmpR op_eq (pv 1) pe_str (nomark _))
      (pss_one (ps_ret (pe_tup (pa_cons (pv 4) (pa_cons (pe_callTy (cTuple K) (by rfl) T.z_tuple (by decide +kernel) (pa_cons (pe_lc (own := [("_law_k", 5)]) (g := gName 5) (by rfl) sc_tag.nd (pi_range1 (by rfl) T.z_range (pa_cons (pe_cal G_take (hr.mono (by omega)) (by rfl) (pa_cons (pv 0) (pa_cons pe_int pa_nil))) pa_nil)) (blkOk_by (own := [("_law_k", 5)]) (N := [("_law_box_here" : Str), ("_law_kind_here" : Str), ("_law_many" : Str), ("_law_name_here" : Str), ("_law_words" : Str), ("_law_k" : Str)]) (sc := defScope s_tag) (by decide +kernel)) (fun _ _ _ _ _ => pg_name (i := 5) sc_tag.nd rfl (Or.inl rfl)) (fun _ _ _ _ _ => pts_nil) (fun _ _ _ _ _ => (pe_tup (pa_cons (pe_cal G_name (hr.mono (by omega)) (by rfl) (pa_cons (pv 0) pa_nil)) (pa_cons (pe_cal G_take (hr.mono (by omega)) (by rfl) (pa_cons (pv 0) (pa_cons pe_int pa_nil))) pa_nil))))) pa_nil)) pa_nil)))))
      pss_nil)
    (pss_one (ps_ret (pe_tup (pa_cons pe_str (pa_cons (pv 3) (pa_cons (pe_cal G_take (hr.mono (by omega)) (by rfl) (pa_cons (pv 0) (pa_cons pe_int pa_nil))) (pa_cons (pe_tup pa_nil) (pa_cons (pe_tup (pa_cons (pe_cal G_take (hr.mono (by omega)) (by rfl) (pa_cons (pv 0) (pa_cons pe_int pa_nil))) (pa_cons (pe_cal G_take (hr.mono (by omega)) (by rfl) (pa_cons (pv 0) (pa_cons pe_int pa_nil))) pa_nil))) pa_nil)))))))))))))))), ?_⟩
    tm_at "goo"
    · tm_at "finT"
    · obtain ⟨u, rfl, hu⟩ := hv
      tm_at "finT"
    · obtain ⟨u, rfl, hu⟩ := hv
      tm_at "finT"
    · tm_at "finT"
    obtain ⟨u, rfl, hu⟩ := hv
    refine lcR (fun _ => true) (fun _ _ y => isS 10000 y) (Cg.nil _) stab_v (by omega) (fun i H hi hS f => tyes_ok trivial (fun _ h => nomatch h)) (fun i H hi _ hS f R kk => ?_) (fun D H' ys nD hD m _ f => ?_)
    · tm_at "goo"
      exact kk _ _ trivial (by tm_at "fr") ⟨_, rfl, hs⟩
    obtain ⟨ts, dts, pts⟩ := dens_strs (K := K) (H := H') (n := 10000) fun y hy => (let ⟨_, _, q⟩ := m.mem hy; q)
    have ltw : ts.length ≤ 1000 := by
      have q1 := dts.1
      have q2 := m.1
      rw [keptN_all, List.length_range] at q2
      omega
    have pt1 : ∀ t ∈ ts, Dep 1 t := fun t m => (pts t m).mono (by decide)
    tm_at "goo"
    · tm_at "finT"
    · refine lcR (fun _ => true) (fun H _ y => ∃ t, Den K H y t ∧ Dep 1 t) (Cg.box (by tm_at "hp")) stab_den (by omega) (fun i H hi hS f => tyes_ok hS hS.nt) (fun i H hi _ hS f R kk => ?_) (fun D H' ys nD hD m _ f => ?_)
      · tm_at "goo"
        obtain ⟨u2, rfl, hu2⟩ := hv
        refine kk _ _ (by tm_at "hp") (by tm_at "fr") ?_
        apply Exists.intro; apply And.intro; tm_at "den"; tm_at "dep"
      obtain ⟨ts2, dts2, pts2⟩ := dens_ex (K := K) (H := H') (p := Dep 1) fun y hy => (let ⟨_, _, q⟩ := m.mem hy; q)
      have ltw2 : ts2.length ≤ 1000 := by
        have q1 := dts2.1
        have q2 := m.1
        rw [keptN_all, List.length_range] at q2
        omega
      tm_at "goo"
      tm_at "finT"
    · tm_at "finT"
end
end M14
set_option Elab.async false
set_option linter.all false
set_option maxRecDepth 100000
set_option maxHeartbeats 4000000
namespace M14
open PySem PySem.Spec PyProof.Rows L2

section
variable {P : Program} {w : World} {K : PySem.W.Frag} {mg : Str → Option Value} {base : Heap}
set_option hygiene false
local macro_rules | `(tactic| tm_at "sc") => `(tactic| (first | omega | (simp only [List.length_cons, List.length_nil, List.length_map, List.length_set, List.length_append]; omega) | (simp only [List.length_map] at h1 ⊢; omega) | (simp only [List.length_map] at c ⊢; omega) | with_reducible assumption | exact And.intro (by omega) (by omega) | exact Or.inl (And.intro (by omega) (by omega)) | exact Or.inr (And.intro (by omega) (by omega)) | decide +kernel | exact len1000 (by simp) | rfl | fail "no way"))
local macro_rules | `(tactic| tm_at "sc1") => `(tactic| (focus (simp; done)))
local macro_rules | `(tactic| tm_at "ne") => `(tactic| (first | assumption | exact Ne.symm (by assumption) | (apply Box.ne2; assumption; tm_at "hp") | (apply Ne.symm; apply Box.ne2; assumption; tm_at "hp") | (apply ne_of_none2; assumption; tm_at "hp") | (apply Ne.symm; apply ne_of_none2; assumption; tm_at "hp") | fail "no way"))
local macro_rules | `(tactic| tm_at "f0") => `(tactic| (first | assumption | (apply Fr.new; assumption) | fail "no way"))
local macro_rules | `(tactic| tm_at "hp") => `(tactic| (first | assumption | exact upd_same | (apply SqL.of; first | assumption | exact upd_same) | (apply Fr.at0; tm_at "f0"; tm_at "hp") | (apply Fr.at1n; assumption; tm_at "ne"; tm_at "hp") | (apply sqFr0; tm_at "f0"; tm_at "hp") | (apply sqFr1; assumption; tm_at "ne"; tm_at "hp") | (apply Box.fr0; tm_at "f0"; tm_at "hp") | (apply Box.fr1; assumption; tm_at "ne"; tm_at "hp") | (apply Den.fr; tm_at "f0"; tm_at "hp") | (apply Dens.fr; tm_at "f0"; tm_at "hp") | fail "no way"))
local macro_rules | `(tactic| tm_at "free0") => `(tactic| (first | assumption | (apply updFree; assumption) | (apply updFree; apply updFree; assumption) | (apply updFree; apply updFree; apply updFree; assumption) | (apply updFree; apply updFree; apply updFree; apply updFree; assumption) | fail "no way"))
local macro_rules | `(tactic| tm_at "free") => `(tactic| (first | tm_at "free0" | (apply Fr.free; assumption; tm_at "free0") | (apply Box.free; assumption; tm_at "fr"; tm_at "free0") | (apply Fr.free; assumption; apply Fr.free; assumption; tm_at "free0") | fail "no way"))
local macro_rules | `(tactic| tm_at "fr") => `(tactic| (first | assumption | exact Fr.refl0 _ | exact Fr.refl (Box.nt (by assumption)) | (refine Fr.comp0 ?_ (by tm_at "f0"); tm_at "fr") | (refine Fr.comp ?_ (by assumption); tm_at "fr") | (refine Fr.compN ?_ (by assumption) (by tm_at "free"); tm_at "fr") | fail "no way"))
local macro_rules | `(tactic| tm_at "call") => `(tactic| fail "no call")
local macro_rules | `(tactic| tm_at "call") => `(tactic| (apply take_step; tm_at "hp"; tm_at "sc"; tm_at "sc"; intro r H1 h0 h1 hB fr))
local macro_rules | `(tactic| tm_at "ty") => `(tactic| (first | assumption | exact .base .non | exact .base (.bl _) | exact .base (.int _) | exact .base (.str _) | (apply TyX.base; apply TyOf.lst; tm_at "hp") | (apply TyX.base; apply TyOf.tup; tm_at "hp") | fail "no way"))
local macro_rules | `(tactic| tm_at "pre") => `(tactic| fail "none")
local macro_rules | `(tactic| tm_at "go1") => `(tactic| (first | tm_at "pre" | refine ⟨_, rfl, ?_⟩ | refine ⟨_, _, rfl, rfl, ?_⟩ | (apply set_step; tm_at "hp"; tm_at "sc"; tm_at "sc"; intro H1 hp fr) | (with_reducible refine iteDI ?_ ?_ <;> intro c) | (with_reducible refine iteDS ?_ ?_ <;> intro c) | (with_reducible refine iteD ?_ ?_ <;> intro c) | (with_reducible refine iteEM ?_ ?_ <;> intro c) | (with_reducible refine iteE ?_ ?_ <;> intro c) | with_reducible refine iteN ?_ | with_reducible refine iteF ?_ | with_reducible refine iteT ?_ | (refine fun (p : Addr) (np : _ = (none : Option HO)) => ?_; fail_if_success (refine ⟨fun (_ _ : Nat) (_ : Hp) => True, ?_⟩)) | (apply isi_tt; tm_at "ty"; focus (decide +kernel)) | (apply isi_ff; tm_at "ty"; focus (decide +kernel)) | (apply sl_step; tm_at "hp"; intro qq H1 ms nq hq fr) | (apply sum_step; tm_at "hp"; intro i) | (apply tru_step; tm_at "hp") | (apply len_step; tm_at "hp") | (apply lenq_step; assumption) | (apply ixq_step; assumption; tm_at "sc"; tm_at "sc"; intro v hv) | (apply lst_step; tm_at "hp") | (apply tupl_step; tm_at "hp") | (apply ixr_step; tm_at "hp"; exact rfl) | (apply ix0_step; tm_at "hp") | (apply ix1_step; tm_at "hp") | (apply ix2_step; tm_at "hp") | (apply ixi_step; tm_at "hp"; tm_at "sc"; tm_at "sc"; intro n hn hn') | (apply ixl_step; tm_at "hp"; tm_at "sc"; tm_at "sc"; intro v hv) | (apply ixt_step; tm_at "hp"; tm_at "sc"; tm_at "sc"; intro v hm hv) | (apply in_step; tm_at "hp"; rfl; rfl) | (apply cat_step; tm_at "hp"; tm_at "hp"; tm_at "sc") | (apply catT_step; tm_at "hp"; tm_at "hp"; tm_at "sc1") | (apply tyL_and; tm_at "hp") | (apply app_step; tm_at "hp"; tm_at "sc"; intro H1 hp fr) | tm_at "call" | refine ⟨⟨_, rfl⟩, ?_⟩ | (apply ixs_step; tm_at "sc"; tm_at "sc"; tm_at "sc"; intro ch) | refine .inl ⟨_, rfl, ?_⟩ | refine .inr ⟨_, rfl, ?_⟩ | (apply And.intro; tm_at "sc") | (with_reducible refine wayB ?_ ?_ <;> intro c) | fail "no way"))
local macro_rules | `(tactic| tm_at "go") => `(tactic| (repeat tm_at "go1"))
local macro_rules | `(tactic| tm_at "goo") => `(tactic| (repeat' tm_at "go1"))
local macro_rules | `(tactic| tm_at "den") => `(tactic| (first | assumption | exact Den.str _ | exact Den.int _ | exact Den.bl _ | exact Den.non | (apply Den.tups; tm_at "hp"; tm_at "dens") | (apply Den.fr; tm_at "f0"; tm_at "den") | fail "no way"))
local macro_rules | `(tactic| tm_at "dens") => `(tactic| (first | assumption | exact Dens.nil | (apply Dens.cons; tm_at "den"; tm_at "dens") | (apply Dens.fr; tm_at "f0"; tm_at "dens") | fail "no way"))
local macro_rules | `(tactic| tm_at "ix") => `(tactic| (apply Ix.mk; tm_at "hp"; tm_at "ne"; assumption; assumption))
local macro_rules | `(tactic| tm_at "dep") => `(tactic| (first | assumption | exact Dep.int | exact Dep.str | exact Dep.bl | exact Dep.non | (apply Dep.tup; tm_at "dlen"; tm_at "deps") | (apply Dep.mono; assumption; decide) | fail "no way"))
local macro_rules | `(tactic| tm_at "deps") => `(tactic| (first | assumption | exact memN | (apply memC; tm_at "dep"; tm_at "deps") | fail "no way"))
local macro_rules | `(tactic| tm_at "dlen") => `(tactic| (first | assumption | (focus (simp; done)) | omega | fail "no way"))
local macro_rules | `(tactic| tm_at "pre") => `(tactic| (apply rep_step; tm_at "hp"; tm_at "sc"; tm_at "sc"; intro rp H1 nrp hrp fr))

local macro_rules | `(tactic| tm_at "call") => `(tactic| (apply word_step; tm_at "hp"; intro v H1 hv hB fr))
local macro_rules | `(tactic| tm_at "call") => `(tactic| (apply name_step; tm_at "hp"; intro v H1 hv hB fr))
local macro_rules | `(tactic| tm_at "call") => `(tactic| (apply plain_step; tm_at "hp"; intro v H1 t hd he hB fr))
local macro_rules | `(tactic| tm_at "call") => `(tactic| (apply entry_step; tm_at "hp"; tm_at "ix"; tm_at "ix"; intro v H1 t hd he hB fr))
local macro_rules | `(tactic| tm_at "call") => `(tactic| (apply kinds_step; intro p H1 np hp fr))
local macro_rules | `(tactic| tm_at "call") => `(tactic| (apply kind_step; tm_at "hp"; intro v H1 hv hB fr))
local macro_rules | `(tactic| tm_at "call") => `(tactic| (apply marks_step; intro m))
local macro_rules | `(tactic| tm_at "pre") => `(tactic| (apply strInt_step; tm_at "sc"; intro s hs))
local macro_rules | `(tactic| tm_at "pre") => `(tactic| (apply addS_step; tm_at "sc"; intro s hs))

local macro_rules | `(tactic| tm_at "call") => `(tactic| (apply tag_step; tm_at "hp"; tm_at "sc"; tm_at "sc"; intro v H1 t hd he hB fr))
abbrev CEntry (P : Program) (w : World) (K : PySem.W.Frag) (mg : Str → Option Value) (base : Heap) : Prop := Cal P w K mg base 6 "_law_entry" ["_law_box_here", "_law_pool", "_law_errors", "_law_marks_here"] (spEntry K)
/-- what form leaves: a tuple of a tag and a new list of entries -/
structure FormAt (K : PySem.W.Frag) (H H' : Hp) (n : Int) (f l : Addr) (tg : V) (es : List V) : Prop where
  tup : H' f = some (.tup [tg, .ref l])
  lst : H' l = some (.lst es)
  new : H l = none
  len : es.length ≤ 200
  den : ∃ ts, Dens K H' es ts ∧ ∀ t ∈ ts, EntOk n t
  tag : ∃ t, Den K H' tg t ∧ Dep 3 t
theorem FormAt.one {K : PySem.W.Frag} {H H' : Hp} {n : Int} {f l : Addr} {tg x : V} {xs : List V} {t tt : T} {ts : List T} (ht : H' f = some (.tup [tg, .ref l])) (hl : H' l = some (.lst ([x] ++ xs))) (nl : H l = none) (lx : xs.length ≤ 100)
    (dx : Den K H' x t) (et : EntOk n t) (ds : Dens K H' xs ts) (es : ∀ t ∈ ts, EntOk n t) (dt : Den K H' tg tt) (pt : Dep 3 tt) : FormAt K H H' n f l tg (x :: xs) :=
  ⟨ht, hl, nl, by simp only [List.length_cons]; omega, ⟨t :: ts, .cons dx ds, memC et es⟩, ⟨tt, dt, pt⟩⟩
theorem ex_form {K : PySem.W.Frag} {H H' : Hp} {n : Int} {f l : Addr} {tg : V} {xs : List V} (h : FormAt K H H' n f l tg xs) : ∃ f' l' tg' xs', V.ref f = .ref f' ∧ FormAt K H H' n f' l' tg' xs' := ⟨f, l, tg, xs, rfl, h⟩
@[irreducible] def spForm (K : PySem.W.Frag) : Sp := fun vs H Q _ => ∃ (b p e : Addr) (kd : Str) (n : Int) (ns es : List Int), vs = [.ref b, .str kd, .ref p, .ref e] ∧ Ix K H p b n ns ∧ Ix K H e b n es ∧ Dr b (fun H' v => ∃ f l tg xs, v = .ref f ∧ FormAt K H H' n f l tg xs) H Q
theorem form_step {b p e : Addr} {kd : Str} {n : Int} {ns es : List Int} {H : Hp} {Q : VK} {E : XK} (hB : Box H b) (hp : Ix K H p b n ns) (he : Ix K H e b n es) (k : ∀ f l tg xs H', FormAt K H H' n f l tg xs → Box H' b → Fr [b] H H' → Q (.ref f) H') :
    spForm K ([.ref b, .str kd, .ref p, .ref e] ++ []) H Q E := by
  unfold spForm
  exact ⟨b, p, e, kd, n, ns, es, rfl, hp, he, hB, fun v H' ⟨f, l, tg, xs, ev, F⟩ hb hf => by rw [ev]; exact k _ _ _ _ _ F hb hf⟩
@[irreducible] def FMid (b : Addr) (H : Hp) (σ : Int → L2.St) (σ' : L2.St) (H' : Hp) : Prop := ∃ m : Int, σ' = σ m ∧ 0 ≤ m ∧ m ≤ 38 ∧ Box H' b ∧ Fr [b] H H'
theorem FMid.of {b : Addr} {H : Hp} {σ : Int → L2.St} {σ' : L2.St} {H' : Hp} {m : Int} (e : σ' = σ m) (h0 : 0 ≤ m) (h1 : m ≤ 38) (hB : Box H' b) (f : Fr [b] H H') : FMid b H σ σ' H' := by
  unfold FMid
  exact ⟨m, e, h0, h1, hB, f⟩
/-- the rest: a new list of m entries -/
@[irreducible] def RMid (K : PySem.W.Frag) (b : Addr) (H : Hp) (n m : Int) (σ : Addr → L2.St) (σ' : L2.St) (H' : Hp) : Prop := ∃ (l : Addr) (es : List V) (ts : List T), σ' = σ l ∧ H l = none ∧ H' l = some (.lst es) ∧ es.length = m.toNat ∧ Dens K H' es ts ∧ (∀ t ∈ ts, EntOk n t) ∧ Box H' b ∧ Fr [b] H H'
theorem RMid.of {K : PySem.W.Frag} {b : Addr} {H : Hp} {n m : Int} {σ : Addr → L2.St} {σ' : L2.St} {H' : Hp} {l : Addr} {es : List V} (e : σ' = σ l) (hl : H l = none) (hL : H' l = some (.lst es)) (le : es.length = m.toNat) (d : ∀ y ∈ es, ∃ t, Den K H' y t ∧ EntOk n t) (hB : Box H' b) (f : Fr [b] H H') : RMid K b H n m σ σ' H' := by
  unfold RMid
  obtain ⟨ts, ds, p⟩ := dens_ex d
  exact ⟨l, es, ts, e, hl, hL, le, ds, p, hB, f⟩
/-- the pairs between two turns -/
@[irreducible] def PMid (K : PySem.W.Frag) (q : Addr) (H : Hp) (n : Int) (σ : Option V → L2.St) (i : Nat) (σ' : L2.St) (H' : Hp) : Prop := ∃ (x : Option V) (ps : List V), σ' = σ x ∧ H' q = some (.lst ps) ∧ ps.length = 2 * i ∧ (∀ y ∈ ps, ∃ t, Den K H' y t ∧ EntOk n t) ∧ Fr [q] H H'
theorem PMid.of {K : PySem.W.Frag} {q : Addr} {H : Hp} {n : Int} {σ : Option V → L2.St} {i : Nat} {σ' : L2.St} {H' : Hp} {x : Option V} {ps : List V} (e : σ' = σ x) (hq : H' q = some (.lst ps)) (l : ps.length = 2 * i) (d : ∀ y ∈ ps, ∃ t, Den K H' y t ∧ EntOk n t) (f : Fr [q] H H') : PMid K q H n σ i σ' H' := by
  unfold PMid
  exact ⟨x, ps, e, hq, l, d, f⟩
abbrev s_form : Stmt := top 28
theorem sc_form : FnScope ["_law_box_here", "_law_kind_here", "_law_pool", "_law_errors", "_law_many", "_law_rest", "_law_k", "_law_entry_here", "_law_tag_here", "_law_first", "_law_pairs"] ["_law_box_here", "_law_kind_here", "_law_pool", "_law_errors"] (defScope s_form) := ⟨rfl, rfl, rfl, by decide +kernel, rfl, by decide +kernel, by decide +kernel⟩

theorem ok_form (T : Bl mg) (G_take : CTake P w K mg base) (G_word : CWord P w K mg base) (G_entry : CEntry P w K mg base) (G_marks : Cal P w K mg base 1 "_law_marks" ["_law_kind_here"] spMarks)
    (G_tag : Cal P w K mg base 3 "_law_tag" ["_law_box_here", "_law_kind_here", "_law_many"] (spTag K)) (D : Def1 K mg "_law_form" s_form) : Cal P w K mg base 7 "_law_form" ["_law_box_here", "_law_kind_here", "_law_pool", "_law_errors"] (spForm K) := by
  refine D.cal sc_form (fun _ _ _ _ _ _ us hl => match us, hl with | [_, _, _, _], _ => rfl) (fun vs H Q E h => ?_) (fun f cdv A outer s H vs Q E hr h => ?_) <;> unfold spForm at h
  · obtain ⟨b, p, e, kd, n, ns, es, rfl, _⟩ := h
    rfl
  · obtain ⟨b, p0, e0, kd, n, ns, es, rfl, ⟨sp, np0, lp, tp⟩, ⟨se, ne0, le, te⟩, hB, k⟩ := h
    have hB0 := hB
    refine ⟨_, (pss_cons (ps_set (i := 4) sc_form.nd rfl (Or.inl rfl) (pe_cal G_take (hr.mono (by omega)) (by rfl) (pa_cons (pv 0) (pa_cons pe_int pa_nil))))
    (Evl.pss_cut (ps_if (pt_cmpR op_eq (pe_cal G_take (hr.mono (by omega)) (by rfl) (pa_cons (pv 0) (pa_cons pe_int pa_nil))) pe_int (nomark _))
      (pss_one (ps_set (i := 4) sc_form.nd rfl (Or.inl rfl) (pe_op op_add pe_int (pe_cal G_take (hr.mono (by omega)) (by rfl) (pa_cons (pv 0) (pa_cons pe_int pa_nil))))))
      pss_nil)
    (Evl.pss_cut (ps_if (PW.pt (pw_or (pt_cmpR op_eq (pv 1) pe_str (nomark _)) (pw_or1 (pt_cmpR op_eq (pv 1) pe_str (nomark _)))))
      (pss_one (ps_set (i := 4) sc_form.nd rfl (Or.inl rfl) pe_int))
      pss_nil)
    (Evl.pss_cut (ps_if (pt_cmpR op_eq (pv 1) pe_str (nomark _))
      (pss_one (ps_set (i := 4) sc_form.nd rfl (Or.inl rfl) (pe_op op_add pe_int (pe_op op_mod (pe_callTy call_int1 (by rfl) T.z_int (by decide +kernel) (pa_cons (pv 4) pa_nil)) pe_int))))
      pss_nil)
    (pss_cons (ps_setLc (i := 5) (own := [("_law_k", 6)]) (g := gName 6) (by rfl) sc_form.nd rfl rfl (sw_true rfl rfl rfl (by decide +kernel)) (pi_range1 (by rfl) T.z_range (pa_cons (pv 4) pa_nil)) (blkOk_by (own := [("_law_k", 6)]) (N := [("_law_box_here" : Str), ("_law_kind_here" : Str), ("_law_pool" : Str), ("_law_errors" : Str), ("_law_many" : Str), ("_law_rest" : Str), ("_law_k" : Str), ("_law_entry_here" : Str), ("_law_tag_here" : Str), ("_law_first" : Str), ("_law_pairs" : Str)]) (sc := defScope s_form) (by decide +kernel)) (fun _ _ _ _ _ => pg_name (i := 6) sc_form.nd rfl (Or.inl rfl)) (fun _ _ _ _ _ => pts_nil) (fun _ _ _ _ _ => (pe_cal G_entry (hr.mono (by omega)) (by rfl) (pa_cons (pv 0) (pa_cons (pv 2) (pa_cons (pv 3) (pa_cons (pe_cal G_marks (hr.mono (by omega)) (by rfl) (pa_cons (pv 1) pa_nil)) pa_nil)))))))
    (Evl.pss_cut (ps_if (pt_cmpR (opIn K) (pv 1) (pe_tup (pa_cons pe_str (pa_cons pe_str pa_nil))) (by rfl))
      (pss_one (ps_setLc (i := 5) (own := [("_law_entry_here", 7)]) (g := gName 7) (by rfl) sc_form.nd rfl rfl (sw_true rfl rfl rfl (by decide +kernel)) (pi_list (pv 5)) (blkOk_by (own := [("_law_entry_here", 7)]) (N := [("_law_box_here" : Str), ("_law_kind_here" : Str), ("_law_pool" : Str), ("_law_errors" : Str), ("_law_many" : Str), ("_law_rest" : Str), ("_law_k" : Str), ("_law_entry_here" : Str), ("_law_tag_here" : Str), ("_law_first" : Str), ("_law_pairs" : Str)]) (sc := defScope s_form) (by decide +kernel)) (fun _ _ _ _ _ => pg_name (i := 7) sc_form.nd rfl (Or.inl rfl)) (fun _ _ _ _ _ => pts_nil) (fun _ _ _ _ _ => (pe_ifExp (pt_cmpR op_eq (pe_ix (ixT K) (pv 7) pe_int (fun _ _ => rfl)) pe_str (nomark _)) (pv 7) (pe_tup (pa_cons pe_str (pa_cons (pe_cal G_word (hr.mono (by omega)) (by rfl) (pa_cons (pv 0) pa_nil)) pa_nil)))))))
      pss_nil)
    (pss_cons (ps_set (i := 8) sc_form.nd rfl (Or.inl rfl) (pe_cal G_tag (hr.mono (by omega)) (by rfl) (pa_cons (pv 0) (pa_cons (pv 1) (pa_cons (pv 4) pa_nil)))))
    (pss_cons (ps_if (pt_cmpR op_eq (pv 1) pe_str (nomark _))
      (pss_one (ps_ret (pe_tup (pa_cons (pv 8) (pa_cons (pe_op opCat (pe_lst (pa_cons (pe_tup (pa_cons pe_str pa_nil)) pa_nil)) (pv 5)) pa_nil)))))
      pss_nil)
    (pss_cons (ps_if (pt_cmpR op_eq (pv 1) pe_str (nomark _))
      (pss_one (ps_ret (pe_tup (pa_cons (pv 8) (pa_cons (pe_op opCat (pe_lst (pa_cons (pe_tup (pa_cons pe_str (pa_cons pe_str pa_nil))) pa_nil)) (pv 5)) pa_nil)))))
      pss_nil)
    (pss_cons (ps_if (pt_cmpR op_ne (pv 1) pe_str (nomark _))
      (pss_one (ps_ret (pe_tup (pa_cons (pv 8) (pa_cons (pv 5) pa_nil)))))
      pss_nil)
    (pss_cons (ps_set (i := 9) sc_form.nd rfl (Or.inl rfl) (pe_cal G_take (hr.mono (by omega)) (by rfl) (pa_cons (pv 0) (pa_cons pe_int pa_nil))))
    (pss_cons (ps_set (i := 10) sc_form.nd rfl (Or.inl rfl) (pe_lst pa_nil))
    (pss_cons (ps_for PassesOwn.never rfl (pi_range1 (by rfl) T.z_range (pa_cons (pv 4) pa_nil)) (pg_name (i := 6) sc_form.nd rfl (Or.inl rfl))
      (pss_cons (ps_expr (pe_bm PySem.F.plainAttrs_list PySem.F.slot_list_append PySem.F.type_list_append mtApp (pv 10) (pa_cons (pe_tup (pa_cons pe_str (pa_cons (pe_op op_add (pv 9) (pv 6)) pa_nil))) pa_nil)))
      (pss_one (ps_expr (pe_bm PySem.F.plainAttrs_list PySem.F.slot_list_append PySem.F.type_list_append mtApp (pv 10) (pa_cons (pe_ix (ixL K) (pv 5) (pv 6) (fun _ _ => rfl)) pa_nil))))))
    (pss_one (ps_ret (pe_tup (pa_cons (pv 8) (pa_cons (pv 10) pa_nil)))))))))))))))))), ?_⟩
    tm_at "goo"
    refine ⟨FMid b H (fun m => [some (.ref b), some (.str kd), some (.ref p0), some (.ref e0), some (.int m), none, none, none, none, none, none]), ?_, ?_⟩
    · tm_at "goo"
      · exact FMid.of rfl (by omega) (by omega) (by tm_at "hp") (by tm_at "fr")
      · exact FMid.of rfl (by omega) (by omega) (by tm_at "hp") (by tm_at "fr")
    intro σ' H2 hm
    unfold FMid at hm
    obtain ⟨m, rfl, m0, m1, hB2, f2⟩ := hm
    refine ⟨FMid b H (fun m => [some (.ref b), some (.str kd), some (.ref p0), some (.ref e0), some (.int m), none, none, none, none, none, none]), ?_, ?_⟩
    · tm_at "goo"
      all_goals exact FMid.of rfl (by omega) (by omega) (by tm_at "hp") (by tm_at "fr")
    clear m0 m1 hB2 f2
    intro σ' H2 hm
    unfold FMid at hm
    obtain ⟨m, rfl, m0, m1, hB2, f2⟩ := hm
    refine ⟨FMid b H (fun m => [some (.ref b), some (.str kd), some (.ref p0), some (.ref e0), some (.int m), none, none, none, none, none, none]), ?_, ?_⟩
    · tm_at "goo"
      all_goals exact FMid.of rfl (by omega) (by omega) (by tm_at "hp") (by tm_at "fr")
    clear m0 m1 hB2 f2
    intro σ' H2 hm
    unfold FMid at hm
    obtain ⟨m, rfl, m0, m1, hB2, f2⟩ := hm
    tm_at "goo"
    refine lcR (fun _ => true) (fun H _ y => ∃ t, Den K H y t ∧ EntOk n t) (Cg.box (by tm_at "hp")) stab_den (by omega) (fun i H hi hS f => tyes_ok hS hS.nt) (fun i H hi _ hS f R kk => ?_) (fun D H' ys nD hD md hBD fD => ?_)
    · tm_at "goo"
      exact kk _ _ (by tm_at "hp") (by tm_at "fr") ⟨_, hd, he⟩
    rw [keptN_all] at md
    have ml := md.all.1
    have me : ∀ y ∈ ys, ∃ t, Den K H' y t ∧ EntOk n t := fun y hy => (let ⟨_, _, q⟩ := md.mem hy; q)
    have nb : D ≠ b := hB2.ne nD
    have fH : Fr [b] H H' := by tm_at "fr"
    have nD0 : H D = none := Box.free hB2 f2 nD
    refine ⟨RMid K b H n m (fun l => [some (.ref b), some (.str kd), some (.ref p0), some (.ref e0), some (.int m), some (.ref l), none, none, none, none, none]), ?_, ?_⟩
    · tm_at "goo"
      · refine ⟨⟨_, SqL.of (by tm_at "hp")⟩, ?_⟩
        refine lcL (fun _ => true) (fun H _ y => ∃ t, Den K H y t ∧ EntOk n t) (Cg.box (by tm_at "hp")) stab_den (xs := ys) (by tm_at "hp") (by simpa using nb) (by omega) (fun i x H hi hS f => tyes_ok hS hS.nt) (fun i x H hi _ hS f R kk => ?_) (fun D2 H2 zs nD2 hD2 m2 _ f => ?_)
        · obtain ⟨t, dt, et⟩ := me x (List.mem_of_getElem? hi)
          have dt' : Den K H x t := by tm_at "den"
          obtain ⟨a, u, r, rfl, ha⟩ := ent_head dt' et
          tm_at "goo"
          · exact kk _ _ (by tm_at "hp") (by tm_at "fr") ⟨_, dt', et⟩
          · obtain ⟨u, rfl, hu⟩ := hv
            refine kk _ _ (by tm_at "hp") (by tm_at "fr") ?_
            apply Exists.intro; apply And.intro; tm_at "den"
            exact .inl (.inl (entP2 (by decide +kernel) (by decide +kernel) (by decide +kernel) .str))
        · rw [keptN_all] at m2
          exact RMid.of rfl (Box.free hBD fH (by tm_at "free")) hD2 (by rw [m2.all.1, ml]) (fun y hy => (let ⟨_, _, q⟩ := m2.mem hy; q)) (by tm_at "hp") (by tm_at "fr")
      · exact RMid.of rfl nD0 (by tm_at "hp") ml (fun y hy => (let ⟨t, d, q⟩ := me y hy; ⟨t, by tm_at "den", q⟩)) (by tm_at "hp") (by tm_at "fr")
    intro σ' H3 hm
    unfold RMid at hm
    obtain ⟨l, xs, ts, rfl, nl, hl, lx, dx, ex, hB3, f3⟩ := hm
    have nlb : l ≠ b := hB0.ne nl
    tm_at "goo"
    · refine k _ _ ?_ (by tm_at "hp") (by tm_at "fr")
      apply ex_form
      apply FormAt.one
      · tm_at "hp"
      · tm_at "hp"
      · tm_at "free"
      · omega
      · tm_at "den"
      · exact .inl (.inl (entP1 (by decide +kernel) (by decide +kernel) (by decide +kernel)))
      · tm_at "dens"
      · exact ex
      · tm_at "den"
      · assumption
    · refine k _ _ ?_ (by tm_at "hp") (by tm_at "fr")
      apply ex_form
      apply FormAt.one
      · tm_at "hp"
      · tm_at "hp"
      · tm_at "free"
      · omega
      · tm_at "den"
      · exact .inl (.inl (entP2 (by decide +kernel) (by decide +kernel) (by decide +kernel) .str))
      · tm_at "dens"
      · exact ex
      · tm_at "den"
      · assumption
    · have hl1 : H1 l = some (.lst xs) := by tm_at "hp"
      have hd1 : Dens K H1 xs ts := by tm_at "dens"
      have nlp : l ≠ p := ne_of_none hl1 np
      have np00 : H p = none := Box.free hB (by tm_at "fr") np
      have nbp : b ≠ p := (Box.ne2 np hB).symm
      have hBp : Box (upd H1 p (.lst [])) b := by tm_at "hp"
      refine forR (PMid K p (upd H1 p (.lst [])) n (fun x => [some (.ref b), some (.str kd), some (.ref p0), some (.ref e0), some (.int m), some (.ref l), x, none, some v, some (.int r), some (.ref p)])) ?_ ?_ ?_
      · exact PMid.of (x := none) rfl upd_same rfl (fun y h => nomatch h) (Fr.refl fun a h xs e => by
          have z : a = p := by simpa using h
          rw [z, upd_same] at e; cases e)
      · intro i σ' H' hi hP
        unfold PMid at hP
        obtain ⟨x, ps, rfl, hq, lq, dq, fq⟩ := hP
        have hl' : H' l = some (.lst xs) := by tm_at "hp"
        tm_at "goo"
        obtain ⟨t', ht', dt'⟩ := hd1.get hv
        refine PMid.of (x := _) rfl hp (by simp only [List.length_append, List.length_cons, List.length_nil]; omega) (in_snoc (in_snoc (fun y hy => ?_) ?_) ?_) (by tm_at "fr")
        · obtain ⟨t2, d2, e2⟩ := dq y hy
          exact ⟨t2, by tm_at "den", e2⟩
        · apply Exists.intro; apply And.intro; tm_at "den"
          exact .inl (.inl (entP2 (by decide +kernel) (by decide +kernel) (by decide +kernel) .int))
        · exact ⟨t', by tm_at "den", ex _ (List.mem_of_getElem? ht')⟩
      · intro σ' H' hP
        unfold PMid at hP
        obtain ⟨x, ps, rfl, hq, lq, dq, fq⟩ := hP
        tm_at "goo"
        obtain ⟨ts', ds', es'⟩ := dens_ex dq
        refine k _ _ ?_ (by tm_at "hp") (by tm_at "fr")
        apply ex_form
        exact ⟨by tm_at "hp", by tm_at "hp", np00, by omega, ⟨ts', by tm_at "dens", es'⟩, ⟨t, by tm_at "den", he⟩⟩
    · refine k _ _ ?_ (by tm_at "hp") (by tm_at "fr")
      apply ex_form
      exact ⟨by tm_at "hp", by tm_at "hp", nl, by omega, ⟨ts, by tm_at "dens", ex⟩, ⟨t, by tm_at "den", he⟩⟩
end
end M14
set_option Elab.async false
set_option linter.all false
set_option maxRecDepth 100000
set_option maxHeartbeats 4000000
namespace M14
open PySem PySem.Spec PyProof.Rows L2

section
variable {P : Program} {w : World} {K : PySem.W.Frag} {mg : Str → Option Value} {base : Heap}
set_option hygiene false
local macro_rules | `(tactic| tm_at "sc") => `(tactic| (first | omega | (simp only [List.length_cons, List.length_nil, List.length_map, List.length_set, List.length_append]; omega) | (simp only [List.length_map] at h1 ⊢; omega) | (simp only [List.length_map] at c ⊢; omega) | with_reducible assumption | exact And.intro (by omega) (by omega) | exact Or.inl (And.intro (by omega) (by omega)) | exact Or.inr (And.intro (by omega) (by omega)) | decide +kernel | exact len1000 (by simp) | rfl | fail "no way"))
local macro_rules | `(tactic| tm_at "sc1") => `(tactic| (focus (simp; done)))
local macro_rules | `(tactic| tm_at "ne") => `(tactic| (first | assumption | exact Ne.symm (by assumption) | (apply Box.ne2; assumption; tm_at "hp") | (apply Ne.symm; apply Box.ne2; assumption; tm_at "hp") | (apply ne_of_none2; assumption; tm_at "hp") | (apply Ne.symm; apply ne_of_none2; assumption; tm_at "hp") | fail "no way"))
local macro_rules | `(tactic| tm_at "f0") => `(tactic| (first | assumption | (apply Fr.new; assumption) | fail "no way"))
local macro_rules | `(tactic| tm_at "hp") => `(tactic| (first | assumption | exact upd_same | (apply SqL.of; first | assumption | exact upd_same) | (apply Fr.at0; tm_at "f0"; tm_at "hp") | (apply Fr.at1n; assumption; tm_at "ne"; tm_at "hp") | (apply sqFr0; tm_at "f0"; tm_at "hp") | (apply sqFr1; assumption; tm_at "ne"; tm_at "hp") | (apply Box.fr0; tm_at "f0"; tm_at "hp") | (apply Box.fr1; assumption; tm_at "ne"; tm_at "hp") | (apply Den.fr; tm_at "f0"; tm_at "hp") | (apply Dens.fr; tm_at "f0"; tm_at "hp") | fail "no way"))
local macro_rules | `(tactic| tm_at "free0") => `(tactic| (first | assumption | (apply updFree; assumption) | (apply updFree; apply updFree; assumption) | (apply updFree; apply updFree; apply updFree; assumption) | (apply updFree; apply updFree; apply updFree; apply updFree; assumption) | fail "no way"))
local macro_rules | `(tactic| tm_at "free") => `(tactic| (first | tm_at "free0" | (apply Fr.free; assumption; tm_at "free0") | (apply Box.free; assumption; tm_at "fr"; tm_at "free0") | (apply Fr.free; assumption; apply Fr.free; assumption; tm_at "free0") | fail "no way"))
local macro_rules | `(tactic| tm_at "fr") => `(tactic| (first | assumption | exact Fr.refl0 _ | exact Fr.refl (Box.nt (by assumption)) | (refine Fr.comp0 ?_ (by tm_at "f0"); tm_at "fr") | (refine Fr.comp ?_ (by assumption); tm_at "fr") | (refine Fr.compN ?_ (by assumption) (by tm_at "free"); tm_at "fr") | fail "no way"))
local macro_rules | `(tactic| tm_at "call") => `(tactic| fail "no call")
local macro_rules | `(tactic| tm_at "call") => `(tactic| (apply take_step; tm_at "hp"; tm_at "sc"; tm_at "sc"; intro r H1 h0 h1 hB fr))
local macro_rules | `(tactic| tm_at "ty") => `(tactic| (first | assumption | exact .base .non | exact .base (.bl _) | exact .base (.int _) | exact .base (.str _) | (apply TyX.base; apply TyOf.lst; tm_at "hp") | (apply TyX.base; apply TyOf.tup; tm_at "hp") | fail "no way"))
local macro_rules | `(tactic| tm_at "pre") => `(tactic| fail "none")
local macro_rules | `(tactic| tm_at "go1") => `(tactic| (first | tm_at "pre" | refine ⟨_, rfl, ?_⟩ | refine ⟨_, _, rfl, rfl, ?_⟩ | (apply set_step; tm_at "hp"; tm_at "sc"; tm_at "sc"; intro H1 hp fr) | (with_reducible refine iteDI ?_ ?_ <;> intro c) | (with_reducible refine iteDS ?_ ?_ <;> intro c) | (with_reducible refine iteD ?_ ?_ <;> intro c) | (with_reducible refine iteEM ?_ ?_ <;> intro c) | (with_reducible refine iteE ?_ ?_ <;> intro c) | with_reducible refine iteN ?_ | with_reducible refine iteF ?_ | with_reducible refine iteT ?_ | (refine fun (p : Addr) (np : _ = (none : Option HO)) => ?_; fail_if_success (refine ⟨fun (_ _ : Nat) (_ : Hp) => True, ?_⟩)) | (apply isi_tt; tm_at "ty"; focus (decide +kernel)) | (apply isi_ff; tm_at "ty"; focus (decide +kernel)) | (apply sl_step; tm_at "hp"; intro qq H1 ms nq hq fr) | (apply sum_step; tm_at "hp"; intro i) | (apply tru_step; tm_at "hp") | (apply len_step; tm_at "hp") | (apply lenq_step; assumption) | (apply ixq_step; assumption; tm_at "sc"; tm_at "sc"; intro v hv) | (apply lst_step; tm_at "hp") | (apply tupl_step; tm_at "hp") | (apply ixr_step; tm_at "hp"; exact rfl) | (apply ix0_step; tm_at "hp") | (apply ix1_step; tm_at "hp") | (apply ix2_step; tm_at "hp") | (apply ixi_step; tm_at "hp"; tm_at "sc"; tm_at "sc"; intro n hn hn') | (apply ixl_step; tm_at "hp"; tm_at "sc"; tm_at "sc"; intro v hv) | (apply ixt_step; tm_at "hp"; tm_at "sc"; tm_at "sc"; intro v hm hv) | (apply in_step; tm_at "hp"; rfl; rfl) | (apply cat_step; tm_at "hp"; tm_at "hp"; tm_at "sc") | (apply catT_step; tm_at "hp"; tm_at "hp"; tm_at "sc1") | (apply tyL_and; tm_at "hp") | (apply app_step; tm_at "hp"; tm_at "sc"; intro H1 hp fr) | tm_at "call" | refine ⟨⟨_, rfl⟩, ?_⟩ | (apply ixs_step; tm_at "sc"; tm_at "sc"; tm_at "sc"; intro ch) | refine .inl ⟨_, rfl, ?_⟩ | refine .inr ⟨_, rfl, ?_⟩ | (apply And.intro; tm_at "sc") | (with_reducible refine wayB ?_ ?_ <;> intro c) | fail "no way"))
local macro_rules | `(tactic| tm_at "go") => `(tactic| (repeat tm_at "go1"))
local macro_rules | `(tactic| tm_at "goo") => `(tactic| (repeat' tm_at "go1"))
local macro_rules | `(tactic| tm_at "den") => `(tactic| (first | assumption | exact Den.str _ | exact Den.int _ | exact Den.bl _ | exact Den.non | (apply Den.tups; tm_at "hp"; tm_at "dens") | (apply Den.fr; tm_at "f0"; tm_at "den") | fail "no way"))
local macro_rules | `(tactic| tm_at "dens") => `(tactic| (first | assumption | exact Dens.nil | (apply Dens.cons; tm_at "den"; tm_at "dens") | (apply Dens.fr; tm_at "f0"; tm_at "dens") | fail "no way"))
local macro_rules | `(tactic| tm_at "ix") => `(tactic| (apply Ix.mk; tm_at "hp"; tm_at "ne"; assumption; assumption))
local macro_rules | `(tactic| tm_at "dep") => `(tactic| (first | assumption | exact Dep.int | exact Dep.str | exact Dep.bl | exact Dep.non | (apply Dep.tup; tm_at "dlen"; tm_at "deps") | (apply Dep.mono; assumption; decide) | fail "no way"))
local macro_rules | `(tactic| tm_at "deps") => `(tactic| (first | assumption | exact memN | (apply memC; tm_at "dep"; tm_at "deps") | fail "no way"))
local macro_rules | `(tactic| tm_at "dlen") => `(tactic| (first | assumption | (focus (simp; done)) | omega | fail "no way"))
local macro_rules | `(tactic| tm_at "pre") => `(tactic| (apply rep_step; tm_at "hp"; tm_at "sc"; tm_at "sc"; intro rp H1 nrp hrp fr))

/-! ### same: equality of data, part by part -/
def leafV : V → Bool
  | .non | .bl _ | .int _ | .str _ => true
  | _ => false
/-- x and y are the same data, d deep -/
def Sm (K : PySem.W.Frag) : Nat → Hp → V → V → Prop
  | 0, _, x, y => x = y ∧ leafV x = true
  | d + 1, H, x, y => (x = y ∧ leafV x = true) ∨ ∃ a b xs ys, x = .ref a ∧ y = .ref b ∧ ((TupAt K H a xs ∧ TupAt K H b ys) ∨ (H a = some (.lst xs) ∧ H b = some (.lst ys))) ∧ xs.length = ys.length ∧ xs.length ≤ 10000 ∧
      ∀ (i : Nat) (x y : V), xs[i]? = some x → ys[i]? = some y → Sm K d H x y
theorem Sm.leaf {K : PySem.W.Frag} {d : Nat} {H : Hp} {x : V} (h : leafV x = true) : Sm K d H x x := by
  cases d with
  | zero => exact ⟨rfl, h⟩
  | succ d => exact .inl ⟨rfl, h⟩
/-- two data of one tree are the same -/
theorem Sm.of_den {K : PySem.W.Frag} {H : Hp} {t : T} : ∀ {d : Nat} {x y : V}, Den K H x t → Den K H y t → Dep d t → Sm K d H x y := by
  intro d x y hx
  induction hx generalizing d y with
  | non => intro hy _; cases hy; exact Sm.leaf rfl
  | bl b => intro hy _; cases hy; exact Sm.leaf rfl
  | int i => intro hy _; cases hy; exact Sm.leaf rfl
  | str s => intro hy _; cases hy; exact Sm.leaf rfl
  | @tup a xs ts ha la ca ih =>
    intro hy hd
    cases hy with
    | @tup b ys _ hb lb cb =>
      cases hd with
      | tup hl hds =>
        refine .inr ⟨a, b, xs, ys, rfl, rfl, .inl ⟨.of ha, .of hb⟩, by omega, by omega, fun i x y ex ey => ?_⟩
        have hi := (List.getElem?_eq_some_iff.mp ex).1
        have hit : i < ts.length := by omega
        exact ih i x _ ex (List.getElem?_eq_getElem hit) (cb i y _ ey (List.getElem?_eq_getElem hit)) (hds _ (List.getElem_mem hit))
theorem Sm.of_dens {K : PySem.W.Frag} {H : Hp} {d : Nat} {a b : Addr} {xs ys : List V} {ts : List T} (ha : H a = some (.lst xs)) (hb : H b = some (.lst ys)) (dx : Dens K H xs ts) (dy : Dens K H ys ts) (hl : xs.length ≤ 10000) (hd : ∀ t ∈ ts, Dep d t) : Sm K (d + 1) H (.ref a) (.ref b) := by
  refine .inr ⟨a, b, xs, ys, rfl, rfl, .inr ⟨ha, hb⟩, by rw [dx.1, dy.1], hl, fun i x y ex ey => ?_⟩
  obtain ⟨t, et, dt⟩ := dx.get ex
  exact .of_den dt (dy.2 i y t ey et) (hd _ (List.mem_of_getElem? et))
@[irreducible] def spSm (K : PySem.W.Frag) : Nat → Sp
  | 0 => fun _ _ _ _ => False
  | d + 1 => fun vs H Q _ => ∃ x y, vs = [x, y] ∧ Sm K d H x y ∧ Q (.bl true) H
theorem sm_step {d : Nat} {x y : V} {H : Hp} {Q : VK} {E : XK} (h : Sm K d H x y) (k : Q (.bl true) H) : spSm K (d + 1) ([x, y] ++ []) H Q E := by
  unfold spSm
  exact ⟨x, y, rfl, h, k⟩
theorem Def1.never {x : Str} {st : Stmt} {ps : List Str} (D : Def1 K mg x st)
    (hb : ∀ (kV doc pm : Value) (an : Option Addr) (cdv ct : Value) (us : List Value), us.length = ps.length → bindArgs (PySem.W.fnOf x x (defArgs st) (defBody st) (defScope st) .none kV doc pm an cdv ct) ⟨us, []⟩ = pure (ps.zip us)) : Cal P w K mg base 0 x ps (fun _ _ _ _ => False) := by
  obtain ⟨f, fd, F, g⟩ := D
  exact ⟨f, fd, ⟨fun _ _ _ _ h => h.elim, fun _ _ _ _ _ _ _ _ _ _ _ _ _ h => h.elim⟩, g, F.kp, F.bindsN hb⟩
local macro_rules | `(tactic| tm_at "call") => `(tactic| (apply sm_step; focus (tm_at "sm")))
local macro_rules | `(tactic| tm_at "sm") => `(tactic| assumption)
@[irreducible] def SMid (H : Hp) (σ : L2.St) (_ : Nat) (σ' : L2.St) (H' : Hp) : Prop := ∃ x : Option V, σ' = σ ++ [x] ∧ H' = H
theorem SMid.of {H : Hp} {σ : L2.St} {i : Nat} {σ' : L2.St} {x : Option V} (e : σ' = σ ++ [x]) : SMid H σ i σ' H := by unfold SMid; exact ⟨x, e, rfl⟩
abbrev s_same : Stmt := top 17
theorem sc_same : FnScope ["_law_told", "_law_due", "_law_k"] ["_law_told", "_law_due"] (defScope s_same) := ⟨rfl, rfl, rfl, by decide +kernel, rfl, by decide +kernel, by decide +kernel⟩

theorem ok_same (T : Bl mg) (D : Def1 K mg "_law_same" s_same) : ∀ d : Nat, Cal P w K mg base d "_law_same" ["_law_told", "_law_due"] (spSm K d)
  | 0 => by
    have z : spSm K 0 = fun _ _ _ _ => False := by unfold spSm; rfl
    rw [z]
    exact D.never fun _ _ _ _ _ _ us hl => match us, hl with | [_, _], _ => rfl
  | d + 1 => by
    have G_same := ok_same T D d
    refine D.cal sc_same (fun _ _ _ _ _ _ us hl => match us, hl with | [_, _], _ => rfl) (fun vs H Q E h => ?_) (fun f cdv A outer s H vs Q E hr h => ?_) <;> unfold spSm at h
    · obtain ⟨x, y, rfl, _⟩ := h
      rfl
    · obtain ⟨x, y, rfl, hs, k⟩ := h
      refine ⟨_, (pss_cons (ps_if (PW.pt (pw_or (pt_val (pe_callB (cIsi K) (by rfl) T.z_isinstance (by decide +kernel) (pa_cons (pv 1) (pa_cons (pe_bltn (v := .ty "tuple") (by rfl) T.z_tuple (by decide +kernel) rfl) pa_nil)))) (pw_or1 (pt_val (pe_callB (cIsi K) (by rfl) T.z_isinstance (by decide +kernel) (pa_cons (pv 1) (pa_cons (pe_bltn (v := .ty "list") (by rfl) T.z_list (by decide +kernel) rfl) pa_nil)))))))
        (pss_cons (ps_if (PW.pt (pw_and (pt_val (pe_callB (cIsi K) (by rfl) T.z_isinstance (by decide +kernel) (pa_cons (pv 1) (pa_cons (pe_bltn (v := .ty "list") (by rfl) T.z_list (by decide +kernel) rfl) pa_nil)))) (pw_and1 (pt_not (pt_val (pe_callB (cIsi K) (by rfl) T.z_isinstance (by decide +kernel) (pa_cons (pv 0) (pa_cons (pe_bltn (v := .ty "list") (by rfl) T.z_list (by decide +kernel) rfl) pa_nil))))))))
          (pss_one (ps_ret pe_bl))
          pss_nil)
        (pss_cons (ps_if (PW.pt (pw_and (pt_val (pe_callB (cIsi K) (by rfl) T.z_isinstance (by decide +kernel) (pa_cons (pv 1) (pa_cons (pe_bltn (v := .ty "tuple") (by rfl) T.z_tuple (by decide +kernel) rfl) pa_nil)))) (pw_and1 (pt_not (pt_val (pe_callB (cIsi K) (by rfl) T.z_isinstance (by decide +kernel) (pa_cons (pv 0) (pa_cons (pe_bltn (v := .ty "tuple") (by rfl) T.z_tuple (by decide +kernel) rfl) pa_nil))))))))
          (pss_one (ps_ret pe_bl))
          pss_nil)
        (pss_cons (ps_if (pt_cmpR op_ne (pe_callB (cLen K) (by rfl) T.z_len (by decide +kernel) (pa_cons (pv 0) pa_nil)) (pe_callB (cLen K) (by rfl) T.z_len (by decide +kernel) (pa_cons (pv 1) pa_nil)) (nomark _))
          (pss_one (ps_ret pe_bl))
          pss_nil)
        (pss_cons (ps_for PassesOwn.never rfl (pi_range1 (by rfl) T.z_range (pa_cons (pe_callB (cLen K) (by rfl) T.z_len (by decide +kernel) (pa_cons (pv 1) pa_nil)) pa_nil)) (pg_name (i := 2) sc_same.nd rfl (Or.inl rfl))
          (pss_one (ps_if (pt_not (pt_val (pe_cal G_same (hr.mono (by omega)) (by rfl) (pa_cons (pe_ix (ixQ K) (pv 0) (pv 2) (fun _ _ => rfl)) (pa_cons (pe_ix (ixQ K) (pv 1) (pv 2) (fun _ _ => rfl)) pa_nil)))))
            (pss_one (ps_ret pe_bl))
            pss_nil)))
        (pss_one (ps_ret pe_bl))))))
        pss_nil)
      (pss_cons (ps_if (pt_cmpR op_isN (pv 1) pe_non (nomark _))
        (pss_one (ps_ret (pe_cmpR op_isN (pv 0) pe_non (nomark _))))
        pss_nil)
      (pss_cons (ps_if (pt_val (pe_callB (cIsi K) (by rfl) T.z_isinstance (by decide +kernel) (pa_cons (pv 1) (pa_cons (pe_bltn (v := .ty "bool") (by rfl) T.z_bool (by decide +kernel) rfl) pa_nil))))
        (pss_one (ps_ret (pe_and (pe_callB (cIsi K) (by rfl) T.z_isinstance (by decide +kernel) (pa_cons (pv 0) (pa_cons (pe_bltn (v := .ty "bool") (by rfl) T.z_bool (by decide +kernel) rfl) pa_nil))) (pe_one (pe_cmpR op_eq (pv 0) (pv 1) (nomark _))))))
        pss_nil)
      (pss_cons (ps_if (pt_val (pe_callB (cIsi K) (by rfl) T.z_isinstance (by decide +kernel) (pa_cons (pv 1) (pa_cons (pe_bltn (v := .ty "int") (by rfl) T.z_int (by decide +kernel) rfl) pa_nil))))
        (pss_one (ps_ret (pe_and (pe_callB (cIsi K) (by rfl) T.z_isinstance (by decide +kernel) (pa_cons (pv 0) (pa_cons (pe_bltn (v := .ty "int") (by rfl) T.z_int (by decide +kernel) rfl) pa_nil))) (pe_and (pe_not (pe_callB (cIsi K) (by rfl) T.z_isinstance (by decide +kernel) (pa_cons (pv 0) (pa_cons (pe_bltn (v := .ty "bool") (by rfl) T.z_bool (by decide +kernel) rfl) pa_nil)))) (pe_one (pe_cmpR op_eq (pv 0) (pv 1) (nomark _)))))))
        pss_nil)
      (pss_one (ps_ret (pe_and (pe_callB (cIsi K) (by rfl) T.z_isinstance (by decide +kernel) (pa_cons (pv 0) (pa_cons (pe_bltn (v := .ty "str") (by rfl) T.z_str (by decide +kernel) rfl) pa_nil))) (pe_one (pe_cmpR op_eq (pv 0) (pv 1) (nomark _)))))))))), ?_⟩
      have cases : (x = y ∧ leafV x = true) ∨ ∃ e, d = e + 1 ∧ ∃ a b xs ys, x = .ref a ∧ y = .ref b ∧ ((TupAt K H a xs ∧ TupAt K H b ys) ∨ (H a = some (.lst xs) ∧ H b = some (.lst ys))) ∧ xs.length = ys.length ∧ xs.length ≤ 10000 ∧
          ∀ (i : Nat) (x y : V), xs[i]? = some x → ys[i]? = some y → Sm K e H x y := by
        cases d with
        | zero => exact .inl hs
        | succ e => exact hs.elim .inl fun h => .inr ⟨e, rfl, h⟩
      rcases cases with ⟨rfl, lf⟩ | ⟨e, rfl, a, b, xs, ys, rfl, rfl, ty, l1, l2, hi⟩
      · cases x with
        | non =>
          tm_at "goo"
          exact fin_bl (decide_eq_true rfl) k
        | bl c =>
          tm_at "goo"
          exact fin_bl (decide_eq_true rfl) k
        | int i =>
          tm_at "goo"
          exact fin_bl (decide_eq_true rfl) k
        | str z =>
          tm_at "goo"
          exact fin_bl (decide_eq_true rfl) k
        | _ => cases lf
      · have qa : SqL K H a xs ∨ SqT K H a xs := ty.elim (fun h => .inr h.1.1) fun h => .inl (SqL.of h.1)
        have qb : SqL K H b ys ∨ SqT K H b ys := ty.elim (fun h => .inr h.2.1) fun h => .inl (SqL.of h.2)
        rcases ty with ⟨⟨_, ta⟩, ⟨_, tb⟩⟩ | ⟨la, lb⟩
        all_goals
          tm_at "goo"
          · refine forR (SMid H [some (.ref a), some (.ref b)]) (SMid.of (x := none) rfl) (fun i σ' H' hi' hP => ?_) (fun σ' H' hP => ?_)
            · unfold SMid at hP
              obtain ⟨x, rfl, rfl⟩ := hP
              tm_at "goo"
              refine sm_step (hi _ _ _ (by assumption) hv) ?_
              tm_at "goo"
              exact SMid.of rfl
            · unfold SMid at hP
              obtain ⟨x, rfl, rfl⟩ := hP
              exact k
          · exact absurd (by omega) c
end
end M14
set_option Elab.async false
set_option linter.all false
set_option maxRecDepth 100000
set_option maxHeartbeats 4000000
namespace M14
open PySem PySem.Spec PyProof.Rows L2

section
variable {P : Program} {w : World} {K : PySem.W.Frag} {mg : Str → Option Value} {base : Heap}
set_option hygiene false
local macro_rules | `(tactic| tm_at "sc") => `(tactic| (first | omega | (simp only [List.length_cons, List.length_nil, List.length_map, List.length_set, List.length_append]; omega) | (simp only [List.length_map] at h1 ⊢; omega) | (simp only [List.length_map] at c ⊢; omega) | with_reducible assumption | exact And.intro (by omega) (by omega) | exact Or.inl (And.intro (by omega) (by omega)) | exact Or.inr (And.intro (by omega) (by omega)) | decide +kernel | exact len1000 (by simp) | rfl | fail "no way"))
local macro_rules | `(tactic| tm_at "sc1") => `(tactic| (focus (simp; done)))
local macro_rules | `(tactic| tm_at "ne") => `(tactic| (first | assumption | exact Ne.symm (by assumption) | (apply Box.ne2; assumption; tm_at "hp") | (apply Ne.symm; apply Box.ne2; assumption; tm_at "hp") | (apply ne_of_none2; assumption; tm_at "hp") | (apply Ne.symm; apply ne_of_none2; assumption; tm_at "hp") | fail "no way"))
local macro_rules | `(tactic| tm_at "f0") => `(tactic| (first | assumption | (apply Fr.new; assumption) | fail "no way"))
local macro_rules | `(tactic| tm_at "hp") => `(tactic| (first | assumption | exact upd_same | (apply SqL.of; first | assumption | exact upd_same) | (apply Fr.at0; tm_at "f0"; tm_at "hp") | (apply Fr.at1n; assumption; tm_at "ne"; tm_at "hp") | (apply sqFr0; tm_at "f0"; tm_at "hp") | (apply sqFr1; assumption; tm_at "ne"; tm_at "hp") | (apply Box.fr0; tm_at "f0"; tm_at "hp") | (apply Box.fr1; assumption; tm_at "ne"; tm_at "hp") | (apply Den.fr; tm_at "f0"; tm_at "hp") | (apply Dens.fr; tm_at "f0"; tm_at "hp") | fail "no way"))
local macro_rules | `(tactic| tm_at "free0") => `(tactic| (first | assumption | (apply updFree; assumption) | (apply updFree; apply updFree; assumption) | (apply updFree; apply updFree; apply updFree; assumption) | (apply updFree; apply updFree; apply updFree; apply updFree; assumption) | fail "no way"))
local macro_rules | `(tactic| tm_at "free") => `(tactic| (first | tm_at "free0" | (apply Fr.free; assumption; tm_at "free0") | (apply Box.free; assumption; tm_at "fr"; tm_at "free0") | (apply Fr.free; assumption; apply Fr.free; assumption; tm_at "free0") | fail "no way"))
local macro_rules | `(tactic| tm_at "fr") => `(tactic| (first | assumption | exact Fr.refl0 _ | exact Fr.refl (Box.nt (by assumption)) | (refine Fr.comp0 ?_ (by tm_at "f0"); tm_at "fr") | (refine Fr.comp ?_ (by assumption); tm_at "fr") | (refine Fr.compN ?_ (by assumption) (by tm_at "free"); tm_at "fr") | fail "no way"))
local macro_rules | `(tactic| tm_at "call") => `(tactic| fail "no call")
local macro_rules | `(tactic| tm_at "call") => `(tactic| (apply take_step; tm_at "hp"; tm_at "sc"; tm_at "sc"; intro r H1 h0 h1 hB fr))
local macro_rules | `(tactic| tm_at "ty") => `(tactic| (first | assumption | exact .base .non | exact .base (.bl _) | exact .base (.int _) | exact .base (.str _) | (apply TyX.base; apply TyOf.lst; tm_at "hp") | (apply TyX.base; apply TyOf.tup; tm_at "hp") | fail "no way"))
local macro_rules | `(tactic| tm_at "pre") => `(tactic| fail "none")
local macro_rules | `(tactic| tm_at "go1") => `(tactic| (first | tm_at "pre" | refine ⟨_, rfl, ?_⟩ | refine ⟨_, _, rfl, rfl, ?_⟩ | (apply set_step; tm_at "hp"; tm_at "sc"; tm_at "sc"; intro H1 hp fr) | (with_reducible refine iteDI ?_ ?_ <;> intro c) | (with_reducible refine iteDS ?_ ?_ <;> intro c) | (with_reducible refine iteD ?_ ?_ <;> intro c) | (with_reducible refine iteEM ?_ ?_ <;> intro c) | (with_reducible refine iteE ?_ ?_ <;> intro c) | with_reducible refine iteN ?_ | with_reducible refine iteF ?_ | with_reducible refine iteT ?_ | (refine fun (p : Addr) (np : _ = (none : Option HO)) => ?_; fail_if_success (refine ⟨fun (_ _ : Nat) (_ : Hp) => True, ?_⟩)) | (apply isi_tt; tm_at "ty"; focus (decide +kernel)) | (apply isi_ff; tm_at "ty"; focus (decide +kernel)) | (apply sl_step; tm_at "hp"; intro qq H1 ms nq hq fr) | (apply sum_step; tm_at "hp"; intro i) | (apply tru_step; tm_at "hp") | (apply len_step; tm_at "hp") | (apply lenq_step; assumption) | (apply ixq_step; assumption; tm_at "sc"; tm_at "sc"; intro v hv) | (apply lst_step; tm_at "hp") | (apply tupl_step; tm_at "hp") | (apply ixr_step; tm_at "hp"; exact rfl) | (apply ix0_step; tm_at "hp") | (apply ix1_step; tm_at "hp") | (apply ix2_step; tm_at "hp") | (apply ixi_step; tm_at "hp"; tm_at "sc"; tm_at "sc"; intro n hn hn') | (apply ixl_step; tm_at "hp"; tm_at "sc"; tm_at "sc"; intro v hv) | (apply ixt_step; tm_at "hp"; tm_at "sc"; tm_at "sc"; intro v hm hv) | (apply in_step; tm_at "hp"; rfl; rfl) | (apply cat_step; tm_at "hp"; tm_at "hp"; tm_at "sc") | (apply catT_step; tm_at "hp"; tm_at "hp"; tm_at "sc1") | (apply tyL_and; tm_at "hp") | (apply app_step; tm_at "hp"; tm_at "sc"; intro H1 hp fr) | tm_at "call" | refine ⟨⟨_, rfl⟩, ?_⟩ | (apply ixs_step; tm_at "sc"; tm_at "sc"; tm_at "sc"; intro ch) | refine .inl ⟨_, rfl, ?_⟩ | refine .inr ⟨_, rfl, ?_⟩ | (apply And.intro; tm_at "sc") | (with_reducible refine wayB ?_ ?_ <;> intro c) | fail "no way"))
local macro_rules | `(tactic| tm_at "go") => `(tactic| (repeat tm_at "go1"))
local macro_rules | `(tactic| tm_at "goo") => `(tactic| (repeat' tm_at "go1"))
local macro_rules | `(tactic| tm_at "den") => `(tactic| (first | assumption | exact Den.str _ | exact Den.int _ | exact Den.bl _ | exact Den.non | (apply Den.tups; tm_at "hp"; tm_at "dens") | (apply Den.fr; tm_at "f0"; tm_at "den") | fail "no way"))
local macro_rules | `(tactic| tm_at "dens") => `(tactic| (first | assumption | exact Dens.nil | (apply Dens.cons; tm_at "den"; tm_at "dens") | (apply Dens.fr; tm_at "f0"; tm_at "dens") | fail "no way"))
local macro_rules | `(tactic| tm_at "ix") => `(tactic| (apply Ix.mk; tm_at "hp"; tm_at "ne"; assumption; assumption))
local macro_rules | `(tactic| tm_at "dep") => `(tactic| (first | assumption | exact Dep.int | exact Dep.str | exact Dep.bl | exact Dep.non | (apply Dep.tup; tm_at "dlen"; tm_at "deps") | (apply Dep.mono; assumption; decide) | fail "no way"))
local macro_rules | `(tactic| tm_at "deps") => `(tactic| (first | assumption | exact memN | (apply memC; tm_at "dep"; tm_at "deps") | fail "no way"))
local macro_rules | `(tactic| tm_at "dlen") => `(tactic| (first | assumption | (focus (simp; done)) | omega | fail "no way"))
local macro_rules | `(tactic| tm_at "pre") => `(tactic| (apply rep_step; tm_at "hp"; tm_at "sc"; tm_at "sc"; intro rp H1 nrp hrp fr))

/-! ### cells of the script -/
@[irreducible] def spCell (K : PySem.W.Frag) : Sp := fun vs H Q _ => ∃ (a : Addr) (ns : List Int) (k : Int), vs = [.ref a, .int k] ∧ SqL K H a (ns.map V.int) ∧ 0 ≤ k ∧ ∀ (i : Int) H', Fr [] H H' → Q (.int i) H'
theorem cell_step {a : Addr} {ns : List Int} {k : Int} {H : Hp} {Q : VK} {E : XK} (h : SqL K H a (ns.map V.int)) (h0 : 0 ≤ k) (q : ∀ (i : Int) H', Fr [] H H' → Q (.int i) H') : spCell K ([.ref a, .int k] ++ []) H Q E := by unfold spCell; exact ⟨a, ns, k, rfl, h, h0, q⟩
abbrev s_cell : Stmt := top 14
theorem sc_cell : FnScope ["_law_script", "_law_k"] ["_law_script", "_law_k"] (defScope s_cell) := ⟨rfl, rfl, rfl, by decide +kernel, rfl, by decide +kernel, by decide +kernel⟩

theorem ok_cell (T : Bl mg) (D : Def1 K mg "_law_cell" s_cell) : Cal P w K mg base 1 "_law_cell" ["_law_script", "_law_k"] (spCell K) := by
  refine D.cal sc_cell (fun _ _ _ _ _ _ us hl => match us, hl with | [_, _], _ => rfl) (fun vs H Q E h => ?_) (fun f cdv A outer s H vs Q E hr h => ?_) <;> unfold spCell at h
  · obtain ⟨a, ns, k, rfl, _⟩ := h
    rfl
  · obtain ⟨a, ns, k, rfl, ha, h0, q⟩ := h
    refine ⟨_, (pss_cons (ps_if (pt_cmpR op_lt (pv 1) (pe_callB (cLen K) (by rfl) T.z_len (by decide +kernel) (pa_cons (pv 0) pa_nil)) (nomark _))
      (pss_one (ps_ret (pe_callTy call_int1 (by rfl) T.z_int (by decide +kernel) (pa_cons (pe_ix (ixL K) (pv 0) (pv 1) (fun _ _ => rfl)) pa_nil))))
      pss_nil)
    (pss_one (ps_ret (pe_op op_add (pe_op op_add (pe_op op_mul (pe_op op_add (pv 1) pe_int) (pe_op op_mod (pe_callTy call_int1 (by rfl) T.z_int (by decide +kernel) (pa_cons (pe_callB (cSum K) (by rfl) T.z_sum (by decide +kernel) (pa_cons (pe_slice (slL K) (pv 0) po_none (po_some pe_int)) pa_nil)) pa_nil)) pe_int)) (pe_op op_mul pe_int (pv 1))) pe_int)))), ?_⟩
    tm_at "goo"
    · exact q _ _ (by tm_at "fr")
    · exact q _ _ (by tm_at "fr")
local macro_rules | `(tactic| tm_at "call") => `(tactic| (apply cell_step; tm_at "hp"; tm_at "sc"; intro i H1 fr))
@[irreducible] def spBox (K : PySem.W.Frag) : Sp := fun vs H Q _ => ∃ (a : Addr) (ns : List Int) (k : Int), vs = [.ref a, .int k] ∧ SqL K H a (ns.map V.int) ∧ 0 ≤ k ∧ ∀ b H', H b = none → Box H' b → Fr [] H H' → Q (.ref b) H'
theorem box_step {a : Addr} {ns : List Int} {k : Int} {H : Hp} {Q : VK} {E : XK} (h : SqL K H a (ns.map V.int)) (h0 : 0 ≤ k) (q : ∀ b H', H b = none → Box H' b → Fr [] H H' → Q (.ref b) H') : spBox K ([.ref a, .int k] ++ []) H Q E := by unfold spBox; exact ⟨a, ns, k, rfl, h, h0, q⟩
abbrev s_box : Stmt := top 15
theorem sc_box : FnScope ["_law_script", "_law_k", "_law_cell_here"] ["_law_script", "_law_k"] (defScope s_box) := ⟨rfl, rfl, rfl, by decide +kernel, rfl, by decide +kernel, by decide +kernel⟩

theorem ok_box (T : Bl mg) (G_cell : Cal P w K mg base 1 "_law_cell" ["_law_script", "_law_k"] (spCell K)) (D : Def1 K mg "_law_box" s_box) : Cal P w K mg base 2 "_law_box" ["_law_script", "_law_k"] (spBox K) := by
  refine D.cal sc_box (fun _ _ _ _ _ _ us hl => match us, hl with | [_, _], _ => rfl) (fun vs H Q E h => ?_) (fun f cdv A outer s H vs Q E hr h => ?_) <;> unfold spBox at h
  · obtain ⟨a, ns, k, rfl, _⟩ := h
    rfl
  · obtain ⟨a, ns, k, rfl, ha, h0, q⟩ := h
    refine ⟨_, (pss_cons (ps_set (i := 2) sc_box.nd rfl (Or.inl rfl) (pe_cal G_cell (hr.mono (by omega)) (by rfl) (pa_cons (pv 0) (pa_cons (pv 1) pa_nil))))
    (pss_cons (ps_if (pt_cmpR op_ge (pv 2) (pe_op op_pow pe_int pe_int) (nomark _))
      (pss_one (ps_ret (pe_lst (pa_cons (pv 2) (pa_cons pe_int (pa_cons (pv 2) (pa_cons pe_int (pa_cons (pv 1) pa_nil))))))))
      pss_nil)
    (pss_one (ps_ret (pe_lst (pa_cons pe_int (pa_cons pe_int (pa_cons (pv 2) (pa_cons pe_int (pa_cons (pv 1) pa_nil)))))))))), ?_⟩
    tm_at "goo"
    all_goals exact q _ _ (by tm_at "free") ⟨_, _, _, _, _, upd_same⟩ (by tm_at "fr")
local macro_rules | `(tactic| tm_at "call") => `(tactic| (apply box_step; tm_at "hp"; tm_at "sc"; intro bx H1 nb hB fr))
/-! ### entries moved -/
/-- the table of n numbers -/
def tab (step : Int) (n : Nat) : List Int := (List.range n).map fun k : Nat => step * (k : Int) + step - 1
def gT (step : Int) (j : Int) : Int := step * j + step - 1
theorem tab_get {step : Int} {n : Nat} {j y : Int} (h0 : 0 ≤ j) (e : (tab step n)[j.toNat]? = some y) : y = gT step j := by
  unfold tab at e
  rw [List.getElem?_map] at e
  cases q : (List.range n)[j.toNat]? with
  | none => rw [q] at e; cases e
  | some i =>
    rw [q] at e
    have hi := (List.getElem?_eq_some_iff.mp q)
    obtain ⟨h1, h2⟩ := hi
    rw [List.getElem_range] at h2
    have e2 : step * (i : Int) + step - 1 = y := Option.some.inj e
    unfold gT
    rw [← e2, ← h2]
    have z : ((j.toNat : Nat) : Int) = j := by omega
    rw [z]
theorem tab_len (step : Int) (n : Nat) : (tab step n).length = n := by unfold tab; rw [List.length_map, List.length_range]
end
end M14
set_option Elab.async false
set_option linter.all false
set_option maxRecDepth 100000
set_option maxHeartbeats 4000000
namespace M14
open PySem PySem.Spec PyProof.Rows L2

/-- a comprehension over range(lo, .., c) -/
theorem lc_rangeC {lo c : Int} {n : Nat} {g : TG} {tt : TT} {te : TE} {vs : List Nat} {σ : L2.St} {H1 : Hp} {D : Addr} {Qd : Hp → Prop} (Pv : Nat → Hp → Prop) (h0 : Pv 0 (upd H1 D (.lst [])))
    (hs : ∀ i H, i < n → Pv i H → g (.int (lo + (i : Nat) * c)) (wipe σ vs) H fun σ2 H2 => wipe σ2 vs = wipe σ vs ∧ tt σ2 H2 fun b H3 =>
      if b = true then te σ2 H3 fun y H4 => ∃ acc, H4 D = some (.lst acc) ∧ acc.length < sizeLine ∧ Pv (i + 1) (upd H4 D (.lst (acc ++ [y]))) else Pv (i + 1) H3) (hd : ∀ H, Pv n H → Qd H) :
    ∃ W : Nat → Nat → Hp → Prop, (∃ m, W 0 m (upd H1 D (.lst []))) ∧ ∀ i m H, W i m H →
      ((Itc lo c n).stop i H ∧ Qd H) ∨ ((Itc lo c n).go i H ∧ ∃ Nx : Hp → Prop, (∀ H', Nx H' → ∃ m', m' < m ∧ W (i + 1) m' H') ∧ ∀ x H', (Itc lo c n).yld i H x H' → g x (wipe σ vs) H' fun σ2 H2 => wipe σ2 vs = wipe σ vs ∧ tt σ2 H2 fun b H3 =>
        if b = true then te σ2 H3 fun y H4 => ∃ acc, H4 D = some (.lst acc) ∧ acc.length < sizeLine ∧ Nx (upd H4 D (.lst (acc ++ [y]))) else Nx H3) := by
  refine ⟨fun i m H => m = n - i ∧ i ≤ n ∧ Pv i H, ⟨n, by simp, Nat.zero_le _, h0⟩, ?_⟩
  rintro i m H ⟨rfl, hi, p⟩
  by_cases hlt : i < n
  · refine .inr ⟨hlt, Pv (i + 1), fun H' p' => ⟨n - (i + 1), by omega, rfl, hlt, p'⟩, fun x H' y => ?_⟩
    obtain ⟨e, y⟩ := y
    subst e y
    exact hs i _ hlt p
  · have e : i = n := by omega
    subst e
    exact .inl ⟨Nat.le_refl _, hd H p⟩
theorem lcRC {lo c : Int} {n : Nat} {te : TE} {tt : TT} {σ : L2.St} {H1 : Hp} {j : Nat} {M : List Addr} {S : Hp → Prop} {Qd : Addr → Hp → Prop} (f : Nat → Bool) (P : Hp → Nat → V → Prop) (G : Cg M S H1) (st : Stab P) (hz : n ≤ 10000)
    (ht : ∀ (i : Nat) H, i < n → S H → Fr M H1 H → ∀ R : Bool → Hp → Prop, (∀ H', S H' → Fr M H H' → R (f i) H') → tt ((wipe σ [j]).set j (some (.int (lo + (i : Nat) * c)))) H R)
    (he : ∀ (i : Nat) H, i < n → f i = true → S H → Fr M H1 H → ∀ R : VK, (∀ y H', S H' → Fr M H H' → P H' i y → R y H') → te ((wipe σ [j]).set j (some (.int (lo + (i : Nat) * c)))) H R)
    (hd : ∀ D H' ys, H1 D = none → H' D = some (.lst ys) → Made P H' (keptN f n) ys → S H' → Fr M H1 H' → Qd D H') :
    ∀ D, H1 D = none → ∃ W : Nat → Nat → Hp → Prop, (∃ m, W 0 m (upd H1 D (.lst []))) ∧ ∀ i m H, W i m H →
      ((Itc lo c n).stop i H ∧ Qd D H) ∨ ((Itc lo c n).go i H ∧ ∃ Nx : Hp → Prop, (∀ H', Nx H' → ∃ m', m' < m ∧ W (i + 1) m' H') ∧ ∀ x H', (Itc lo c n).yld i H x H' → gName j x (wipe σ [j]) H' fun σ2 H2 => wipe σ2 [j] = wipe σ [j] ∧ tt σ2 H2 fun b H3 =>
        if b = true then te σ2 H3 fun y H4 => ∃ acc, H4 D = some (.lst acc) ∧ acc.length < sizeLine ∧ Nx (upd H4 D (.lst (acc ++ [y]))) else Nx H3) := fun D hD =>
  lc_rangeC (CI M S H1 f P D) (CI.start G hD) (fun i H hi h => ⟨wipe_again σ j _, CI.turn G st hD hi hz h (ht i H hi h.1 h.2.1) fun hf H' s f' => he i H' hi hf s f'⟩) fun H h => let ⟨s, fr, ys, e, m⟩ := h; hd D H ys hD e m s fr
/-- what was made of ints -/
theorem Made.ints {H : Hp} {is : List Nat} {ys : List V} {g : Nat → Int} (m : Made (fun _ i y => y = .int (g i)) H is ys) : ys = (is.map g).map V.int := by
  refine List.ext_getElem? fun k => ?_
  rw [List.getElem?_map, List.getElem?_map]
  cases e : is[k]? with
  | none =>
    have := List.getElem?_eq_none_iff.mp e
    rw [List.getElem?_eq_none_iff.mpr (by rw [m.1]; exact this)]
    rfl
  | some i =>
    have hk : k < ys.length := by rw [m.1]; exact (List.getElem?_eq_some_iff.mp e).1
    have q := m.2 k i ys[k] e (List.getElem?_eq_getElem hk)
    rw [List.getElem?_eq_getElem hk, q]
    rfl
section
variable {P : Program} {w : World} {K : PySem.W.Frag} {mg : Str → Option Value} {base : Heap}
set_option hygiene false
local macro_rules | `(tactic| tm_at "sc") => `(tactic| (first | omega | (simp only [List.length_cons, List.length_nil, List.length_map, List.length_set, List.length_append]; omega) | (simp only [List.length_map] at h1 ⊢; omega) | (simp only [List.length_map] at c ⊢; omega) | with_reducible assumption | exact And.intro (by omega) (by omega) | exact Or.inl (And.intro (by omega) (by omega)) | exact Or.inr (And.intro (by omega) (by omega)) | decide +kernel | exact len1000 (by simp) | rfl | fail "no way"))
local macro_rules | `(tactic| tm_at "sc1") => `(tactic| (focus (simp; done)))
local macro_rules | `(tactic| tm_at "ne") => `(tactic| (first | assumption | exact Ne.symm (by assumption) | (apply Box.ne2; assumption; tm_at "hp") | (apply Ne.symm; apply Box.ne2; assumption; tm_at "hp") | (apply ne_of_none2; assumption; tm_at "hp") | (apply Ne.symm; apply ne_of_none2; assumption; tm_at "hp") | fail "no way"))
local macro_rules | `(tactic| tm_at "f0") => `(tactic| (first | assumption | (apply Fr.new; assumption) | fail "no way"))
local macro_rules | `(tactic| tm_at "hp") => `(tactic| (first | assumption | exact upd_same | (apply SqL.of; first | assumption | exact upd_same) | (apply Fr.at0; tm_at "f0"; tm_at "hp") | (apply Fr.at1n; assumption; tm_at "ne"; tm_at "hp") | (apply sqFr0; tm_at "f0"; tm_at "hp") | (apply sqFr1; assumption; tm_at "ne"; tm_at "hp") | (apply Box.fr0; tm_at "f0"; tm_at "hp") | (apply Box.fr1; assumption; tm_at "ne"; tm_at "hp") | (apply Den.fr; tm_at "f0"; tm_at "hp") | (apply Dens.fr; tm_at "f0"; tm_at "hp") | fail "no way"))
local macro_rules | `(tactic| tm_at "free0") => `(tactic| (first | assumption | (apply updFree; assumption) | (apply updFree; apply updFree; assumption) | (apply updFree; apply updFree; apply updFree; assumption) | (apply updFree; apply updFree; apply updFree; apply updFree; assumption) | fail "no way"))
local macro_rules | `(tactic| tm_at "free") => `(tactic| (first | tm_at "free0" | (apply Fr.free; assumption; tm_at "free0") | (apply Box.free; assumption; tm_at "fr"; tm_at "free0") | (apply Fr.free; assumption; apply Fr.free; assumption; tm_at "free0") | fail "no way"))
local macro_rules | `(tactic| tm_at "fr") => `(tactic| (first | assumption | exact Fr.refl0 _ | exact Fr.refl (Box.nt (by assumption)) | (refine Fr.comp0 ?_ (by tm_at "f0"); tm_at "fr") | (refine Fr.comp ?_ (by assumption); tm_at "fr") | (refine Fr.compN ?_ (by assumption) (by tm_at "free"); tm_at "fr") | fail "no way"))
local macro_rules | `(tactic| tm_at "call") => `(tactic| fail "no call")
local macro_rules | `(tactic| tm_at "call") => `(tactic| (apply take_step; tm_at "hp"; tm_at "sc"; tm_at "sc"; intro r H1 h0 h1 hB fr))
local macro_rules | `(tactic| tm_at "ty") => `(tactic| (first | assumption | exact .base .non | exact .base (.bl _) | exact .base (.int _) | exact .base (.str _) | (apply TyX.base; apply TyOf.lst; tm_at "hp") | (apply TyX.base; apply TyOf.tup; tm_at "hp") | fail "no way"))
local macro_rules | `(tactic| tm_at "pre") => `(tactic| fail "none")
local macro_rules | `(tactic| tm_at "go1") => `(tactic| (first | tm_at "pre" | refine ⟨_, rfl, ?_⟩ | refine ⟨_, _, rfl, rfl, ?_⟩ | (apply set_step; tm_at "hp"; tm_at "sc"; tm_at "sc"; intro H1 hp fr) | (with_reducible refine iteDI ?_ ?_ <;> intro c) | (with_reducible refine iteDS ?_ ?_ <;> intro c) | (with_reducible refine iteD ?_ ?_ <;> intro c) | (with_reducible refine iteEM ?_ ?_ <;> intro c) | (with_reducible refine iteE ?_ ?_ <;> intro c) | with_reducible refine iteN ?_ | with_reducible refine iteF ?_ | with_reducible refine iteT ?_ | (refine fun (p : Addr) (np : _ = (none : Option HO)) => ?_; fail_if_success (refine ⟨fun (_ _ : Nat) (_ : Hp) => True, ?_⟩)) | (apply isi_tt; tm_at "ty"; focus (decide +kernel)) | (apply isi_ff; tm_at "ty"; focus (decide +kernel)) | (apply sl_step; tm_at "hp"; intro qq H1 ms nq hq fr) | (apply sum_step; tm_at "hp"; intro i) | (apply tru_step; tm_at "hp") | (apply len_step; tm_at "hp") | (apply lenq_step; assumption) | (apply ixq_step; assumption; tm_at "sc"; tm_at "sc"; intro v hv) | (apply lst_step; tm_at "hp") | (apply tupl_step; tm_at "hp") | (apply ixr_step; tm_at "hp"; exact rfl) | (apply ix0_step; tm_at "hp") | (apply ix1_step; tm_at "hp") | (apply ix2_step; tm_at "hp") | (apply ixi_step; tm_at "hp"; tm_at "sc"; tm_at "sc"; intro n hn hn') | (apply ixl_step; tm_at "hp"; tm_at "sc"; tm_at "sc"; intro v hv) | (apply ixt_step; tm_at "hp"; tm_at "sc"; tm_at "sc"; intro v hm hv) | (apply in_step; tm_at "hp"; rfl; rfl) | (apply cat_step; tm_at "hp"; tm_at "hp"; tm_at "sc") | (apply catT_step; tm_at "hp"; tm_at "hp"; tm_at "sc1") | (apply tyL_and; tm_at "hp") | (apply app_step; tm_at "hp"; tm_at "sc"; intro H1 hp fr) | tm_at "call" | refine ⟨⟨_, rfl⟩, ?_⟩ | (apply ixs_step; tm_at "sc"; tm_at "sc"; tm_at "sc"; intro ch) | refine .inl ⟨_, rfl, ?_⟩ | refine .inr ⟨_, rfl, ?_⟩ | (apply And.intro; tm_at "sc") | (with_reducible refine wayB ?_ ?_ <;> intro c) | fail "no way"))
local macro_rules | `(tactic| tm_at "go") => `(tactic| (repeat tm_at "go1"))
local macro_rules | `(tactic| tm_at "goo") => `(tactic| (repeat' tm_at "go1"))
local macro_rules | `(tactic| tm_at "den") => `(tactic| (first | assumption | exact Den.str _ | exact Den.int _ | exact Den.bl _ | exact Den.non | (apply Den.tups; tm_at "hp"; tm_at "dens") | (apply Den.fr; tm_at "f0"; tm_at "den") | fail "no way"))
local macro_rules | `(tactic| tm_at "dens") => `(tactic| (first | assumption | exact Dens.nil | (apply Dens.cons; tm_at "den"; tm_at "dens") | (apply Dens.fr; tm_at "f0"; tm_at "dens") | fail "no way"))
local macro_rules | `(tactic| tm_at "ix") => `(tactic| (apply Ix.mk; tm_at "hp"; tm_at "ne"; assumption; assumption))
local macro_rules | `(tactic| tm_at "dep") => `(tactic| (first | assumption | exact Dep.int | exact Dep.str | exact Dep.bl | exact Dep.non | (apply Dep.tup; tm_at "dlen"; tm_at "deps") | (apply Dep.mono; assumption; decide) | fail "no way"))
local macro_rules | `(tactic| tm_at "deps") => `(tactic| (first | assumption | exact memN | (apply memC; tm_at "dep"; tm_at "deps") | fail "no way"))
local macro_rules | `(tactic| tm_at "dlen") => `(tactic| (first | assumption | (focus (simp; done)) | omega | fail "no way"))
local macro_rules | `(tactic| tm_at "pre") => `(tactic| (apply rep_step; tm_at "hp"; tm_at "sc"; tm_at "sc"; intro rp H1 nrp hrp fr))

end
end M14
set_option Elab.async false
set_option linter.all false
set_option maxRecDepth 100000
set_option maxHeartbeats 4000000
namespace M14
open PySem PySem.Spec PyProof.Rows L2

/-! ### the nodes of the law -/
structure Nd where
  nd : Addr
  row : Addr
  kd : Str
  tv : V
  tg : T
  rs : List V
  ts : List T
abbrev Role := Addr → Option (Nat × Nat × Nat)
/-- nothing of M is owned by side s -/
def Away (r : Role) (s : Nat) (M : List Addr) : Prop := ∀ a ∈ M, ∀ i j, r a ≠ some (s, i, j)
theorem Away.nil {r : Role} {s : Nat} : Away r s [] := fun _ h => nomatch h
theorem Away.one {r : Role} {s : Nat} {b : Addr} (h : r b = none) : Away r s [b] := fun a m i j e => by
  have z : a = b := by simpa using m
  rw [z, h] at e; cases e
structure NdA (K : PySem.W.Frag) (ρ : Role) (s : Nat) (n : Int) (H : Hp) (N : Addr) (xs : List Nd) : Prop where
  at_ : H N = some (.lst (xs.map fun x => V.ref x.nd))
  rN : ρ N = some (s, 2, 0)
  nd : ∀ (i : Nat) (x : Nd), xs[i]? = some x → H x.nd = some (.lst [.str x.kd, x.tv, .ref x.row]) ∧ ρ x.nd = some (s, 3, i)
  row : ∀ (i : Nat) (x : Nd), xs[i]? = some x → H x.row = some (.lst x.rs) ∧ ρ x.row = some (s, 4, i)
  ok : ∀ (i : Nat) (x : Nd), xs[i]? = some x → Dens K H x.rs x.ts ∧ (∀ t ∈ x.ts, EntOk n t) ∧ Den K H x.tv x.tg ∧ Dep 3 x.tg ∧ x.rs.length ≤ 200
  len : xs.length ≤ 2000
theorem NdA.frM {K : PySem.W.Frag} {ρ : Role} {s : Nat} {n : Int} {H H' : Hp} {N : Addr} {xs : List Nd} {M : List Addr} (h : NdA K ρ s n H N xs) (f : Fr M H H') (aw : Away ρ s M) : NdA K ρ s n H' N xs :=
  ⟨f.kp _ _ h.at_ fun m => aw _ m _ _ h.rN, h.rN, fun i x e => ⟨f.kp _ _ (h.nd i x e).1 fun m => aw _ m _ _ (h.nd i x e).2, (h.nd i x e).2⟩,
    fun i x e => ⟨f.kp _ _ (h.row i x e).1 fun m => aw _ m _ _ (h.row i x e).2, (h.row i x e).2⟩,
    fun i x e => let ⟨a, b, c, d⟩ := h.ok i x e; ⟨a.fr f, b, c.fr f, d⟩, h.len⟩
theorem NdA.fr0 {K : PySem.W.Frag} {ρ : Role} {s : Nat} {n : Int} {H H' : Hp} {N : Addr} {xs : List Nd} (h : NdA K ρ s n H N xs) (f : Fr [] H H') : NdA K ρ s n H' N xs := h.frM f .nil
theorem NdA.fr1 {K : PySem.W.Frag} {ρ : Role} {s : Nat} {n : Int} {H H' : Hp} {N b : Addr} {xs : List Nd} (h : NdA K ρ s n H N xs) (f : Fr [b] H H') (hb : ρ b = none) : NdA K ρ s n H' N xs := h.frM f (.one hb)
theorem NdA.of0 {K : PySem.W.Frag} {ρ : Role} {s : Nat} {n : Int} {H H' : Hp} {N : Addr} {xs : List Nd} (f : Fr [] H H') (h : NdA K ρ s n H N xs) : NdA K ρ s n H' N xs := h.frM f .nil
theorem NdA.of1 {K : PySem.W.Frag} {ρ : Role} {s : Nat} {n : Int} {H H' : Hp} {N b : Addr} {xs : List Nd} (f : Fr [b] H H') (hb : ρ b = none) (h : NdA K ρ s n H N xs) : NdA K ρ s n H' N xs := h.frM f (.one hb)
theorem nd_step {K : PySem.W.Frag} {ρ : Role} {s : Nat} {n : Int} {H : Hp} {N : Addr} {xs : List Nd} {z : Int} {Q : VK} (h : NdA K ρ s n H N xs) (h0 : 0 ≤ z) (h1 : z < xs.length)
    (k : ∀ x, xs[z.toNat]? = some x → H x.nd = some (.lst [.str x.kd, x.tv, .ref x.row]) → H x.row = some (.lst x.rs) → Q (.ref x.nd) H) : rxL K (.ref N) (.int z) H Q := by
  refine ixl_step (.of h.at_) h0 (by simpa using h1) fun v hv => ?_
  rw [List.getElem?_map] at hv
  cases e : xs[z.toNat]? with
  | none => rw [e] at hv; cases hv
  | some x =>
    rw [e] at hv
    cases hv
    exact k x e (h.nd _ _ e).1 (h.row _ _ e).1
section
variable {P : Program} {w : World} {K : PySem.W.Frag} {mg : Str → Option Value} {base : Heap}
set_option hygiene false
local macro_rules | `(tactic| tm_at "sc") => `(tactic| (first | omega | (simp only [List.length_cons, List.length_nil, List.length_map, List.length_set, List.length_append]; omega) | (simp only [List.length_map] at h1 ⊢; omega) | (simp only [List.length_map] at c ⊢; omega) | with_reducible assumption | exact And.intro (by omega) (by omega) | exact Or.inl (And.intro (by omega) (by omega)) | exact Or.inr (And.intro (by omega) (by omega)) | decide +kernel | exact len1000 (by simp) | rfl | fail "no way"))
local macro_rules | `(tactic| tm_at "sc1") => `(tactic| (focus (simp; done)))
local macro_rules | `(tactic| tm_at "ne") => `(tactic| (first | assumption | exact Ne.symm (by assumption) | (apply Box.ne2; assumption; tm_at "hp") | (apply Ne.symm; apply Box.ne2; assumption; tm_at "hp") | (apply ne_of_none2; assumption; tm_at "hp") | (apply Ne.symm; apply ne_of_none2; assumption; tm_at "hp") | fail "no way"))
local macro_rules | `(tactic| tm_at "f0") => `(tactic| (first | assumption | (apply Fr.new; assumption) | fail "no way"))
local macro_rules | `(tactic| tm_at "hp") => `(tactic| (first | assumption | exact upd_same | (apply SqL.of; first | assumption | exact upd_same) | (apply Fr.at0; tm_at "f0"; tm_at "hp") | (apply Fr.at1n; assumption; tm_at "ne"; tm_at "hp") | (apply sqFr0; tm_at "f0"; tm_at "hp") | (apply sqFr1; assumption; tm_at "ne"; tm_at "hp") | (apply Box.fr0; tm_at "f0"; tm_at "hp") | (apply Box.fr1; assumption; tm_at "ne"; tm_at "hp") | (apply Den.fr; tm_at "f0"; tm_at "hp") | (apply Dens.fr; tm_at "f0"; tm_at "hp") | fail "no way"))
local macro_rules | `(tactic| tm_at "free0") => `(tactic| (first | assumption | (apply updFree; assumption) | (apply updFree; apply updFree; assumption) | (apply updFree; apply updFree; apply updFree; assumption) | (apply updFree; apply updFree; apply updFree; apply updFree; assumption) | fail "no way"))
local macro_rules | `(tactic| tm_at "free") => `(tactic| (first | tm_at "free0" | (apply Fr.free; assumption; tm_at "free0") | (apply Box.free; assumption; tm_at "fr"; tm_at "free0") | (apply Fr.free; assumption; apply Fr.free; assumption; tm_at "free0") | fail "no way"))
local macro_rules | `(tactic| tm_at "fr") => `(tactic| (first | assumption | exact Fr.refl0 _ | exact Fr.refl (Box.nt (by assumption)) | (refine Fr.comp0 ?_ (by tm_at "f0"); tm_at "fr") | (refine Fr.comp ?_ (by assumption); tm_at "fr") | (refine Fr.compN ?_ (by assumption) (by tm_at "free"); tm_at "fr") | fail "no way"))
local macro_rules | `(tactic| tm_at "call") => `(tactic| fail "no call")
local macro_rules | `(tactic| tm_at "call") => `(tactic| (apply take_step; tm_at "hp"; tm_at "sc"; tm_at "sc"; intro r H1 h0 h1 hB fr))
local macro_rules | `(tactic| tm_at "ty") => `(tactic| (first | assumption | exact .base .non | exact .base (.bl _) | exact .base (.int _) | exact .base (.str _) | (apply TyX.base; apply TyOf.lst; tm_at "hp") | (apply TyX.base; apply TyOf.tup; tm_at "hp") | fail "no way"))
local macro_rules | `(tactic| tm_at "pre") => `(tactic| fail "none")
local macro_rules | `(tactic| tm_at "go1") => `(tactic| (first | tm_at "pre" | refine ⟨_, rfl, ?_⟩ | refine ⟨_, _, rfl, rfl, ?_⟩ | (apply set_step; tm_at "hp"; tm_at "sc"; tm_at "sc"; intro H1 hp fr) | (with_reducible refine iteDI ?_ ?_ <;> intro c) | (with_reducible refine iteDS ?_ ?_ <;> intro c) | (with_reducible refine iteD ?_ ?_ <;> intro c) | (with_reducible refine iteEM ?_ ?_ <;> intro c) | (with_reducible refine iteE ?_ ?_ <;> intro c) | with_reducible refine iteN ?_ | with_reducible refine iteF ?_ | with_reducible refine iteT ?_ | (refine fun (p : Addr) (np : _ = (none : Option HO)) => ?_; fail_if_success (refine ⟨fun (_ _ : Nat) (_ : Hp) => True, ?_⟩)) | (apply isi_tt; tm_at "ty"; focus (decide +kernel)) | (apply isi_ff; tm_at "ty"; focus (decide +kernel)) | (apply sl_step; tm_at "hp"; intro qq H1 ms nq hq fr) | (apply sum_step; tm_at "hp"; intro i) | (apply tru_step; tm_at "hp") | (apply len_step; tm_at "hp") | (apply lenq_step; assumption) | (apply ixq_step; assumption; tm_at "sc"; tm_at "sc"; intro v hv) | (apply lst_step; tm_at "hp") | (apply tupl_step; tm_at "hp") | (apply ixr_step; tm_at "hp"; exact rfl) | (apply ix0_step; tm_at "hp") | (apply ix1_step; tm_at "hp") | (apply ix2_step; tm_at "hp") | (apply ixi_step; tm_at "hp"; tm_at "sc"; tm_at "sc"; intro n hn hn') | (apply ixl_step; tm_at "hp"; tm_at "sc"; tm_at "sc"; intro v hv) | (apply ixt_step; tm_at "hp"; tm_at "sc"; tm_at "sc"; intro v hm hv) | (apply in_step; tm_at "hp"; rfl; rfl) | (apply cat_step; tm_at "hp"; tm_at "hp"; tm_at "sc") | (apply catT_step; tm_at "hp"; tm_at "hp"; tm_at "sc1") | (apply tyL_and; tm_at "hp") | (apply app_step; tm_at "hp"; tm_at "sc"; intro H1 hp fr) | tm_at "call" | refine ⟨⟨_, rfl⟩, ?_⟩ | (apply ixs_step; tm_at "sc"; tm_at "sc"; tm_at "sc"; intro ch) | refine .inl ⟨_, rfl, ?_⟩ | refine .inr ⟨_, rfl, ?_⟩ | (apply And.intro; tm_at "sc") | (with_reducible refine wayB ?_ ?_ <;> intro c) | fail "no way"))
local macro_rules | `(tactic| tm_at "go") => `(tactic| (repeat tm_at "go1"))
local macro_rules | `(tactic| tm_at "goo") => `(tactic| (repeat' tm_at "go1"))
local macro_rules | `(tactic| tm_at "den") => `(tactic| (first | assumption | exact Den.str _ | exact Den.int _ | exact Den.bl _ | exact Den.non | (apply Den.tups; tm_at "hp"; tm_at "dens") | (apply Den.fr; tm_at "f0"; tm_at "den") | fail "no way"))
local macro_rules | `(tactic| tm_at "dens") => `(tactic| (first | assumption | exact Dens.nil | (apply Dens.cons; tm_at "den"; tm_at "dens") | (apply Dens.fr; tm_at "f0"; tm_at "dens") | fail "no way"))
local macro_rules | `(tactic| tm_at "ix") => `(tactic| (apply Ix.mk; tm_at "hp"; tm_at "ne"; assumption; assumption))
local macro_rules | `(tactic| tm_at "dep") => `(tactic| (first | assumption | exact Dep.int | exact Dep.str | exact Dep.bl | exact Dep.non | (apply Dep.tup; tm_at "dlen"; tm_at "deps") | (apply Dep.mono; assumption; decide) | fail "no way"))
local macro_rules | `(tactic| tm_at "deps") => `(tactic| (first | assumption | exact memN | (apply memC; tm_at "dep"; tm_at "deps") | fail "no way"))
local macro_rules | `(tactic| tm_at "dlen") => `(tactic| (first | assumption | (focus (simp; done)) | omega | fail "no way"))
local macro_rules | `(tactic| tm_at "pre") => `(tactic| (apply rep_step; tm_at "hp"; tm_at "sc"; tm_at "sc"; intro rp H1 nrp hrp fr))

local macro_rules | `(tactic| tm_at "nda") => `(tactic| (first | assumption | (apply NdA.of0; tm_at "f0"; tm_at "nda") | (apply NdA.of1; assumption; assumption; tm_at "nda") | fail "no way"))
local macro_rules | `(tactic| tm_at "pre") => `(tactic| (apply nd_step; tm_at "nda"; tm_at "sc"; tm_at "sc"; intro xn hxn hnd hrow))
/-! ### errors -/
def Kds (xs : List Nd) (i : Nat) (kd : Str) : Prop := ∃ x, xs[i]? = some x ∧ x.kd = kd
def isK (xs : List Nd) (kd : Str) (i : Nat) : Bool := decide ((xs[i]?.map (·.kd)) = some kd)
theorem isK_at {xs : List Nd} {x : Nd} {kd : Str} {i : Nat} (h : xs[((0 : Int) + (i : Int)).toNat]? = some x) : isK xs kd i = decide (V.str x.kd = V.str kd) := by
  have e : ((0 : Int) + (i : Int)).toNat = i := by omega
  rw [e] at h
  unfold isK
  rw [h]
  by_cases z : x.kd = kd <;> simp [z]
theorem kept_in {f : Nat → Bool} {n i : Nat} (h : i ∈ keptN f n) : i < n ∧ f i = true := by
  unfold keptN at h
  have := List.mem_filter.mp h
  exact ⟨List.mem_range.mp this.1, this.2⟩
/-! ### places that may be set -/
def freeL (kd : Str) (m : Nat) : List Int :=
  if inV (.str kd) [.str (Str.ofString "method"), .str (Str.ofString "iterator")] = true then [] else if kd = Str.ofString "dict" then (List.range (m / 2)).map fun i : Nat => 1 + (i : Int) * 2
  else (List.range (m - (if inV (.str kd) [.str (Str.ofString "class"), .str (Str.ofString "instance")] = true then 1 else 0))).map fun i : Nat => (if inV (.str kd) [.str (Str.ofString "class"), .str (Str.ofString "instance")] = true then 1 else 0) + (i : Int)
theorem freeL_lt {kd : Str} {m : Nat} {e : Int} (h : e ∈ freeL kd m) : 0 ≤ e ∧ e < m := by
  unfold freeL at h
  split at h
  · cases h
  · split at h
    · obtain ⟨i, hi, rfl⟩ := List.mem_map.mp h
      have := List.mem_range.mp hi
      omega
    · obtain ⟨i, hi, rfl⟩ := List.mem_map.mp h
      have := List.mem_range.mp hi
      split at this <;> rename_i z <;> simp only [z, if_true, if_false, Bool.false_eq_true] <;> omega
theorem freeL_len {kd : Str} {m : Nat} : (freeL kd m).length ≤ m := by
  unfold freeL
  split
  · exact Nat.zero_le _
  · split
    · simp; omega
    · simp
theorem rgc2 {m : Nat} (h : m ≤ 1000) : RgC 1 (m : Int) 2 (m / 2) := by
  have e : Builtin.Range.rangeSize 1 (m : Int) 2 = ((m / 2 : Nat) : Int) := by
    unfold Builtin.Range.rangeSize
    rw [if_pos (by decide)]
    split <;> omega
  refine ⟨by decide, by decide, ?_, e⟩
  unfold Builtin.Range.small
  rw [e]
  have b0 : 0 ≤ ((m / 2 : Nat) : Int) := by omega
  have b1 : ((m / 2 : Nat) : Int) ≤ 1000 := by omega
  have b2 : 0 ≤ (m : Int) := by omega
  have b3 : (m : Int) ≤ 1000 := by omega
  generalize ((m / 2 : Nat) : Int) = q at *
  generalize (m : Int) = i at *
  clear e h
  simp only [Builtin.Range.rangeFitsLong, Bool.and_eq_true, Bool.or_eq_true, decide_eq_true_eq, beq_iff_eq, show ((2 : Int) > 0) by decide, if_true]
  omega
@[irreducible] def spFree (K : PySem.W.Frag) : Sp := fun vs H Q _ => ∃ (a row : Addr) (kd : Str) (tv : V) (rs : List V), vs = [.ref a] ∧ H a = some (.lst [.str kd, tv, .ref row]) ∧ H row = some (.lst rs) ∧ rs.length ≤ 200 ∧
  ∀ D H', H D = none → H' D = some (.lst ((freeL kd rs.length).map V.int)) → Fr [] H H' → Q (.ref D) H'
theorem free_step {a row : Addr} {kd : Str} {tv : V} {rs : List V} {H : Hp} {Q : VK} {E : XK} (h1 : H a = some (.lst [.str kd, tv, .ref row])) (h2 : H row = some (.lst rs)) (h3 : rs.length ≤ 200)
    (q : ∀ D H', H D = none → H' D = some (.lst ((freeL kd rs.length).map V.int)) → Fr [] H H' → Q (.ref D) H') : spFree K ([.ref a] ++ []) H Q E := by unfold spFree; exact ⟨a, row, kd, tv, rs, rfl, h1, h2, h3, q⟩
abbrev s_free : Stmt := top 29
theorem sc_free : FnScope ["_law_node", "_law_k"] ["_law_node"] (defScope s_free) := ⟨rfl, rfl, rfl, by decide +kernel, rfl, by decide +kernel, by decide +kernel⟩

theorem ok_free (T : Bl mg) (D : Def1 K mg "_law_free" s_free) : Cal P w K mg base 1 "_law_free" ["_law_node"] (spFree K) := by
  refine D.cal sc_free (fun _ _ _ _ _ _ us hl => match us, hl with | [_], _ => rfl) (fun vs H Q E h => ?_) (fun f cdv A outer s H vs Q E hr h => ?_) <;> unfold spFree at h
  · obtain ⟨a, row, kd, tv, rs, rfl, _⟩ := h
    rfl
  · obtain ⟨a, row, kd, tv, rs, rfl, ha, hrw, lr, q⟩ := h
    refine ⟨_, (pss_cons (ps_if (pt_cmpR (opIn K) (pe_ix (ixL K) (pv 0) pe_int (fun _ _ => rfl)) (pe_tup (pa_cons pe_str (pa_cons pe_str pa_nil))) (by rfl))
      (pss_one (ps_ret (pe_lst pa_nil)))
      pss_nil)
    (pss_cons (ps_if (pt_cmpR op_eq (pe_ix (ixL K) (pv 0) pe_int (fun _ _ => rfl)) pe_str (nomark _))
      (pss_one (ps_ret (pe_lc (own := [("_law_k", 1)]) (g := gName 1) (by rfl) sc_free.nd (pi_range3 (by rfl) T.z_range (pa_cons pe_int (pa_cons (pe_callB (cLen K) (by rfl) T.z_len (by decide +kernel) (pa_cons (pe_ix (ixL K) (pv 0) pe_int (fun _ _ => rfl)) pa_nil)) (pa_cons pe_int pa_nil)))) (blkOk_by (own := [("_law_k", 1)]) (N := [("_law_node" : Str), ("_law_k" : Str)]) (sc := defScope s_free) (by decide +kernel)) (fun _ _ _ _ _ => pg_name (i := 1) sc_free.nd rfl (Or.inl rfl)) (fun _ _ _ _ _ => pts_nil) (fun _ _ _ _ _ => (pv 1)))))
      pss_nil)
    (pss_one (ps_ret (pe_lc (own := [("_law_k", 1)]) (g := gName 1) (by rfl) sc_free.nd (pi_range2 (by rfl) T.z_range (pa_cons (pe_callTy call_int1 (by rfl) T.z_int (by decide +kernel) (pa_cons (pe_cmpR (opIn K) (pe_ix (ixL K) (pv 0) pe_int (fun _ _ => rfl)) (pe_tup (pa_cons pe_str (pa_cons pe_str pa_nil))) (by rfl)) pa_nil)) (pa_cons (pe_callB (cLen K) (by rfl) T.z_len (by decide +kernel) (pa_cons (pe_ix (ixL K) (pv 0) pe_int (fun _ _ => rfl)) pa_nil)) pa_nil))) (blkOk_by (own := [("_law_k", 1)]) (N := [("_law_node" : Str), ("_law_k" : Str)]) (sc := defScope s_free) (by decide +kernel)) (fun _ _ _ _ _ => pg_name (i := 1) sc_free.nd rfl (Or.inl rfl)) (fun _ _ _ _ _ => pts_nil) (fun _ _ _ _ _ => (pv 1))))))), ?_⟩
    tm_at "goo"
    · have e0 : freeL kd rs.length = [] := by unfold freeL; rw [if_pos c]
      rw [e0] at q
      exact q _ _ (by tm_at "free") upd_same (by tm_at "fr")
    · rename_i c1
      have e0 : freeL kd rs.length = (List.range (rs.length / 2)).map fun i : Nat => 1 + (i : Int) * 2 := by unfold freeL; rw [if_neg (by rw [c1]; exact Bool.false_ne_true), if_pos c]
      rw [e0] at q
      refine ⟨_, _, _, rs.length / 2, rfl, rgc2 (by omega), ?_⟩
      refine lcRC (fun _ => true) (fun _ i y => y = .int (1 + (i : Int) * 2)) (Cg.nil _) stab_v (by omega) (fun i H hi hS f => tyes_ok trivial (fun _ h => nomatch h)) (fun i H2 hi _ hS f R kk => ?_) (fun D H' ys nD hD m _ f => ?_)
      · tm_at "goo"
        exact kk _ _ trivial (by tm_at "fr") rfl
      · rw [keptN_all] at m
        rw [m.ints] at hD
        exact q _ _ (by tm_at "free") hD (by tm_at "fr")
    · rename_i p1 np1 c1
      cases z : inV (V.str kd) [V.str (Str.ofString "class"), V.str (Str.ofString "instance")] with
      | true =>
        have e0 : freeL kd rs.length = (List.range (rs.length - 1)).map fun i : Nat => 1 + (i : Int) := by unfold freeL; rw [if_neg (by rw [c1]; exact Bool.false_ne_true), if_neg c]; simp only [z, if_true]
        rw [e0] at q
        refine ⟨_, _, rfl, ⟨by decide, by decide, by omega, by omega⟩, ?_⟩
        refine lcR (fun _ => true) (fun _ i y => y = .int (1 + (i : Int))) (Cg.nil _) stab_v (by omega) (fun i H hi hS f => tyes_ok trivial (fun _ h => nomatch h)) (fun i H2 hi _ hS f R kk => ?_) (fun D H' ys nD hD m _ f => ?_)
        · tm_at "goo"
          exact kk _ _ trivial (by tm_at "fr") rfl
        · rw [keptN_all] at m
          rw [m.ints, show ((rs.length : Int) - (if true = true then 1 else 0)).toNat = rs.length - 1 by rw [if_pos rfl]; omega] at hD
          exact q _ _ (by tm_at "free") hD (by tm_at "fr")
      | false =>
        have e0 : freeL kd rs.length = (List.range rs.length).map fun i : Nat => 0 + (i : Int) := by unfold freeL; rw [if_neg (by rw [c1]; exact Bool.false_ne_true), if_neg c]; simp [z]
        rw [e0] at q
        refine ⟨_, _, rfl, ⟨by decide, by decide, by omega, by omega⟩, ?_⟩
        refine lcR (fun _ => true) (fun _ i y => y = .int (0 + (i : Int))) (Cg.nil _) stab_v (by omega) (fun i H hi hS f => tyes_ok trivial (fun _ h => nomatch h)) (fun i H2 hi _ hS f R kk => ?_) (fun D H' ys nD hD m _ f => ?_)
        · tm_at "goo"
          exact kk _ _ trivial (by tm_at "fr") rfl
        · rw [keptN_all] at m
          rw [m.ints, show ((rs.length : Int) - (if false = true then 1 else 0)).toNat = rs.length by rw [if_neg Bool.false_ne_true]; omega] at hD
          exact q _ _ (by tm_at "free") hD (by tm_at "fr")
theorem Fr.reflL {H : Hp} {a : Addr} {xs : List V} (h : H a = some (.lst xs)) : Fr [a] H H := .refl fun b m ys e => by
  have z : b = a := by simpa using m
  rw [z, h] at e; cases e
end
end M14
set_option Elab.async false
set_option linter.all false
set_option maxRecDepth 100000
set_option maxHeartbeats 4000000
/-! Objects and dicts: readings by name. -/
namespace M14
open PySem PySem.Spec PyProof.Rows L2
@[irreducible] def rxFld (K : PySem.W.Frag) (f : Str) (x : V) (H : Hp) (Q : VK) : Prop := ∃ a C dx fs v, x = .ref a ∧ H a = some (.ins C dx fs) ∧ Cls K C ∧ NoAttr K C f ∧ fs.lookup f = some v ∧ Q v H
def tFldx (K : PySem.W.Frag) (ta : TE) (f : Str) : TE := fun σ H Q => ta σ H fun x H1 => rxFld K f x H1 Q
@[irreducible] def rxPutF (K : PySem.W.Frag) (f : Str) (x y : V) (H : Hp) (R : Hp → Prop) : Prop := ∃ a C dx fs, x = .ref a ∧ H a = some (.ins C dx fs) ∧ Cls K C ∧ NoAttr K C f ∧ fs.length < 1000 ∧ R (upd H a (.ins C dx (putF f y fs)))
def sFldx (K : PySem.W.Frag) (ta tv : TE) (f : Str) : TS := fun D σ H => tv σ H fun y H1 => ta σ H1 fun x H2 => rxPutF K f x y H2 (D.nx σ)
@[irreducible] def rxPut2 (f : Str) (a C : Addr) (z : V) (H : Hp) (R : Hp → Prop) : Prop := ∃ dx fs, H a = some (.ins C dx fs) ∧ fs.length < 1000 ∧ R (upd H a (.ins C dx (putF f z fs)))
@[irreducible] def rxAug (K : PySem.W.Frag) (f : Str) (x : V) (H : Hp) (g : V → VK → Prop) (R : Hp → Prop) : Prop := ∃ a C dx fs v, x = .ref a ∧ H a = some (.ins C dx fs) ∧ Cls K C ∧ NoAttr K C f ∧ fs.lookup f = some v ∧ g v fun z H3 => rxPut2 f a C z H3 R
def sFldAugx (K : PySem.W.Frag) (ta tv : TE) (rd : V → V → Hp → VK → Prop) (f : Str) : TS := fun D σ H => ta σ H fun x H1 => rxAug K f x H1 (fun v R => tv σ H1 fun y H2 => rd v y H2 R) (D.nx σ)
@[irreducible] def rxDGet (x y : V) (H : Hp) (Q : VK) : Prop := ∃ a v, x = .ref a ∧ DGet H a y (some v) ∧ Q v H
def tDGetx (td ty : TE) : TE := fun σ H Q => td σ H fun x H1 => ty σ H1 fun y H2 => rxDGet x y H2 Q
@[irreducible] def rxDPut (x y v : V) (H : Hp) (R : Hp → Prop) : Prop := ∃ a H4, x = .ref a ∧ DPut H a y v H4 ∧ R H4
def sDPutx (td ty tv : TE) : TS := fun D σ H => tv σ H fun v H1 => td σ H1 fun x H2 => ty σ H2 fun y H3 => rxDPut x y v H3 (D.nx σ)
@[irreducible] def rxMk (C : Addr) (sp : Sp) (E : XK) (vs : List V) (H : Hp) (Q : VK) : Prop := ∀ x dx, H x = none → H dx = none → dx ≠ x → sp (.ref x :: vs) (upd (upd H dx (.own x)) x (.ins C dx [])) (fun v H2 => v = .non ∧ Q (.ref x) H2) E
def tMakex (C : Addr) (sp : Sp) (E : XK) (t : TA) : TE := fun σ H Q => t σ H fun vs H1 => rxMk C sp E vs H1 Q
@[irreducible] def rxMth (C : Addr) (m : Str) (x : V) (H : Hp) (R : Prop) : Prop := ∃ a dx fs, x = .ref a ∧ H a = some (.ins C dx fs) ∧ fs.lookup m = none ∧ R
def tMethx (C : Addr) (m : Str) (sp : Sp) (E : XK) (ta : TE) (t : TA) : TE := fun σ H Q => ta σ H fun x H1 => rxMth C m x H1 (t σ H1 fun vs H2 => sp (x :: vs) H2 Q E)
@[irreducible] def rxLenD (xs : List V) (H : Hp) (Q : VK) : Prop := ∃ a kvs, xs = [V.ref a] ∧ H a = some (.dK kvs) ∧ Q (.int kvs.length) H
@[irreducible] def rxDNI (y x : V) (H : Hp) (Q : VK) : Prop := ∃ a o, x = .ref a ∧ DGet H a y o ∧ Q (.bl (!o.isSome)) H
def tDNotInx (ty td : TE) : TE := fun σ H Q => ty σ H fun y H1 => td σ H1 fun x H2 => rxDNI y x H2 Q
@[irreducible] def rxDI (y x : V) (H : Hp) (Q : VK) : Prop := ∃ a o, x = .ref a ∧ DGet H a y o ∧ Q (.bl o.isSome) H
def tDInx (ty td : TE) : TE := fun σ H Q => ty σ H fun y H1 => td σ H1 fun x H2 => rxDI y x H2 Q
@[irreducible] def rxAddI : V → V → Hp → VK → Prop := rAdd
section
variable {X : Cx} {o e value i : Expr} {es : List Expr} {f m x : Str} {p pos pos' tpos apos : Pos} {ta tv td ty : TE} {t : TA} {sp : Sp} {C : Addr} {k : Nat} {ps : List Str}
theorem pe_fldx (K : PySem.W.Frag) (he : PE X e ta) (hb : attributeBase e f X.env (eval e X.env) = eval e X.env) (hK : X.K = K := by rfl) : PE X (.Attribute e f pos) (tFldx K ta f) := by
  have z : tFldx K ta f = tFld X.K ta f := by funext σ H Q; unfold tFldx tFld rxFld; rw [hK]
  rw [z]; exact pe_fld he hb
theorem ps_fldx (K : PySem.W.Frag) (ha : PE X o ta) (hv : PE X value tv) (hs : swapsWith value (some (.Attribute o f pos')) pos.line X.env = pure false) (hK : X.K = K := by rfl) : PS X (.Assign [.Attribute o f pos'] value pos) (sFldx K ta tv f) := by
  have z : sFldx K ta tv f = sFld X.K ta tv f := by funext D σ H; unfold sFldx sFld rxPutF; rw [hK]
  rw [z]; exact ps_fld ha hv hs
theorem ps_fldaugx (K : PySem.W.Frag) {op : Operator} {rd : V → V → Hp → VK → Prop} (ha : PE X o ta) (hv : PE X value tv) (hop : InOp X op rd) (hK : X.K = K := by rfl) : PS X (.AugAssign (.Attribute o f tpos) op value pos) (sFldAugx K ta tv rd f) := by
  have z : sFldAugx K ta tv rd f = sFldAug X.K ta tv rd f := by funext D σ H; unfold sFldAugx sFldAug rxAug rxPut2; rw [hK]
  rw [z]; exact ps_fldaug ha hv hop
theorem in_addx : InOp X .Add rxAddI := by unfold rxAddI; exact in_add
theorem pe_dgetx (hu : X.A.units + 1 < cLine) (ho : PE X o td) (hi : PE X i ty) (hs : NoSl i) : PE X (.Subscript o i pos) (tDGetx td ty) := by
  have z : tDGetx td ty = tDGet td ty := by funext σ H Q; unfold tDGetx tDGet rxDGet; rfl
  rw [z]; exact pe_dget hu ho hi hs
theorem ps_dputx (hu : X.A.units + 1 < cLine) (ho : PE X o td) (hi : PE X i ty) (hv : PE X value tv) (hs : swapsWith value (some (.Subscript o i pos')) pos.line X.env = pure false) : PS X (.Assign [.Subscript o i pos'] value pos) (sDPutx td ty tv) := by
  have z : sDPutx td ty tv = sDPut td ty tv := by funext D σ H; unfold sDPutx sDPut rxDPut; rfl
  rw [z]; exact ps_dput hu ho hi hv hs
theorem pc_dnotinx (hu : X.A.units + 1 < cLine) (hi : PE X i ty) (ho : PE X o td) : PC X .NotIn i o (tDNotInx ty td) := by
  have z : tDNotInx ty td = tDNotIn ty td := by funext σ H Q; unfold tDNotInx tDNotIn rxDNI; rfl
  rw [z]; exact pc_dnotin hu hi ho
theorem pc_dinx (hu : X.A.units + 1 < cLine) (hi : PE X i ty) (ho : PE X o td) : PC X .In i o (tDInx ty td) := by
  have z : tDInx ty td = tDIn ty td := by funext σ H Q; unfold tDInx tDIn rxDI; rfl
  rw [z]; exact pc_din hu hi ho
theorem pe_mkx (c : CalC X.prog X.w X.K X.mg X.base k C x ps sp) (hr : Room (k + 1) X.A) (hg : Gl X x) (ha : PA X (e :: es) t) (hdb : (x == ("__debug__" : Str)) = false := by decide) (he : starEach (e :: es) X.env = (false, eval e X.env) :: starEach es X.env := by rfl) (hpl : (backTo pos (starEach es X.env)).any (·.1) = false := by rfl) :
    PE X (.Call (.Name x p) (e :: es) [] pos) (tMakex C sp E0 t) := by
  have z : tMakex C sp E0 t = tMake C sp [] E0 t := by funext σ H Q; unfold tMakex tMake rxMk; simp only [List.append_nil]
  rw [z]; exact pe_mk c hr hg ha hdb he hpl
theorem pe_mkx0 (c : CalC X.prog X.w X.K X.mg X.base k C x ps sp) (hr : Room (k + 1) X.A) (hg : Gl X x) (hdb : (x == ("__debug__" : Str)) = false := by decide) : PE X (.Call (.Name x p) [] [] pos) (tMakex C sp E0 tNil) := by
  have z : tMakex C sp E0 tNil = tMake C sp [] E0 tNil := by funext σ H Q; unfold tMakex tMake rxMk; simp only [List.append_nil]
  rw [z]; exact pe_mk0 c hr hg hdb
theorem pe_mcalx {pl : Sem Bool} (he : PE X o ta) (c : CalM X.prog X.w X.K X.mg X.base k C m ps sp) (hr : Room k X.A) (ha : PA X (e :: es) t)
    (hst : starEach (e :: es) X.env = (false, eval e X.env) :: starEach es X.env := by rfl) (hpl : (backTo pos (starEach es X.env)).any (·.1) = false := by rfl)
    (ht : eval (.Call (.Attribute o m apos) (e :: es) [] pos) X.env = (do
      let ov ← eval o X.env
      standAt apos.atName
      let (f, first) ← holding [ov] (getMethod ov m pl)
      callWith pos f first (backTo pos (starEach (e :: es) X.env)) (backToKw pos (keywordEach [] X.env))) := by rfl) :
    PE X (.Call (.Attribute o m apos) (e :: es) [] pos) (tMethx C m sp E0 ta t) := by
  have z : tMethx C m sp E0 ta t = tMeth C m sp [] E0 ta t := by funext σ H Q; unfold tMethx tMeth rxMth; simp only [List.append_nil]
  rw [z]; exact pe_mcal he c hr ha hst hpl ht
theorem call_lenDx : CallR X (.builtin "len") rxLenD := by unfold rxLenD; exact call_lenD
end
/-! ### steps -/
theorem lookup_eq {f : Str} {v : V} {r : List (Str × V)} : List.lookup f ((f, v) :: r) = some v := by simp [List.lookup]
theorem lookup_ne {f g : Str} {u : V} {r : List (Str × V)} {z : Option V} (h : (f == g) = false) (q : List.lookup f r = z) : List.lookup f ((g, u) :: r) = z := by rw [List.lookup_cons, h]; exact q
theorem putF_nil {f : Str} {y : V} : putF f y [] = [(f, y)] := rfl
theorem putF_eq {f : Str} {y x : V} {r : List (Str × V)} : putF f y ((f, x) :: r) = (f, y) :: r := if_pos rfl
theorem putF_ne {f g : Str} {y x : V} {r z : List (Str × V)} (h : (f == g) = false) (q : putF f y r = z) : putF f y ((g, x) :: r) = (g, x) :: z := by
  rw [← q]
  exact if_neg fun e => by rw [e] at h; simp at h
theorem fld_step {K : PySem.W.Frag} {f : Str} {H : Hp} {a C dx : Addr} {fs : List (Str × V)} {v : V} {Q : VK} (h : H a = some (.ins C dx fs)) (c : Cls K C) (n : NoAttr K C f) (l : fs.lookup f = some v) (k : Q v H) : rxFld K f (.ref a) H Q := by
  unfold rxFld; exact ⟨a, C, dx, fs, v, rfl, h, c, n, l, k⟩
theorem putf_step {K : PySem.W.Frag} {f : Str} {H : Hp} {a C dx : Addr} {fs fs' : List (Str × V)} {y : V} {R : Hp → Prop} (h : H a = some (.ins C dx fs)) (c : Cls K C) (n : NoAttr K C f) (l : fs.length < 1000) (z : putF f y fs = fs')
    (k : ∀ H', H' a = some (.ins C dx fs') → Fr [a] H H' → R H') : rxPutF K f (.ref a) y H R := by
  unfold rxPutF
  exact ⟨a, C, dx, fs, rfl, h, c, n, l, k _ (by rw [z]; exact upd_same) (Fr.put h (by intro _ q; cases q))⟩
theorem put2_step {f : Str} {H : Hp} {a C dx : Addr} {fs fs' : List (Str × V)} {y : V} {R : Hp → Prop} (h : H a = some (.ins C dx fs)) (l : fs.length < 1000) (z : putF f y fs = fs')
    (k : ∀ H', H' a = some (.ins C dx fs') → Fr [a] H H' → R H') : rxPut2 f a C y H R := by
  unfold rxPut2
  exact ⟨dx, fs, h, l, k _ (by rw [z]; exact upd_same) (Fr.put h (by intro _ q; cases q))⟩
theorem aug_step {K : PySem.W.Frag} {f : Str} {H : Hp} {a C dx : Addr} {fs : List (Str × V)} {v : V} {g : V → VK → Prop} {R : Hp → Prop} (h : H a = some (.ins C dx fs)) (c : Cls K C) (n : NoAttr K C f) (l : fs.lookup f = some v) (k : g v fun z H3 => rxPut2 f a C z H3 R) : rxAug K f (.ref a) H g R := by
  unfold rxAug; exact ⟨a, C, dx, fs, v, rfl, h, c, n, l, k⟩
theorem addI_step {i j : Int} {H : Hp} {Q : VK} (k : Q (.int (i + j)) H) : rxAddI (.int i) (.int j) H Q := by unfold rxAddI; exact ⟨i, j, rfl, rfl, k⟩
theorem dget_step {H : Hp} {a : Addr} {kvs : List (Key × V)} {z : Int} {v : V} {Q : VK} (h : H a = some (.dK kvs)) (e : valV kvs (.inl z) = some v) (k : Q v H) : rxDGet (.ref a) (.int z) H Q := by
  unfold rxDGet
  exact ⟨a, v, rfl, by rw [← e]; exact DGet.k (k := .inl z) h, k⟩
theorem dput_step {H : Hp} {a : Addr} {kvs : List (Key × V)} {z : Int} {v : V} {R : Hp → Prop} (h : H a = some (.dK kvs)) (l : kvs.length < 10000) (k : ∀ H', H' a = some (.dK (putK kvs (.inl z) v)) → Fr [a] H H' → R H') : rxDPut (.ref a) (.int z) v H R := by
  unfold rxDPut
  exact ⟨a, _, rfl, DPut.k (k := .inl z) h (Nat.lt_of_lt_of_le l (by decide)), k _ upd_same (Fr.put h (by intro _ q; cases q))⟩
theorem mk_step {C : Addr} {sp : Sp} {E : XK} {vs : List V} {H : Hp} {Q : VK} (k : ∀ x dx H2, H x = none → H2 x = some (.ins C dx []) → Fr [] H H2 → sp (.ref x :: vs) H2 (fun v H3 => v = .non ∧ Q (.ref x) H3) E) : rxMk C sp E vs H Q := by
  unfold rxMk
  exact fun x dx hx hd ne => k x dx _ hx upd_same ((Fr.new hd).comp0 (Fr.new (by rw [upd_ne (Ne.symm ne)]; exact hx)))
theorem mth_step {C : Addr} {m : Str} {H : Hp} {R : Prop} {a dx : Addr} {fs : List (Str × V)} (h : H a = some (.ins C dx fs)) (l : fs.lookup m = none) (k : R) : rxMth C m (.ref a) H R := by
  unfold rxMth; exact ⟨a, dx, fs, rfl, h, l, k⟩
theorem dnotin_step {H : Hp} {a : Addr} {kvs : List (Key × V)} {z : Int} {Q : VK} (h : H a = some (.dK kvs)) (k : Q (.bl (!(valV kvs (.inl z)).isSome)) H) : rxDNI (.int z) (.ref a) H Q := by
  unfold rxDNI; exact ⟨a, _, rfl, DGet.k (k := .inl z) h, k⟩
theorem din_step {H : Hp} {a : Addr} {kvs : List (Key × V)} {z : Int} {Q : VK} (h : H a = some (.dK kvs)) (k : Q (.bl (valV kvs (.inl z)).isSome) H) : rxDI (.int z) (.ref a) H Q := by
  unfold rxDI; exact ⟨a, _, rfl, DGet.k (k := .inl z) h, k⟩
theorem lenD_step {H : Hp} {a : Addr} {kvs : List (Key × V)} {Q : VK} (h : H a = some (.dK kvs)) (k : Q (.int kvs.length) H) : rxLenD [.ref a] H Q := by unfold rxLenD; exact ⟨a, kvs, rfl, h, k⟩
theorem newD_step {H : Hp} {Q : VK} (k : ∀ p H', H p = none → H' p = some (.dK []) → Fr [] H H' → Q (.ref p) H') (σ : L2.St) : tDNewK σ H Q := fun p hp => k p _ hp upd_same (Fr.new hp)
end M14
set_option Elab.async false
set_option linter.all false
set_option maxRecDepth 100000
set_option maxHeartbeats 4000000
namespace M14
open PySem PySem.Spec PyProof.Rows L2

/-! ### the bank: a store of things -/
structure Th where
  th : Addr
  sl : Addr
  kd : Str
  tv : V
  tg : T
  ss : List V
  us : List T
abbrev thF (kd tv sl : V) : List (Str × V) := [("kind", kd), ("tag", tv), ("slots", sl), ("age", .int 0)]
abbrev bkF (D : Addr) (gr : Int) (tl : List (Str × V)) : List (Str × V) := ("_things", .ref D) :: ("grown", .int gr) :: tl
/-- the methods' names -/
abbrev mths : List Str := ["_keep", "make", "kind_of", "tag_of", "slots_of", "slot", "set_slot", "change", "_remember", "reach", "graph", "collect", "faults", "_collect_full", "_collect_young", "_survivors", "_new_addresses", "_follow", "_note_void"]
/-- an object's further attributes: few, no method's name among them -/
structure TlOk (tl : List (Str × V)) : Prop where
  len : tl.length ≤ 10
  nom : ∀ m ∈ mths, tl.lookup m = none
structure BkA (K : PySem.W.Frag) (ρ : Role) (s : Nat) (step : Int) (CT C : Addr) (tl : List (Str × V)) (H : Hp) (B D : Addr) (ys : List Th) : Prop where
  at_ : ∃ dx gr, H B = some (.ins C dx (bkF D gr tl))
  rB : ρ B = some (s, 0, 0)
  dk : ∃ kvs : List (Key × V), H D = some (.dK kvs) ∧ kvs.length = ys.length ∧ (∀ (i : Nat) (y : Th), ys[i]? = some y → valV kvs (.inl (gT step i)) = some (.ref y.th)) ∧ ∀ z, (∀ i : Nat, i < ys.length → z ≠ gT step i) → valV kvs (.inl z) = none
  rD : ρ D = some (s, 1, 0)
  th : ∀ (i : Nat) (y : Th), ys[i]? = some y → (∃ dx, H y.th = some (.ins CT dx (thF (.str y.kd) y.tv (.ref y.sl)))) ∧ ρ y.th = some (s, 5, i)
  sl : ∀ (i : Nat) (y : Th), ys[i]? = some y → H y.sl = some (.lst y.ss) ∧ ρ y.sl = some (s, 6, i)
  ok : ∀ (i : Nat) (y : Th), ys[i]? = some y → Dens K H y.ss y.us ∧ (∀ t ∈ y.us, Dep 2 t) ∧ Den K H y.tv y.tg ∧ Dep 3 y.tg ∧ y.ss.length ≤ 200
  len : ys.length ≤ 3000
  tll : TlOk tl
  st : step = 1 ∨ step = 2
theorem bk_nom {D : Addr} {gr : Int} {tl : List (Str × V)} (t : TlOk tl) {m : Str} (h : m ∈ mths) : (bkF D gr tl).lookup m = none := by
  have a : ∀ m ∈ mths, (m == ("_things" : Str)) = false ∧ (m == ("grown" : Str)) = false := by decide +kernel
  obtain ⟨a, b⟩ := a m h
  rw [List.lookup_cons, a]
  show List.lookup m (("grown", V.int gr) :: tl) = none
  rw [List.lookup_cons, b]
  exact t.nom m h
/-- the roles grow, where nothing stood -/
def Ext (H : Hp) (r r' : Role) : Prop := ∀ a, H a ≠ none → r' a = r a
theorem Ext.refl {H : Hp} {r : Role} : Ext H r r := fun _ _ => rfl
theorem some_ne {H : Hp} {a : Addr} {o : HO} (h : H a = some o) : H a ≠ none := by rw [h]; exact fun z => nomatch z
theorem NdA.ext {K : PySem.W.Frag} {ρ ρ' : Role} {s : Nat} {n : Int} {H : Hp} {N : Addr} {xs : List Nd} (h : NdA K ρ s n H N xs) (e : Ext H ρ ρ') : NdA K ρ' s n H N xs :=
  ⟨h.at_, by rw [e _ (some_ne h.at_)]; exact h.rN, fun i x q => ⟨(h.nd i x q).1, by rw [e _ (some_ne (h.nd i x q).1)]; exact (h.nd i x q).2⟩,
    fun i x q => ⟨(h.row i x q).1, by rw [e _ (some_ne (h.row i x q).1)]; exact (h.row i x q).2⟩, h.ok, h.len⟩
section
variable {K : PySem.W.Frag} {ρ ρ' : Role} {s : Nat} {step : Int} {CT C : Addr} {tl : List (Str × V)} {H H' : Hp} {B D : Addr} {ys : List Th}
theorem BkA.ext (h : BkA K ρ s step CT C tl H B D ys) (e : Ext H ρ ρ') : BkA K ρ' s step CT C tl H B D ys :=
  ⟨h.at_, by obtain ⟨_, _, z⟩ := h.at_; rw [e _ (some_ne z)]; exact h.rB, h.dk, by obtain ⟨_, z, _⟩ := h.dk; rw [e _ (some_ne z)]; exact h.rD,
    fun i y q => ⟨(h.th i y q).1, by obtain ⟨⟨_, z⟩, r⟩ := h.th i y q; rw [e _ (some_ne z)]; exact r⟩, fun i y q => ⟨(h.sl i y q).1, by obtain ⟨z, r⟩ := h.sl i y q; rw [e _ (some_ne z)]; exact r⟩, h.ok, h.len, h.tll, h.st⟩
theorem BkA.frM {M : List Addr} (h : BkA K ρ s step CT C tl H B D ys) (f : Fr M H H') (aw : Away ρ s M) : BkA K ρ s step CT C tl H' B D ys :=
  ⟨let ⟨dx, gr, z⟩ := h.at_; ⟨dx, gr, f.kp _ _ z fun m => aw _ m _ _ h.rB⟩, h.rB, let ⟨kvs, z, r⟩ := h.dk; ⟨kvs, f.kp _ _ z fun m => aw _ m _ _ h.rD, r⟩, h.rD,
    fun i y q => let ⟨⟨dx, z⟩, r⟩ := h.th i y q; ⟨⟨dx, f.kp _ _ z fun m => aw _ m _ _ r⟩, r⟩, fun i y q => let ⟨z, r⟩ := h.sl i y q; ⟨f.kp _ _ z fun m => aw _ m _ _ r, r⟩,
    fun i y q => let ⟨a, b, c, d⟩ := h.ok i y q; ⟨a.fr f, b, c.fr f, d⟩, h.len, h.tll, h.st⟩
theorem BkA.of0 (f : Fr [] H H') (h : BkA K ρ s step CT C tl H B D ys) : BkA K ρ s step CT C tl H' B D ys := h.frM f .nil
theorem BkA.of1 {b : Addr} (f : Fr [b] H H') (hb : ρ b = none) (h : BkA K ρ s step CT C tl H B D ys) : BkA K ρ s step CT C tl H' B D ys := h.frM f (.one hb)
theorem gT_inj {step : Int} (h : step = 1 ∨ step = 2) {i j : Int} (e : gT step i = gT step j) : i = j := by
  unfold gT at e
  rcases h with rfl | rfl <;> omega
theorem ne_role {a b : Addr} {s s' i i' j j' : Nat} (h : ρ a = some (s, i, j)) (h' : ρ b = some (s', i', j')) (n : i ≠ i') : a ≠ b := fun e => by
  rw [e, h'] at h
  exact n (by injection h with h; injection h with _ h; injection h with h _; exact h.symm)
theorem ne_rolej {a b : Addr} {s s' i i' j j' : Nat} (h : ρ a = some (s, i, j)) (h' : ρ b = some (s', i', j')) (n : j ≠ j') : a ≠ b := fun e => by
  rw [e, h'] at h
  exact n (by injection h with h; injection h with _ h; injection h with _ h; exact h.symm)
theorem Fr.app {M N : List Addr} {H H1 H2 : Hp} (a : Fr M H H1) (b : Fr N H1 H2) (s : ∀ x ∈ N, x ∈ M ∨ H x = none) : Fr M H H2 :=
  ⟨fun x o h m => b.kp x o (a.kp x o h m) fun z => (s x z).elim m fun e => (by rw [e] at h; cases h), a.nt⟩
theorem Fr.app0 {M : List Addr} {H H1 H2 : Hp} (a : Fr M H H1) (b : Fr [] H1 H2) : Fr M H H2 := a.tr b
theorem Fr.appM {M : List Addr} {H H1 H2 : Hp} {x : Addr} (a : Fr M H H1) (b : Fr [x] H1 H2) (m : x ∈ M) : Fr M H H2 := a.app b fun y z => by
  have e : y = x := by simpa using z
  rw [e]; exact .inl m
theorem Fr.appN {M : List Addr} {H H1 H2 : Hp} {x : Addr} (a : Fr M H H1) (b : Fr [x] H1 H2) (n : H x = none) : Fr M H H2 := a.app b fun y z => by
  have e : y = x := by simpa using z
  rw [e]; exact .inr n
end
theorem room_hu {k : Nat} {A : Around} (r : Room k A) : A.units + 1 < cLine := by have := r.units; omega
/-- what of the classes is asked -/
structure ClF (K : PySem.W.Frag) (C CT : Addr) : Prop where
  cC : Cls K C
  nT : NoAttr K C "_things"
  nG : NoAttr K C "grown"
  cT : Cls K CT
  n1 : NoAttr K CT "kind"
  n2 : NoAttr K CT "tag"
  n3 : NoAttr K CT "slots"
  n4 : NoAttr K CT "age"
section
variable {P : Program} {w : World} {K : PySem.W.Frag} {mg : Str → Option Value} {base : Heap}
/-- a class that is made by its __init__ -/
def DefC (K : PySem.W.Frag) (mg : Str → Option Value) (C : Addr) (x qual : Str) (st : Stmt) : Prop := ∃ f fd, FnP K "__init__" qual st f fd ∧ mg x = some (.ref C) ∧ Mk K C f
theorem fnp_cal {m qual : Str} {st : Stmt} {N ps : List Str} {k : Nat} {sp : Sp} {f : Addr} {fd : FuncData} (F : FnP K m qual st f fd) (S : FnScope N ps (defScope st))
    (hb : ∀ (kV doc pm : Value) (an : Option Addr) (cdv ct : Value) (us : List Value), us.length = ps.length → bindArgs (PySem.W.fnOf m qual (defArgs st) (defBody st) (defScope st) .none kV doc pm an cdv ct) ⟨us, []⟩ = pure (ps.zip us))
    (len : ∀ vs H Q E, sp vs H Q E → vs.length = ps.length)
    (hbody : ∀ (f : Addr) (cdv : Value) (A : Around) (outer : List Env) (s : Shared) (H : Hp) (vs : List V) (Q : VK) (E : XK), Room k (A.deeper (envOfC qual (defScope st) s.heap.objs.size f cdv)) → sp vs H Q E →
      ∃ t, PSs (cxOf CX0 P w K mg base N qual (defScope st) f cdv A outer s H E).nox (defBody st) t ∧ t { nx := fun _ H' => Q .non H', rt := Q } (start N vs) H) : FnOk P w K mg base CX0 (k + 1) f fd ps sp ∧ Binds K fd ps [] := by
  refine ⟨F.ok S len fun cdv A outer s H vs Q E hr h => ?_, F.bindsN hb⟩
  obtain ⟨t, h1, h2⟩ := hbody f cdv A outer s H vs Q E hr h
  exact ⟨t, h1.nox, h2⟩
theorem DefC.cal {C : Addr} {x qual : Str} {st : Stmt} {N ps : List Str} {k : Nat} {sp : Sp} (D : DefC K mg C x qual st) (S : FnScope N ps (defScope st))
    (hb : ∀ (kV doc pm : Value) (an : Option Addr) (cdv ct : Value) (us : List Value), us.length = ps.length → bindArgs (PySem.W.fnOf "__init__" qual (defArgs st) (defBody st) (defScope st) .none kV doc pm an cdv ct) ⟨us, []⟩ = pure (ps.zip us))
    (len : ∀ vs H Q E, sp vs H Q E → vs.length = ps.length)
    (hbody : ∀ (f : Addr) (cdv : Value) (A : Around) (outer : List Env) (s : Shared) (H : Hp) (vs : List V) (Q : VK) (E : XK), Room k (A.deeper (envOfC qual (defScope st) s.heap.objs.size f cdv)) → sp vs H Q E →
      ∃ t, PSs (cxOf CX0 P w K mg base N qual (defScope st) f cdv A outer s H E).nox (defBody st) t ∧ t { nx := fun _ H' => Q .non H', rt := Q } (start N vs) H) : CalC P w K mg base (k + 1) C x ps sp := by
  obtain ⟨f, fd, F, g, M⟩ := D
  refine ⟨f, fd, F.ok S len fun cdv A outer s H vs Q E hr h => ?_, g, M, F.bindsN hb⟩
  obtain ⟨t, h1, h2⟩ := hbody f cdv A outer s H vs Q E hr h
  exact ⟨t, h1.nox, h2⟩
set_option hygiene false
local macro_rules | `(tactic| tm_at "sc") => `(tactic| (first | omega | (simp only [List.length_cons, List.length_nil, List.length_map, List.length_set, List.length_append]; omega) | (simp only [List.length_map] at h1 ⊢; omega) | (simp only [List.length_map] at c ⊢; omega) | with_reducible assumption | exact And.intro (by omega) (by omega) | exact Or.inl (And.intro (by omega) (by omega)) | exact Or.inr (And.intro (by omega) (by omega)) | decide +kernel | exact len1000 (by simp) | rfl | fail "no way"))
local macro_rules | `(tactic| tm_at "sc1") => `(tactic| (focus (simp; done)))
local macro_rules | `(tactic| tm_at "ne") => `(tactic| (first | assumption | exact Ne.symm (by assumption) | (apply Box.ne2; assumption; tm_at "hp") | (apply Ne.symm; apply Box.ne2; assumption; tm_at "hp") | (apply ne_of_none2; assumption; tm_at "hp") | (apply Ne.symm; apply ne_of_none2; assumption; tm_at "hp") | fail "no way"))
local macro_rules | `(tactic| tm_at "f0") => `(tactic| (first | assumption | (apply Fr.new; assumption) | fail "no way"))
local macro_rules | `(tactic| tm_at "hp") => `(tactic| (first | assumption | exact upd_same | (apply SqL.of; first | assumption | exact upd_same) | (apply Fr.at0; tm_at "f0"; tm_at "hp") | (apply Fr.at1n; assumption; tm_at "ne"; tm_at "hp") | (apply sqFr0; tm_at "f0"; tm_at "hp") | (apply sqFr1; assumption; tm_at "ne"; tm_at "hp") | (apply Box.fr0; tm_at "f0"; tm_at "hp") | (apply Box.fr1; assumption; tm_at "ne"; tm_at "hp") | (apply Den.fr; tm_at "f0"; tm_at "hp") | (apply Dens.fr; tm_at "f0"; tm_at "hp") | fail "no way"))
local macro_rules | `(tactic| tm_at "free0") => `(tactic| (first | assumption | (apply updFree; assumption) | (apply updFree; apply updFree; assumption) | (apply updFree; apply updFree; apply updFree; assumption) | (apply updFree; apply updFree; apply updFree; apply updFree; assumption) | fail "no way"))
local macro_rules | `(tactic| tm_at "free") => `(tactic| (first | tm_at "free0" | (apply Fr.free; assumption; tm_at "free0") | (apply Box.free; assumption; tm_at "fr"; tm_at "free0") | (apply Fr.free; assumption; apply Fr.free; assumption; tm_at "free0") | fail "no way"))
local macro_rules | `(tactic| tm_at "fr") => `(tactic| (first | assumption | exact Fr.refl0 _ | exact Fr.refl (Box.nt (by assumption)) | (refine Fr.comp0 ?_ (by tm_at "f0"); tm_at "fr") | (refine Fr.comp ?_ (by assumption); tm_at "fr") | (refine Fr.compN ?_ (by assumption) (by tm_at "free"); tm_at "fr") | fail "no way"))
local macro_rules | `(tactic| tm_at "call") => `(tactic| fail "no call")
local macro_rules | `(tactic| tm_at "call") => `(tactic| (apply take_step; tm_at "hp"; tm_at "sc"; tm_at "sc"; intro r H1 h0 h1 hB fr))
local macro_rules | `(tactic| tm_at "ty") => `(tactic| (first | assumption | exact .base .non | exact .base (.bl _) | exact .base (.int _) | exact .base (.str _) | (apply TyX.base; apply TyOf.lst; tm_at "hp") | (apply TyX.base; apply TyOf.tup; tm_at "hp") | fail "no way"))
local macro_rules | `(tactic| tm_at "pre") => `(tactic| fail "none")
local macro_rules | `(tactic| tm_at "go1") => `(tactic| (first | tm_at "pre" | refine ⟨_, rfl, ?_⟩ | refine ⟨_, _, rfl, rfl, ?_⟩ | (apply set_step; tm_at "hp"; tm_at "sc"; tm_at "sc"; intro H1 hp fr) | (with_reducible refine iteDI ?_ ?_ <;> intro c) | (with_reducible refine iteDS ?_ ?_ <;> intro c) | (with_reducible refine iteD ?_ ?_ <;> intro c) | (with_reducible refine iteEM ?_ ?_ <;> intro c) | (with_reducible refine iteE ?_ ?_ <;> intro c) | with_reducible refine iteN ?_ | with_reducible refine iteF ?_ | with_reducible refine iteT ?_ | (refine fun (p : Addr) (np : _ = (none : Option HO)) => ?_; fail_if_success (refine ⟨fun (_ _ : Nat) (_ : Hp) => True, ?_⟩)) | (apply isi_tt; tm_at "ty"; focus (decide +kernel)) | (apply isi_ff; tm_at "ty"; focus (decide +kernel)) | (apply sl_step; tm_at "hp"; intro qq H1 ms nq hq fr) | (apply sum_step; tm_at "hp"; intro i) | (apply tru_step; tm_at "hp") | (apply len_step; tm_at "hp") | (apply lenq_step; assumption) | (apply ixq_step; assumption; tm_at "sc"; tm_at "sc"; intro v hv) | (apply lst_step; tm_at "hp") | (apply tupl_step; tm_at "hp") | (apply ixr_step; tm_at "hp"; exact rfl) | (apply ix0_step; tm_at "hp") | (apply ix1_step; tm_at "hp") | (apply ix2_step; tm_at "hp") | (apply ixi_step; tm_at "hp"; tm_at "sc"; tm_at "sc"; intro n hn hn') | (apply ixl_step; tm_at "hp"; tm_at "sc"; tm_at "sc"; intro v hv) | (apply ixt_step; tm_at "hp"; tm_at "sc"; tm_at "sc"; intro v hm hv) | (apply in_step; tm_at "hp"; rfl; rfl) | (apply cat_step; tm_at "hp"; tm_at "hp"; tm_at "sc") | (apply catT_step; tm_at "hp"; tm_at "hp"; tm_at "sc1") | (apply tyL_and; tm_at "hp") | (apply app_step; tm_at "hp"; tm_at "sc"; intro H1 hp fr) | tm_at "call" | refine ⟨⟨_, rfl⟩, ?_⟩ | (apply ixs_step; tm_at "sc"; tm_at "sc"; tm_at "sc"; intro ch) | refine .inl ⟨_, rfl, ?_⟩ | refine .inr ⟨_, rfl, ?_⟩ | (apply And.intro; tm_at "sc") | (with_reducible refine wayB ?_ ?_ <;> intro c) | fail "no way"))
local macro_rules | `(tactic| tm_at "go") => `(tactic| (repeat tm_at "go1"))
local macro_rules | `(tactic| tm_at "goo") => `(tactic| (repeat' tm_at "go1"))
local macro_rules | `(tactic| tm_at "den") => `(tactic| (first | assumption | exact Den.str _ | exact Den.int _ | exact Den.bl _ | exact Den.non | (apply Den.tups; tm_at "hp"; tm_at "dens") | (apply Den.fr; tm_at "f0"; tm_at "den") | fail "no way"))
local macro_rules | `(tactic| tm_at "dens") => `(tactic| (first | assumption | exact Dens.nil | (apply Dens.cons; tm_at "den"; tm_at "dens") | (apply Dens.fr; tm_at "f0"; tm_at "dens") | fail "no way"))
local macro_rules | `(tactic| tm_at "ix") => `(tactic| (apply Ix.mk; tm_at "hp"; tm_at "ne"; assumption; assumption))
local macro_rules | `(tactic| tm_at "dep") => `(tactic| (first | assumption | exact Dep.int | exact Dep.str | exact Dep.bl | exact Dep.non | (apply Dep.tup; tm_at "dlen"; tm_at "deps") | (apply Dep.mono; assumption; decide) | fail "no way"))
local macro_rules | `(tactic| tm_at "deps") => `(tactic| (first | assumption | exact memN | (apply memC; tm_at "dep"; tm_at "deps") | fail "no way"))
local macro_rules | `(tactic| tm_at "dlen") => `(tactic| (first | assumption | (focus (simp; done)) | omega | fail "no way"))
local macro_rules | `(tactic| tm_at "pre") => `(tactic| (apply rep_step; tm_at "hp"; tm_at "sc"; tm_at "sc"; intro rp H1 nrp hrp fr))

local macro_rules | `(tactic| tm_at "lk") => `(tactic| (first | with_reducible exact lookup_eq | ((with_reducible apply lookup_ne); (focus (decide +kernel)); tm_at "lk") | assumption | rfl | fail "no way"))
local macro_rules | `(tactic| tm_at "pf") => `(tactic| (first | with_reducible exact putF_nil | with_reducible exact putF_eq | ((with_reducible apply putF_ne); (focus (decide +kernel)); tm_at "pf") | fail "no way"))
local macro_rules | `(tactic| tm_at "fl") => `(tactic| (first | assumption | focus (simp only [List.length_cons, List.length_nil]; omega) | focus (simp only [List.length_cons, List.length_nil]; done) | focus (decide) | focus (simp; done) | focus (simp; omega) | fail "no way"))
local macro_rules | `(tactic| tm_at "pre") => `(tactic| (apply fld_step; tm_at "hp"; assumption; assumption; tm_at "lk"))
local macro_rules | `(tactic| tm_at "pre") => `(tactic| (apply putf_step; tm_at "hp"; assumption; assumption; tm_at "fl"; tm_at "pf"; intro H1 hp fr))
local macro_rules | `(tactic| tm_at "pre") => `(tactic| (apply aug_step; tm_at "hp"; assumption; assumption; tm_at "lk"))
local macro_rules | `(tactic| tm_at "pre") => `(tactic| (apply put2_step; tm_at "hp"; tm_at "fl"; tm_at "pf"; intro H1 hp fr))
local macro_rules | `(tactic| tm_at "pre") => `(tactic| (apply dget_step; tm_at "hp"; tm_at "lk"))
local macro_rules | `(tactic| tm_at "pre") => `(tactic| (apply dput_step; tm_at "hp"; (focus (omega)); intro H1 hp fr))
local macro_rules | `(tactic| tm_at "pre") => `(tactic| (apply mth_step; tm_at "hp"; tm_at "lk"))
local macro_rules | `(tactic| tm_at "pre") => `(tactic| (apply lenD_step; tm_at "hp"))
local macro_rules | `(tactic| tm_at "pre") => `(tactic| (apply addI_step))
local macro_rules | `(tactic| tm_at "pre") => `(tactic| (apply newD_step; intro dn H1 nd hp fr))
@[irreducible] def spThing (CT : Addr) : Sp := fun vs H Q _ => ∃ (x dx : Addr) (kd tv sl : V), vs = [.ref x, kd, tv, sl] ∧ H x = some (.ins CT dx []) ∧ ∀ H', H' x = some (.ins CT dx (thF kd tv sl)) → Fr [x] H H' → Q .non H'
abbrev s_Thing_init : Stmt := inClass (top 6) 0
theorem sc_Thing_init : FnScope ["self", "kind", "tag", "slots"] ["self", "kind", "tag", "slots"] (defScope s_Thing_init) := ⟨rfl, rfl, rfl, by decide +kernel, rfl, by decide +kernel, by decide +kernel⟩

theorem ok_Thing {CT : Addr} (c1 : Cls K CT) (n1 : NoAttr K CT "kind") (n2 : NoAttr K CT "tag") (n3 : NoAttr K CT "slots") (n4 : NoAttr K CT "age") (D : DefC K mg CT "Thing" "Thing.__init__" s_Thing_init) : CalC P w K mg base 1 CT "Thing" ["self", "kind", "tag", "slots"] (spThing CT) := by
  refine D.cal sc_Thing_init (fun _ _ _ _ _ _ us hl => match us, hl with | [_, _, _, _], _ => rfl) (fun vs H Q E h => ?_) (fun f cdv A outer s H vs Q E hr h => ?_) <;> unfold spThing at h
  · obtain ⟨x, dx, kd, tv, sl, rfl, _⟩ := h
    rfl
  · obtain ⟨x, dx, kd, tv, sl, rfl, hx, q⟩ := h
    have r0 : Fr [x] H H := .refl fun b m ys e => by
      have z : b = x := by simpa using m
      rw [z, hx] at e; cases e
    refine ⟨_, (pss_cons (ps_fldx K (pv 0) (pv 1) rfl)
    (pss_cons (ps_fldx K (pv 0) (pv 2) rfl)
    (pss_cons (ps_fldx K (pv 0) (pv 3) rfl)
    (pss_one (ps_fldx K (pv 0) pe_int rfl))))), ?_⟩
    tm_at "goo"
    exact q _ (by assumption) (by tm_at "fr")
/-! ### reading the bank -/
@[irreducible] def spKindOf (K : PySem.W.Frag) (CT C : Addr) : Sp := fun vs H Q _ => ∃ (ρ : Role) (s : Nat) (step : Int) (tl : List (Str × V)) (B D va : Addr) (ys : List Th) (u : V) (k : Nat) (y : Th),
  vs = [.ref B, .ref va] ∧ BkA K ρ s step CT C tl H B D ys ∧ H va = some (.tup [u, .int (gT step k)]) ∧ ys[k]? = some y ∧ Q (.str y.kd) H
@[irreducible] def spTagOf (K : PySem.W.Frag) (CT C : Addr) : Sp := fun vs H Q _ => ∃ (ρ : Role) (s : Nat) (step : Int) (tl : List (Str × V)) (B D va : Addr) (ys : List Th) (u : V) (k : Nat) (y : Th),
  vs = [.ref B, .ref va] ∧ BkA K ρ s step CT C tl H B D ys ∧ H va = some (.tup [u, .int (gT step k)]) ∧ ys[k]? = some y ∧ Q y.tv H
@[irreducible] def spSlotsOf (K : PySem.W.Frag) (CT C : Addr) : Sp := fun vs H Q _ => ∃ (ρ : Role) (s : Nat) (step : Int) (tl : List (Str × V)) (B D va : Addr) (ys : List Th) (u : V) (k : Nat) (y : Th),
  vs = [.ref B, .ref va] ∧ BkA K ρ s step CT C tl H B D ys ∧ H va = some (.tup [u, .int (gT step k)]) ∧ ys[k]? = some y ∧ ∀ l H', H l = none → H' l = some (.lst y.ss) → Fr [] H H' → Q (.ref l) H'
@[irreducible] def spSlot (K : PySem.W.Frag) (CT C : Addr) : Sp := fun vs H Q _ => ∃ (ρ : Role) (s : Nat) (step : Int) (tl : List (Str × V)) (B D va : Addr) (ys : List Th) (u : V) (k : Nat) (y : Th) (i : Int),
  vs = [.ref B, .ref va, .int i] ∧ BkA K ρ s step CT C tl H B D ys ∧ H va = some (.tup [u, .int (gT step k)]) ∧ ys[k]? = some y ∧ 0 ≤ i ∧ i < y.ss.length ∧ ∀ v, y.ss[i.toNat]? = some v → Q v H
section
variable {C CT : Addr} {ρ : Role} {s : Nat} {step : Int} {tl : List (Str × V)} {B D va : Addr} {ys : List Th} {u : V} {k : Nat} {y : Th} {H : Hp} {Q : VK} {E : XK} {i : Int}
theorem kindof_step (h : BkA K ρ s step CT C tl H B D ys) (ha : H va = some (.tup [u, .int (gT step k)])) (hy : ys[k]? = some y) (q : Q (.str y.kd) H) : spKindOf K CT C [.ref B, .ref va] H Q E := by
  unfold spKindOf; exact ⟨ρ, s, step, tl, B, D, va, ys, u, k, y, rfl, h, ha, hy, q⟩
theorem tagof_step (h : BkA K ρ s step CT C tl H B D ys) (ha : H va = some (.tup [u, .int (gT step k)])) (hy : ys[k]? = some y) (q : Q y.tv H) : spTagOf K CT C [.ref B, .ref va] H Q E := by
  unfold spTagOf; exact ⟨ρ, s, step, tl, B, D, va, ys, u, k, y, rfl, h, ha, hy, q⟩
theorem slotsof_step (h : BkA K ρ s step CT C tl H B D ys) (ha : H va = some (.tup [u, .int (gT step k)])) (hy : ys[k]? = some y) (q : ∀ l H', H l = none → H' l = some (.lst y.ss) → Fr [] H H' → Q (.ref l) H') : spSlotsOf K CT C [.ref B, .ref va] H Q E := by
  unfold spSlotsOf; exact ⟨ρ, s, step, tl, B, D, va, ys, u, k, y, rfl, h, ha, hy, q⟩
theorem slot_step (h : BkA K ρ s step CT C tl H B D ys) (ha : H va = some (.tup [u, .int (gT step k)])) (hy : ys[k]? = some y) (h0 : 0 ≤ i) (h1 : i < y.ss.length) (q : ∀ v, y.ss[i.toNat]? = some v → Q v H) : spSlot K CT C [.ref B, .ref va, .int i] H Q E := by
  unfold spSlot; exact ⟨ρ, s, step, tl, B, D, va, ys, u, k, y, i, rfl, h, ha, hy, h0, h1, q⟩
end
end
end M14
set_option Elab.async false
set_option linter.all false
set_option maxRecDepth 100000
set_option maxHeartbeats 4000000
namespace M14
open PySem PySem.Spec PyProof.Rows L2

/-! ### len of an own object -/
@[irreducible] def rxLenO (C : Addr) (sp : Sp) (xs : List V) (H : Hp) (Q : VK) : Prop := ∃ a dx fs, xs = [.ref a] ∧ H a = some (.ins C dx fs) ∧ sp [.ref a] H (fun v H' => ∃ n : Int, v = .int n ∧ 0 ≤ n ∧ n < 10000 ∧ Q (.int n) H') E0
theorem call_lenOwn {X : Cx} {C : Addr} {ps : List Str} {sp : Sp} {k : Nat} (c : CalM X.prog X.w X.K X.mg X.base k C "__len__" ps sp) (hr : Room (k + 1) X.A) : CallR X (.builtin "len") (rxLenO C sp) := by
  intro pins s σ H xs us Q I r h
  unfold rxLenO at h
  obtain ⟨a, dx, fs, rfl, ha, hsp⟩ := h
  obtain ⟨u, rfl, ru⟩ := vals1 r
  obtain rfl : u = Value.ref a := ru
  obtain ⟨f, fd, F, cl, hm, hb⟩ := c
  obtain ⟨mA, J, _⟩ := ins_get I.hok ha
  obtain ⟨od, J, _⟩ := J.look
  obtain ⟨m, hF⟩ := I.fr
  refine PySem.W.len_K hF I.ok.mod.kin J hm.at_ hm.fn ?_
  have hl := F.len _ _ _ _ hsp
  have r2 : Vals [V.ref a] [Value.ref a] := .cons rfl .nil
  refine wpAny_call (codeAny_mono (F.run X.A.in1 X.stack s H ⟨[.ref a], []⟩ [.ref a] [.ref a] _ E0 hr.in1 I.env0.in1 (by
    have := hb s [.ref a] I.kIn (by simpa using hl)
    simpa using this) r2 hsp) fun r s' hq => ?_)
  cases r with
  | error e => exact pass0 pins σ H s e s' I hq
  | ok fl =>
    cases fl with
    | ret u =>
      obtain ⟨v, H', I2, rv, n, rfl, n0, n1, q⟩ := I.after hq
      obtain ⟨t, rfl⟩ := (show ∃ t, u = Value.int n t from rv)
      exact ⟨⟨n0, by omega⟩, .int n, H', I2.tok _, ⟨_, rfl⟩, q⟩
    | next => exact False.elim hq
    | brk => exact False.elim hq
    | cont => exact False.elim hq
end M14
set_option Elab.async false
set_option linter.all false
set_option maxRecDepth 100000
set_option maxHeartbeats 4000000
namespace M14
open PySem PySem.Spec PyProof.Rows L2

section
variable {P : Program} {w : World} {K : PySem.W.Frag} {mg : Str → Option Value} {base : Heap}
set_option hygiene false
local macro_rules | `(tactic| tm_at "sc") => `(tactic| (first | omega | (simp only [List.length_cons, List.length_nil, List.length_map, List.length_set, List.length_append]; omega) | (simp only [List.length_map] at h1 ⊢; omega) | (simp only [List.length_map] at c ⊢; omega) | with_reducible assumption | exact And.intro (by omega) (by omega) | exact Or.inl (And.intro (by omega) (by omega)) | exact Or.inr (And.intro (by omega) (by omega)) | decide +kernel | exact len1000 (by simp) | rfl | fail "no way"))
local macro_rules | `(tactic| tm_at "sc1") => `(tactic| (focus (simp; done)))
local macro_rules | `(tactic| tm_at "ne") => `(tactic| (first | assumption | exact Ne.symm (by assumption) | (apply Box.ne2; assumption; tm_at "hp") | (apply Ne.symm; apply Box.ne2; assumption; tm_at "hp") | (apply ne_of_none2; assumption; tm_at "hp") | (apply Ne.symm; apply ne_of_none2; assumption; tm_at "hp") | fail "no way"))
local macro_rules | `(tactic| tm_at "f0") => `(tactic| (first | assumption | (apply Fr.new; assumption) | fail "no way"))
local macro_rules | `(tactic| tm_at "hp") => `(tactic| (first | assumption | exact upd_same | (apply SqL.of; first | assumption | exact upd_same) | (apply Fr.at0; tm_at "f0"; tm_at "hp") | (apply Fr.at1n; assumption; tm_at "ne"; tm_at "hp") | (apply sqFr0; tm_at "f0"; tm_at "hp") | (apply sqFr1; assumption; tm_at "ne"; tm_at "hp") | (apply Box.fr0; tm_at "f0"; tm_at "hp") | (apply Box.fr1; assumption; tm_at "ne"; tm_at "hp") | (apply Den.fr; tm_at "f0"; tm_at "hp") | (apply Dens.fr; tm_at "f0"; tm_at "hp") | fail "no way"))
local macro_rules | `(tactic| tm_at "free0") => `(tactic| (first | assumption | (apply updFree; assumption) | (apply updFree; apply updFree; assumption) | (apply updFree; apply updFree; apply updFree; assumption) | (apply updFree; apply updFree; apply updFree; apply updFree; assumption) | fail "no way"))
local macro_rules | `(tactic| tm_at "free") => `(tactic| (first | tm_at "free0" | (apply Fr.free; assumption; tm_at "free0") | (apply Box.free; assumption; tm_at "fr"; tm_at "free0") | (apply Fr.free; assumption; apply Fr.free; assumption; tm_at "free0") | fail "no way"))
local macro_rules | `(tactic| tm_at "fr") => `(tactic| (first | assumption | exact Fr.refl0 _ | exact Fr.refl (Box.nt (by assumption)) | (refine Fr.comp0 ?_ (by tm_at "f0"); tm_at "fr") | (refine Fr.comp ?_ (by assumption); tm_at "fr") | (refine Fr.compN ?_ (by assumption) (by tm_at "free"); tm_at "fr") | fail "no way"))
local macro_rules | `(tactic| tm_at "call") => `(tactic| fail "no call")
local macro_rules | `(tactic| tm_at "call") => `(tactic| (apply take_step; tm_at "hp"; tm_at "sc"; tm_at "sc"; intro r H1 h0 h1 hB fr))
local macro_rules | `(tactic| tm_at "ty") => `(tactic| (first | assumption | exact .base .non | exact .base (.bl _) | exact .base (.int _) | exact .base (.str _) | (apply TyX.base; apply TyOf.lst; tm_at "hp") | (apply TyX.base; apply TyOf.tup; tm_at "hp") | fail "no way"))
local macro_rules | `(tactic| tm_at "pre") => `(tactic| fail "none")
local macro_rules | `(tactic| tm_at "go1") => `(tactic| (first | tm_at "pre" | refine ⟨_, rfl, ?_⟩ | refine ⟨_, _, rfl, rfl, ?_⟩ | (apply set_step; tm_at "hp"; tm_at "sc"; tm_at "sc"; intro H1 hp fr) | (with_reducible refine iteDI ?_ ?_ <;> intro c) | (with_reducible refine iteDS ?_ ?_ <;> intro c) | (with_reducible refine iteD ?_ ?_ <;> intro c) | (with_reducible refine iteEM ?_ ?_ <;> intro c) | (with_reducible refine iteE ?_ ?_ <;> intro c) | with_reducible refine iteN ?_ | with_reducible refine iteF ?_ | with_reducible refine iteT ?_ | (refine fun (p : Addr) (np : _ = (none : Option HO)) => ?_; fail_if_success (refine ⟨fun (_ _ : Nat) (_ : Hp) => True, ?_⟩)) | (apply isi_tt; tm_at "ty"; focus (decide +kernel)) | (apply isi_ff; tm_at "ty"; focus (decide +kernel)) | (apply sl_step; tm_at "hp"; intro qq H1 ms nq hq fr) | (apply sum_step; tm_at "hp"; intro i) | (apply tru_step; tm_at "hp") | (apply len_step; tm_at "hp") | (apply lenq_step; assumption) | (apply ixq_step; assumption; tm_at "sc"; tm_at "sc"; intro v hv) | (apply lst_step; tm_at "hp") | (apply tupl_step; tm_at "hp") | (apply ixr_step; tm_at "hp"; exact rfl) | (apply ix0_step; tm_at "hp") | (apply ix1_step; tm_at "hp") | (apply ix2_step; tm_at "hp") | (apply ixi_step; tm_at "hp"; tm_at "sc"; tm_at "sc"; intro n hn hn') | (apply ixl_step; tm_at "hp"; tm_at "sc"; tm_at "sc"; intro v hv) | (apply ixt_step; tm_at "hp"; tm_at "sc"; tm_at "sc"; intro v hm hv) | (apply in_step; tm_at "hp"; rfl; rfl) | (apply cat_step; tm_at "hp"; tm_at "hp"; tm_at "sc") | (apply catT_step; tm_at "hp"; tm_at "hp"; tm_at "sc1") | (apply tyL_and; tm_at "hp") | (apply app_step; tm_at "hp"; tm_at "sc"; intro H1 hp fr) | tm_at "call" | refine ⟨⟨_, rfl⟩, ?_⟩ | (apply ixs_step; tm_at "sc"; tm_at "sc"; tm_at "sc"; intro ch) | refine .inl ⟨_, rfl, ?_⟩ | refine .inr ⟨_, rfl, ?_⟩ | (apply And.intro; tm_at "sc") | (with_reducible refine wayB ?_ ?_ <;> intro c) | fail "no way"))
local macro_rules | `(tactic| tm_at "go") => `(tactic| (repeat tm_at "go1"))
local macro_rules | `(tactic| tm_at "goo") => `(tactic| (repeat' tm_at "go1"))
local macro_rules | `(tactic| tm_at "den") => `(tactic| (first | assumption | exact Den.str _ | exact Den.int _ | exact Den.bl _ | exact Den.non | (apply Den.tups; tm_at "hp"; tm_at "dens") | (apply Den.fr; tm_at "f0"; tm_at "den") | fail "no way"))
local macro_rules | `(tactic| tm_at "dens") => `(tactic| (first | assumption | exact Dens.nil | (apply Dens.cons; tm_at "den"; tm_at "dens") | (apply Dens.fr; tm_at "f0"; tm_at "dens") | fail "no way"))
local macro_rules | `(tactic| tm_at "ix") => `(tactic| (apply Ix.mk; tm_at "hp"; tm_at "ne"; assumption; assumption))
local macro_rules | `(tactic| tm_at "dep") => `(tactic| (first | assumption | exact Dep.int | exact Dep.str | exact Dep.bl | exact Dep.non | (apply Dep.tup; tm_at "dlen"; tm_at "deps") | (apply Dep.mono; assumption; decide) | fail "no way"))
local macro_rules | `(tactic| tm_at "deps") => `(tactic| (first | assumption | exact memN | (apply memC; tm_at "dep"; tm_at "deps") | fail "no way"))
local macro_rules | `(tactic| tm_at "dlen") => `(tactic| (first | assumption | (focus (simp; done)) | omega | fail "no way"))
local macro_rules | `(tactic| tm_at "pre") => `(tactic| (apply rep_step; tm_at "hp"; tm_at "sc"; tm_at "sc"; intro rp H1 nrp hrp fr))

local macro_rules | `(tactic| tm_at "lk") => `(tactic| (first | with_reducible exact lookup_eq | ((with_reducible apply lookup_ne); (focus (decide +kernel)); tm_at "lk") | assumption | rfl | fail "no way"))
local macro_rules | `(tactic| tm_at "pf") => `(tactic| (first | with_reducible exact putF_nil | with_reducible exact putF_eq | ((with_reducible apply putF_ne); (focus (decide +kernel)); tm_at "pf") | fail "no way"))
local macro_rules | `(tactic| tm_at "fl") => `(tactic| (first | assumption | focus (simp only [List.length_cons, List.length_nil]; omega) | focus (simp only [List.length_cons, List.length_nil]; done) | focus (decide) | focus (simp; done) | focus (simp; omega) | fail "no way"))
local macro_rules | `(tactic| tm_at "pre") => `(tactic| (apply fld_step; tm_at "hp"; assumption; assumption; tm_at "lk"))
local macro_rules | `(tactic| tm_at "pre") => `(tactic| (apply putf_step; tm_at "hp"; assumption; assumption; tm_at "fl"; tm_at "pf"; intro H1 hp fr))
local macro_rules | `(tactic| tm_at "pre") => `(tactic| (apply aug_step; tm_at "hp"; assumption; assumption; tm_at "lk"))
local macro_rules | `(tactic| tm_at "pre") => `(tactic| (apply put2_step; tm_at "hp"; tm_at "fl"; tm_at "pf"; intro H1 hp fr))
local macro_rules | `(tactic| tm_at "pre") => `(tactic| (apply dget_step; tm_at "hp"; tm_at "lk"))
local macro_rules | `(tactic| tm_at "pre") => `(tactic| (apply dput_step; tm_at "hp"; (focus (omega)); intro H1 hp fr))
local macro_rules | `(tactic| tm_at "pre") => `(tactic| (apply mth_step; tm_at "hp"; tm_at "lk"))
local macro_rules | `(tactic| tm_at "pre") => `(tactic| (apply lenD_step; tm_at "hp"))
local macro_rules | `(tactic| tm_at "pre") => `(tactic| (apply addI_step))
local macro_rules | `(tactic| tm_at "pre") => `(tactic| (apply newD_step; intro dn H1 nd hp fr))
local macro_rules | `(tactic| tm_at "fr2") => `(tactic| (first | assumption | (apply Fr.appMb; assumption; (focus (simp; done)); tm_at "fr2") | (apply Fr.app0b; tm_at "f0"; tm_at "fr2") | (apply Fr.appNb; assumption; tm_at "free"; tm_at "fr2") | fail "no way"))
local macro_rules | `(tactic| tm_at "ne") => `(tactic| (apply ne_role; assumption; assumption; (focus (decide))))
local macro_rules | `(tactic| tm_at "pre") => `(tactic| (apply dnotin_step; tm_at "hp"))
local macro_rules | `(tactic| tm_at "pre") => `(tactic| (apply din_step; tm_at "hp"))

/-! ### changing the bank -/
@[irreducible] def spLen (K : PySem.W.Frag) (CT C : Addr) : Sp := fun vs H Q _ => ∃ (ρ : Role) (s : Nat) (step : Int) (tl : List (Str × V)) (B D : Addr) (ys : List Th), vs = [.ref B] ∧ BkA K ρ s step CT C tl H B D ys ∧ Q (.int ys.length) H
theorem len_own_step {CT C : Addr} {ρ : Role} {s : Nat} {step : Int} {tl : List (Str × V)} {B D : Addr} {ys : List Th} {H : Hp} {Q : VK} (h : BkA K ρ s step CT C tl H B D ys) (q : Q (.int ys.length) H) : rxLenO C (spLen K CT C) [.ref B] H Q := by
  unfold rxLenO spLen
  obtain ⟨dx, gr, hB⟩ := h.at_
  exact ⟨B, _, _, rfl, hB, ρ, s, step, tl, B, D, ys, rfl, h, _, rfl, by omega, by have := h.len; omega, q⟩
abbrev s_Store_len : Stmt := inClass (top 8) 2
theorem sc_Store_len : FnScope ["self"] ["self"] (defScope s_Store_len) := ⟨rfl, rfl, rfl, by decide +kernel, rfl, by decide +kernel, by decide +kernel⟩

theorem ok_len {C CT : Addr} (cf : ClF K C CT) (T : Bl mg) (D : Def2 K C "__len__" "Store.__len__" s_Store_len) : CalM P w K mg base 1 C "__len__" ["self"] (spLen K CT C) := by
  refine D.cal cf.cC sc_Store_len (fun _ _ _ _ _ _ us hl => match us, hl with | [_], _ => rfl) (fun vs H Q E h => ?_) (fun f cdv A outer s H vs Q E hr h => ?_) <;> unfold spLen at h
  · obtain ⟨ρ, sd, step, tl, B, dD, ys, rfl, _⟩ := h
    rfl
  · obtain ⟨ρ, sd, step, tl, B, dD, ys, rfl, hb, q⟩ := h
    obtain ⟨c1, a1, a2, c2, n1, n2, n3, n4⟩ := cf
    obtain ⟨dx, gr, hB⟩ := hb.at_
    obtain ⟨kvs, hD, hl, hg, _⟩ := hb.dk
    rw [← hl] at q
    refine ⟨_, (pss_one (ps_ret (pe_callB call_lenDx (by rfl) T.z_len (by decide +kernel) (pa_cons (pe_fldx K (pv 0) rfl) pa_nil)))), ?_⟩
    tm_at "goo"
    exact q
/-- the bank behind a set slot -/
theorem BkA.set {ρ : Role} {s : Nat} {step : Int} {CT C : Addr} {tl : List (Str × V)} {H H' : Hp} {B D : Addr} {ys : List Th} {k : Nat} {y y' : Th} (h : BkA K ρ s step CT C tl H B D ys) (hy : ys[k]? = some y) (e1 : y'.th = y.th) (e2 : y'.sl = y.sl) (e3 : y'.kd = y.kd) (e4 : y'.tv = y.tv) (e5 : y'.tg = y.tg)
    (hs : H' y.sl = some (.lst y'.ss)) (f : Fr [y.sl] H H') (ds : Dens K H' y'.ss y'.us) (dd : ∀ t ∈ y'.us, Dep 2 t) (l : y'.ss.length ≤ 200) : BkA K ρ s step CT C tl H' B D (ys.set k y') := by
  have rs := (h.sl k y hy).2
  have nm : ∀ (a : Addr) (i j : Nat), ρ a = some (s, i, j) → i ≠ 6 → a ∉ [y.sl] := fun a i j e n m => by
    have z : a = y.sl := by simpa using m
    rw [z, rs] at e
    injection e with e
    injection e with _ e
    injection e with e _
    exact n e.symm
  have hk := (List.getElem?_eq_some_iff.mp hy).1
  have get : ∀ (i : Nat) (z : Th), (ys.set k y')[i]? = some z → (i = k ∧ z = y') ∨ (i ≠ k ∧ ys[i]? = some z) := fun i z e => by
    by_cases q : i = k
    · subst q
      rw [List.getElem?_set_self hk] at e
      exact .inl ⟨rfl, (Option.some.inj e).symm⟩
    · rw [List.getElem?_set_ne (Ne.symm q)] at e
      exact .inr ⟨q, e⟩
  refine ⟨let ⟨dx, gr, z⟩ := h.at_; ⟨dx, gr, f.kp _ _ z (nm _ _ _ h.rB (by decide))⟩, h.rB, ?_, h.rD, fun i z e => ?_, fun i z e => ?_, fun i z e => ?_, by rw [List.length_set]; exact h.len, h.tll, h.st⟩
  · obtain ⟨kvs, z, l1, g1, g2⟩ := h.dk
    refine ⟨kvs, f.kp _ _ z (nm _ _ _ h.rD (by decide)), by rw [List.length_set]; exact l1, fun i z e => ?_, fun z q => g2 z fun i hi => q i (by rw [List.length_set]; exact hi)⟩
    rcases get i z e with ⟨rfl, rfl⟩ | ⟨_, e⟩
    · rw [e1]; exact g1 _ y hy
    · exact g1 i z e
  · rcases get i z e with ⟨rfl, rfl⟩ | ⟨_, e⟩
    · obtain ⟨⟨dx, z⟩, r⟩ := h.th _ y hy
      rw [e1, e2, e3, e4]
      exact ⟨⟨dx, f.kp _ _ z (nm _ _ _ r (by decide))⟩, r⟩
    · obtain ⟨⟨dx, z⟩, r⟩ := h.th i z e
      exact ⟨⟨dx, f.kp _ _ z (nm _ _ _ r (by decide))⟩, r⟩
  · rcases get i z e with ⟨rfl, rfl⟩ | ⟨n, e⟩
    · rw [e2]; exact ⟨hs, rs⟩
    · obtain ⟨a, r⟩ := h.sl i z e
      exact ⟨f.kp _ _ a (by simpa using ne_rolej r rs n), r⟩
  · rcases get i z e with ⟨rfl, rfl⟩ | ⟨_, e⟩
    · obtain ⟨_, _, c, d, _⟩ := h.ok _ y hy
      rw [e4, e5]
      exact ⟨ds, dd, c.fr f, d, l⟩
    · obtain ⟨a, b, c, d⟩ := h.ok i z e
      exact ⟨a.fr f, b, c.fr f, d⟩
@[irreducible] def spSetSlot (K : PySem.W.Frag) (CT C : Addr) (step : Int) : Sp := fun vs H Q _ => ∃ (ρ : Role) (s : Nat) (tl : List (Str × V)) (B D va : Addr) (ys : List Th) (u : V) (k : Nat) (y : Th) (i : Int) (v : V) (t : T),
  vs = [.ref B, .ref va, .int i, v] ∧ BkA K ρ s step CT C tl H B D ys ∧ H va = some (.tup [u, .int (gT step k)]) ∧ ys[k]? = some y ∧ 0 ≤ i ∧ i < y.ss.length ∧ Den K H v t ∧ Dep 2 t ∧
  ∀ H', BkA K ρ s step CT C tl H' B D (ys.set k { y with ss := y.ss.set i.toNat v, us := y.us.set i.toNat t }) → Fr [y.sl] H H' → Q .non H'
theorem setslot_step {CT C : Addr} {ρ : Role} {s : Nat} {step : Int} {tl : List (Str × V)} {B D va : Addr} {ys : List Th} {u : V} {k : Nat} {y : Th} {i : Int} {v : V} {t : T} {H : Hp} {Q : VK} {E : XK} (h : BkA K ρ s step CT C tl H B D ys) (ha : H va = some (.tup [u, .int (gT step k)])) (hy : ys[k]? = some y)
    (h0 : 0 ≤ i) (h1 : i < y.ss.length) (dv : Den K H v t) (dt : Dep 2 t) (q : ∀ H', BkA K ρ s step CT C tl H' B D (ys.set k { y with ss := y.ss.set i.toNat v, us := y.us.set i.toNat t }) → Fr [y.sl] H H' → Q .non H') : spSetSlot K CT C step [.ref B, .ref va, .int i, v] H Q E := by
  unfold spSetSlot; exact ⟨ρ, s, tl, B, D, va, ys, u, k, y, i, v, t, rfl, h, ha, hy, h0, h1, dv, dt, q⟩
theorem Dens.set {H : Hp} {xs : List V} {ts : List T} {x : V} {t : T} {i : Nat} (h : Dens K H xs ts) (d : Den K H x t) : Dens K H (xs.set i x) (ts.set i t) := by
  refine ⟨by rw [List.length_set, List.length_set]; exact h.1, fun j a b ea eb => ?_⟩
  by_cases q : i = j
  · subst q
    have hi := (List.getElem?_eq_some_iff.mp ea).1
    have hj := (List.getElem?_eq_some_iff.mp eb).1
    rw [List.length_set] at hi hj
    rw [List.getElem?_set_self hi] at ea
    rw [List.getElem?_set_self hj] at eb
    cases ea; cases eb
    exact d
  · rw [List.getElem?_set_ne q] at ea eb
    exact h.2 j a b ea eb
theorem in_set {α : Type} {p : α → Prop} {xs : List α} {y : α} {i : Nat} (h : ∀ x ∈ xs, p x) (hy : p y) : ∀ x ∈ xs.set i y, p x := fun x m => by
  rcases List.mem_or_eq_of_mem_set m with m | rfl
  · exact h x m
  · exact hy
abbrev s_Store_set_slot : Stmt := inClass (top 8) 9
theorem sc_Store_set_slot : FnScope ["self", "value", "index", "entry", "thing"] ["self", "value", "index", "entry"] (defScope s_Store_set_slot) := ⟨rfl, rfl, rfl, by decide +kernel, rfl, by decide +kernel, by decide +kernel⟩

theorem fn_set_slot {C CT : Addr} {step : Int} (cf : ClF K C CT) (T : Bl mg) {f : Addr} {fd : FuncData} (D : FnP K "set_slot" "Store.set_slot" s_Store_set_slot f fd) : FnOk P w K mg base CX0 1 f fd ["self", "value", "index", "entry"] (spSetSlot K CT C step) ∧ Binds K fd ["self", "value", "index", "entry"] [] := by
  refine fnp_cal D sc_Store_set_slot (fun _ _ _ _ _ _ us hl => match us, hl with | [_, _, _, _], _ => rfl) (fun vs H Q E h => ?_) (fun f cdv A outer s H vs Q E hr h => ?_) <;> unfold spSetSlot at h
  · obtain ⟨ρ, sd, tl, B, dD, va, ys, u, k, y, i, v, t, rfl, _⟩ := h
    rfl
  · obtain ⟨ρ, sd, tl, B, dD, va, ys, u, k, y, i, v, t, rfl, hb, hv, hy, i0, i1, dv, dt0, q⟩ := h
    obtain ⟨c1, a1, a2, c2, n1, n2, n3, n4⟩ := cf
    obtain ⟨dx, gr, hB⟩ := hb.at_
    obtain ⟨kvs, hD, hl, hg, _⟩ := hb.dk
    obtain ⟨⟨dt, ht⟩, rt⟩ := hb.th k y hy
    have e := hg k y hy
    have hu := room_hu hr
    have hs := (hb.sl k y hy).1
    obtain ⟨o1, o2, o3, o4, o5⟩ := hb.ok k y hy
    refine ⟨_, (pss_cons (ps_set (i := 4) sc_Store_set_slot.nd rfl (Or.inl rfl) (pe_dgetx hu (pe_fldx K (pv 0) rfl) (pe_ix (ixT K) (pv 1) pe_int (fun _ _ => rfl)) (fun _ _ => rfl)))
    (pss_one (ps_asg (pv 3) (pg_sub (pe_fldx K (pv 4) rfl) (pv 2) setL)))), ?_⟩
    tm_at "goo"
    exact q _ (hb.set hy rfl rfl rfl rfl rfl hp fr ((o1.fr fr).set (dv.fr fr)) (in_set o2 dt0) (by simpa using o5)) fr
theorem ok_set_slot {C CT : Addr} {step : Int} (cf : ClF K C CT) (T : Bl mg) (D : Def2 K C "set_slot" "Store.set_slot" s_Store_set_slot) : CalM P w K mg base 1 C "set_slot" ["self", "value", "index", "entry"] (spSetSlot K CT C step) := by
  obtain ⟨f, fd, F, g⟩ := D
  obtain ⟨h1, h2⟩ := fn_set_slot (P := P) (w := w) (mg := mg) (base := base) cf T F
  exact ⟨f, fd, h1, cf.cC, g, h2⟩
end
end M14
set_option Elab.async false
set_option linter.all false
set_option maxRecDepth 100000
set_option maxHeartbeats 4000000
namespace M14
open PySem PySem.Spec PyProof.Rows L2

section
variable {P : Program} {w : World} {K : PySem.W.Frag} {mg : Str → Option Value} {base : Heap}
set_option hygiene false
local macro_rules | `(tactic| tm_at "sc") => `(tactic| (first | omega | (simp only [List.length_cons, List.length_nil, List.length_map, List.length_set, List.length_append]; omega) | (simp only [List.length_map] at h1 ⊢; omega) | (simp only [List.length_map] at c ⊢; omega) | with_reducible assumption | exact And.intro (by omega) (by omega) | exact Or.inl (And.intro (by omega) (by omega)) | exact Or.inr (And.intro (by omega) (by omega)) | decide +kernel | exact len1000 (by simp) | rfl | fail "no way"))
local macro_rules | `(tactic| tm_at "sc1") => `(tactic| (focus (simp; done)))
local macro_rules | `(tactic| tm_at "ne") => `(tactic| (first | assumption | exact Ne.symm (by assumption) | (apply Box.ne2; assumption; tm_at "hp") | (apply Ne.symm; apply Box.ne2; assumption; tm_at "hp") | (apply ne_of_none2; assumption; tm_at "hp") | (apply Ne.symm; apply ne_of_none2; assumption; tm_at "hp") | fail "no way"))
local macro_rules | `(tactic| tm_at "f0") => `(tactic| (first | assumption | (apply Fr.new; assumption) | fail "no way"))
local macro_rules | `(tactic| tm_at "hp") => `(tactic| (first | assumption | exact upd_same | (apply SqL.of; first | assumption | exact upd_same) | (apply Fr.at0; tm_at "f0"; tm_at "hp") | (apply Fr.at1n; assumption; tm_at "ne"; tm_at "hp") | (apply sqFr0; tm_at "f0"; tm_at "hp") | (apply sqFr1; assumption; tm_at "ne"; tm_at "hp") | (apply Box.fr0; tm_at "f0"; tm_at "hp") | (apply Box.fr1; assumption; tm_at "ne"; tm_at "hp") | (apply Den.fr; tm_at "f0"; tm_at "hp") | (apply Dens.fr; tm_at "f0"; tm_at "hp") | fail "no way"))
local macro_rules | `(tactic| tm_at "free0") => `(tactic| (first | assumption | (apply updFree; assumption) | (apply updFree; apply updFree; assumption) | (apply updFree; apply updFree; apply updFree; assumption) | (apply updFree; apply updFree; apply updFree; apply updFree; assumption) | fail "no way"))
local macro_rules | `(tactic| tm_at "free") => `(tactic| (first | tm_at "free0" | (apply Fr.free; assumption; tm_at "free0") | (apply Box.free; assumption; tm_at "fr"; tm_at "free0") | (apply Fr.free; assumption; apply Fr.free; assumption; tm_at "free0") | fail "no way"))
local macro_rules | `(tactic| tm_at "fr") => `(tactic| (first | assumption | exact Fr.refl0 _ | exact Fr.refl (Box.nt (by assumption)) | (refine Fr.comp0 ?_ (by tm_at "f0"); tm_at "fr") | (refine Fr.comp ?_ (by assumption); tm_at "fr") | (refine Fr.compN ?_ (by assumption) (by tm_at "free"); tm_at "fr") | fail "no way"))
local macro_rules | `(tactic| tm_at "call") => `(tactic| fail "no call")
local macro_rules | `(tactic| tm_at "call") => `(tactic| (apply take_step; tm_at "hp"; tm_at "sc"; tm_at "sc"; intro r H1 h0 h1 hB fr))
local macro_rules | `(tactic| tm_at "ty") => `(tactic| (first | assumption | exact .base .non | exact .base (.bl _) | exact .base (.int _) | exact .base (.str _) | (apply TyX.base; apply TyOf.lst; tm_at "hp") | (apply TyX.base; apply TyOf.tup; tm_at "hp") | fail "no way"))
local macro_rules | `(tactic| tm_at "pre") => `(tactic| fail "none")
local macro_rules | `(tactic| tm_at "go1") => `(tactic| (first | tm_at "pre" | refine ⟨_, rfl, ?_⟩ | refine ⟨_, _, rfl, rfl, ?_⟩ | (apply set_step; tm_at "hp"; tm_at "sc"; tm_at "sc"; intro H1 hp fr) | (with_reducible refine iteDI ?_ ?_ <;> intro c) | (with_reducible refine iteDS ?_ ?_ <;> intro c) | (with_reducible refine iteD ?_ ?_ <;> intro c) | (with_reducible refine iteEM ?_ ?_ <;> intro c) | (with_reducible refine iteE ?_ ?_ <;> intro c) | with_reducible refine iteN ?_ | with_reducible refine iteF ?_ | with_reducible refine iteT ?_ | (refine fun (p : Addr) (np : _ = (none : Option HO)) => ?_; fail_if_success (refine ⟨fun (_ _ : Nat) (_ : Hp) => True, ?_⟩)) | (apply isi_tt; tm_at "ty"; focus (decide +kernel)) | (apply isi_ff; tm_at "ty"; focus (decide +kernel)) | (apply sl_step; tm_at "hp"; intro qq H1 ms nq hq fr) | (apply sum_step; tm_at "hp"; intro i) | (apply tru_step; tm_at "hp") | (apply len_step; tm_at "hp") | (apply lenq_step; assumption) | (apply ixq_step; assumption; tm_at "sc"; tm_at "sc"; intro v hv) | (apply lst_step; tm_at "hp") | (apply tupl_step; tm_at "hp") | (apply ixr_step; tm_at "hp"; exact rfl) | (apply ix0_step; tm_at "hp") | (apply ix1_step; tm_at "hp") | (apply ix2_step; tm_at "hp") | (apply ixi_step; tm_at "hp"; tm_at "sc"; tm_at "sc"; intro n hn hn') | (apply ixl_step; tm_at "hp"; tm_at "sc"; tm_at "sc"; intro v hv) | (apply ixt_step; tm_at "hp"; tm_at "sc"; tm_at "sc"; intro v hm hv) | (apply in_step; tm_at "hp"; rfl; rfl) | (apply cat_step; tm_at "hp"; tm_at "hp"; tm_at "sc") | (apply catT_step; tm_at "hp"; tm_at "hp"; tm_at "sc1") | (apply tyL_and; tm_at "hp") | (apply app_step; tm_at "hp"; tm_at "sc"; intro H1 hp fr) | tm_at "call" | refine ⟨⟨_, rfl⟩, ?_⟩ | (apply ixs_step; tm_at "sc"; tm_at "sc"; tm_at "sc"; intro ch) | refine .inl ⟨_, rfl, ?_⟩ | refine .inr ⟨_, rfl, ?_⟩ | (apply And.intro; tm_at "sc") | (with_reducible refine wayB ?_ ?_ <;> intro c) | fail "no way"))
local macro_rules | `(tactic| tm_at "go") => `(tactic| (repeat tm_at "go1"))
local macro_rules | `(tactic| tm_at "goo") => `(tactic| (repeat' tm_at "go1"))
local macro_rules | `(tactic| tm_at "den") => `(tactic| (first | assumption | exact Den.str _ | exact Den.int _ | exact Den.bl _ | exact Den.non | (apply Den.tups; tm_at "hp"; tm_at "dens") | (apply Den.fr; tm_at "f0"; tm_at "den") | fail "no way"))
local macro_rules | `(tactic| tm_at "dens") => `(tactic| (first | assumption | exact Dens.nil | (apply Dens.cons; tm_at "den"; tm_at "dens") | (apply Dens.fr; tm_at "f0"; tm_at "dens") | fail "no way"))
local macro_rules | `(tactic| tm_at "ix") => `(tactic| (apply Ix.mk; tm_at "hp"; tm_at "ne"; assumption; assumption))
local macro_rules | `(tactic| tm_at "dep") => `(tactic| (first | assumption | exact Dep.int | exact Dep.str | exact Dep.bl | exact Dep.non | (apply Dep.tup; tm_at "dlen"; tm_at "deps") | (apply Dep.mono; assumption; decide) | fail "no way"))
local macro_rules | `(tactic| tm_at "deps") => `(tactic| (first | assumption | exact memN | (apply memC; tm_at "dep"; tm_at "deps") | fail "no way"))
local macro_rules | `(tactic| tm_at "dlen") => `(tactic| (first | assumption | (focus (simp; done)) | omega | fail "no way"))
local macro_rules | `(tactic| tm_at "pre") => `(tactic| (apply rep_step; tm_at "hp"; tm_at "sc"; tm_at "sc"; intro rp H1 nrp hrp fr))

local macro_rules | `(tactic| tm_at "lk") => `(tactic| (first | with_reducible exact lookup_eq | ((with_reducible apply lookup_ne); (focus (decide +kernel)); tm_at "lk") | assumption | rfl | fail "no way"))
local macro_rules | `(tactic| tm_at "pf") => `(tactic| (first | with_reducible exact putF_nil | with_reducible exact putF_eq | ((with_reducible apply putF_ne); (focus (decide +kernel)); tm_at "pf") | fail "no way"))
local macro_rules | `(tactic| tm_at "fl") => `(tactic| (first | assumption | focus (simp only [List.length_cons, List.length_nil]; omega) | focus (simp only [List.length_cons, List.length_nil]; done) | focus (decide) | focus (simp; done) | focus (simp; omega) | fail "no way"))
local macro_rules | `(tactic| tm_at "pre") => `(tactic| (apply fld_step; tm_at "hp"; assumption; assumption; tm_at "lk"))
local macro_rules | `(tactic| tm_at "pre") => `(tactic| (apply putf_step; tm_at "hp"; assumption; assumption; tm_at "fl"; tm_at "pf"; intro H1 hp fr))
local macro_rules | `(tactic| tm_at "pre") => `(tactic| (apply aug_step; tm_at "hp"; assumption; assumption; tm_at "lk"))
local macro_rules | `(tactic| tm_at "pre") => `(tactic| (apply put2_step; tm_at "hp"; tm_at "fl"; tm_at "pf"; intro H1 hp fr))
local macro_rules | `(tactic| tm_at "pre") => `(tactic| (apply dget_step; tm_at "hp"; tm_at "lk"))
local macro_rules | `(tactic| tm_at "pre") => `(tactic| (apply dput_step; tm_at "hp"; (focus (omega)); intro H1 hp fr))
local macro_rules | `(tactic| tm_at "pre") => `(tactic| (apply mth_step; tm_at "hp"; tm_at "lk"))
local macro_rules | `(tactic| tm_at "pre") => `(tactic| (apply lenD_step; tm_at "hp"))
local macro_rules | `(tactic| tm_at "pre") => `(tactic| (apply addI_step))
local macro_rules | `(tactic| tm_at "pre") => `(tactic| (apply newD_step; intro dn H1 nd hp fr))
local macro_rules | `(tactic| tm_at "fr2") => `(tactic| (first | assumption | (apply Fr.appMb; assumption; (focus (simp; done)); tm_at "fr2") | (apply Fr.app0b; tm_at "f0"; tm_at "fr2") | (apply Fr.appNb; assumption; tm_at "free"; tm_at "fr2") | fail "no way"))
local macro_rules | `(tactic| tm_at "ne") => `(tactic| (apply ne_role; assumption; assumption; (focus (decide))))
local macro_rules | `(tactic| tm_at "pre") => `(tactic| (apply dnotin_step; tm_at "hp"))
local macro_rules | `(tactic| tm_at "pre") => `(tactic| (apply din_step; tm_at "hp"))

theorem Fr.refl2 {H : Hp} {a b C C' dx : Addr} {fs : List (Str × V)} {o : HO} (h : H a = some (.ins C dx fs)) (h' : H b = some o) (n : ∀ xs, o ≠ .tup xs) : Fr [a, b] H H := .refl fun x m ys e => by
  simp only [List.mem_cons, List.not_mem_nil, or_false] at m
  rcases m with rfl | rfl
  · rw [h] at e; cases e
  · rw [h'] at e; exact n _ (Option.some.inj e)
theorem Fr.app0b {M : List Addr} {H H1 H2 : Hp} (b : Fr [] H1 H2) (a : Fr M H H1) : Fr M H H2 := a.tr b
theorem Fr.appMb {M : List Addr} {H H1 H2 : Hp} {x : Addr} (b : Fr [x] H1 H2) (m : x ∈ M) (a : Fr M H H1) : Fr M H H2 := a.appM b m
theorem Fr.appNb {M : List Addr} {H H1 H2 : Hp} {x : Addr} (b : Fr [x] H1 H2) (n : H x = none) (a : Fr M H H1) : Fr M H H2 := a.appN b n
theorem up_role {ρ : Role} {H : Hp} {l : Addr} {r : Nat × Nat × Nat} (h : H l = none) : Ext H ρ (fun a => if a = l then some r else ρ a) := fun a n => if_neg fun e => n (by rw [e]; exact h)
theorem ext_trans {H : Hp} {r1 r2 r3 : Role} (a : Ext H r1 r2) (b : Ext H r2 r3) : Ext H r1 r3 := fun x n => (b x n).trans (a x n)
/-- not among two of other roles -/
theorem not2 {ρ : Role} {x a b : Addr} {s i j : Nat} {p q : Nat × Nat × Nat} (h : ρ x = some (s, i, j)) (ha : ρ a = some p) (hb : ρ b = some q) (na : (s, i, j) ≠ p) (nb : (s, i, j) ≠ q) : x ∉ [a, b] := fun m => by
  simp only [List.mem_cons, List.not_mem_nil, or_false] at m
  rcases m with rfl | rfl
  · rw [h] at ha; exact na (Option.some.inj ha)
  · rw [h] at hb; exact nb (Option.some.inj hb)
theorem BkA.chg {ρ : Role} {s : Nat} {step : Int} {CT C : Addr} {tl : List (Str × V)} {H H' : Hp} {B D l : Addr} {ys : List Th} {k : Nat} {y : Th} {tv : V} {tg : T} {xs : List V} {ts : List T} {dx dt : Addr} {gr : Int} (h : BkA K ρ s step CT C tl H B D ys) (hy : ys[k]? = some y)
    (hl : H l = none) (hl' : H' l = some (.lst xs)) (ht : H' y.th = some (.ins CT dt (thF (.str y.kd) tv (.ref l)))) (hB : H' B = some (.ins C dx (bkF D gr tl))) (f : Fr [B, y.th] H H') (ds : Dens K H' xs ts) (dd : ∀ t ∈ ts, Dep 2 t) (dv : Den K H' tv tg) (dp : Dep 3 tg) (lx : xs.length ≤ 200) :
    BkA K (fun a => if a = l then some (s, 6, k) else ρ a) s step CT C tl H' B D (ys.set k { y with tv := tv, tg := tg, sl := l, ss := xs, us := ts }) := by
  have rt := (h.th k y hy).2
  have hk := (List.getElem?_eq_some_iff.mp hy).1
  have up : ∀ {a o} {r : Nat × Nat × Nat}, H a = some o → ρ a = some r → (if a = l then some (s, 6, k) else ρ a) = some r := fun e r => by rw [if_neg fun z => by rw [z, hl] at e; cases e]; exact r
  have get : ∀ (i : Nat) (z : Th), (ys.set k { y with tv := tv, tg := tg, sl := l, ss := xs, us := ts })[i]? = some z → (i = k ∧ z = { y with tv := tv, tg := tg, sl := l, ss := xs, us := ts }) ∨ (i ≠ k ∧ ys[i]? = some z) := fun i z e => by
    by_cases q : i = k
    · subst q
      rw [List.getElem?_set_self hk] at e
      exact .inl ⟨rfl, (Option.some.inj e).symm⟩
    · rw [List.getElem?_set_ne (Ne.symm q)] at e
      exact .inr ⟨q, e⟩
  obtain ⟨dx0, gr0, hB0⟩ := h.at_
  refine ⟨⟨dx, gr, hB⟩, up hB0 h.rB, ?_, let ⟨_, z, _⟩ := h.dk; up z h.rD, fun i z e => ?_, fun i z e => ?_, fun i z e => ?_, by rw [List.length_set]; exact h.len, h.tll, h.st⟩
  · obtain ⟨kvs, z, l1, g1, g2⟩ := h.dk
    refine ⟨kvs, f.kp _ _ z (not2 h.rD h.rB rt (by simp) (by simp)), by rw [List.length_set]; exact l1, fun i z e => ?_, fun z q => g2 z fun i hi => q i (by rw [List.length_set]; exact hi)⟩
    rcases get i z e with ⟨rfl, rfl⟩ | ⟨_, e⟩
    · exact g1 _ y hy
    · exact g1 i z e
  · rcases get i z e with ⟨rfl, rfl⟩ | ⟨n, e⟩
    · obtain ⟨⟨_, z⟩, r⟩ := h.th _ y hy
      exact ⟨⟨dt, ht⟩, up z r⟩
    · obtain ⟨⟨dx, z⟩, r⟩ := h.th i z e
      exact ⟨⟨dx, f.kp _ _ z (not2 r h.rB rt (by simp) (by simp [n]))⟩, up z r⟩
  · rcases get i z e with ⟨rfl, rfl⟩ | ⟨n, e⟩
    · exact ⟨hl', if_pos rfl⟩
    · obtain ⟨a, r⟩ := h.sl i z e
      exact ⟨f.kp _ _ a (not2 r h.rB rt (by simp) (by simp)), up a r⟩
  · rcases get i z e with ⟨rfl, rfl⟩ | ⟨_, e⟩
    · exact ⟨ds, dd, dv, dp, lx⟩
    · obtain ⟨a, b, c, d⟩ := h.ok i z e
      exact ⟨a.fr f, b, c.fr f, d⟩
theorem BkA.keep {ρ : Role} {s : Nat} {step : Int} {CT C : Addr} {tl : List (Str × V)} {H H' : Hp} {B D l x : Addr} {ys : List Th} {kd : Str} {tv : V} {tg : T} {xs : List V} {ts : List T} {dx dt : Addr} {gr : Int} {kvs : List (Key × V)} (h : BkA K ρ s step CT C tl H B D ys) (hk : H D = some (.dK kvs))
    (hl : H l = none) (hx : H x = none) (nx : x ≠ l) (hl' : H' l = some (.lst xs)) (ht : H' x = some (.ins CT dt (thF (.str kd) tv (.ref l)))) (hB : H' B = some (.ins C dx (bkF D gr tl))) (hD : H' D = some (.dK (putK kvs (.inl (gT step ys.length)) (.ref x)))) (f : Fr [B, D] H H')
    (ds : Dens K H' xs ts) (dd : ∀ t ∈ ts, Dep 2 t) (dv : Den K H' tv tg) (dp : Dep 3 tg) (lx : xs.length ≤ 200) (ln : ys.length < 3000) :
    BkA K (fun a => if a = x then some (s, 5, ys.length) else if a = l then some (s, 6, ys.length) else ρ a) s step CT C tl H' B D (ys ++ [⟨x, l, kd, tv, tg, xs, ts⟩]) := by
  have up : ∀ {a o} {r : Nat × Nat × Nat}, H a = some o → ρ a = some r → (if a = x then some (s, 5, ys.length) else if a = l then some (s, 6, ys.length) else ρ a) = some r := fun e r => by
    rw [if_neg (fun z => (by rw [z, hx] at e; cases e)), if_neg (fun z => (by rw [z, hl] at e; cases e))]; exact r
  have get : ∀ (i : Nat) (z : Th), (ys ++ [(⟨x, l, kd, tv, tg, xs, ts⟩ : Th)])[i]? = some z → (i = ys.length ∧ z = ⟨x, l, kd, tv, tg, xs, ts⟩) ∨ (i < ys.length ∧ ys[i]? = some z) := fun i z e => by
    by_cases q : i < ys.length
    · rw [List.getElem?_append_left q] at e
      exact .inr ⟨q, e⟩
    · rw [List.getElem?_append_right (by omega)] at e
      have := (List.getElem?_eq_some_iff.mp e).1
      have q2 : i = ys.length := by simp at this; omega
      subst q2
      simp at e
      exact .inl ⟨rfl, e.symm⟩
  obtain ⟨dx0, gr0, hB0⟩ := h.at_
  obtain ⟨kvs', z0, l1, g1, g2⟩ := h.dk
  rw [hk] at z0; cases z0
  have nk : valV kvs (.inl (gT step ys.length)) = none := g2 _ fun i hi e => by
    have := gT_inj h.st e
    omega
  refine ⟨⟨dx, gr, hB⟩, up hB0 h.rB, ⟨_, hD, ?_, fun i z e => ?_, fun z q => ?_⟩, up hk h.rD, fun i z e => ?_, fun i z e => ?_, fun i z e => ?_, by simp; omega, h.tll, h.st⟩
  · rw [putK_new _ nk]; simp [l1]
  · rw [valV_put]
    rcases get i z e with ⟨rfl, rfl⟩ | ⟨n, e⟩
    · rw [if_pos rfl]
    · rw [if_neg fun e => by have := gT_inj h.st (Sum.inl.inj e); omega]
      exact g1 i z e
  · rw [valV_put, if_neg fun e => q ys.length (by simp) (Sum.inl.inj e)]
    exact g2 z fun i hi => q i (by simp; omega)
  · rcases get i z e with ⟨rfl, rfl⟩ | ⟨n, e⟩
    · exact ⟨⟨dt, ht⟩, if_pos rfl⟩
    · obtain ⟨⟨dx, z⟩, r⟩ := h.th i z e
      exact ⟨⟨dx, f.kp _ _ z (not2 r h.rB h.rD (by simp) (by simp))⟩, up z r⟩
  · rcases get i z e with ⟨rfl, rfl⟩ | ⟨n, e⟩
    · exact ⟨hl', by rw [if_neg (Ne.symm nx)]; exact if_pos rfl⟩
    · obtain ⟨a, r⟩ := h.sl i z e
      exact ⟨f.kp _ _ a (not2 r h.rB h.rD (by simp) (by simp)), up a r⟩
  · rcases get i z e with ⟨rfl, rfl⟩ | ⟨_, e⟩
    · exact ⟨ds, dd, dv, dp, lx⟩
    · obtain ⟨a, b, c, d⟩ := h.ok i z e
      exact ⟨a.fr f, b, c.fr f, d⟩
@[irreducible] def spChange (K : PySem.W.Frag) (CT C : Addr) (step : Int) : Sp := fun vs H Q _ => ∃ (ρ : Role) (s : Nat) (tl : List (Str × V)) (B D va l : Addr) (ys : List Th) (u : V) (k : Nat) (y : Th) (tv : V) (tg : T) (xs : List V) (ts : List T),
  vs = [.ref B, .ref va, tv, .ref l] ∧ BkA K ρ s step CT C tl H B D ys ∧ H va = some (.tup [u, .int (gT step k)]) ∧ ys[k]? = some y ∧ H l = some (.lst xs) ∧ Dens K H xs ts ∧ (∀ t ∈ ts, Dep 2 t) ∧ Den K H tv tg ∧ Dep 3 tg ∧ xs.length ≤ 200 ∧
  ∀ H' ρ' l', BkA K ρ' s step CT C tl H' B D (ys.set k { y with tv := tv, tg := tg, sl := l', ss := xs, us := ts }) → Ext H ρ ρ' → Fr [B, y.th] H H' → Q .non H'
theorem change_step {CT C : Addr} {ρ : Role} {s : Nat} {step : Int} {tl : List (Str × V)} {B D va l : Addr} {ys : List Th} {u : V} {k : Nat} {y : Th} {tv : V} {tg : T} {xs : List V} {ts : List T} {H : Hp} {Q : VK} {E : XK} (h : BkA K ρ s step CT C tl H B D ys) (ha : H va = some (.tup [u, .int (gT step k)])) (hy : ys[k]? = some y)
    (h1 : H l = some (.lst xs)) (h2 : Dens K H xs ts) (h3 : ∀ t ∈ ts, Dep 2 t) (h4 : Den K H tv tg) (h5 : Dep 3 tg) (h6 : xs.length ≤ 200)
    (q : ∀ H' ρ' l', BkA K ρ' s step CT C tl H' B D (ys.set k { y with tv := tv, tg := tg, sl := l', ss := xs, us := ts }) → Ext H ρ ρ' → Fr [B, y.th] H H' → Q .non H') : spChange K CT C step [.ref B, .ref va, tv, .ref l] H Q E := by
  unfold spChange; exact ⟨ρ, s, tl, B, D, va, l, ys, u, k, y, tv, tg, xs, ts, rfl, h, ha, hy, h1, h2, h3, h4, h5, h6, q⟩
local macro_rules | `(tactic| tm_at "ne") => `(tactic| (apply ne_role; assumption; assumption; (focus (decide))))
theorem chg_fin {ρ : Role} {s : Nat} {step : Int} {CT C : Addr} {tl : List (Str × V)} {H H' : Hp} {B D l : Addr} {ys : List Th} {k : Nat} {y : Th} {tv : V} {tg : T} {xs : List V} {ts : List T} {dx dt : Addr} {gr : Int} {Q : VK}
    (q : ∀ H' ρ' l', BkA K ρ' s step CT C tl H' B D (ys.set k { y with tv := tv, tg := tg, sl := l', ss := xs, us := ts }) → Ext H ρ ρ' → Fr [B, y.th] H H' → Q .non H') (h : BkA K ρ s step CT C tl H B D ys) (hy : ys[k]? = some y)
    (hl : H l = none) (ds : Dens K H xs ts) (dd : ∀ t ∈ ts, Dep 2 t) (dv : Den K H tv tg) (dp : Dep 3 tg) (lx : xs.length ≤ 200) (f : Fr [B, y.th] H H') (hl' : H' l = some (.lst xs)) (ht : H' y.th = some (.ins CT dt (thF (.str y.kd) tv (.ref l)))) (hB : H' B = some (.ins C dx (bkF D gr tl))) : Q .non H' :=
  q _ _ _ (h.chg hy hl hl' ht hB f (ds.fr f) dd (dv.fr f) dp lx) (up_role hl) f
local macro_rules | `(tactic| tm_at "fr2") => `(tactic| (first | assumption | (apply Fr.appMb; assumption; (focus (simp; done)); tm_at "fr2") | (apply Fr.app0b; tm_at "f0"; tm_at "fr2") | (apply Fr.appNb; assumption; tm_at "free"; tm_at "fr2") | fail "no way"))
abbrev s_Store_change : Stmt := inClass (top 8) 10
theorem sc_Store_change : FnScope ["self", "value", "tag", "slots", "thing", "kept"] ["self", "value", "tag", "slots"] (defScope s_Store_change) := ⟨rfl, rfl, rfl, by decide +kernel, rfl, by decide +kernel, by decide +kernel⟩

theorem fn_change {C CT : Addr} {step : Int} (cf : ClF K C CT) (T : Bl mg) {f : Addr} {fd : FuncData} (D : FnP K "change" "Store.change" s_Store_change f fd) : FnOk P w K mg base CX0 1 f fd ["self", "value", "tag", "slots"] (spChange K CT C step) ∧ Binds K fd ["self", "value", "tag", "slots"] [] := by
  refine fnp_cal D sc_Store_change (fun _ _ _ _ _ _ us hl => match us, hl with | [_, _, _, _], _ => rfl) (fun vs H Q E h => ?_) (fun f cdv A outer s H vs Q E hr h => ?_) <;> unfold spChange at h
  · obtain ⟨ρ, sd, tl, B, dD, va, l, ys, u, k, y, tv, tg, xs, ts, rfl, _⟩ := h
    rfl
  · obtain ⟨ρ, sd, tl, B, dD, va, l, ys, u, k, y, tv, tg, xs, ts, rfl, hb, hv, hy, hlx, dx0, dd0, dv0, dp0, lx0, q⟩ := h
    obtain ⟨c1, a1, a2, c2, n1, n2, n3, n4⟩ := cf
    obtain ⟨dx, gr, hB⟩ := hb.at_
    obtain ⟨kvs, hD, hl, hg, _⟩ := hb.dk
    obtain ⟨⟨dt, ht⟩, rt⟩ := hb.th k y hy
    have e := hg k y hy
    have hu := room_hu hr
    have hs := (hb.sl k y hy).1
    have rs := (hb.sl k y hy).2
    have rB := hb.rB
    have rD := hb.rD
    have tl0 := hb.tll.len
    have nbt : B ≠ y.th := ne_role rB rt (by decide)
    have nst : y.sl ≠ y.th := ne_role rs rt (by decide)
    have nsb : y.sl ≠ B := ne_role rs rB (by decide)
    have r0 := Fr.refl2 (C' := C) hB ht (by intro _ z; cases z)
    refine ⟨_, (pss_cons (ps_set (i := 4) sc_Store_change.nd rfl (Or.inl rfl) (pe_dgetx hu (pe_fldx K (pv 0) rfl) (pe_ix (ixT K) (pv 1) pe_int (fun _ _ => rfl)) (fun _ _ => rfl)))
    (pss_cons (ps_set (i := 5) sc_Store_change.nd rfl (Or.inl rfl) (pe_callTy (cList K) (by rfl) T.z_list (by decide +kernel) (pa_cons (pv 3) pa_nil)))
    (pss_cons (ps_if (pt_cmpR op_gt (pe_callB (cLen K) (by rfl) T.z_len (by decide +kernel) (pa_cons (pv 5) pa_nil)) (pe_callB (cLen K) (by rfl) T.z_len (by decide +kernel) (pa_cons (pe_fldx K (pv 4) rfl) pa_nil)) (nomark _))
      (pss_one (ps_fldaugx K (pv 0) (pe_op op_sub (pe_callB (cLen K) (by rfl) T.z_len (by decide +kernel) (pa_cons (pv 5) pa_nil)) (pe_callB (cLen K) (by rfl) T.z_len (by decide +kernel) (pa_cons (pe_fldx K (pv 4) rfl) pa_nil))) in_addx))
      pss_nil)
    (pss_cons (ps_fldx K (pv 4) (pv 2) rfl)
    (pss_one (ps_fldx K (pv 4) (pv 5) rfl)))))), ?_⟩
    tm_at "goo"
    all_goals (apply chg_fin q hb hy np dx0 dd0 dv0 dp0 lx0; tm_at "fr2"; tm_at "hp"; tm_at "hp"; tm_at "hp")
theorem ok_change {C CT : Addr} {step : Int} (cf : ClF K C CT) (T : Bl mg) (D : Def2 K C "change" "Store.change" s_Store_change) : CalM P w K mg base 1 C "change" ["self", "value", "tag", "slots"] (spChange K CT C step) := by
  obtain ⟨f, fd, F, g⟩ := D
  obtain ⟨h1, h2⟩ := fn_change (P := P) (w := w) (mg := mg) (base := base) cf T F
  exact ⟨f, fd, h1, cf.cC, g, h2⟩
end
end M14
set_option Elab.async false
set_option linter.all false
set_option maxRecDepth 100000
set_option maxHeartbeats 4000000
namespace M14
open PySem PySem.Spec PyProof.Rows L2

section
variable {P : Program} {w : World} {K : PySem.W.Frag} {mg : Str → Option Value} {base : Heap}
set_option hygiene false
local macro_rules | `(tactic| tm_at "sc") => `(tactic| (first | omega | (simp only [List.length_cons, List.length_nil, List.length_map, List.length_set, List.length_append]; omega) | (simp only [List.length_map] at h1 ⊢; omega) | (simp only [List.length_map] at c ⊢; omega) | with_reducible assumption | exact And.intro (by omega) (by omega) | exact Or.inl (And.intro (by omega) (by omega)) | exact Or.inr (And.intro (by omega) (by omega)) | decide +kernel | exact len1000 (by simp) | rfl | fail "no way"))
local macro_rules | `(tactic| tm_at "sc1") => `(tactic| (focus (simp; done)))
local macro_rules | `(tactic| tm_at "ne") => `(tactic| (first | assumption | exact Ne.symm (by assumption) | (apply Box.ne2; assumption; tm_at "hp") | (apply Ne.symm; apply Box.ne2; assumption; tm_at "hp") | (apply ne_of_none2; assumption; tm_at "hp") | (apply Ne.symm; apply ne_of_none2; assumption; tm_at "hp") | fail "no way"))
local macro_rules | `(tactic| tm_at "f0") => `(tactic| (first | assumption | (apply Fr.new; assumption) | fail "no way"))
local macro_rules | `(tactic| tm_at "hp") => `(tactic| (first | assumption | exact upd_same | (apply SqL.of; first | assumption | exact upd_same) | (apply Fr.at0; tm_at "f0"; tm_at "hp") | (apply Fr.at1n; assumption; tm_at "ne"; tm_at "hp") | (apply sqFr0; tm_at "f0"; tm_at "hp") | (apply sqFr1; assumption; tm_at "ne"; tm_at "hp") | (apply Box.fr0; tm_at "f0"; tm_at "hp") | (apply Box.fr1; assumption; tm_at "ne"; tm_at "hp") | (apply Den.fr; tm_at "f0"; tm_at "hp") | (apply Dens.fr; tm_at "f0"; tm_at "hp") | fail "no way"))
local macro_rules | `(tactic| tm_at "free0") => `(tactic| (first | assumption | (apply updFree; assumption) | (apply updFree; apply updFree; assumption) | (apply updFree; apply updFree; apply updFree; assumption) | (apply updFree; apply updFree; apply updFree; apply updFree; assumption) | fail "no way"))
local macro_rules | `(tactic| tm_at "free") => `(tactic| (first | tm_at "free0" | (apply Fr.free; assumption; tm_at "free0") | (apply Box.free; assumption; tm_at "fr"; tm_at "free0") | (apply Fr.free; assumption; apply Fr.free; assumption; tm_at "free0") | fail "no way"))
local macro_rules | `(tactic| tm_at "fr") => `(tactic| (first | assumption | exact Fr.refl0 _ | exact Fr.refl (Box.nt (by assumption)) | (refine Fr.comp0 ?_ (by tm_at "f0"); tm_at "fr") | (refine Fr.comp ?_ (by assumption); tm_at "fr") | (refine Fr.compN ?_ (by assumption) (by tm_at "free"); tm_at "fr") | fail "no way"))
local macro_rules | `(tactic| tm_at "call") => `(tactic| fail "no call")
local macro_rules | `(tactic| tm_at "call") => `(tactic| (apply take_step; tm_at "hp"; tm_at "sc"; tm_at "sc"; intro r H1 h0 h1 hB fr))
local macro_rules | `(tactic| tm_at "ty") => `(tactic| (first | assumption | exact .base .non | exact .base (.bl _) | exact .base (.int _) | exact .base (.str _) | (apply TyX.base; apply TyOf.lst; tm_at "hp") | (apply TyX.base; apply TyOf.tup; tm_at "hp") | fail "no way"))
local macro_rules | `(tactic| tm_at "pre") => `(tactic| fail "none")
local macro_rules | `(tactic| tm_at "go1") => `(tactic| (first | tm_at "pre" | refine ⟨_, rfl, ?_⟩ | refine ⟨_, _, rfl, rfl, ?_⟩ | (apply set_step; tm_at "hp"; tm_at "sc"; tm_at "sc"; intro H1 hp fr) | (with_reducible refine iteDI ?_ ?_ <;> intro c) | (with_reducible refine iteDS ?_ ?_ <;> intro c) | (with_reducible refine iteD ?_ ?_ <;> intro c) | (with_reducible refine iteEM ?_ ?_ <;> intro c) | (with_reducible refine iteE ?_ ?_ <;> intro c) | with_reducible refine iteN ?_ | with_reducible refine iteF ?_ | with_reducible refine iteT ?_ | (refine fun (p : Addr) (np : _ = (none : Option HO)) => ?_; fail_if_success (refine ⟨fun (_ _ : Nat) (_ : Hp) => True, ?_⟩)) | (apply isi_tt; tm_at "ty"; focus (decide +kernel)) | (apply isi_ff; tm_at "ty"; focus (decide +kernel)) | (apply sl_step; tm_at "hp"; intro qq H1 ms nq hq fr) | (apply sum_step; tm_at "hp"; intro i) | (apply tru_step; tm_at "hp") | (apply len_step; tm_at "hp") | (apply lenq_step; assumption) | (apply ixq_step; assumption; tm_at "sc"; tm_at "sc"; intro v hv) | (apply lst_step; tm_at "hp") | (apply tupl_step; tm_at "hp") | (apply ixr_step; tm_at "hp"; exact rfl) | (apply ix0_step; tm_at "hp") | (apply ix1_step; tm_at "hp") | (apply ix2_step; tm_at "hp") | (apply ixi_step; tm_at "hp"; tm_at "sc"; tm_at "sc"; intro n hn hn') | (apply ixl_step; tm_at "hp"; tm_at "sc"; tm_at "sc"; intro v hv) | (apply ixt_step; tm_at "hp"; tm_at "sc"; tm_at "sc"; intro v hm hv) | (apply in_step; tm_at "hp"; rfl; rfl) | (apply cat_step; tm_at "hp"; tm_at "hp"; tm_at "sc") | (apply catT_step; tm_at "hp"; tm_at "hp"; tm_at "sc1") | (apply tyL_and; tm_at "hp") | (apply app_step; tm_at "hp"; tm_at "sc"; intro H1 hp fr) | tm_at "call" | refine ⟨⟨_, rfl⟩, ?_⟩ | (apply ixs_step; tm_at "sc"; tm_at "sc"; tm_at "sc"; intro ch) | refine .inl ⟨_, rfl, ?_⟩ | refine .inr ⟨_, rfl, ?_⟩ | (apply And.intro; tm_at "sc") | (with_reducible refine wayB ?_ ?_ <;> intro c) | fail "no way"))
local macro_rules | `(tactic| tm_at "go") => `(tactic| (repeat tm_at "go1"))
local macro_rules | `(tactic| tm_at "goo") => `(tactic| (repeat' tm_at "go1"))
local macro_rules | `(tactic| tm_at "den") => `(tactic| (first | assumption | exact Den.str _ | exact Den.int _ | exact Den.bl _ | exact Den.non | (apply Den.tups; tm_at "hp"; tm_at "dens") | (apply Den.fr; tm_at "f0"; tm_at "den") | fail "no way"))
local macro_rules | `(tactic| tm_at "dens") => `(tactic| (first | assumption | exact Dens.nil | (apply Dens.cons; tm_at "den"; tm_at "dens") | (apply Dens.fr; tm_at "f0"; tm_at "dens") | fail "no way"))
local macro_rules | `(tactic| tm_at "ix") => `(tactic| (apply Ix.mk; tm_at "hp"; tm_at "ne"; assumption; assumption))
local macro_rules | `(tactic| tm_at "dep") => `(tactic| (first | assumption | exact Dep.int | exact Dep.str | exact Dep.bl | exact Dep.non | (apply Dep.tup; tm_at "dlen"; tm_at "deps") | (apply Dep.mono; assumption; decide) | fail "no way"))
local macro_rules | `(tactic| tm_at "deps") => `(tactic| (first | assumption | exact memN | (apply memC; tm_at "dep"; tm_at "deps") | fail "no way"))
local macro_rules | `(tactic| tm_at "dlen") => `(tactic| (first | assumption | (focus (simp; done)) | omega | fail "no way"))
local macro_rules | `(tactic| tm_at "pre") => `(tactic| (apply rep_step; tm_at "hp"; tm_at "sc"; tm_at "sc"; intro rp H1 nrp hrp fr))

local macro_rules | `(tactic| tm_at "lk") => `(tactic| (first | with_reducible exact lookup_eq | ((with_reducible apply lookup_ne); (focus (decide +kernel)); tm_at "lk") | assumption | rfl | fail "no way"))
local macro_rules | `(tactic| tm_at "pf") => `(tactic| (first | with_reducible exact putF_nil | with_reducible exact putF_eq | ((with_reducible apply putF_ne); (focus (decide +kernel)); tm_at "pf") | fail "no way"))
local macro_rules | `(tactic| tm_at "fl") => `(tactic| (first | assumption | focus (simp only [List.length_cons, List.length_nil]; omega) | focus (simp only [List.length_cons, List.length_nil]; done) | focus (decide) | focus (simp; done) | focus (simp; omega) | fail "no way"))
local macro_rules | `(tactic| tm_at "pre") => `(tactic| (apply fld_step; tm_at "hp"; assumption; assumption; tm_at "lk"))
local macro_rules | `(tactic| tm_at "pre") => `(tactic| (apply putf_step; tm_at "hp"; assumption; assumption; tm_at "fl"; tm_at "pf"; intro H1 hp fr))
local macro_rules | `(tactic| tm_at "pre") => `(tactic| (apply aug_step; tm_at "hp"; assumption; assumption; tm_at "lk"))
local macro_rules | `(tactic| tm_at "pre") => `(tactic| (apply put2_step; tm_at "hp"; tm_at "fl"; tm_at "pf"; intro H1 hp fr))
local macro_rules | `(tactic| tm_at "pre") => `(tactic| (apply dget_step; tm_at "hp"; tm_at "lk"))
local macro_rules | `(tactic| tm_at "pre") => `(tactic| (apply dput_step; tm_at "hp"; (focus (omega)); intro H1 hp fr))
local macro_rules | `(tactic| tm_at "pre") => `(tactic| (apply mth_step; tm_at "hp"; tm_at "lk"))
local macro_rules | `(tactic| tm_at "pre") => `(tactic| (apply lenD_step; tm_at "hp"))
local macro_rules | `(tactic| tm_at "pre") => `(tactic| (apply addI_step))
local macro_rules | `(tactic| tm_at "pre") => `(tactic| (apply newD_step; intro dn H1 nd hp fr))
local macro_rules | `(tactic| tm_at "fr2") => `(tactic| (first | assumption | (apply Fr.appMb; assumption; (focus (simp; done)); tm_at "fr2") | (apply Fr.app0b; tm_at "f0"; tm_at "fr2") | (apply Fr.appNb; assumption; tm_at "free"; tm_at "fr2") | fail "no way"))
local macro_rules | `(tactic| tm_at "ne") => `(tactic| (apply ne_role; assumption; assumption; (focus (decide))))
local macro_rules | `(tactic| tm_at "pre") => `(tactic| (apply dnotin_step; tm_at "hp"))
local macro_rules | `(tactic| tm_at "pre") => `(tactic| (apply din_step; tm_at "hp"))

abbrev refS : V := .str (Str.ofString "ref")
theorem thing_step {CT x dx : Addr} {kd tv sl : V} {H : Hp} {Q : VK} {E : XK} (h : H x = some (.ins CT dx [])) (q : ∀ H', H' x = some (.ins CT dx (thF kd tv sl)) → Fr [x] H H' → Q .non H') : spThing CT [.ref x, kd, tv, sl] H Q E := by
  unfold spThing; exact ⟨x, dx, kd, tv, sl, rfl, h, q⟩
@[irreducible] def spKeep (K : PySem.W.Frag) (CT C : Addr) : Sp := fun vs H Q _ => ∃ (ρ : Role) (s : Nat) (step : Int) (tl : List (Str × V)) (B D l : Addr) (ys : List Th) (z : Int) (kd : Str) (tv : V) (tg : T) (xs : List V) (ts : List T),
  vs = [.ref B, .int z, .str kd, tv, .ref l] ∧ BkA K ρ s step CT C tl H B D ys ∧ z = gT step ys.length ∧ ys.length < 3000 ∧ H l = some (.lst xs) ∧ Dens K H xs ts ∧ (∀ t ∈ ts, Dep 2 t) ∧ Den K H tv tg ∧ Dep 3 tg ∧ xs.length ≤ 200 ∧
  ∀ r H' ρ' x l', H r = none → H' r = some (.tup [refS, .int z]) → BkA K ρ' s step CT C tl H' B D (ys ++ [⟨x, l', kd, tv, tg, xs, ts⟩]) → Ext H ρ ρ' → Fr [B, D] H H' → Q (.ref r) H'
section
variable {CT C : Addr} {ρ : Role} {s : Nat} {step : Int} {tl : List (Str × V)} {B D l : Addr} {ys : List Th} {z : Int} {kd : Str} {tv : V} {tg : T} {xs : List V} {ts : List T} {H : Hp} {Q : VK} {E : XK}
theorem keep_step (h : BkA K ρ s step CT C tl H B D ys) (hz : z = gT step ys.length) (hn : ys.length < 3000) (h1 : H l = some (.lst xs)) (h2 : Dens K H xs ts) (h3 : ∀ t ∈ ts, Dep 2 t) (h4 : Den K H tv tg) (h5 : Dep 3 tg) (h6 : xs.length ≤ 200)
    (q : ∀ r H' ρ' x l', H r = none → H' r = some (.tup [refS, .int z]) → BkA K ρ' s step CT C tl H' B D (ys ++ [⟨x, l', kd, tv, tg, xs, ts⟩]) → Ext H ρ ρ' → Fr [B, D] H H' → Q (.ref r) H') : spKeep K CT C [.ref B, .int z, .str kd, tv, .ref l] H Q E := by
  unfold spKeep; exact ⟨ρ, s, step, tl, B, D, l, ys, z, kd, tv, tg, xs, ts, rfl, h, hz, hn, h1, h2, h3, h4, h5, h6, q⟩
theorem keep_fin {H' : Hp} {r l' x dx dt : Addr} {gr : Int} {kvs : List (Key × V)} (q : ∀ r H' ρ' x l', H r = none → H' r = some (.tup [refS, .int z]) → BkA K ρ' s step CT C tl H' B D (ys ++ [⟨x, l', kd, tv, tg, xs, ts⟩]) → Ext H ρ ρ' → Fr [B, D] H H' → Q (.ref r) H')
    (h : BkA K ρ s step CT C tl H B D ys) (hz : z = gT step ys.length) (hn : ys.length < 3000) (h2 : Dens K H xs ts) (h3 : ∀ t ∈ ts, Dep 2 t) (h4 : Den K H tv tg) (h5 : Dep 3 tg) (h6 : xs.length ≤ 200) (hk : H D = some (.dK kvs)) (hl : H l' = none) (hx : H x = none) (hr : H r = none)
    (f : Fr [B, D] H H') (hl' : H' l' = some (.lst xs)) (ht : H' x = some (.ins CT dt (thF (.str kd) tv (.ref l')))) (hB : H' B = some (.ins C dx (bkF D gr tl))) (hD : H' D = some (.dK (putK kvs (.inl z) (.ref x)))) (hr' : H' r = some (.tup [refS, .int z])) : Q (.ref r) H' := by
  have nx : x ≠ l' := fun e => by rw [e, hl'] at ht; cases ht
  subst hz
  exact q _ _ _ _ _ hr hr' (h.keep hk hl hx nx hl' ht hB hD f (h2.fr f) h3 (h4.fr f) h5 h6 hn) (fun a n => by rw [if_neg fun e => n (by rw [e]; exact hx), if_neg fun e => n (by rw [e]; exact hl)]) f
end
abbrev s_Store_keep : Stmt := inClass (top 8) 4
theorem sc_Store_keep : FnScope ["self", "address", "kind", "tag", "slots", "kept"] ["self", "address", "kind", "tag", "slots"] (defScope s_Store_keep) := ⟨rfl, rfl, rfl, by decide +kernel, rfl, by decide +kernel, by decide +kernel⟩

theorem ok_keep {C CT : Addr} (cf : ClF K C CT) (T : Bl mg) (G_Thing : CalC P w K mg base 1 CT "Thing" ["self", "kind", "tag", "slots"] (spThing CT)) (D : Def2 K C "_keep" "Store._keep" s_Store_keep) : CalM P w K mg base 3 C "_keep" ["self", "address", "kind", "tag", "slots"] (spKeep K CT C) := by
  refine D.cal cf.cC sc_Store_keep (fun _ _ _ _ _ _ us hl => match us, hl with | [_, _, _, _, _], _ => rfl) (fun vs H Q E h => ?_) (fun f cdv A outer s H vs Q E hr h => ?_) <;> unfold spKeep at h
  · obtain ⟨ρ, sd, step, tl, B, dD, l, ys, z, kd, tv, tg, xs, ts, rfl, _⟩ := h
    rfl
  · obtain ⟨ρ, sd, step, tl, B, dD, l, ys, z, kd, tv, tg, xs, ts, rfl, hb, hz, hn0, hlx, dx0, dd0, dv0, dp0, lx0, q⟩ := h
    obtain ⟨c1, a1, a2, c2, n1, n2, n3, n4⟩ := cf
    obtain ⟨dx, gr, hB⟩ := hb.at_
    obtain ⟨kvs, hD, hl, hg, _⟩ := hb.dk
    have hu := room_hu hr
    have hr1 := hr
    have rB := hb.rB
    have rD := hb.rD
    have tl0 := hb.tll.len
    have nbd : B ≠ dD := ne_role rB rD (by decide)
    have r0 := Fr.refl2 (C' := C) hB hD (by intro _ z; cases z)
    refine ⟨_, (pss_cons (ps_set (i := 5) sc_Store_keep.nd rfl (Or.inl rfl) (pe_callTy (cList K) (by rfl) T.z_list (by decide +kernel) (pa_cons (pv 4) pa_nil)))
    (pss_cons (ps_dputx hu (pe_fldx K (pv 0) rfl) (pv 1) (pe_mkx G_Thing (hr.mono (by omega)) (by rfl) (pa_cons (pv 2) (pa_cons (pv 3) (pa_cons (pv 5) pa_nil)))) rfl)
    (pss_cons (ps_fldaugx K (pv 0) (pe_op op_add pe_int (pe_callB (cLen K) (by rfl) T.z_len (by decide +kernel) (pa_cons (pv 5) pa_nil))) in_addx)
    (pss_one (ps_ret (pe_tup (pa_cons pe_str (pa_cons (pv 1) pa_nil)))))))), ?_⟩
    tm_at "goo"
    revert p
    intro l0 nl0
    refine mk_step fun x dt H1 hx0 hx fr => ?_
    refine thing_step hx fun H2 hx2 frx => ?_
    refine ⟨rfl, ?_⟩
    tm_at "goo"
    have hx00 := updFree hx0
    have nxl : x ≠ l0 := (ne_of_none2 hx0 upd_same).symm
    have F : Fr [B, dD] H H1 := by tm_at "fr2"
    have eB : H1 B ≠ none := some_ne hp
    have eD' : H1 dD = some (.dK (putK kvs (.inl z) (.ref x))) := by tm_at "hp"
    have nr : H p = none := F.freeM (fun a m => by
      simp only [List.mem_cons, List.not_mem_nil, or_false] at m
      rcases m with rfl | rfl
      · exact eB
      · exact some_ne eD') np
    have ex : H1 x = some (.ins CT dt (thF (.str kd) tv (.ref l0))) := by
      have a : x ≠ dD := (ne_of_none2 hx00 hD).symm
      have b : x ≠ B := (ne_of_none2 hx00 hB).symm
      tm_at "hp"
    have el : H1 l0 = some (.lst xs) := by
      have a : l0 ≠ dD := (ne_of_none2 nl0 hD).symm
      have b : l0 ≠ B := (ne_of_none2 nl0 hB).symm
      have d := nxl.symm
      tm_at "hp"
    refine keep_fin q hb hz hn0 dx0 dd0 dv0 dp0 lx0 hD nl0 hx00 nr (F.app0 (Fr.new np)) (Fr.at0 (Fr.new np) el) (Fr.at0 (Fr.new np) ex) (Fr.at0 (Fr.new np) (by assumption)) (Fr.at0 (Fr.new np) eD') upd_same
/-! ### Store.make -/
@[irreducible] def spMake (K : PySem.W.Frag) (CT C : Addr) (step : Int) (tlf : Addr → Nat → List (Str × V)) : Sp := fun vs H Q _ => ∃ (R : Addr) (ρ : Role) (s : Nat) (B D l : Addr) (ys : List Th) (kd : Str) (tv : V) (tg : T) (xs : List V) (ts : List T),
  vs = [.ref B, .str kd, tv, .ref l] ∧ BkA K ρ s step CT C (tlf R ys.length) H B D ys ∧ ys.length < 3000 ∧ H l = some (.lst xs) ∧ Dens K H xs ts ∧ (∀ t ∈ ts, Dep 2 t) ∧ Den K H tv tg ∧ Dep 3 tg ∧ xs.length ≤ 200 ∧
  ∀ r H' ρ' x l', H r = none → H' r = some (.tup [refS, .int (gT step ys.length)]) → BkA K ρ' s step CT C (tlf R (ys.length + 1)) H' B D (ys ++ [⟨x, l', kd, tv, tg, xs, ts⟩]) → Ext H ρ ρ' → Fr [B, D] H H' → Q (.ref r) H'
theorem make_step {CT C : Addr} {ρ : Role} {s : Nat} {step : Int} {tlf : Addr → Nat → List (Str × V)} {R : Addr} {B D l : Addr} {ys : List Th} {kd : Str} {tv : V} {tg : T} {xs : List V} {ts : List T} {H : Hp} {Q : VK} {E : XK} (h : BkA K ρ s step CT C (tlf R ys.length) H B D ys) (hn : ys.length < 3000) (h1 : H l = some (.lst xs)) (h2 : Dens K H xs ts) (h3 : ∀ t ∈ ts, Dep 2 t) (h4 : Den K H tv tg) (h5 : Dep 3 tg) (h6 : xs.length ≤ 200)
    (q : ∀ r H' ρ' x l', H r = none → H' r = some (.tup [refS, .int (gT step ys.length)]) → BkA K ρ' s step CT C (tlf R (ys.length + 1)) H' B D (ys ++ [⟨x, l', kd, tv, tg, xs, ts⟩]) → Ext H ρ ρ' → Fr [B, D] H H' → Q (.ref r) H') : spMake K CT C step tlf [.ref B, .str kd, tv, .ref l] H Q E := by
  unfold spMake; exact ⟨R, ρ, s, B, D, l, ys, kd, tv, tg, xs, ts, rfl, h, hn, h1, h2, h3, h4, h5, h6, q⟩
abbrev s_Store_make : Stmt := inClass (top 8) 3
theorem sc_Store_make : FnScope ["self", "kind", "tag", "slots"] ["self", "kind", "tag", "slots"] (defScope s_Store_make) := ⟨rfl, rfl, rfl, by decide +kernel, rfl, by decide +kernel, by decide +kernel⟩

theorem ok_make {C CT : Addr} (cf : ClF K C CT) (T : Bl mg) (M_keep : CalM P w K mg base 3 C "_keep" ["self", "address", "kind", "tag", "slots"] (spKeep K CT C)) (D : Def2 K C "make" "Store.make" s_Store_make) : CalM P w K mg base 4 C "make" ["self", "kind", "tag", "slots"] (spMake K CT C 1 fun _ _ => []) := by
  refine D.cal cf.cC sc_Store_make (fun _ _ _ _ _ _ us hl => match us, hl with | [_, _, _, _], _ => rfl) (fun vs H Q E h => ?_) (fun f cdv A outer s H vs Q E hr h => ?_) <;> unfold spMake at h
  · obtain ⟨R, ρ, sd, B, dD, l, ys, kd, tv, tg, xs, ts, rfl, _⟩ := h
    rfl
  · obtain ⟨R, ρ, sd, B, dD, l, ys, kd, tv, tg, xs, ts, rfl, hb, hn0, hlx, dx0, dd0, dv0, dp0, lx0, q⟩ := h
    obtain ⟨c1, a1, a2, c2, n1, n2, n3, n4⟩ := cf
    obtain ⟨dx, gr, hB⟩ := hb.at_
    obtain ⟨kvs, hD, hl, hg, _⟩ := hb.dk
    refine ⟨_, (pss_one (ps_ret (pe_mcalx (pv 0) M_keep (hr.mono (by omega)) (pa_cons (pe_callB call_lenDx (by rfl) T.z_len (by decide +kernel) (pa_cons (pe_fldx K (pv 0) rfl) pa_nil)) (pa_cons (pv 1) (pa_cons (pv 2) (pa_cons (pv 3) pa_nil))))))), ?_⟩
    tm_at "goo"
    have e : (kvs.length : Int) = gT 1 ys.length := by unfold gT; omega
    rw [e]
    exact keep_step hb rfl hn0 hlx dx0 dd0 dv0 dp0 lx0 q
end
end M14
set_option Elab.async false
set_option linter.all false
set_option maxRecDepth 100000
set_option maxHeartbeats 4000000
/-! super().m(..) as the first statement of a method. -/
namespace M14
open PySem PySem.Spec PyProof.Rows L2
abbrev suFn (name qual : Str) (st : Stmt) (dV kV doc pm : Value) (an : Option Addr) (cdv ct : Value) (cc : Addr) : FuncData := PySem.W.ksFn name qual (defArgs st) (defBody st) (defScope st) dV kV doc pm an cdv ct cc
/-- a method that closes over the class at D -/
structure SupF (P : Program) (K : PySem.W.Frag) (name qual : Str) (st : Stmt) (D : Addr) (f : Addr) (fd : FuncData) : Prop where
  ex : ∃ (oc : Value) (od : Option Addr) (kV doc pm : Value) (an : Option Addr) (cda : Addr) (ct : Value) (osl : Array (Option Value)) (cc : Addr) (ocl : Value) (odl : Option Addr) (cls : Value) (cld : Option Addr) (csl ksl : Array (Option Value)) (vs : Array Value) (file : Str) (tf : Tok) (ar : Arg),
    fd = suFn name qual st .none kV doc pm an (.ref cda) ct cc ∧ K.lookup f = some ⟨oc, od, .func fd, osl⟩ ∧ PySem.W.codeIn K (.ref cda) qual = true ∧ K.lookup cda = some ⟨ocl, odl, .fields vs, ksl⟩ ∧ vs[2]? = some (.str file tf) ∧ ((P.main.file : Str) == file) = true ∧
    K.lookup cc = some ⟨cls, cld, .cell (some (.ref D)), csl⟩ ∧ ((defArgs st).posonlyargs ++ (defArgs st).args).head? = some ar ∧ ar.arg = "self"
  kp : PySem.W.keepIn K (.ref f) = true
/-- the scope of such a method -/
structure SuScope (N ps : List Str) (sc : Scope) : Prop where
  kind : sc.kind = .function
  co : sc.isCoroutine = false
  gen : sc.isGenerator = false
  nd : N.Nodup
  pre : N.take ps.length = ps
  par : ∀ x ∈ ps, sc.names.lookup x = some .local
  nocell : ∀ x ∈ sc.names, x.2 ≠ .cell
  free : ∀ x ∈ sc.names, x.2 = .free → x.1 = ("__class__" : Str)
  n0 : N[0]? = some ("self" : Str)
  cl : sc.names.lookup ("__class__" : Str) = some .free
  su : sc.names.lookup ("super" : Str) = some .globalImplicit
def cxS (CX : CXT) (P : Program) (w : World) (K : PySem.W.Frag) (mg : Str → Option Value) (base : Heap) (N : List Str) (qual : Str) (scope : Scope) (f : Addr) (cd : Value) (cc : Addr) (A : Around) (outer : List Env) (s : Shared) (H : Hp) (E : XK) : Cx where
  prog := P
  w := w
  K := K
  mg := mg
  base := base
  A := A.deeper (PySem.W.ksEnv qual scope s.heap.objs.size f cd cc)
  N := N
  s_0 := s
  H_0 := H
  env := PySem.W.ksEnv qual scope s.heap.objs.size f cd cc
  outer := outer
  stack := PySem.W.ksEnv qual scope s.heap.objs.size f cd cc :: outer
  ex := []
  calm := true
  fn := fun _ => false
  pn := []
  xe := fun e s' => wpAny (model P w) (A.deeper (PySem.W.ksEnv qual scope s.heap.objs.size f cd cc)) (leaving (PySem.W.ksEnv qual scope s.heap.objs.size f cd cc) e) (fun _ s'' => CX outer H s E e s'') (fun e' s'' => CX outer H s E e' s'') s'
theorem zip_look {ps : List Str} {us : List Value} {i : Nat} {y : Str} {u : Value} (nd : ps.Nodup) (hp : ps[i]? = some y) (hu : us[i]? = some u) : (ps.zip us).reverse.lookup y = some u := by
  induction ps generalizing us i with
  | nil => simp at hp
  | cons p ps ih =>
    cases us with
    | nil => simp at hu
    | cons v us =>
      rw [List.zip_cons_cons, List.reverse_cons, List.lookup_append]
      have nd' := List.nodup_cons.mp nd
      cases i with
      | zero =>
        simp at hp hu
        subst hp hu
        have e : (ps.zip us).reverse.lookup p = none := by
          rw [List.lookup_eq_none_iff]
          intro q hq
          have m := List.of_mem_zip (a := q.1) (b := q.2) (List.mem_reverse.mp hq)
          simp only [bne_iff_ne, ne_eq, beq_eq_false_iff_ne, Bool.not_eq_true]
          intro z
          first
          | exact nd'.1 (z ▸ m.1)
          | exact nd'.1 (by rw [z]; exact m.1)
          | exact nd'.1 (by rw [← z]; exact m.1)
        rw [e]
        simp [List.lookup]
      | succ i =>
        rw [ih nd'.2 (by simpa using hp) (by simpa using hu)]
        rfl
theorem inv_startS {CX : CXT} {P : Program} {w : World} {K : PySem.W.Frag} {mg : Str → Option Value} {base : Heap} {N ps : List Str} {qual : Str} {scope : Scope} {f cc : Addr} {cd v0 : Value} {A : Around} {outer : List Env} {s : Shared} {H : Hp} {E : XK} {us : List Value} {vs : List V} {h1 : Heap} {tk : Nat}
    (S : SuScope N ps scope) (hd : A.handled = none) (e0 : Env0 P w K mg base A outer s H) (hl : vs.length = ps.length) (r : Vals vs us) (hcc : ∃ o, base.get? cc = some o ∧ o.data = .cell (some v0))
    (hns : h1.Ns s.heap.objs.size (fun x => (ps.zip us).reverse.lookup x)) (hk : ∀ b o, s.heap.get? b = some o → h1.get? b = some o) :
    Inv (cxS CX P w K mg base N qual scope f cd cc A outer s H E) [] (L2.start N vs) H { s with heap := h1, toks := tk } := by
  have hpl : ps.length ≤ N.length := by have := congrArg List.length S.pre; rw [List.length_take] at this; omega
  obtain ⟨oc, hc1, hc2⟩ := hcc
  have cells : ∀ {x c}, List.lookup x [(("__class__" : Str), cc)] = some c → x = ("__class__" : Str) ∧ c = cc := fun {x c} h => by
    rw [List.lookup_cons] at h
    split at h
    · rename_i z
      exact ⟨by simpa using z, (Option.some.inj h).symm⟩
    · cases h
  have noA : ∀ b : Addr, b ∉ (cxS CX P w K mg base N qual scope f cd cc A outer s H E).ex := fun b z => absurd (show b ∈ ([] : List Addr) from z) (by simp)
  have ccs := e0.bs _ _ hc1
  refine ⟨⟨e0.mod, S.kind, rfl, rfl, Nat.le_refl _, fun y z c h1 h2 => (cells h1).1.trans (cells h2).1.symm, fun y hy => ?_, fun y c h _ => (nomatch h), fun _ => hd, Around.frames_deeper e0.frames, .inr ⟨rfl, rfl⟩, fun b z => absurd z (noA b), e0.bs, e0.bsz, fun b _ _ => noA b, fun b z => absurd z (noA b), e0.funs, e0.frf⟩,
    rfl, e0.bare, Un.kept hk, ⟨_, hns, fun i y v h1 h2 h3 => ?_⟩, fun y c h => ?_, e0.hok.fresh (Nat.le_refl _), fun y c h => ?_, fun p hp => absurd (show p ∈ ([] : List (Addr × Obj)) from hp) (by simp), e0.hok.kept hk, ?_⟩
  · have hy : scope.names.lookup y = some .cell ∨ scope.names.lookup y = some .free := hy
    rcases hy with hy | hy
    · exact absurd rfl (S.nocell _ (PySem.mem_of_lookup hy))
    · have z := S.free _ (PySem.mem_of_lookup hy) rfl
      exact ⟨cc, by show List.lookup y [(("__class__" : Str), cc)] = some cc; rw [show y = ("__class__" : Str) from z]; simp [List.lookup]⟩
  · have hi : i < vs.length := by
      unfold L2.start at h2
      by_cases hi : i < vs.length
      · exact hi
      · rw [List.getElem?_append_right (by simpa using hi)] at h2
        rw [List.getElem?_replicate] at h2
        split at h2 <;> cases h2
    have ha : vs[i]? = some v := by
      unfold L2.start at h2
      rw [List.getElem?_append_left (by simpa using hi), List.getElem?_map] at h2
      cases e : vs[i]? with
      | none => rw [e] at h2; cases h2
      | some a => rw [e] at h2; cases h2; rfl
    obtain ⟨u, hu, rv⟩ := r.get ha
    have hp : ps[i]? = some y := by
      rw [← S.pre, List.getElem?_take_of_lt (by omega)]; exact h1
    have ndP : ps.Nodup := by rw [← S.pre]; exact S.nd.sublist (List.take_sublist _ _)
    exact ⟨u, rv, .inl ⟨S.par y (List.mem_of_getElem? hp), zip_look ndP hp hu⟩⟩
  · obtain ⟨_, rfl⟩ := cells h
    exact ⟨some v0, oc, hk _ _ ccs.1, hc2⟩
  · obtain ⟨_, rfl⟩ := cells h
    exact ccs.2
  · unfold L2.start
    show _ = N.length
    rw [List.length_append, List.length_map, List.length_replicate]
    omega

/-- the method that super() finds -/
structure SupM (P : Program) (K : PySem.W.Frag) (mg : Str → Option Value) (C D : Addr) (m : Str) (f2 : Addr) : Prop where
  sup : PySem.W.ks_superIn K C D m = some (some (.ref f2))
  fn : PySem.W.typeIn K (.ref f2) = some (.type "function")
  fi : PySem.W.fnIn K f2 = true
  sub : PySem.W.mroIn K C (.ref D) = some true
  cC : ∃ cd, PySem.W.clsIn K C = some cd
  cD : ∃ cd, PySem.W.clsIn K D = some cd
  op : PySem.W.nsIn K PySem.cStatics "thirdparty.any" = some none
  sg : mg "super" = none
  top : (P.main.scope.names.lookup ("super" : Str)).isSome = false
  nm : (m == ("__class__" : Str)) = false
section
variable {CX : CXT} {P : Program} {w : World} {K : PySem.W.Frag} {mg : Str → Option Value} {base : Heap} {N ps : List Str} {qual nam : Str} {st : Stmt} {f cc C D f2 : Addr} {cda : Addr} {A : Around} {outer : List Env} {s0 : Shared} {H0 : Hp} {E0' : XK}
/-- what the body's context knows of its own def -/
structure SuKn (P : Program) (K : PySem.W.Frag) (st : Stmt) (f cda cc D : Addr) : Prop where
  fd : ∃ oc od fd osl ar, K.lookup f = some ⟨oc, od, .func fd, osl⟩ ∧ (fd.params.posonlyargs ++ fd.params.args).head? = some ar ∧ ar.arg = ("self" : Str)
  cd : ∃ (ocl : Value) (odl : Option Addr) (vs : Array Value) (ksl : Array (Option Value)) (file : Str) (tf : Tok), K.lookup cda = some ⟨ocl, odl, .fields vs, ksl⟩ ∧ vs[2]? = some (.str file tf) ∧ ((P.main.file : Str) == file) = true
  cl : ∃ (cls : Value) (cld : Option Addr) (csl : Array (Option Value)), K.lookup cc = some ⟨cls, cld, .cell (some (.ref D)), csl⟩
abbrev XS (CX : CXT) (P : Program) (w : World) (K : PySem.W.Frag) (mg : Str → Option Value) (base : Heap) (N : List Str) (qual : Str) (scope : Scope) (f cda cc : Addr) (A : Around) (outer : List Env) (s : Shared) (H : Hp) (E : XK) : Cx := cxS CX P w K mg base N qual scope f (.ref cda) cc A outer s H E
theorem su_base {pins : List (Addr × Obj)} {σ : L2.St} {H : Hp} {s : Shared} {x dx : Addr} {fs : List (Str × V)} {m : Str} {p0 p1 : Pos} {whole : Sem Value} {body0 : List Stmt} {Q : Value → Shared → Prop} {E : Value → Shared → Prop} {sc : Scope}
    (S : SuScope N ps sc) (hps : ps[0]? = some ("self" : Str)) (kn : SuKn P K st f cda cc D) (sm : SupM P K mg C D m f2) (I : Inv (XS CX P w K mg base N qual sc f cda cc A outer s0 H0 E0') pins σ H s) (h0 : σ[0]? = some (some (.ref x))) (hx : H x = some (.ins C dx fs))
    (h : ∀ so s', Inv (XS CX P w K mg base N qual sc f cda cc A outer s0 H0 E0') ((so, PySem.W.ks_superObj D x C) :: pins) σ H s' → Q (.ref so) s') :
    _root_.PySem.wpAt (model P w) (XS CX P w K mg base N qual sc f cda cc A outer s0 H0 E0').A (.func body0 (XS CX P w K mg base N qual sc f cda cc A outer s0 H0 E0').env) (attributeBase (.Call (.Name "super" p0) [] [] p1) m (XS CX P w K mg base N qual sc f cda cc A outer s0 H0 E0').env whole) Q E s := by
  have KX := I.kIn
  have KX' : K.In s.heap := KX
  obtain ⟨mA, J, _⟩ := ins_get I.hok hx
  obtain ⟨od, J, _⟩ := J.look
  obtain ⟨mm, hns, hloc⟩ := I.loc
  have slf : sc.names.lookup ("self" : Str) = some .local := S.par _ (List.mem_of_getElem? hps)
  obtain ⟨u, ru, lk⟩ := hloc 0 "self" (.ref x) S.n0 h0 (.inl slf)
  obtain rfl : u = Value.ref x := ru
  have mself : mm ("self" : Str) = some (.ref x) := by
    rcases lk with ⟨_, e⟩ | ⟨z, _⟩
    · exact e
    · have e : sc.names.lookup ("self" : Str) = some .cell ∨ sc.names.lookup ("self" : Str) = some .free := z
      rw [slf] at e
      rcases e with e | e <;> cases e
  obtain ⟨oc, odf, fd, osl, ar, lf, hp, har⟩ := kn.fd
  obtain ⟨ocl, odl, vs, ksl, file, tf, lc, hvs, hfile⟩ := kn.cd
  obtain ⟨cls, cld, csl, lcc⟩ := kn.cl
  obtain ⟨cdD, hD⟩ := sm.cD
  have KX2 : K.In s.heap := KX'
  obtain ⟨mb, hb1, hb2⟩ := I.mod.blt
  have G := I.mod.glob.keeps I.bk
  have B := hb1.keeps I.bk
  obtain ⟨oD, hD1, hD2⟩ : ∃ oD, s.heap.get? D = some oD ∧ oD.data = .cls cdD := by
    unfold PySem.W.clsIn at hD
    split at hD
    · rename_i c d cd' sl ho
      cases hD
      exact ⟨_, KX' _ _ ho, rfl⟩
    · cases hD
  refine ks_wpAt_super_base (env := PySem.W.ksEnv qual sc s0.heap.objs.size f (.ref cda) cc) S.su S.cl sm.nm rfl (KX' _ _ lf) rfl hp rfl (KX' _ _ lc) rfl hvs hfile sm.top ?_
  refine PySem.W.ks_loadName_global S.kind S.su (Calls.loadGlobal_builtin (env := PySem.W.ksEnv qual sc s0.heap.objs.size f (.ref cda) cc) G sm.sg B ((hb2 "super" (by decide)).trans (by first | rfl | kernel_rfl)) ⟨rfl, ?_⟩)
  refine wpAny_loadName_free (c := cc) S.kind S.cl (by show List.lookup ("__class__" : Str) [(("__class__" : Str), cc)] = some cc; simp [List.lookup]) ⟨_, KX' _ _ lcc, rfl⟩ ?_
  rw [har]
  refine wpAny_loadName_local S.kind slf hns mself ?_
  obtain ⟨hh, g, d, t, os⟩ := s
  refine ks_wpAny_isType_cls hD1 hD2 ⟨rfl, ?_⟩
  refine ks_wpAny_call_super hD1 hD2 J.at_ J.cls (fun c e => ?_) (PySem.W.looks_mroIn KX' sm.sub) (fun h' e k => ?_)
  · have := J.no
    unfold PySem.W.notCls at this
    rw [e] at this
    exact Bool.noConfusion this
  · exact h _ _ (ClX.pin_new I k (Nat.le_refl _) e (fun v z => nomatch z))

def tSup (C : Addr) (sp : Sp) (t : TA) : TE := fun σ H Q => ∃ x dx fs, σ[0]? = some (some (.ref x)) ∧ H x = some (.ins C dx fs) ∧ t σ H fun vs H2 => sp (.ref x :: vs) H2 Q E0
def SuE (X : Cx) (e : Expr) (t : TE) : Prop := ∀ (body0 : List Stmt) (pins : List (Addr × Obj)) (s : Shared) (σ : L2.St) (H : Hp) (Q : VK), Inv X pins σ H s → t σ H Q →
  _root_.PySem.wpAt (model X.prog X.w) X.A (.func body0 X.env) (eval e X.env) (EP X pins σ Q) X.xe s
def SuSs (X : Cx) (body : List Stmt) (t : TS) : Prop := ∀ (body0 : List Stmt) (pins : List (Addr × Obj)) (s : Shared) (σ : L2.St) (H : Hp) (D : Ends), Inv X pins σ H s → t D σ H →
  _root_.PySem.wpAt (model X.prog X.w) X.A (.func body0 X.env) (execs body X.env) (SP X pins D) X.xe s
section
variable {sc : Scope} {k : Nat} {ps2 : List Str} {sp : Sp} {fd2 : FuncData}
theorem run_fnC {X : Cx} {CX : CXT} {E : XK} {Q : VK} {us : List Value} {vs : List V} {pins : List (Addr × Obj)} {σ : L2.St} {H : Hp} {s : Shared} {f : Addr} {fd : FuncData} {ps : List Str} (F : FnOk X.prog X.w X.K X.mg X.base CX k f fd ps sp) (hr : Room k X.A) (hb : Binds X.K fd ps []) (hx : Passes CX X E) (I : Inv X pins σ H s) (r : Vals vs us) (h : sp vs H Q E) :
    codeAny (model X.prog X.w) X.A (.call (.ref f) ⟨us, []⟩) (fun r s' => match r with | .ok (.ret v) => EP X pins σ Q v s' | .ok _ => False | .error e => X.xe e s') s := by
  have hl : (us ++ []).length = ps.length := by rw [List.append_nil, ← r.length]; exact F.len _ _ _ _ h
  have b := hb s us I.kIn hl
  rw [List.append_nil] at b
  refine codeAny_mono (F.run X.A X.stack s H ⟨us, []⟩ us vs Q E hr I.env0 b r h) fun r s' hq => ?_
  cases r with
  | error e => exact hx pins σ H s e s' I hq
  | ok fl =>
    cases fl with
    | ret u => exact I.after hq
    | next => exact False.elim hq
    | brk => exact False.elim hq
    | cont => exact False.elim hq
theorem su_call {m : Str} {e : Expr} {es : List Expr} {p0 p1 apos pos : Pos} {pl : Sem Bool} {t : TA} (S : SuScope N ps sc) (hps : ps[0]? = some ("self" : Str)) (kn : SuKn P K st f cda cc D) (sm : SupM P K mg C D m f2)
    (F : FnOk P w K mg base CX0 k f2 fd2 ps2 sp) (hb : Binds K fd2 ps2 []) (hr : Room k (XS CX0 P w K mg base N qual sc f cda cc A outer s0 H0 E0').A) (hx : Passes CX0 (XS CX0 P w K mg base N qual sc f cda cc A outer s0 H0 E0') E0) (ha : PA (XS CX0 P w K mg base N qual sc f cda cc A outer s0 H0 E0') (e :: es) t)
    (hst : starEach (e :: es) (XS CX0 P w K mg base N qual sc f cda cc A outer s0 H0 E0').env = (false, eval e (XS CX0 P w K mg base N qual sc f cda cc A outer s0 H0 E0').env) :: starEach es (XS CX0 P w K mg base N qual sc f cda cc A outer s0 H0 E0').env := by rfl)
    (hpl : (backTo pos (starEach es (XS CX0 P w K mg base N qual sc f cda cc A outer s0 H0 E0').env)).any (·.1) = false := by rfl)
    (ht : eval (.Call (.Attribute (.Call (.Name "super" p0) [] [] p1) m apos) (e :: es) [] pos) (XS CX0 P w K mg base N qual sc f cda cc A outer s0 H0 E0').env = (do
      let ov ← attributeBase (.Call (.Name "super" p0) [] [] p1) m (XS CX0 P w K mg base N qual sc f cda cc A outer s0 H0 E0').env (eval (.Call (.Name "super" p0) [] [] p1) (XS CX0 P w K mg base N qual sc f cda cc A outer s0 H0 E0').env)
      standAt apos.atName
      let (g, first) ← holding [ov] (getMethod ov m pl)
      callWith pos g first (backTo pos (starEach (e :: es) (XS CX0 P w K mg base N qual sc f cda cc A outer s0 H0 E0').env)) []) := by rfl) :
    SuE (XS CX0 P w K mg base N qual sc f cda cc A outer s0 H0 E0') (.Call (.Attribute (.Call (.Name "super" p0) [] [] p1) m apos) (e :: es) [] pos) (tSup C sp t) := by
  intro body0 pins s σ H Q I ⟨x, dx, fs, h0, hxx, hq⟩
  refine ks_wpAt_MethodCall (pl := pl) ?_ ht
  refine su_base S hps kn sm I h0 hxx fun so s1 I1 => ?_
  obtain ⟨mA, J, _⟩ := ins_get I1.hok hxx
  obtain ⟨od, J, _⟩ := J.look
  obtain ⟨cd, hC⟩ := sm.cC
  have KX : K.In s1.heap := I1.kIn
  have hsup := sm.sup
  unfold PySem.W.ks_superIn at hsup
  rw [hC] at hsup
  have hso := ClX.pin_at I1
  obtain ⟨of, hof, hofc⟩ : ∃ of, s1.heap.get? f2 = some of ∧ of.cls = .type "function" := by
    have ht' : (K.lookup f2).map (·.cls) = some (.type "function") := sm.fn
    cases z : K.lookup f2 with
    | none => rw [z] at ht'; cases ht'
    | some of => rw [z] at ht'; exact ⟨of, KX _ _ z, Option.some.inj ht'⟩
  obtain ⟨hh, g, d, tk, os⟩ := s1
  refine ks_wpAny_getMethod_super hso (PySem.W.looks_opaque KX sm.op) (l₀ := cd.mro) ?_ rfl KX hsup hof hofc (PySem.W.ks_ne KX J hC) sm.nm ?_
  · exact fun A Q E s k q => wpAny_bind ((PySem.W.looks_clsIn KX hC) A _ E s k (wpAny_pure q))
  · have I2 := ClX.met_new (g := f2) (C := x) I1
    refine ClX.callwith_cm I2 (ClX.base_none I1 (Nat.le_refl _)) sm.fi (thn (ha.run pos _ _ σ H _ I2 hq) fun us s3 ⟨vs, H2, I3, rv, q2⟩ => ⟨⟨ClX.pin_at I3, I3.kIn⟩, ?_⟩) hst hpl
    have z := wpAny_call (PySem.W.method_call (ClX.pin_at I3) (run_fnC (vs := .ref x :: vs) F hr hb hx I3 (.cons rfl rv) q2))
    exact thn z fun _ _ y => ClX.unpinE (ClX.unpinE y)
theorem su_first {X : Cx} {e : Expr} {pos : Pos} {rest : List Stmt} {te : TE} {u : TS} (he : SuE X e te) (hr : PSs X rest u) (hs : swapsWith e none pos.line X.env = pure false := by rfl) : SuSs X (.Expr e pos :: rest) (tSeq (tDrop te) u) := by
  intro body0 pins s σ H D I h
  refine ks_wpAt_execs_cons (ks_wpAt_Expr_any (ks_wpAt_mono (he body0 pins s σ H _ I h) (fun v s' hv => ?_) fun _ _ y => y) I.quiet hs)
  obtain ⟨x, H1, I1, _, q⟩ := hv
  exact wpAt_of_wpAny (hr.run pins s' σ H1 D I1 q)
theorem su_call0 {m : Str} {p0 p1 apos pos : Pos} {pl : Sem Bool} (S : SuScope N ps sc) (hps : ps[0]? = some ("self" : Str)) (kn : SuKn P K st f cda cc D) (sm : SupM P K mg C D m f2)
    (F : FnOk P w K mg base CX0 k f2 fd2 ps2 sp) (hb : Binds K fd2 ps2 []) (hr : Room k (XS CX0 P w K mg base N qual sc f cda cc A outer s0 H0 E0').A) (hx : Passes CX0 (XS CX0 P w K mg base N qual sc f cda cc A outer s0 H0 E0') E0)
    (ht : eval (.Call (.Attribute (.Call (.Name "super" p0) [] [] p1) m apos) [] [] pos) (XS CX0 P w K mg base N qual sc f cda cc A outer s0 H0 E0').env = (do
      let ov ← attributeBase (.Call (.Name "super" p0) [] [] p1) m (XS CX0 P w K mg base N qual sc f cda cc A outer s0 H0 E0').env (eval (.Call (.Name "super" p0) [] [] p1) (XS CX0 P w K mg base N qual sc f cda cc A outer s0 H0 E0').env)
      standAt apos.atName
      let (g, first) ← holding [ov] (getMethod ov m pl)
      callWith pos g first (backTo pos (starEach [] (XS CX0 P w K mg base N qual sc f cda cc A outer s0 H0 E0').env)) []) := by rfl) :
    SuE (XS CX0 P w K mg base N qual sc f cda cc A outer s0 H0 E0') (.Call (.Attribute (.Call (.Name "super" p0) [] [] p1) m apos) [] [] pos) (tSup C sp tNil) := by
  intro body0 pins s σ H Q I ⟨x, dx, fs, h0, hxx, hq⟩
  refine ks_wpAt_MethodCall (pl := pl) ?_ ht
  refine su_base S hps kn sm I h0 hxx fun so s1 I1 => ?_
  obtain ⟨mA, J, _⟩ := ins_get I1.hok hxx
  obtain ⟨od, J, _⟩ := J.look
  obtain ⟨cd, hC⟩ := sm.cC
  have KX : K.In s1.heap := I1.kIn
  have hsup := sm.sup
  unfold PySem.W.ks_superIn at hsup
  rw [hC] at hsup
  have hso := ClX.pin_at I1
  obtain ⟨of, hof, hofc⟩ : ∃ of, s1.heap.get? f2 = some of ∧ of.cls = .type "function" := by
    have ht' : (K.lookup f2).map (·.cls) = some (.type "function") := sm.fn
    cases z : K.lookup f2 with
    | none => rw [z] at ht'; cases ht'
    | some of => rw [z] at ht'; exact ⟨of, KX _ _ z, Option.some.inj ht'⟩
  obtain ⟨hh, g, d, tk, os⟩ := s1
  refine ks_wpAny_getMethod_super hso (PySem.W.looks_opaque KX sm.op) (l₀ := cd.mro) ?_ rfl KX hsup hof hofc (PySem.W.ks_ne KX J hC) sm.nm ?_
  · exact fun A Q E s k q => wpAny_bind ((PySem.W.looks_clsIn KX hC) A _ E s k (wpAny_pure q))
  · have I2 := ClX.met_new (g := f2) (C := x) I1
    refine PySem.W.callWith_M0 (K := K) (self := .ref x) ⟨ClX.pin_at I2, I2.kIn⟩ sm.fi ?_
    have z := wpAny_call (PySem.W.method_call (ClX.pin_at I2) (run_fnC (vs := [.ref x]) F hr hb hx I2 (.cons rfl .nil) hq))
    exact thn z fun _ _ y => ClX.unpinE (ClX.unpinE y)
end
end
section
variable {P : Program} {w : World} {K : PySem.W.Frag} {mg : Str → Option Value} {base : Heap} {N ps : List Str} {nam qual : Str} {st : Stmt} {f C D : Addr} {fd : FuncData} {k : Nat} {sp : Sp}
theorem fn_su (Fs : SupF P K nam qual st D f fd) (S : SuScope N ps (defScope st)) (len : ∀ vs H Q E, sp vs H Q E → vs.length = ps.length)
    (hbody : ∀ (cda cc : Addr) (A : Around) (outer : List Env) (s : Shared) (H : Hp) (vs : List V) (Q : VK) (E : XK), SuKn P K st f cda cc D → Room k (A.deeper (PySem.W.ksEnv qual (defScope st) s.heap.objs.size f (.ref cda) cc)) → sp vs H Q E →
      ∃ t, SuSs (XS CX0 P w K mg base N qual (defScope st) f cda cc A outer s H E) (defBody st) t ∧ t { nx := fun _ H' => Q .non H', rt := Q } (L2.start N vs) H) : FnOk P w K mg base CX0 (k + 1) f fd ps sp := by
  obtain ⟨oc, od, kV, doc, pm, an, cda, ct, osl, cc, ocl, odl, cls, cld, csl, ksl, vvs, file, tf, ar, rfl, lk, hcd, lc, hvs, hfile, lcc, har, hself⟩ := Fs.ex
  have kn : SuKn P K st f cda cc D := ⟨⟨oc, od, _, osl, ar, lk, har, hself⟩, ⟨ocl, odl, vvs, ksl, file, tf, lc, hvs, hfile⟩, ⟨cls, cld, csl, lcc⟩⟩
  refine ⟨len, fun A outer s H args us vs Q E hr e0 hb r hsp => ?_⟩
  have hl := len _ _ _ _ hsp
  have KB : K.In base := e0.mod.kin
  have KX : K.In s.heap := e0.mod.kin.keeps fun b o e => (e0.bs b o e).1
  have lim : s.heap.NoLimit := e0.mod.nolimit.keeps fun b o e => (e0.bs b o e).1
  refine ks_codeAny_call_defAt (fd := suFn nam qual st .none kV doc pm an (.ref cda) ct cc) (body := defBody st) (binds := ps.zip us) hr.depth (KX _ _ lk) rfl lim (PySem.W.codeRec_of KX hcd) rfl hb S.nocell (fun y hy => S.par y.1 (List.of_mem_zip (a := y.1) (b := y.2) hy).1) (fun h₁ hns hk => ?_) S.co S.gen S.kind
  obtain ⟨t, ht, hq⟩ := hbody cda cc A outer s H vs Q E kn (hr.deeper _) hsp
  have I : Inv (XS CX0 P w K mg base N qual (defScope st) f cda cc A outer s H E) [] (L2.start N vs) H { s with heap := h₁, toks := s.toks + (ps.zip us).length } :=
    inv_startS S hr.hd e0 hl r ⟨_, KB _ _ lcc, rfl⟩ hns hk
  refine ks_wpAt_mono (ht (defBody st) [] _ _ H _ I hq) (fun fl s' hs => ?_) fun _ _ y => y
  have fin : ∀ {σ' : L2.St} {H' : Hp} {v : V} {u : Value}, Inv (XS CX0 P w K mg base N qual (defScope st) f cda cc A outer s H E) [] σ' H' s' → RelV v u → Q v H' → CE outer P w H s Q u s' :=
    fun {σ' H' v u} J rv q => ⟨v, H', J.os, J.bare, J.base, J.hok, rv, q⟩
  cases fl with
  | ret u =>
    obtain ⟨v, σ', H', J, rv, q⟩ := hs
    exact fin J rv q
  | next =>
    obtain ⟨σ', H', J, q⟩ := hs
    exact fin (v := V.non) (u := Value.none) J rfl q
  | brk =>
    obtain ⟨_, _, _, q⟩ := hs
    exact False.elim q
  | cont =>
    obtain ⟨_, _, _, q⟩ := hs
    exact False.elim q
end
end M14
set_option Elab.async false
set_option linter.all false
set_option maxRecDepth 100000
set_option maxHeartbeats 4000000
namespace M14
open PySem PySem.Spec PyProof.Rows L2

section
variable {P : Program} {w : World} {K : PySem.W.Frag} {mg : Str → Option Value} {base : Heap}
set_option hygiene false
local macro_rules | `(tactic| tm_at "sc") => `(tactic| (first | omega | (simp only [List.length_cons, List.length_nil, List.length_map, List.length_set, List.length_append]; omega) | (simp only [List.length_map] at h1 ⊢; omega) | (simp only [List.length_map] at c ⊢; omega) | with_reducible assumption | exact And.intro (by omega) (by omega) | exact Or.inl (And.intro (by omega) (by omega)) | exact Or.inr (And.intro (by omega) (by omega)) | decide +kernel | exact len1000 (by simp) | rfl | fail "no way"))
local macro_rules | `(tactic| tm_at "sc1") => `(tactic| (focus (simp; done)))
local macro_rules | `(tactic| tm_at "ne") => `(tactic| (first | assumption | exact Ne.symm (by assumption) | (apply Box.ne2; assumption; tm_at "hp") | (apply Ne.symm; apply Box.ne2; assumption; tm_at "hp") | (apply ne_of_none2; assumption; tm_at "hp") | (apply Ne.symm; apply ne_of_none2; assumption; tm_at "hp") | fail "no way"))
local macro_rules | `(tactic| tm_at "f0") => `(tactic| (first | assumption | (apply Fr.new; assumption) | fail "no way"))
local macro_rules | `(tactic| tm_at "hp") => `(tactic| (first | assumption | exact upd_same | (apply SqL.of; first | assumption | exact upd_same) | (apply Fr.at0; tm_at "f0"; tm_at "hp") | (apply Fr.at1n; assumption; tm_at "ne"; tm_at "hp") | (apply sqFr0; tm_at "f0"; tm_at "hp") | (apply sqFr1; assumption; tm_at "ne"; tm_at "hp") | (apply Box.fr0; tm_at "f0"; tm_at "hp") | (apply Box.fr1; assumption; tm_at "ne"; tm_at "hp") | (apply Den.fr; tm_at "f0"; tm_at "hp") | (apply Dens.fr; tm_at "f0"; tm_at "hp") | fail "no way"))
local macro_rules | `(tactic| tm_at "free0") => `(tactic| (first | assumption | (apply updFree; assumption) | (apply updFree; apply updFree; assumption) | (apply updFree; apply updFree; apply updFree; assumption) | (apply updFree; apply updFree; apply updFree; apply updFree; assumption) | fail "no way"))
local macro_rules | `(tactic| tm_at "free") => `(tactic| (first | tm_at "free0" | (apply Fr.free; assumption; tm_at "free0") | (apply Box.free; assumption; tm_at "fr"; tm_at "free0") | (apply Fr.free; assumption; apply Fr.free; assumption; tm_at "free0") | fail "no way"))
local macro_rules | `(tactic| tm_at "fr") => `(tactic| (first | assumption | exact Fr.refl0 _ | exact Fr.refl (Box.nt (by assumption)) | (refine Fr.comp0 ?_ (by tm_at "f0"); tm_at "fr") | (refine Fr.comp ?_ (by assumption); tm_at "fr") | (refine Fr.compN ?_ (by assumption) (by tm_at "free"); tm_at "fr") | fail "no way"))
local macro_rules | `(tactic| tm_at "call") => `(tactic| fail "no call")
local macro_rules | `(tactic| tm_at "call") => `(tactic| (apply take_step; tm_at "hp"; tm_at "sc"; tm_at "sc"; intro r H1 h0 h1 hB fr))
local macro_rules | `(tactic| tm_at "ty") => `(tactic| (first | assumption | exact .base .non | exact .base (.bl _) | exact .base (.int _) | exact .base (.str _) | (apply TyX.base; apply TyOf.lst; tm_at "hp") | (apply TyX.base; apply TyOf.tup; tm_at "hp") | fail "no way"))
local macro_rules | `(tactic| tm_at "pre") => `(tactic| fail "none")
local macro_rules | `(tactic| tm_at "go1") => `(tactic| (first | tm_at "pre" | refine ⟨_, rfl, ?_⟩ | refine ⟨_, _, rfl, rfl, ?_⟩ | (apply set_step; tm_at "hp"; tm_at "sc"; tm_at "sc"; intro H1 hp fr) | (with_reducible refine iteDI ?_ ?_ <;> intro c) | (with_reducible refine iteDS ?_ ?_ <;> intro c) | (with_reducible refine iteD ?_ ?_ <;> intro c) | (with_reducible refine iteEM ?_ ?_ <;> intro c) | (with_reducible refine iteE ?_ ?_ <;> intro c) | with_reducible refine iteN ?_ | with_reducible refine iteF ?_ | with_reducible refine iteT ?_ | (refine fun (p : Addr) (np : _ = (none : Option HO)) => ?_; fail_if_success (refine ⟨fun (_ _ : Nat) (_ : Hp) => True, ?_⟩)) | (apply isi_tt; tm_at "ty"; focus (decide +kernel)) | (apply isi_ff; tm_at "ty"; focus (decide +kernel)) | (apply sl_step; tm_at "hp"; intro qq H1 ms nq hq fr) | (apply sum_step; tm_at "hp"; intro i) | (apply tru_step; tm_at "hp") | (apply len_step; tm_at "hp") | (apply lenq_step; assumption) | (apply ixq_step; assumption; tm_at "sc"; tm_at "sc"; intro v hv) | (apply lst_step; tm_at "hp") | (apply tupl_step; tm_at "hp") | (apply ixr_step; tm_at "hp"; exact rfl) | (apply ix0_step; tm_at "hp") | (apply ix1_step; tm_at "hp") | (apply ix2_step; tm_at "hp") | (apply ixi_step; tm_at "hp"; tm_at "sc"; tm_at "sc"; intro n hn hn') | (apply ixl_step; tm_at "hp"; tm_at "sc"; tm_at "sc"; intro v hv) | (apply ixt_step; tm_at "hp"; tm_at "sc"; tm_at "sc"; intro v hm hv) | (apply in_step; tm_at "hp"; rfl; rfl) | (apply cat_step; tm_at "hp"; tm_at "hp"; tm_at "sc") | (apply catT_step; tm_at "hp"; tm_at "hp"; tm_at "sc1") | (apply tyL_and; tm_at "hp") | (apply app_step; tm_at "hp"; tm_at "sc"; intro H1 hp fr) | tm_at "call" | refine ⟨⟨_, rfl⟩, ?_⟩ | (apply ixs_step; tm_at "sc"; tm_at "sc"; tm_at "sc"; intro ch) | refine .inl ⟨_, rfl, ?_⟩ | refine .inr ⟨_, rfl, ?_⟩ | (apply And.intro; tm_at "sc") | (with_reducible refine wayB ?_ ?_ <;> intro c) | fail "no way"))
local macro_rules | `(tactic| tm_at "go") => `(tactic| (repeat tm_at "go1"))
local macro_rules | `(tactic| tm_at "goo") => `(tactic| (repeat' tm_at "go1"))
local macro_rules | `(tactic| tm_at "den") => `(tactic| (first | assumption | exact Den.str _ | exact Den.int _ | exact Den.bl _ | exact Den.non | (apply Den.tups; tm_at "hp"; tm_at "dens") | (apply Den.fr; tm_at "f0"; tm_at "den") | fail "no way"))
local macro_rules | `(tactic| tm_at "dens") => `(tactic| (first | assumption | exact Dens.nil | (apply Dens.cons; tm_at "den"; tm_at "dens") | (apply Dens.fr; tm_at "f0"; tm_at "dens") | fail "no way"))
local macro_rules | `(tactic| tm_at "ix") => `(tactic| (apply Ix.mk; tm_at "hp"; tm_at "ne"; assumption; assumption))
local macro_rules | `(tactic| tm_at "dep") => `(tactic| (first | assumption | exact Dep.int | exact Dep.str | exact Dep.bl | exact Dep.non | (apply Dep.tup; tm_at "dlen"; tm_at "deps") | (apply Dep.mono; assumption; decide) | fail "no way"))
local macro_rules | `(tactic| tm_at "deps") => `(tactic| (first | assumption | exact memN | (apply memC; tm_at "dep"; tm_at "deps") | fail "no way"))
local macro_rules | `(tactic| tm_at "dlen") => `(tactic| (first | assumption | (focus (simp; done)) | omega | fail "no way"))
local macro_rules | `(tactic| tm_at "pre") => `(tactic| (apply rep_step; tm_at "hp"; tm_at "sc"; tm_at "sc"; intro rp H1 nrp hrp fr))

local macro_rules | `(tactic| tm_at "lk") => `(tactic| (first | with_reducible exact lookup_eq | ((with_reducible apply lookup_ne); (focus (decide +kernel)); tm_at "lk") | assumption | rfl | fail "no way"))
local macro_rules | `(tactic| tm_at "pf") => `(tactic| (first | with_reducible exact putF_nil | with_reducible exact putF_eq | ((with_reducible apply putF_ne); (focus (decide +kernel)); tm_at "pf") | fail "no way"))
local macro_rules | `(tactic| tm_at "fl") => `(tactic| (first | assumption | focus (simp only [List.length_cons, List.length_nil]; omega) | focus (simp only [List.length_cons, List.length_nil]; done) | focus (decide) | focus (simp; done) | focus (simp; omega) | fail "no way"))
local macro_rules | `(tactic| tm_at "pre") => `(tactic| (apply fld_step; tm_at "hp"; assumption; assumption; tm_at "lk"))
local macro_rules | `(tactic| tm_at "pre") => `(tactic| (apply putf_step; tm_at "hp"; assumption; assumption; tm_at "fl"; tm_at "pf"; intro H1 hp fr))
local macro_rules | `(tactic| tm_at "pre") => `(tactic| (apply aug_step; tm_at "hp"; assumption; assumption; tm_at "lk"))
local macro_rules | `(tactic| tm_at "pre") => `(tactic| (apply put2_step; tm_at "hp"; tm_at "fl"; tm_at "pf"; intro H1 hp fr))
local macro_rules | `(tactic| tm_at "pre") => `(tactic| (apply dget_step; tm_at "hp"; tm_at "lk"))
local macro_rules | `(tactic| tm_at "pre") => `(tactic| (apply dput_step; tm_at "hp"; (focus (omega)); intro H1 hp fr))
local macro_rules | `(tactic| tm_at "pre") => `(tactic| (apply mth_step; tm_at "hp"; tm_at "lk"))
local macro_rules | `(tactic| tm_at "pre") => `(tactic| (apply lenD_step; tm_at "hp"))
local macro_rules | `(tactic| tm_at "pre") => `(tactic| (apply addI_step))
local macro_rules | `(tactic| tm_at "pre") => `(tactic| (apply newD_step; intro dn H1 nd hp fr))
local macro_rules | `(tactic| tm_at "fr2") => `(tactic| (first | assumption | (apply Fr.appMb; assumption; (focus (simp; done)); tm_at "fr2") | (apply Fr.app0b; tm_at "f0"; tm_at "fr2") | (apply Fr.appNb; assumption; tm_at "free"; tm_at "fr2") | fail "no way"))
local macro_rules | `(tactic| tm_at "ne") => `(tactic| (apply ne_role; assumption; assumption; (focus (decide))))
local macro_rules | `(tactic| tm_at "pre") => `(tactic| (apply dnotin_step; tm_at "hp"))
local macro_rules | `(tactic| tm_at "pre") => `(tactic| (apply din_step; tm_at "hp"))

/-! ### the stores' beginnings -/
@[irreducible] def spInit (C : Addr) : Sp := fun vs H Q _ => ∃ (x dx : Addr), vs = [.ref x] ∧ H x = some (.ins C dx []) ∧ ∀ D H', H D = none → H' D = some (.dK []) → H' x = some (.ins C dx (bkF D 0 [])) → Fr [x] H H' → Q .non H'
theorem init_step {C x dx : Addr} {H : Hp} {Q : VK} {E : XK} (h : H x = some (.ins C dx [])) (q : ∀ D H', H D = none → H' D = some (.dK []) → H' x = some (.ins C dx (bkF D 0 [])) → Fr [x] H H' → Q .non H') : spInit C [.ref x] H Q E := by
  unfold spInit; exact ⟨x, dx, rfl, h, q⟩
theorem reflI {H : Hp} {x C dx : Addr} {fs : List (Str × V)} (hx : H x = some (.ins C dx fs)) : Fr [x] H H := .refl fun b m ys e => by
  have z : b = x := by simpa using m
  rw [z, hx] at e; cases e
abbrev s_Store_init : Stmt := inClass (top 8) 1
theorem sc_Store_init : FnScope ["self"] ["self"] (defScope s_Store_init) := ⟨rfl, rfl, rfl, by decide +kernel, rfl, by decide +kernel, by decide +kernel⟩

theorem ok_init {C : Addr} {f : Addr} {fd : FuncData} (c1 : Cls K C) (a1 : NoAttr K C "_things") (a2 : NoAttr K C "grown") (F : FnP K "__init__" "Store.__init__" s_Store_init f fd) : FnOk P w K mg base CX0 1 f fd ["self"] (spInit C) := by
  refine F.ok sc_Store_init (fun vs H Q E h => ?_) (fun cdv A outer s H vs Q E hr h => ?_)
  · unfold spInit at h
    obtain ⟨x, dx, rfl, _⟩ := h
    rfl
  · unfold spInit at h
    obtain ⟨x, dx, rfl, hx, q⟩ := h
    have r0 := reflI hx
    refine ⟨_, (pss_cons (ps_fldx K (pv 0) pe_dnewK rfl)
    (pss_one (ps_fldx K (pv 0) pe_int rfl))), ?_⟩
    tm_at "goo"
    have npx : p ≠ x := (ne_of_none2 np hx).symm
    exact q p _ np (by tm_at "hp") (by assumption) (by tm_at "fr2")
/-! ### the heap -/
abbrev hTl (R : Addr) (n : Nat) : List (Str × V) := [("_young", .int n), ("_old", .int 0), ("_remembered", .ref R)]
theorem sup_step {C x dx : Addr} {sp : Sp} {t : TA} {fs : List (Str × V)} {r : L2.St} {H : Hp} {Q : VK} (h : H x = some (.ins C dx fs)) (k : t (some (.ref x) :: r) H fun vs H2 => sp (.ref x :: vs) H2 Q E0) : tSup C sp t (some (.ref x) :: r) H Q := ⟨x, dx, fs, rfl, h, k⟩
@[irreducible] def spHInit (C : Addr) : Sp := fun vs H Q _ => ∃ (x dx : Addr), vs = [.ref x] ∧ H x = some (.ins C dx []) ∧ ∀ D R H', H D = none → H' D = some (.dK []) → H' x = some (.ins C dx (bkF D 0 (hTl R 0))) → Fr [x] H H' → Q .non H'
theorem hinit_step {C x dx : Addr} {H : Hp} {Q : VK} {E : XK} (h : H x = some (.ins C dx [])) (q : ∀ D R H', H D = none → H' D = some (.dK []) → H' x = some (.ins C dx (bkF D 0 (hTl R 0))) → Fr [x] H H' → Q .non H') : spHInit C [.ref x] H Q E := by
  unfold spHInit; exact ⟨x, dx, rfl, h, q⟩
structure HpF (K : PySem.W.Frag) (C : Addr) : Prop where
  y : NoAttr K C "_young"
  o : NoAttr K C "_old"
  r : NoAttr K C "_remembered"
abbrev s_HInit : Stmt := inClass (top 12) 0
theorem su_HInit : SuScope ["self"] ["self"] (defScope s_HInit) := ⟨rfl, rfl, rfl, by decide +kernel, rfl, by decide +kernel, by decide +kernel, by decide +kernel, rfl, rfl, rfl⟩
theorem ok_hinit {C D f f2 : Addr} {fd fd2 : FuncData} (c1 : Cls K C) (a1 : NoAttr K C "_things") (a2 : NoAttr K C "grown") (hf : HpF K C) (Fs : SupF P K "__init__" "Heap.__init__" s_HInit D f fd) (sm : SupM P K mg C D "__init__" f2)
    (F : FnOk P w K mg base CX0 1 f2 fd2 ["self"] (spInit C)) (hb : Binds K fd2 ["self"] []) : FnOk P w K mg base CX0 2 f fd ["self"] (spHInit C) := by
  refine fn_su Fs su_HInit (fun vs H Q E h => ?_) (fun cda cc A outer s H vs Q E kn hr h => ?_)
  · unfold spHInit at h
    obtain ⟨x, dx, rfl, _⟩ := h
    rfl
  · unfold spHInit at h
    obtain ⟨x, dx, rfl, hx, q⟩ := h
    obtain ⟨h1, h2, h3⟩ := hf
    refine ⟨_, su_first (su_call0 su_HInit rfl kn sm F hb hr pass0) (pss_cons (ps_fldx K (pv 0) pe_int rfl) (pss_cons (ps_fldx K (pv 0) pe_int rfl) (pss_one (ps_fldx K (pv 0) pe_dnewK rfl)))), ?_⟩
    refine sup_step hx ?_
    refine init_step hx fun dD H1 nD hD hx1 fr1 => ?_
    tm_at "goo"
    have nDx : dD ≠ x := (ne_of_none2 nD hx).symm
    exact q dD p _ nD (by tm_at "hp") (by assumption) (by tm_at "fr2")
/-! ### Heap's other methods -/
abbrev s_Heap_len : Stmt := inClass (top 12) 1
theorem sc_Heap_len : FnScope ["self"] ["self"] (defScope s_Heap_len) := ⟨rfl, rfl, rfl, by decide +kernel, rfl, by decide +kernel, by decide +kernel⟩

theorem ok_hlen {C CT : Addr} (cf : ClF K C CT) (T : Bl mg) (D : Def2 K C "__len__" "Heap.__len__" s_Heap_len) : CalM P w K mg base 1 C "__len__" ["self"] (spLen K CT C) := by
  refine D.cal cf.cC sc_Heap_len (fun _ _ _ _ _ _ us hl => match us, hl with | [_], _ => rfl) (fun vs H Q E h => ?_) (fun f cdv A outer s H vs Q E hr h => ?_) <;> unfold spLen at h
  · obtain ⟨ρ, sd, step, tl, B, dD, ys, rfl, _⟩ := h
    rfl
  · obtain ⟨ρ, sd, step, tl, B, dD, ys, rfl, hb, q⟩ := h
    obtain ⟨c1, a1, a2, c2, n1, n2, n3, n4⟩ := cf
    obtain ⟨dx, gr, hB⟩ := hb.at_
    obtain ⟨kvs, hD, hl, hg, _⟩ := hb.dk
    rw [← hl] at q
    refine ⟨_, (pss_one (ps_ret (pe_callB call_lenDx (by rfl) T.z_len (by decide +kernel) (pa_cons (pe_fldx K (pv 0) rfl) pa_nil)))), ?_⟩
    tm_at "goo"
    exact q
theorem hTl_ok (R : Addr) (n : Nat) : TlOk (hTl R n) := ⟨by simp, fun m h => by
  have a : ∀ m ∈ mths, (m == ("_young" : Str)) = false ∧ (m == ("_old" : Str)) = false ∧ (m == ("_remembered" : Str)) = false := by decide +kernel
  obtain ⟨a, b, c⟩ := a m h
  rw [List.lookup_cons, a]
  show List.lookup m [("_old", V.int 0), ("_remembered", V.ref R)] = none
  rw [List.lookup_cons, b]
  show List.lookup m [("_remembered", V.ref R)] = none
  rw [List.lookup_cons, c]
  rfl⟩
/-- the bank with another tail -/
theorem BkA.tail {ρ : Role} {s : Nat} {step : Int} {CT C : Addr} {tl tl' : List (Str × V)} {H H' : Hp} {B D dx : Addr} {gr : Int} {ys : List Th} (h : BkA K ρ s step CT C tl H B D ys) (hB : H' B = some (.ins C dx (bkF D gr tl'))) (f : Fr [B] H H') (l : TlOk tl') : BkA K ρ s step CT C tl' H' B D ys := by
  have nm : ∀ (a : Addr) (i j : Nat), ρ a = some (s, i, j) → i ≠ 0 → a ∉ [B] := fun a i j e n m => by
    have z : a = B := by simpa using m
    rw [z, h.rB] at e
    injection e with e
    injection e with _ e
    injection e with e _
    exact n e.symm
  exact ⟨⟨dx, gr, hB⟩, h.rB, let ⟨kvs, z, r⟩ := h.dk; ⟨kvs, f.kp _ _ z (nm _ _ _ h.rD (by decide)), r⟩, h.rD,
    fun i y q => let ⟨⟨dx, z⟩, r⟩ := h.th i y q; ⟨⟨dx, f.kp _ _ z (nm _ _ _ r (by decide))⟩, r⟩, fun i y q => let ⟨z, r⟩ := h.sl i y q; ⟨f.kp _ _ z (nm _ _ _ r (by decide)), r⟩,
    fun i y q => let ⟨a, b, c, d⟩ := h.ok i y q; ⟨a.fr f, b, c.fr f, d⟩, h.len, l, h.st⟩
abbrev s_Heap_make : Stmt := inClass (top 12) 5
theorem sc_Heap_make : FnScope ["self", "kind", "tag", "slots", "value"] ["self", "kind", "tag", "slots"] (defScope s_Heap_make) := ⟨rfl, rfl, rfl, by decide +kernel, rfl, by decide +kernel, by decide +kernel⟩

theorem ok_hmake {C CT : Addr} (cf : ClF K C CT) (hf : HpF K C) (T : Bl mg) (M_keep : CalM P w K mg base 3 C "_keep" ["self", "address", "kind", "tag", "slots"] (spKeep K CT C)) (D : Def2 K C "make" "Heap.make" s_Heap_make) : CalM P w K mg base 4 C "make" ["self", "kind", "tag", "slots"] (spMake K CT C 2 hTl) := by
  refine D.cal cf.cC sc_Heap_make (fun _ _ _ _ _ _ us hl => match us, hl with | [_, _, _, _], _ => rfl) (fun vs H Q E h => ?_) (fun f cdv A outer s H vs Q E hr h => ?_) <;> unfold spMake at h
  · obtain ⟨R, ρ, sd, B, dD, l, ys, kd, tv, tg, xs, ts, rfl, _⟩ := h
    rfl
  · obtain ⟨R, ρ, sd, B, dD, l, ys, kd, tv, tg, xs, ts, rfl, hb, hn0, hlx, dx0, dd0, dv0, dp0, lx0, q⟩ := h
    obtain ⟨c1, a1, a2, c2, n1, n2, n3, n4⟩ := cf
    obtain ⟨h1, h2, h3⟩ := hf
    obtain ⟨dx, gr, hB⟩ := hb.at_
    refine ⟨_, (pss_cons (ps_set (i := 4) sc_Heap_make.nd rfl (Or.inl rfl) (pe_mcalx (pv 0) M_keep (hr.mono (by omega)) (pa_cons (pe_op op_add (pe_op op_mul pe_int (pe_fldx K (pv 0) rfl)) pe_int) (pa_cons (pv 1) (pa_cons (pv 2) (pa_cons (pv 3) pa_nil))))))
    (pss_cons (ps_fldaugx K (pv 0) pe_int in_addx)
    (pss_one (ps_ret (pv 4))))), ?_⟩
    tm_at "goo"
    refine keep_step hb (by unfold gT; omega) hn0 hlx dx0 dd0 dv0 dp0 lx0 fun r H1 ρ' x l' nr hr1 hb1 ex fr1 => ?_
    obtain ⟨dx1, gr1, hB1⟩ := hb1.at_
    tm_at "goo"
    have F := fr1.appM fr (by simp)
    have eg : (2 : Int) * (ys.length : Int) + 1 = gT 2 ys.length := by unfold gT; omega
    have nrB : r ≠ B := (ne_of_none2 nr hB).symm
    rw [eg] at hr1
    exact q r _ ρ' x l' nr (by tm_at "hp") (hb1.tail (tl' := hTl R (ys.length + 1)) hp fr (hTl_ok R _)) ex F
@[irreducible] def spRem : Sp := fun vs H Q _ => ∃ (x v : V) (z : Int), vs = [x, .int z, v] ∧ z % 2 = 1 ∧ Q .non H
theorem rem_step {x v : V} {z : Int} {H : Hp} {Q : VK} {E : XK} (h : z % 2 = 1) (q : Q .non H) : spRem [x, .int z, v] H Q E := by unfold spRem; exact ⟨x, v, z, rfl, h, q⟩
abbrev s_young_ones : Stmt := top 11
theorem sc_young_ones : FnScope ["entries", "entry"] ["entries"] (defScope s_young_ones) := ⟨rfl, rfl, rfl, by decide +kernel, rfl, by decide +kernel, by decide +kernel⟩

abbrev s_Heap_remember : Stmt := inClass (top 12) 8
theorem sc_Heap_remember : FnScope ["self", "address", "entries"] ["self", "address", "entries"] (defScope s_Heap_remember) := ⟨rfl, rfl, rfl, by decide +kernel, rfl, by decide +kernel, by decide +kernel⟩

theorem ok_remember {C : Addr} (c1 : Cls K C) (T : Bl mg) (DY : Def1 K mg "_young_ones" s_young_ones) (D : Def2 K C "_remember" "Heap._remember" s_Heap_remember) : CalM P w K mg base 1 C "_remember" ["self", "address", "entries"] spRem := by
  have G_young_ones : Cal P w K mg base 0 "_young_ones" ["entries"] (fun _ _ _ _ => False) := DY.never fun _ _ _ _ _ _ us hl => match us, hl with | [_], _ => rfl
  refine D.cal c1 sc_Heap_remember (fun _ _ _ _ _ _ us hl => match us, hl with | [_, _, _], _ => rfl) (fun vs H Q E h => ?_) (fun f cdv A outer s H vs Q E hr h => ?_) <;> unfold spRem at h
  · obtain ⟨x, v, z, rfl, _⟩ := h
    rfl
  · obtain ⟨x, v, z, rfl, hz, q⟩ := h
    have hu := room_hu hr
    refine ⟨_, (pss_one (ps_if (PW.pt (pw_and (pt_cmpR op_eq (pe_op op_mod (pv 1) pe_int) pe_int (nomark _)) (pw_and1 (pt_cmpR op_gt (pe_callB (cLen K) (by rfl) T.z_len (by decide +kernel) (pa_cons (pe_cal G_young_ones (hr.mono (by omega)) (by rfl) (pa_cons (pv 2) pa_nil)) pa_nil)) pe_int (nomark _)))))
      (pss_one (ps_dputx hu (pe_fldx K (pv 0) rfl) (pv 1) pe_bl rfl))
      pss_nil)), ?_⟩
    tm_at "goo"
    · exact absurd c (by omega)
    · exact q
abbrev s_HSet : Stmt := inClass (top 12) 6
theorem su_HSet : SuScope ["self", "value", "index", "entry"] ["self", "value", "index", "entry"] (defScope s_HSet) := ⟨rfl, rfl, rfl, by decide +kernel, rfl, by decide +kernel, by decide +kernel, by decide +kernel, rfl, rfl, rfl⟩
theorem ok_hset {C CT D f f2 : Addr} {fd fd2 : FuncData} (cf : ClF K C CT) (Fs : SupF P K "set_slot" "Heap.set_slot" s_HSet D f fd) (sm : SupM P K mg C D "set_slot" f2)
    (F : FnOk P w K mg base CX0 1 f2 fd2 ["self", "value", "index", "entry"] (spSetSlot K CT C 2)) (hb2 : Binds K fd2 ["self", "value", "index", "entry"] []) (M_remember : CalM P w K mg base 1 C "_remember" ["self", "address", "entries"] spRem) :
    FnOk P w K mg base CX0 2 f fd ["self", "value", "index", "entry"] (spSetSlot K CT C 2) := by
  refine fn_su Fs su_HSet (fun vs H Q E h => ?_) (fun cda cc A outer s H vs Q E kn hr h => ?_) <;> unfold spSetSlot at h
  · obtain ⟨ρ, sd, tl, B, dD, va, ys, u, k, y, i, v, t, rfl, _⟩ := h
    rfl
  · obtain ⟨ρ, sd, tl, B, dD, va, ys, u, k, y, i, v, t, rfl, hb, hv, hy, i0, i1, dv, dt0, q⟩ := h
    obtain ⟨dx, gr, hB⟩ := hb.at_
    refine ⟨_, su_first (su_call su_HSet rfl kn sm F hb2 hr pass0 (pa_cons (pv 1) (pa_cons (pv 2) (pa_cons (pv 3) pa_nil)))) (pss_one (ps_expr (pe_mcalx (pv 0) M_remember (hr.mono (by omega)) (pa_cons (pe_ix (ixT K) (pv 1) pe_int (fun _ _ => rfl)) (pa_cons (pe_lst (pa_cons (pv 3) pa_nil)) pa_nil))))), ?_⟩
    refine sup_step hB ?_
    tm_at "goo"
    refine setslot_step hb hv hy i0 i1 dv dt0 fun H1 hb1 fr => ?_
    have hv1 : H1 va = some (.tup [u, .int (gT 2 k)]) := fr.tup hv
    obtain ⟨dx1, gr1, hB1⟩ := hb1.at_
    have nomr : tl.lookup ("_remember" : Str) = none := hb1.tll.nom _ (by decide +kernel)
    tm_at "goo"
    refine rem_step (by unfold gT; omega) ?_
    exact q _ (hb1.of0 (Fr.new np)) (fr.tr (Fr.new np))
abbrev s_HChg : Stmt := inClass (top 12) 7
theorem su_HChg : SuScope ["self", "value", "tag", "slots"] ["self", "value", "tag", "slots"] (defScope s_HChg) := ⟨rfl, rfl, rfl, by decide +kernel, rfl, by decide +kernel, by decide +kernel, by decide +kernel, rfl, rfl, rfl⟩
theorem ok_hchange {C CT D f f2 : Addr} {fd fd2 : FuncData} (cf : ClF K C CT) (Fs : SupF P K "change" "Heap.change" s_HChg D f fd) (sm : SupM P K mg C D "change" f2)
    (F : FnOk P w K mg base CX0 1 f2 fd2 ["self", "value", "tag", "slots"] (spChange K CT C 2)) (hb2 : Binds K fd2 ["self", "value", "tag", "slots"] []) (M_remember : CalM P w K mg base 1 C "_remember" ["self", "address", "entries"] spRem) :
    FnOk P w K mg base CX0 2 f fd ["self", "value", "tag", "slots"] (spChange K CT C 2) := by
  refine fn_su Fs su_HChg (fun vs H Q E h => ?_) (fun cda cc A outer s H vs Q E kn hr h => ?_) <;> unfold spChange at h
  · obtain ⟨ρ, sd, tl, B, dD, va, l, ys, u, k, y, tv, tg, xs, ts, rfl, _⟩ := h
    rfl
  · obtain ⟨ρ, sd, tl, B, dD, va, l, ys, u, k, y, tv, tg, xs, ts, rfl, hb, hv, hy, hlx, dx0, dd0, dv0, dp0, lx0, q⟩ := h
    obtain ⟨dx, gr, hB⟩ := hb.at_
    refine ⟨_, su_first (su_call su_HChg rfl kn sm F hb2 hr pass0 (pa_cons (pv 1) (pa_cons (pv 2) (pa_cons (pv 3) pa_nil)))) (pss_one (ps_expr (pe_mcalx (pv 0) M_remember (hr.mono (by omega)) (pa_cons (pe_ix (ixT K) (pv 1) pe_int (fun _ _ => rfl)) (pa_cons (pv 3) pa_nil))))), ?_⟩
    refine sup_step hB ?_
    tm_at "goo"
    refine change_step hb hv hy hlx dx0 dd0 dv0 dp0 lx0 fun H1 ρ' l' hb1 ex fr => ?_
    have hv1 : H1 va = some (.tup [u, .int (gT 2 k)]) := fr.tup hv
    obtain ⟨dx1, gr1, hB1⟩ := hb1.at_
    have nomr : tl.lookup ("_remember" : Str) = none := hb1.tll.nom _ (by decide +kernel)
    tm_at "goo"
    refine rem_step (by unfold gT; omega) ?_
    exact q _ _ _ hb1 ex fr
/-- from such a method to the call of it -/
theorem sup_bind {nam qual : Str} {st : Stmt} {D f : Addr} {fd : FuncData} {ps : List Str} (Fs : SupF P K nam qual st D f fd)
    (hb : ∀ (kV doc pm : Value) (an : Option Addr) (cdv ct : Value) (cc : Addr) (us : List Value), us.length = ps.length → bindArgs (suFn nam qual st .none kV doc pm an cdv ct cc) ⟨us, []⟩ = pure (ps.zip us)) : Binds K fd ps [] := by
  obtain ⟨oc, od, kV, doc, pm, an, cda, ct, osl, cc, ocl, odl, cls, cld, csl, ksl, vvs, file, tf, ar, rfl, _⟩ := Fs.ex
  exact .all fun us hl => hb _ _ _ _ _ _ _ us hl
/-- a super method of the class at C -/
def Def2S (P : Program) (K : PySem.W.Frag) (C D : Addr) (m qual : Str) (st : Stmt) : Prop := ∃ f fd, SupF P K m qual st D f fd ∧ Meth K C m f
theorem ok_HSet {C CT D f2 : Addr} {fd2 : FuncData} (cf : ClF K C CT) (T : Bl mg) (Ds : Def2S P K C D "set_slot" "Heap.set_slot" s_HSet) (D2 : FnP K "set_slot" "Store.set_slot" s_Store_set_slot f2 fd2) (sm : SupM P K mg C D "set_slot" f2)
    (M_remember : CalM P w K mg base 1 C "_remember" ["self", "address", "entries"] spRem) : CalM P w K mg base 2 C "set_slot" ["self", "value", "index", "entry"] (spSetSlot K CT C 2) := by
  obtain ⟨f, fd, Fs, g⟩ := Ds
  obtain ⟨h1, h2⟩ := fn_set_slot (P := P) (w := w) (mg := mg) (base := base) (step := 2) cf T D2
  exact ⟨f, fd, ok_hset cf Fs sm h1 h2 M_remember, cf.cC, g, sup_bind Fs fun _ _ _ _ _ _ _ us hl => match us, hl with | [_, _, _, _], _ => rfl⟩
theorem ok_HChg {C CT D f2 : Addr} {fd2 : FuncData} (cf : ClF K C CT) (T : Bl mg) (Ds : Def2S P K C D "change" "Heap.change" s_HChg) (D2 : FnP K "change" "Store.change" s_Store_change f2 fd2) (sm : SupM P K mg C D "change" f2)
    (M_remember : CalM P w K mg base 1 C "_remember" ["self", "address", "entries"] spRem) : CalM P w K mg base 2 C "change" ["self", "value", "tag", "slots"] (spChange K CT C 2) := by
  obtain ⟨f, fd, Fs, g⟩ := Ds
  obtain ⟨h1, h2⟩ := fn_change (P := P) (w := w) (mg := mg) (base := base) (step := 2) cf T D2
  exact ⟨f, fd, ok_hchange cf Fs sm h1 h2 M_remember, cf.cC, g, sup_bind Fs fun _ _ _ _ _ _ _ us hl => match us, hl with | [_, _, _, _], _ => rfl⟩
theorem ok_HInit {C D f2 : Addr} {fd2 : FuncData} (c1 : Cls K C) (a1 : NoAttr K C "_things") (a2 : NoAttr K C "grown") (hf : HpF K C) (Ds : ∃ f fd, SupF P K "__init__" "Heap.__init__" s_HInit D f fd ∧ mg "Heap" = some (.ref C) ∧ Mk K C f) (D2 : FnP K "__init__" "Store.__init__" s_Store_init f2 fd2)
    (sm : SupM P K mg C D "__init__" f2) : CalC P w K mg base 2 C "Heap" ["self"] (spHInit C) := by
  obtain ⟨f, fd, Fs, g, M⟩ := Ds
  have h2 : Binds K fd2 ["self"] [] := D2.bindsN (fun _ _ _ _ _ _ us hl => match us, hl with | [_], _ => rfl)
  exact ⟨f, fd, ok_hinit c1 a1 a2 hf Fs sm (ok_init c1 a1 a2 D2) h2, g, M, sup_bind Fs fun _ _ _ _ _ _ _ us hl => match us, hl with | [_], _ => rfl⟩
theorem ok_SInit {C : Addr} (c1 : Cls K C) (a1 : NoAttr K C "_things") (a2 : NoAttr K C "grown") (D : DefC K mg C "Store" "Store.__init__" s_Store_init) : CalC P w K mg base 1 C "Store" ["self"] (spInit C) := by
  obtain ⟨f, fd, F, g, M⟩ := D
  exact ⟨f, fd, ok_init c1 a1 a2 F, g, M, F.bindsN (fun _ _ _ _ _ _ us hl => match us, hl with | [_], _ => rfl)⟩
end
end M14
set_option Elab.async false
set_option linter.all false
set_option maxRecDepth 100000
set_option maxHeartbeats 4000000
namespace M14
open PySem PySem.Spec PyProof.Rows L2

section
variable {K : PySem.W.Frag} {ρ : Role} {s : Nat} {step : Int} {CT C : Addr} {tl : List (Str × V)} {H H' : Hp} {B D N : Addr} {ys : List Th} {xs : List Nd}
/-- the nodes with one more -/
theorem NdA.add {n n' : Int} {a l : Addr} {kd : Str} {tv : V} {tg : T} {rs : List V} {ts : List T} (h : NdA K ρ s n H N xs) (le : n ≤ n') (ha : H a = none) (hl : H l = none) (nal : a ≠ l) (hN : H' N = some (.lst ((xs.map fun x => V.ref x.nd) ++ [.ref a]))) (ha' : H' a = some (.lst [.str kd, tv, .ref l])) (hl' : H' l = some (.lst rs))
    (f : Fr [N] H H') (d : Dens K H' rs ts) (ok : ∀ t ∈ ts, EntOk n' t) (dv : Den K H' tv tg) (dp : Dep 3 tg) (lr : rs.length ≤ 200) (lx : xs.length < 2000) :
    NdA K (fun x => if x = a then some (s, 3, xs.length) else if x = l then some (s, 4, xs.length) else ρ x) s n' H' N (xs ++ [⟨a, l, kd, tv, tg, rs, ts⟩]) := by
  have up : ∀ {x o} {r : Nat × Nat × Nat}, H x = some o → ρ x = some r → (if x = a then some (s, 3, xs.length) else if x = l then some (s, 4, xs.length) else ρ x) = some r := fun e r => by
    rw [if_neg (fun z => (by rw [z, ha] at e; cases e)), if_neg (fun z => (by rw [z, hl] at e; cases e))]; exact r
  have get : ∀ (i : Nat) (z : Nd), (xs ++ [(⟨a, l, kd, tv, tg, rs, ts⟩ : Nd)])[i]? = some z → (i = xs.length ∧ z = ⟨a, l, kd, tv, tg, rs, ts⟩) ∨ (i < xs.length ∧ xs[i]? = some z) := fun i z e => by
    by_cases q : i < xs.length
    · rw [List.getElem?_append_left q] at e
      exact .inr ⟨q, e⟩
    · rw [List.getElem?_append_right (by omega)] at e
      have := (List.getElem?_eq_some_iff.mp e).1
      have q2 : i = xs.length := by simp at this; omega
      subst q2
      simp at e
      exact .inl ⟨rfl, e.symm⟩
  have nN : ∀ {x : Addr} {i j : Nat}, ρ x = some (s, i, j) → i ≠ 2 → x ∉ [N] := fun e n m => by
    have z := List.mem_singleton.mp m
    rw [z, h.rN] at e
    injection e with e
    injection e with _ e
    injection e with e _
    exact n e.symm
  refine ⟨by rw [hN]; simp, up h.at_ h.rN, fun i z e => ?_, fun i z e => ?_, fun i z e => ?_, by simp; omega⟩
  · rcases get i z e with ⟨rfl, rfl⟩ | ⟨_, e⟩
    · exact ⟨ha', if_pos rfl⟩
    · obtain ⟨q, r⟩ := h.nd i z e
      exact ⟨f.kp _ _ q (nN r (by decide)), up q r⟩
  · rcases get i z e with ⟨rfl, rfl⟩ | ⟨_, e⟩
    · exact ⟨hl', by rw [if_neg (Ne.symm nal)]; exact if_pos rfl⟩
    · obtain ⟨q, r⟩ := h.row i z e
      exact ⟨f.kp _ _ q (nN r (by decide)), up q r⟩
  · rcases get i z e with ⟨rfl, rfl⟩ | ⟨_, e⟩
    · exact ⟨d, ok, dv, dp, lr⟩
    · obtain ⟨q1, q2, q3, q4⟩ := h.ok i z e
      exact ⟨q1.fr f, fun t m => (q2 t m).mono le, q3.fr f, q4⟩
theorem NdA.frN {n : Int} {M : List Addr} (h : NdA K ρ s n H N xs) (f : Fr M H H') (aw : ∀ a ∈ M, ∀ i j, ρ a = some (s, i, j) → i ≠ 2 ∧ i ≠ 3 ∧ i ≠ 4) : NdA K ρ s n H' N xs :=
  ⟨f.kp _ _ h.at_ fun m => (aw _ m _ _ h.rN).1 rfl, h.rN, fun i x e => ⟨f.kp _ _ (h.nd i x e).1 fun m => (aw _ m _ _ (h.nd i x e).2).2.1 rfl, (h.nd i x e).2⟩,
    fun i x e => ⟨f.kp _ _ (h.row i x e).1 fun m => (aw _ m _ _ (h.row i x e).2).2.2 rfl, (h.row i x e).2⟩,
    fun i x e => let ⟨a, b, c, d⟩ := h.ok i x e; ⟨a.fr f, b, c.fr f, d⟩, h.len⟩
theorem BkA.frN {tl : List (Str × V)} {M : List Addr} (h : BkA K ρ s step CT C tl H B D ys) (f : Fr M H H') (aw : ∀ a ∈ M, ∀ i j, ρ a = some (s, i, j) → i ≠ 0 ∧ i ≠ 1 ∧ i ≠ 5 ∧ i ≠ 6) : BkA K ρ s step CT C tl H' B D ys :=
  ⟨let ⟨dx, gr, z⟩ := h.at_; ⟨dx, gr, f.kp _ _ z fun m => (aw _ m _ _ h.rB).1 rfl⟩, h.rB, let ⟨kvs, z, r⟩ := h.dk; ⟨kvs, f.kp _ _ z fun m => (aw _ m _ _ h.rD).2.1 rfl, r⟩, h.rD,
    fun i y q => let ⟨⟨dx, z⟩, r⟩ := h.th i y q; ⟨⟨dx, f.kp _ _ z fun m => (aw _ m _ _ r).2.2.1 rfl⟩, r⟩, fun i y q => let ⟨z, r⟩ := h.sl i y q; ⟨f.kp _ _ z fun m => (aw _ m _ _ r).2.2.2 rfl, r⟩,
    fun i y q => let ⟨a, b, c, d⟩ := h.ok i y q; ⟨a.fr f, b, c.fr f, d⟩, h.len, h.tll, h.st⟩
/-- one role each -/
theorem awOne {a : Addr} {r j : Nat} {p : Nat → Prop} (h : ρ a = some (s, r, j)) (n : p r) : ∀ x ∈ [a], ∀ i j, ρ x = some (s, i, j) → p i := fun x m i j' e => by
  have z : x = a := by simpa using m
  rw [z, h] at e
  injection e with e
  injection e with _ e
  injection e with e _
  rw [← e]; exact n
theorem awTwo {a b : Addr} {r r' j j' : Nat} {p : Nat → Prop} (h : ρ a = some (s, r, j)) (h' : ρ b = some (s, r', j')) (n : p r) (n' : p r') : ∀ x ∈ [a, b], ∀ i j, ρ x = some (s, i, j) → p i := fun x m i k e => by
  simp only [List.mem_cons, List.not_mem_nil, or_false] at m
  rcases m with rfl | rfl
  · exact awOne h n _ (by simp) i k e
  · exact awOne h' n' _ (by simp) i k e
theorem alive {M : List Addr} (f : Fr M H H') (m : ∀ a ∈ M, H' a ≠ none) : ∀ a, H a ≠ none → H' a ≠ none := fun a n => by
  by_cases q : a ∈ M
  · exact m a q
  · cases e : H a with
    | none => exact absurd e n
    | some o => rw [f.kp a o e q]; exact fun z => nomatch z
theorem extT {r1 r2 r3 : Role} (a : Ext H r1 r2) (b : Ext H' r2 r3) (al : ∀ a, H a ≠ none → H' a ≠ none) : Ext H r1 r3 := fun x n => (b x (al x n)).trans (a x n)
/-- forget the roles of what stood nowhere -/
def hide (ρ : Role) (M : List Addr) : Role := fun a => if a ∈ M then none else ρ a
theorem hide_ext {M : List Addr} (h : ∀ a ∈ M, H a = none) : Ext H ρ (hide ρ M) := fun a n => if_neg fun m => n (h a m)
theorem hide_at {M : List Addr} {a : Addr} (h : a ∈ M) : hide ρ M a = none := if_pos h
end
section
variable {K : PySem.W.Frag} {ρ : Role} {s : Nat} {step : Int} {CT C : Addr} {tl : List (Str × V)} {H H' : Hp} {B D N : Addr} {ys : List Th} {xs : List Nd}
/-- the roles with two more -/
def role2 (ρ : Role) (s k : Nat) (a l : Addr) : Role := fun x => if x = a then some (s, 3, k) else if x = l then some (s, 4, k) else ρ x
theorem role2_ext {k : Nat} {a l : Addr} (ha : H a = none) (hl : H l = none) : Ext H ρ (role2 ρ s k a l) := fun x n => by
  unfold role2
  rw [if_neg fun e => n (by rw [e]; exact ha), if_neg fun e => n (by rw [e]; exact hl)]
/-- a row's item replaced -/
theorem NdA.set {n : Int} {k : Nat} {x : Nd} {i : Nat} {v : V} {t : T} (h : NdA K ρ s n H N xs) (hx : xs[k]? = some x) (f : Fr [x.row] H H') (hr : H' x.row = some (.lst (x.rs.set i v))) (d : Den K H' v t) (e : EntOk n t) :
    NdA K ρ s n H' N (xs.set k { x with rs := x.rs.set i v, ts := x.ts.set i t }) := by
  have hk := (List.getElem?_eq_some_iff.mp hx).1
  have rr := (h.row k x hx).2
  have get : ∀ (j : Nat) (z : Nd), (xs.set k { x with rs := x.rs.set i v, ts := x.ts.set i t })[j]? = some z → (j = k ∧ z = { x with rs := x.rs.set i v, ts := x.ts.set i t }) ∨ (j ≠ k ∧ xs[j]? = some z) := fun j z e => by
    by_cases q : j = k
    · subst q
      rw [List.getElem?_set_self hk] at e
      exact .inl ⟨rfl, (Option.some.inj e).symm⟩
    · rw [List.getElem?_set_ne (Ne.symm q)] at e
      exact .inr ⟨q, e⟩
  have nn : ∀ {a : Addr} {r j : Nat}, ρ a = some (s, r, j) → (r ≠ 4 ∨ j ≠ k) → a ∉ [x.row] := fun e n m => by
    have z := List.mem_singleton.mp m
    rw [z, rr] at e
    injection e with e
    injection e with _ e
    injection e with e1 e2
    rcases n with n | n
    · exact n e1.symm
    · exact n e2.symm
  refine ⟨?_, h.rN, fun j z e' => ?_, fun j z e' => ?_, fun j z e' => ?_, by rw [List.length_set]; exact h.len⟩
  · rw [f.kp _ _ h.at_ (nn h.rN (.inl (by decide)))]
    congr 2
    refine List.ext_getElem? fun j => ?_
    rw [List.getElem?_map, List.getElem?_map]
    by_cases q : k = j
    · subst q
      rw [List.getElem?_set_self hk, hx]; rfl
    · rw [List.getElem?_set_ne q]
  · rcases get j z e' with ⟨rfl, rfl⟩ | ⟨_, e'⟩
    · exact ⟨f.kp _ _ (h.nd _ x hx).1 (nn (h.nd _ x hx).2 (.inl (by decide))), (h.nd _ x hx).2⟩
    · exact ⟨f.kp _ _ (h.nd _ z e').1 (nn (h.nd _ z e').2 (.inl (by decide))), (h.nd _ z e').2⟩
  · rcases get j z e' with ⟨rfl, rfl⟩ | ⟨q, e'⟩
    · exact ⟨hr, rr⟩
    · exact ⟨f.kp _ _ (h.row _ z e').1 (nn (h.row _ z e').2 (.inr q)), (h.row _ z e').2⟩
  · rcases get j z e' with ⟨rfl, rfl⟩ | ⟨q, e'⟩
    · obtain ⟨q1, q2, q3, q4, q5⟩ := h.ok _ x hx
      exact ⟨(q1.fr f).set d, in_set q2 e, q3.fr f, q4, by simpa using q5⟩
    · obtain ⟨q1, q2, q3, q4⟩ := h.ok _ z e'
      exact ⟨q1.fr f, q2, q3.fr f, q4⟩
/-- a node replaced by a new one -/
theorem NdA.put {n : Int} {k : Nat} {a l : Addr} {kd : Str} {tv : V} {tg : T} {rs : List V} {ts : List T} (h : NdA K ρ s n H N xs) (hk : k < xs.length) (ha : H a = none) (hl : H l = none) (nal : a ≠ l) (hN : H' N = some (.lst ((xs.map fun x => V.ref x.nd).set k (.ref a)))) (ha' : H' a = some (.lst [.str kd, tv, .ref l])) (hl' : H' l = some (.lst rs))
    (f : Fr [N] H H') (d : Dens K H' rs ts) (ok : ∀ t ∈ ts, EntOk n t) (dv : Den K H' tv tg) (dp : Dep 3 tg) (lr : rs.length ≤ 200) :
    NdA K (role2 ρ s k a l) s n H' N (xs.set k ⟨a, l, kd, tv, tg, rs, ts⟩) := by
  have h := h.ext (role2_ext (s := s) (k := k) ha hl)
  have get : ∀ (j : Nat) (z : Nd), (xs.set k ⟨a, l, kd, tv, tg, rs, ts⟩)[j]? = some z → (j = k ∧ z = ⟨a, l, kd, tv, tg, rs, ts⟩) ∨ (j ≠ k ∧ xs[j]? = some z) := fun j z e => by
    by_cases q : j = k
    · subst q
      rw [List.getElem?_set_self hk] at e
      exact .inl ⟨rfl, (Option.some.inj e).symm⟩
    · rw [List.getElem?_set_ne (Ne.symm q)] at e
      exact .inr ⟨q, e⟩
  have nN : ∀ {x : Addr} {i j : Nat}, role2 ρ s k a l x = some (s, i, j) → i ≠ 2 → x ∉ [N] := fun e n m => by
    have z := List.mem_singleton.mp m
    rw [z, h.rN] at e
    injection e with e
    injection e with _ e
    injection e with e _
    exact n e.symm
  have ra : role2 ρ s k a l a = some (s, 3, k) := if_pos rfl
  have rl : role2 ρ s k a l l = some (s, 4, k) := by unfold role2; rw [if_neg (Ne.symm nal)]; exact if_pos rfl
  refine ⟨?_, h.rN, fun j z e' => ?_, fun j z e' => ?_, fun j z e' => ?_, by rw [List.length_set]; exact h.len⟩
  · rw [hN]
    congr 2
    refine List.ext_getElem? fun j => ?_
    rw [List.getElem?_map]
    by_cases q : k = j
    · subst q
      rw [List.getElem?_set_self hk, List.getElem?_set_self (by simpa using hk)]; rfl
    · rw [List.getElem?_set_ne q, List.getElem?_set_ne q, List.getElem?_map]
  · rcases get j z e' with ⟨rfl, rfl⟩ | ⟨_, e'⟩
    · exact ⟨ha', ra⟩
    · exact ⟨f.kp _ _ (h.nd _ z e').1 (nN (h.nd _ z e').2 (by decide)), (h.nd _ z e').2⟩
  · rcases get j z e' with ⟨rfl, rfl⟩ | ⟨_, e'⟩
    · exact ⟨hl', rl⟩
    · exact ⟨f.kp _ _ (h.row _ z e').1 (nN (h.row _ z e').2 (by decide)), (h.row _ z e').2⟩
  · rcases get j z e' with ⟨rfl, rfl⟩ | ⟨_, e'⟩
    · exact ⟨d, ok, dv, dp, lr⟩
    · obtain ⟨q1, q2, q3, q4⟩ := h.ok _ z e'
      exact ⟨q1.fr f, q2, q3.fr f, q4⟩
def role1 (ρ : Role) (x : Addr) (r : Nat × Nat × Nat) : Role := fun a => if a = x then some r else ρ a
theorem role1_ext {x : Addr} {r : Nat × Nat × Nat} (h : H x = none) : Ext H ρ (role1 ρ x r) := fun a n => if_neg fun e => n (by rw [e]; exact h)
theorem role1_at {x : Addr} {r : Nat × Nat × Nat} : role1 ρ x r x = some r := if_pos rfl
theorem role1_ne {x a : Addr} {r : Nat × Nat × Nat} (n : a ≠ x) : role1 ρ x r a = ρ a := if_neg n
/-- the nodes with one more, whose row has its role already -/
theorem NdA.add1 {n : Int} {a l : Addr} {kd : Str} {tv : V} {tg : T} {rs : List V} {ts : List T} (h : NdA K ρ s n H N xs) (ha : H a = none) (rl : ρ l = some (s, 4, xs.length)) (hl : H l = some (.lst rs)) (hN : H' N = some (.lst ((xs.map fun x => V.ref x.nd) ++ [.ref a]))) (ha' : H' a = some (.lst [.str kd, tv, .ref l]))
    (f : Fr [N] H H') (d : Dens K H rs ts) (ok : ∀ t ∈ ts, EntOk n t) (dv : Den K H tv tg) (dp : Dep 3 tg) (lr : rs.length ≤ 200) (lx : xs.length < 2000) : NdA K (role1 ρ a (s, 3, xs.length)) s n H' N (xs ++ [⟨a, l, kd, tv, tg, rs, ts⟩]) := by
  have rx := role1_ext (ρ := ρ) (r := (s, 3, xs.length)) ha
  have h1 := h.ext rx
  have rl1 : role1 ρ a (s, 3, xs.length) l = some (s, 4, xs.length) := by rw [rx l (some_ne hl)]; exact rl
  generalize hρ : role1 ρ a (s, 3, xs.length) = ρ1 at *
  have ra : ρ1 a = some (s, 3, xs.length) := by rw [← hρ]; exact role1_at
  have get : ∀ (i : Nat) (z : Nd), (xs ++ [(⟨a, l, kd, tv, tg, rs, ts⟩ : Nd)])[i]? = some z → (i = xs.length ∧ z = ⟨a, l, kd, tv, tg, rs, ts⟩) ∨ (i < xs.length ∧ xs[i]? = some z) := fun i z e => by
    by_cases q : i < xs.length
    · rw [List.getElem?_append_left q] at e
      exact .inr ⟨q, e⟩
    · rw [List.getElem?_append_right (by omega)] at e
      have := (List.getElem?_eq_some_iff.mp e).1
      have q2 : i = xs.length := by simp at this; omega
      subst q2
      simp at e
      exact .inl ⟨rfl, e.symm⟩
  have nN : ∀ {x : Addr} {i j : Nat}, ρ1 x = some (s, i, j) → i ≠ 2 → x ∉ [N] := fun e n m => by
    have z := List.mem_singleton.mp m
    rw [z, h1.rN] at e
    injection e with e
    injection e with _ e
    injection e with e _
    exact n e.symm
  refine ⟨by rw [hN]; simp, h1.rN, fun i z e => ?_, fun i z e => ?_, fun i z e => ?_, by simp; omega⟩
  · rcases get i z e with ⟨rfl, rfl⟩ | ⟨_, e⟩
    · exact ⟨ha', ra⟩
    · obtain ⟨q, r⟩ := h1.nd i z e
      exact ⟨f.kp _ _ q (nN r (by decide)), r⟩
  · rcases get i z e with ⟨rfl, rfl⟩ | ⟨_, e⟩
    · exact ⟨f.kp _ _ hl (nN rl1 (by decide)), rl1⟩
    · obtain ⟨q, r⟩ := h1.row i z e
      exact ⟨f.kp _ _ q (nN r (by decide)), r⟩
  · rcases get i z e with ⟨rfl, rfl⟩ | ⟨_, e⟩
    · exact ⟨d.fr f, ok, dv.fr f, dp, lr⟩
    · obtain ⟨q1, q2, q3, q4⟩ := h1.ok i z e
      exact ⟨q1.fr f, q2, q3.fr f, q4⟩
theorem NdA.bound {n n' : Int} (h : NdA K ρ s n H N xs) (e : ∀ (i : Nat) (x : Nd), xs[i]? = some x → ∀ t ∈ x.ts, EntOk n' t) : NdA K ρ s n' H N xs :=
  ⟨h.at_, h.rN, h.nd, h.row, fun i x q => let ⟨a, _, c⟩ := h.ok i x q; ⟨a, e i x q, c⟩, h.len⟩
end
end M14
set_option Elab.async false
set_option linter.all false
set_option maxRecDepth 100000
set_option maxHeartbeats 4000000
/-! Graphs of entries: targets, what is noted, breadth first; no program in sight. -/
namespace M14
open PySem PySem.Spec PyProof.Rows L2
/-- the object to which an entry refers -/
def tgtI : T → Option Int
  | .tup [.str w, .int j] => if w = Str.ofString "ref" ∨ w = Str.ofString "handled" then some j else none
  | _ => none
def tgtT : T → Option Int
  | .tup [.str w, _, i] => if w = Str.ofString "pending" then tgtI i else none
  | t => tgtI t
/-- entries by their shape -/
def EntSI (t : T) : Prop := EntP t ∨ ∃ w j, t = .tup [.str w, .int j] ∧ (w = Str.ofString "ref" ∨ w = Str.ofString "handled")
def EntS (t : T) : Prop := EntSI t ∨ ∃ r i, t = .tup [.str (Str.ofString "pending"), .int r, i] ∧ EntSI i
theorem tgtI_plain {t : T} (h : EntP t) : tgtI t = none := by
  obtain ⟨w, ts, rfl, h1, h2, h3, _, _⟩ := h
  match ts with
  | [] => rfl
  | [.int j] => exact if_neg fun z => z.elim h1 h2
  | [.non] => rfl
  | [.bl _] => rfl
  | [.str _] => rfl
  | [.tup _] => rfl
  | a :: _ :: _ => cases a <;> rfl
theorem tgtT_plain {t : T} (h : EntP t) : tgtT t = none := by
  have q := tgtI_plain h
  obtain ⟨w, ts, rfl, h1, h2, h3, _, _⟩ := h
  match ts, q with
  | [], _ => rfl
  | [x], q => exact q
  | [r, i], _ => simp only [tgtT, if_neg h3]
  | a :: _ :: _ :: _, _ => cases a <;> rfl
theorem tgtI_ref {w : Str} {j : Int} (h : w = Str.ofString "ref" ∨ w = Str.ofString "handled") : tgtI (.tup [.str w, .int j]) = some j := if_pos h
theorem tgtT_ref {w : Str} {j : Int} (h : w = Str.ofString "ref" ∨ w = Str.ofString "handled") : tgtT (.tup [.str w, .int j]) = some j := if_pos h
theorem tgtT_pend {r i : T} : tgtT (.tup [.str (Str.ofString "pending"), r, i]) = tgtI i := by simp only [tgtT, if_pos]
theorem EntSI.tgt {t : T} (h : EntSI t) : tgtT t = tgtI t := by
  rcases h with h | ⟨w, j, rfl, hw⟩
  · rw [tgtT_plain h, tgtI_plain h]
  · rw [tgtT_ref hw, tgtI_ref hw]
theorem EntI.shape {n : Int} {t : T} (h : EntI n t) : EntSI t := by
  rcases h with h | ⟨w, j, e, hw, _⟩
  · exact .inl h
  · exact .inr ⟨w, j, e, hw⟩
theorem EntOk.shape {n : Int} {t : T} (h : EntOk n t) : EntS t := by
  rcases h with h | ⟨r, i, e, h⟩
  · exact .inl h.shape
  · exact .inr ⟨r, i, e, h.shape⟩
theorem EntI.tgt_in {n : Int} {t : T} {j : Int} (h : EntI n t) (e : tgtI t = some j) : 0 ≤ j ∧ j < n := by
  rcases h with h | ⟨w, k, rfl, hw, h0, h1⟩
  · rw [tgtI_plain h] at e; cases e
  · rw [tgtI_ref hw] at e; cases e; exact ⟨h0, h1⟩
theorem EntOk.tgt_in {n : Int} {t : T} {j : Int} (h : EntOk n t) (e : tgtT t = some j) : 0 ≤ j ∧ j < n := by
  rcases h with h | ⟨r, i, rfl, h⟩
  · rw [h.shape.tgt] at e; exact h.tgt_in e
  · rw [tgtT_pend] at e; exact h.tgt_in e
theorem EntSI.mov {g : Int → Int} {t : T} (h : EntSI t) : EntSI (movI g t) := by
  rcases h with h | ⟨w, j, rfl, hw⟩
  · rw [movI_plain h]; exact .inl h
  · rw [movI_ref hw]; exact .inr ⟨w, _, rfl, hw⟩
theorem EntSI.movT {g : Int → Int} {t : T} (h : EntSI t) : M14.movT g t = movI g t := by
  rcases h with h | ⟨w, j, rfl, hw⟩
  · rw [movT_plain h, movI_plain h]
  · rw [movT_ref hw, movI_ref hw]
theorem EntS.mov {g : Int → Int} {t : T} (h : EntS t) : EntS (movT g t) := by
  rcases h with h | ⟨r, i, rfl, h⟩
  · rw [h.movT]; exact .inl h.mov
  · rw [movT_pend]; exact .inr ⟨r, _, rfl, h.mov⟩
theorem EntSI.tgt_mov {g : Int → Int} {t : T} (h : EntSI t) : tgtI (movI g t) = (tgtI t).map g := by
  rcases h with h | ⟨w, j, rfl, hw⟩
  · rw [movI_plain h, tgtI_plain h]; rfl
  · rw [movI_ref hw, tgtI_ref hw, tgtI_ref hw]; rfl
theorem EntS.tgt_mov {g : Int → Int} {t : T} (h : EntS t) : tgtT (movT g t) = (tgtT t).map g := by
  rcases h with h | ⟨r, i, rfl, h⟩
  · rw [h.movT, h.mov.tgt, h.tgt, h.tgt_mov]
  · rw [movT_pend, tgtT_pend, tgtT_pend, h.tgt_mov]
theorem EntSI.mov_mov {g f : Int → Int} {t : T} (h : EntSI t) : movI f (movI g t) = movI (fun j => f (g j)) t := by
  rcases h with h | ⟨w, j, rfl, hw⟩
  · rw [movI_plain h, movI_plain h, movI_plain h]
  · rw [movI_ref hw, movI_ref hw, movI_ref hw]
theorem EntS.mov_mov {g f : Int → Int} {t : T} (h : EntS t) : movT f (movT g t) = movT (fun j => f (g j)) t := by
  rcases h with h | ⟨r, i, rfl, h⟩
  · rw [h.movT, h.mov.movT, h.movT, h.mov_mov]
  · rw [movT_pend, movT_pend, movT_pend, h.mov_mov]
theorem EntSI.mov_congr {g f : Int → Int} {t : T} (h : EntSI t) (e : ∀ j, tgtI t = some j → f j = g j) : movI f t = movI g t := by
  rcases h with h | ⟨w, j, rfl, hw⟩
  · rw [movI_plain h, movI_plain h]
  · rw [movI_ref hw, movI_ref hw, e j (tgtI_ref hw)]
theorem EntS.mov_congr {g f : Int → Int} {t : T} (h : EntS t) (e : ∀ j, tgtT t = some j → f j = g j) : movT f t = movT g t := by
  rcases h with h | ⟨r, i, rfl, h⟩
  · rw [h.movT, h.movT]; exact h.mov_congr fun j q => e j (by rw [h.tgt]; exact q)
  · rw [movT_pend, movT_pend, h.mov_congr fun j q => e j (by rw [tgtT_pend]; exact q)]
theorem EntSI.mov_id {g : Int → Int} {t : T} (h : EntSI t) (e : tgtI t = none) : movI g t = t := by
  rcases h with h | ⟨w, j, rfl, hw⟩
  · exact movI_plain h
  · rw [tgtI_ref hw] at e; cases e
theorem EntS.mov_id {g : Int → Int} {t : T} (h : EntS t) (e : tgtT t = none) : movT g t = t := by
  rcases h with h | ⟨r, i, rfl, h⟩
  · rw [h.movT]; exact h.mov_id (by rw [← h.tgt]; exact e)
  · rw [movT_pend, h.mov_id (by rw [tgtT_pend] at e; exact e)]
/-! ### what is noted -/
def note1 (os : List Int) (t : T) : List Int := match tgtT t with
  | some j => if j ∈ os then os else os ++ [j]
  | none => os
def noteZ (ts : List T) (os : List Int) : List Int := ts.foldl note1 os
theorem note1_some {os : List Int} {t : T} {j : Int} (h : tgtT t = some j) : note1 os t = if j ∈ os then os else os ++ [j] := by unfold note1; rw [h]
theorem note1_none {os : List Int} {t : T} (h : tgtT t = none) : note1 os t = os := by unfold note1; rw [h]
theorem note1_pre {os : List Int} {t : T} : ∃ r, note1 os t = os ++ r := by
  unfold note1
  cases tgtT t with
  | none => exact ⟨[], by simp⟩
  | some j =>
    by_cases h : j ∈ os
    · exact ⟨[], by simp [h]⟩
    · exact ⟨[j], by simp [h]⟩
theorem noteZ_pre : ∀ {ts : List T} {os : List Int}, ∃ r, noteZ ts os = os ++ r
  | [], os => ⟨[], by simp [noteZ]⟩
  | t :: ts, os => by
    obtain ⟨r1, e1⟩ := note1_pre (os := os) (t := t)
    obtain ⟨r2, e2⟩ := noteZ_pre (ts := ts) (os := note1 os t)
    refine ⟨r1 ++ r2, ?_⟩
    show noteZ ts (note1 os t) = _
    rw [e2, e1, List.append_assoc]
theorem note1_nodup {os : List Int} {t : T} (h : os.Nodup) : (note1 os t).Nodup := by
  unfold note1
  cases tgtT t with
  | none => exact h
  | some j =>
    by_cases q : j ∈ os
    · simp [q, h]
    · simp only [q, if_false]
      rw [List.nodup_append]
      exact ⟨h, by simp, fun a ha b hb => by
        have e : b = j := by simpa using hb
        rw [e]
        exact fun z => q (z ▸ ha)⟩
theorem noteZ_nodup : ∀ {ts : List T} {os : List Int}, os.Nodup → (noteZ ts os).Nodup
  | [], _, h => h
  | t :: ts, os, h => noteZ_nodup (ts := ts) (note1_nodup h)
theorem note1_in {os : List Int} {t : T} {S : List Int} (h : ∀ a ∈ os, a ∈ S) (ht : ∀ j, tgtT t = some j → j ∈ S) : ∀ a ∈ note1 os t, a ∈ S := by
  unfold note1
  cases e : tgtT t with
  | none => exact h
  | some j =>
    by_cases q : j ∈ os
    · simp only [q, if_true]; exact h
    · simp only [q, if_false]
      intro a m
      rcases List.mem_append.mp m with m | m
      · exact h a m
      · have z : a = j := by simpa using m
        rw [z]; exact ht j e
theorem noteZ_in : ∀ {ts : List T} {os S : List Int}, (∀ a ∈ os, a ∈ S) → (∀ t ∈ ts, ∀ j, tgtT t = some j → j ∈ S) → ∀ a ∈ noteZ ts os, a ∈ S
  | [], _, _, h, _ => h
  | t :: ts, os, S, h, ht => noteZ_in (ts := ts) (note1_in h (ht t List.mem_cons_self)) fun u m => ht u (List.mem_cons_of_mem _ m)
theorem noteZ_take_succ {ts : List T} {os : List Int} {i : Nat} {t : T} (h : ts[i]? = some t) : noteZ (ts.take (i + 1)) os = note1 (noteZ (ts.take i) os) t := by
  have e : ts.take (i + 1) = ts.take i ++ [t] := by
    rw [List.take_add_one, h]; rfl
  unfold noteZ
  rw [e, List.foldl_append]
  rfl
theorem note1_map {os : List Int} {t : T} {g : Int → Int} (hs : EntS t) (inj : ∀ j, tgtT t = some j → ∀ k ∈ os, g k = g j → k = j) : note1 (os.map g) (movT g t) = (note1 os t).map g := by
  unfold note1
  rw [hs.tgt_mov]
  cases e : tgtT t with
  | none => rfl
  | some j =>
    show (if g j ∈ os.map g then os.map g else os.map g ++ [g j]) = _
    by_cases q : j ∈ os
    · rw [if_pos (List.mem_map_of_mem q)]
      simp [q]
    · have n : g j ∉ os.map g := fun m => by
        obtain ⟨k, hk, ek⟩ := List.mem_map.mp m
        exact q (inj j e k hk ek ▸ hk)
      rw [if_neg n]
      simp [q]
theorem noteZ_map {g : Int → Int} {S : List Int} (inj : ∀ a ∈ S, ∀ b ∈ S, g a = g b → a = b) : ∀ {ts : List T} {os : List Int}, (∀ t ∈ ts, EntS t) → (∀ a ∈ os, a ∈ S) → (∀ t ∈ ts, ∀ j, tgtT t = some j → j ∈ S) → noteZ (ts.map (movT g)) (os.map g) = (noteZ ts os).map g
  | [], os, _, _, _ => rfl
  | t :: ts, os, hs, ho, ht => by
    show noteZ (ts.map (movT g)) (note1 (os.map g) (movT g t)) = (noteZ ts (note1 os t)).map g
    rw [note1_map (hs t List.mem_cons_self) fun j e k hk q => inj k (ho k hk) j (ht t List.mem_cons_self j e) q]
    exact noteZ_map inj (fun u m => hs u (List.mem_cons_of_mem _ m)) (note1_in ho (ht t List.mem_cons_self)) fun u m => ht u (List.mem_cons_of_mem _ m)
/-! ### breadth first -/
def bfs (sl : Int → List T) (os0 : List Int) : Nat → List Int
  | 0 => os0
  | i + 1 => match (bfs sl os0 i)[i]? with
    | some a => noteZ (sl a) (bfs sl os0 i)
    | none => bfs sl os0 i
theorem bfs_succ {sl : Int → List T} {os0 : List Int} {i : Nat} {a : Int} (h : (bfs sl os0 i)[i]? = some a) : bfs sl os0 (i + 1) = noteZ (sl a) (bfs sl os0 i) := by
  show (match (bfs sl os0 i)[i]? with
    | some a => noteZ (sl a) (bfs sl os0 i)
    | none => bfs sl os0 i) = _
  rw [h]
theorem bfs_stay {sl : Int → List T} {os0 : List Int} {i : Nat} (h : (bfs sl os0 i).length ≤ i) : bfs sl os0 (i + 1) = bfs sl os0 i := by
  show (match (bfs sl os0 i)[i]? with
    | some a => noteZ (sl a) (bfs sl os0 i)
    | none => bfs sl os0 i) = _
  rw [List.getElem?_eq_none h]
theorem bfs_stop {sl : Int → List T} {os0 : List Int} {i : Nat} (h : (bfs sl os0 i).length ≤ i) : ∀ k, bfs sl os0 (i + k) = bfs sl os0 i
  | 0 => rfl
  | k + 1 => by
    have e := bfs_stop h k
    have e2 : bfs sl os0 (i + k + 1) = bfs sl os0 (i + k) := bfs_stay (by rw [e]; omega)
    exact e2.trans e
theorem bfs_pre {sl : Int → List T} {os0 : List Int} {i : Nat} : ∃ r, bfs sl os0 (i + 1) = bfs sl os0 i ++ r := by
  cases h : (bfs sl os0 i)[i]? with
  | some a => rw [bfs_succ h]; exact noteZ_pre
  | none => exact ⟨[], by rw [bfs_stay (List.getElem?_eq_none_iff.mp h)]; simp⟩
/-- what stays within S -/
structure Clo (sl : Int → List T) (S : List Int) : Prop where
  sh : ∀ a ∈ S, ∀ t ∈ sl a, EntS t
  cl : ∀ a ∈ S, ∀ t ∈ sl a, ∀ j, tgtT t = some j → j ∈ S
theorem bfs_in {sl : Int → List T} {os0 S : List Int} (c : Clo sl S) (h0 : ∀ a ∈ os0, a ∈ S) : ∀ i, ∀ a ∈ bfs sl os0 i, a ∈ S
  | 0 => h0
  | i + 1 => by
    cases h : (bfs sl os0 i)[i]? with
    | some a => rw [bfs_succ h]; exact noteZ_in (bfs_in c h0 i) (c.cl a (bfs_in c h0 i a (List.mem_of_getElem? h)))
    | none => rw [bfs_stay (List.getElem?_eq_none_iff.mp h)]; exact bfs_in c h0 i
theorem bfs_nodup {sl : Int → List T} {os0 : List Int} (h0 : os0.Nodup) : ∀ i, (bfs sl os0 i).Nodup
  | 0 => h0
  | i + 1 => by
    cases h : (bfs sl os0 i)[i]? with
    | some a => rw [bfs_succ h]; exact noteZ_nodup (bfs_nodup h0 i)
    | none => rw [bfs_stay (List.getElem?_eq_none_iff.mp h)]; exact bfs_nodup h0 i
theorem nodup_le : ∀ {xs S : List Int}, xs.Nodup → (∀ x ∈ xs, x ∈ S) → xs.length ≤ S.length
  | [], _, _, _ => Nat.zero_le _
  | x :: xs, S, hn, h => by
    have hx := h x List.mem_cons_self
    obtain ⟨nx, nxs⟩ := List.nodup_cons.mp hn
    have := nodup_le (xs := xs) (S := S.erase x) nxs fun y m => (List.mem_erase_of_ne fun e => nx (by rw [← e]; exact m)).mpr (h y (List.mem_cons_of_mem _ m))
    have hl := List.length_erase_of_mem hx
    have hp : 0 < S.length := List.length_pos_of_mem hx
    simp only [List.length_cons]
    omega
theorem bfs_len {sl : Int → List T} {os0 S : List Int} (c : Clo sl S) (h0 : ∀ a ∈ os0, a ∈ S) (hn : os0.Nodup) (i : Nat) : (bfs sl os0 i).length ≤ S.length := nodup_le (bfs_nodup hn i) (bfs_in c h0 i)
/-- wherever it has come to its end -/
theorem bfs_end {sl : Int → List T} {os0 S : List Int} (c : Clo sl S) (h0 : ∀ a ∈ os0, a ∈ S) (hn : os0.Nodup) {i : Nat} (h : (bfs sl os0 i).length ≤ i) : bfs sl os0 i = bfs sl os0 S.length := by
  by_cases q : i ≤ S.length
  · have e := bfs_stop h (S.length - i)
    rw [show i + (S.length - i) = S.length by omega] at e
    exact e.symm
  · have e := bfs_stop (sl := sl) (os0 := os0) (i := S.length) (bfs_len c h0 hn _) (i - S.length)
    rw [show S.length + (i - S.length) = i by omega] at e
    exact e
theorem bfs_map {sl sz : Int → List T} {g : Int → Int} {os0 S : List Int} (c : Clo sl S) (inj : ∀ a ∈ S, ∀ b ∈ S, g a = g b → a = b) (h0 : ∀ a ∈ os0, a ∈ S) (e : ∀ a ∈ S, sz (g a) = (sl a).map (movT g)) : ∀ i, bfs sz (os0.map g) i = (bfs sl os0 i).map g
  | 0 => rfl
  | i + 1 => by
    have ih := bfs_map c inj h0 e i
    cases h : (bfs sl os0 i)[i]? with
    | some a =>
      have ha := bfs_in c h0 i a (List.mem_of_getElem? h)
      have h' : (bfs sz (os0.map g) i)[i]? = some (g a) := by rw [ih, List.getElem?_map, h]; rfl
      rw [bfs_succ h, bfs_succ h', ih, e a ha]
      exact noteZ_map inj (c.sh a ha) (bfs_in c h0 i) (c.cl a ha)
    | none =>
      have hl := List.getElem?_eq_none_iff.mp h
      rw [bfs_stay hl, bfs_stay (by rw [ih, List.length_map]; exact hl), ih]
theorem note1_has {os : List Int} {t : T} {j : Int} (h : tgtT t = some j) : j ∈ note1 os t := by
  rw [note1_some h]
  by_cases q : j ∈ os
  · rw [if_pos q]; exact q
  · rw [if_neg q]; simp
theorem noteZ_has : ∀ {ts : List T} {os : List Int} {t : T} {j : Int}, t ∈ ts → tgtT t = some j → j ∈ noteZ ts os
  | u :: ts, os, t, j, m, e => by
    rcases List.mem_cons.mp m with rfl | m
    · obtain ⟨r, q⟩ := noteZ_pre (ts := ts) (os := note1 os t)
      show j ∈ noteZ ts (note1 os t)
      rw [q]; exact List.mem_append_left _ (note1_has e)
    · exact noteZ_has (ts := ts) (os := note1 os u) m e
theorem bfs_grow {sl : Int → List T} {os0 : List Int} {k : Nat} : ∀ d, ∃ r, bfs sl os0 (k + d) = bfs sl os0 k ++ r
  | 0 => ⟨[], by simp⟩
  | d + 1 => by
    obtain ⟨r, e⟩ := bfs_grow (sl := sl) (os0 := os0) (k := k) d
    obtain ⟨r2, e2⟩ := bfs_pre (sl := sl) (os0 := os0) (i := k + d)
    exact ⟨r ++ r2, by rw [← Nat.add_assoc, e2, e, List.append_assoc]⟩
theorem bfs_start {sl : Int → List T} {os0 : List Int} {i : Nat} {a : Int} (h : a ∈ os0) : a ∈ bfs sl os0 i := by
  obtain ⟨r, e⟩ := bfs_grow (sl := sl) (os0 := os0) (k := 0) i
  rw [Nat.zero_add] at e
  rw [e]; exact List.mem_append_left _ h
theorem bfs_closed {sl : Int → List T} {os0 : List Int} {i : Nat} (h : (bfs sl os0 i).length ≤ i) {a : Int} (ha : a ∈ bfs sl os0 i) {t : T} (ht : t ∈ sl a) {j : Int} (e : tgtT t = some j) : j ∈ bfs sl os0 i := by
  obtain ⟨k, hk, ek⟩ := List.getElem_of_mem ha
  obtain ⟨d, rfl⟩ : ∃ d, i = k + 1 + d := ⟨i - (k + 1), by omega⟩
  obtain ⟨r, er⟩ := bfs_grow (sl := sl) (os0 := os0) (k := k) (1 + d)
  rw [← Nat.add_assoc] at er
  by_cases q : k < (bfs sl os0 k).length
  · have e1 : (bfs sl os0 k)[k]? = some a := by
      have z : (bfs sl os0 (k + 1 + d))[k]? = some a := by rw [← ek]; exact List.getElem?_eq_getElem hk
      rw [er, List.getElem?_append_left q] at z
      exact z
    obtain ⟨r2, er2⟩ := bfs_grow (sl := sl) (os0 := os0) (k := k + 1) d
    rw [er2, bfs_succ e1]
    exact List.mem_append_left _ (noteZ_has ht e)
  · have st := bfs_stop (sl := sl) (os0 := os0) (i := k) (by omega) (1 + d)
    rw [← Nat.add_assoc] at st
    rw [st] at hk
    omega
end M14
set_option Elab.async false
set_option linter.all false
set_option maxRecDepth 100000
set_option maxHeartbeats 4000000
namespace M14
open PySem PySem.Spec PyProof.Rows L2

/-! ### entries by a table of places -/
def gF (gs : List Int) (j : Int) : Int := gs.getD j.toNat 0
theorem gF_get {gs : List Int} {j y : Int} (e : gs[j.toNat]? = some y) : gF gs j = y := by
  unfold gF
  rw [List.getD_eq_getElem?_getD, e]; rfl
theorem gF_at {gs : List Int} {i : Nat} {y : Int} (e : gs[i]? = some y) : gF gs i = y := gF_get (j := (i : Int)) (by simpa using e)
/-- an entry as a value: its word, its parts -/
inductive EntV (K : PySem.W.Frag) (H : Hp) : V → T → Prop where
  | plain {p : Addr} {u : Str} {r : List V} {t : T} (h : EntP t) (hp : H p = some (.tup (.str u :: r))) (d : Den K H (.ref p) t) (h1 : u ≠ Str.ofString "ref") (h2 : u ≠ Str.ofString "handled") (h3 : u ≠ Str.ofString "pending") : EntV K H (.ref p) t
  | ref {p : Addr} {u : Str} {j : Int} (hw : u = Str.ofString "ref" ∨ u = Str.ofString "handled") (hp : H p = some (.tup [.str u, .int j])) (h3 : u ≠ Str.ofString "pending") : EntV K H (.ref p) (.tup [.str u, .int j])
  | pend {p : Addr} {r : Int} {z : V} {i : T} (h : EntSI i) (hp : H p = some (.tup [.str (Str.ofString "pending"), .int r, z])) (dz : Den K H z i) : EntV K H (.ref p) (.tup [.str (Str.ofString "pending"), .int r, i])
theorem EntSI.val {K : PySem.W.Frag} {H : Hp} {v : V} {t : T} (e : EntSI t) (d : Den K H v t) : EntV K H v t := by
  rcases e with h | ⟨u, j, rfl, hw⟩
  · have h0 := h
    obtain ⟨u, ts, rfl, h1, h2, h3, h4, h5⟩ := h
    have d0 := d
    obtain ⟨p, xs, rfl, hp, dx⟩ := d.tup_inv
    obtain ⟨x, r, rfl, dx1, dr⟩ := dx.uncons
    cases dx1.unstr
    exact .plain h0 hp d0 h1 h2 h3
  · obtain ⟨p, xs, rfl, hp, dx⟩ := d.tup_inv
    obtain ⟨x, r, rfl, dx1, dr⟩ := dx.uncons
    cases dx1.unstr
    obtain ⟨y, r, rfl, dy, dn⟩ := dr.uncons
    cases dy.unint
    cases dn.unnil
    exact .ref hw hp (by rcases hw with rfl | rfl <;> decide +kernel)
theorem EntS.val {K : PySem.W.Frag} {H : Hp} {v : V} {t : T} (e : EntS t) (d : Den K H v t) : EntV K H v t := by
  rcases e with h | ⟨r, i, rfl, hi⟩
  · exact h.val d
  · obtain ⟨p, xs, rfl, hp, dx⟩ := d.tup_inv
    obtain ⟨x, r1, rfl, dx1, dr⟩ := dx.uncons
    cases dx1.unstr
    obtain ⟨y, r2, rfl, dy, dr2⟩ := dr.uncons
    cases dy.unint
    obtain ⟨z, r3, rfl, dz, dn⟩ := dr2.uncons
    cases dn.unnil
    exact .pend hi hp dz
section
variable {P : Program} {w : World} {K : PySem.W.Frag} {mg : Str → Option Value} {base : Heap}
set_option hygiene false
local macro_rules | `(tactic| tm_at "sc") => `(tactic| (first | omega | (simp only [List.length_cons, List.length_nil, List.length_map, List.length_set, List.length_append]; omega) | (simp only [List.length_map] at h1 ⊢; omega) | (simp only [List.length_map] at c ⊢; omega) | with_reducible assumption | exact And.intro (by omega) (by omega) | exact Or.inl (And.intro (by omega) (by omega)) | exact Or.inr (And.intro (by omega) (by omega)) | decide +kernel | exact len1000 (by simp) | rfl | fail "no way"))
local macro_rules | `(tactic| tm_at "sc1") => `(tactic| (focus (simp; done)))
local macro_rules | `(tactic| tm_at "ne") => `(tactic| (first | assumption | exact Ne.symm (by assumption) | (apply Box.ne2; assumption; tm_at "hp") | (apply Ne.symm; apply Box.ne2; assumption; tm_at "hp") | (apply ne_of_none2; assumption; tm_at "hp") | (apply Ne.symm; apply ne_of_none2; assumption; tm_at "hp") | fail "no way"))
local macro_rules | `(tactic| tm_at "f0") => `(tactic| (first | assumption | (apply Fr.new; assumption) | fail "no way"))
local macro_rules | `(tactic| tm_at "hp") => `(tactic| (first | assumption | exact upd_same | (apply SqL.of; first | assumption | exact upd_same) | (apply Fr.at0; tm_at "f0"; tm_at "hp") | (apply Fr.at1n; assumption; tm_at "ne"; tm_at "hp") | (apply sqFr0; tm_at "f0"; tm_at "hp") | (apply sqFr1; assumption; tm_at "ne"; tm_at "hp") | (apply Box.fr0; tm_at "f0"; tm_at "hp") | (apply Box.fr1; assumption; tm_at "ne"; tm_at "hp") | (apply Den.fr; tm_at "f0"; tm_at "hp") | (apply Dens.fr; tm_at "f0"; tm_at "hp") | fail "no way"))
local macro_rules | `(tactic| tm_at "free0") => `(tactic| (first | assumption | (apply updFree; assumption) | (apply updFree; apply updFree; assumption) | (apply updFree; apply updFree; apply updFree; assumption) | (apply updFree; apply updFree; apply updFree; apply updFree; assumption) | fail "no way"))
local macro_rules | `(tactic| tm_at "free") => `(tactic| (first | tm_at "free0" | (apply Fr.free; assumption; tm_at "free0") | (apply Box.free; assumption; tm_at "fr"; tm_at "free0") | (apply Fr.free; assumption; apply Fr.free; assumption; tm_at "free0") | fail "no way"))
local macro_rules | `(tactic| tm_at "fr") => `(tactic| (first | assumption | exact Fr.refl0 _ | exact Fr.refl (Box.nt (by assumption)) | (refine Fr.comp0 ?_ (by tm_at "f0"); tm_at "fr") | (refine Fr.comp ?_ (by assumption); tm_at "fr") | (refine Fr.compN ?_ (by assumption) (by tm_at "free"); tm_at "fr") | fail "no way"))
local macro_rules | `(tactic| tm_at "call") => `(tactic| fail "no call")
local macro_rules | `(tactic| tm_at "call") => `(tactic| (apply take_step; tm_at "hp"; tm_at "sc"; tm_at "sc"; intro r H1 h0 h1 hB fr))
local macro_rules | `(tactic| tm_at "ty") => `(tactic| (first | assumption | exact .base .non | exact .base (.bl _) | exact .base (.int _) | exact .base (.str _) | (apply TyX.base; apply TyOf.lst; tm_at "hp") | (apply TyX.base; apply TyOf.tup; tm_at "hp") | fail "no way"))
local macro_rules | `(tactic| tm_at "pre") => `(tactic| fail "none")
local macro_rules | `(tactic| tm_at "go1") => `(tactic| (first | tm_at "pre" | refine ⟨_, rfl, ?_⟩ | refine ⟨_, _, rfl, rfl, ?_⟩ | (apply set_step; tm_at "hp"; tm_at "sc"; tm_at "sc"; intro H1 hp fr) | (with_reducible refine iteDI ?_ ?_ <;> intro c) | (with_reducible refine iteDS ?_ ?_ <;> intro c) | (with_reducible refine iteD ?_ ?_ <;> intro c) | (with_reducible refine iteEM ?_ ?_ <;> intro c) | (with_reducible refine iteE ?_ ?_ <;> intro c) | with_reducible refine iteN ?_ | with_reducible refine iteF ?_ | with_reducible refine iteT ?_ | (refine fun (p : Addr) (np : _ = (none : Option HO)) => ?_; fail_if_success (refine ⟨fun (_ _ : Nat) (_ : Hp) => True, ?_⟩)) | (apply isi_tt; tm_at "ty"; focus (decide +kernel)) | (apply isi_ff; tm_at "ty"; focus (decide +kernel)) | (apply sl_step; tm_at "hp"; intro qq H1 ms nq hq fr) | (apply sum_step; tm_at "hp"; intro i) | (apply tru_step; tm_at "hp") | (apply len_step; tm_at "hp") | (apply lenq_step; assumption) | (apply ixq_step; assumption; tm_at "sc"; tm_at "sc"; intro v hv) | (apply lst_step; tm_at "hp") | (apply tupl_step; tm_at "hp") | (apply ixr_step; tm_at "hp"; exact rfl) | (apply ix0_step; tm_at "hp") | (apply ix1_step; tm_at "hp") | (apply ix2_step; tm_at "hp") | (apply ixi_step; tm_at "hp"; tm_at "sc"; tm_at "sc"; intro n hn hn') | (apply ixl_step; tm_at "hp"; tm_at "sc"; tm_at "sc"; intro v hv) | (apply ixt_step; tm_at "hp"; tm_at "sc"; tm_at "sc"; intro v hm hv) | (apply in_step; tm_at "hp"; rfl; rfl) | (apply cat_step; tm_at "hp"; tm_at "hp"; tm_at "sc") | (apply catT_step; tm_at "hp"; tm_at "hp"; tm_at "sc1") | (apply tyL_and; tm_at "hp") | (apply app_step; tm_at "hp"; tm_at "sc"; intro H1 hp fr) | tm_at "call" | refine ⟨⟨_, rfl⟩, ?_⟩ | (apply ixs_step; tm_at "sc"; tm_at "sc"; tm_at "sc"; intro ch) | refine .inl ⟨_, rfl, ?_⟩ | refine .inr ⟨_, rfl, ?_⟩ | (apply And.intro; tm_at "sc") | (with_reducible refine wayB ?_ ?_ <;> intro c) | fail "no way"))
local macro_rules | `(tactic| tm_at "go") => `(tactic| (repeat tm_at "go1"))
local macro_rules | `(tactic| tm_at "goo") => `(tactic| (repeat' tm_at "go1"))
local macro_rules | `(tactic| tm_at "den") => `(tactic| (first | assumption | exact Den.str _ | exact Den.int _ | exact Den.bl _ | exact Den.non | (apply Den.tups; tm_at "hp"; tm_at "dens") | (apply Den.fr; tm_at "f0"; tm_at "den") | fail "no way"))
local macro_rules | `(tactic| tm_at "dens") => `(tactic| (first | assumption | exact Dens.nil | (apply Dens.cons; tm_at "den"; tm_at "dens") | (apply Dens.fr; tm_at "f0"; tm_at "dens") | fail "no way"))
local macro_rules | `(tactic| tm_at "ix") => `(tactic| (apply Ix.mk; tm_at "hp"; tm_at "ne"; assumption; assumption))
local macro_rules | `(tactic| tm_at "dep") => `(tactic| (first | assumption | exact Dep.int | exact Dep.str | exact Dep.bl | exact Dep.non | (apply Dep.tup; tm_at "dlen"; tm_at "deps") | (apply Dep.mono; assumption; decide) | fail "no way"))
local macro_rules | `(tactic| tm_at "deps") => `(tactic| (first | assumption | exact memN | (apply memC; tm_at "dep"; tm_at "deps") | fail "no way"))
local macro_rules | `(tactic| tm_at "dlen") => `(tactic| (first | assumption | (focus (simp; done)) | omega | fail "no way"))
local macro_rules | `(tactic| tm_at "pre") => `(tactic| (apply rep_step; tm_at "hp"; tm_at "sc"; tm_at "sc"; intro rp H1 nrp hrp fr))

@[irreducible] def spMovI (K : PySem.W.Frag) : Sp := fun vs H Q _ => ∃ (v : V) (tb : Addr) (gs : List Int) (t : T), vs = [v, .ref tb] ∧ SqL K H tb (gs.map V.int) ∧ Den K H v t ∧ EntI gs.length t ∧ ∀ v' H', Fr [] H H' → Den K H' v' (movI (gF gs) t) → Q v' H'
theorem movi_step {v : V} {tb : Addr} {gs : List Int} {t : T} {H : Hp} {Q : VK} {E : XK} (h : SqL K H tb (gs.map V.int)) (d : Den K H v t) (e : EntI gs.length t) (q : ∀ v' H', Fr [] H H' → Den K H' v' (movI (gF gs) t) → Q v' H') : spMovI K ([v, .ref tb] ++ []) H Q E := by
  unfold spMovI; exact ⟨v, tb, gs, t, rfl, h, d, e, q⟩
@[irreducible] def spMov (K : PySem.W.Frag) : Sp := fun vs H Q _ => ∃ (v : V) (tb : Addr) (gs : List Int) (t : T), vs = [v, .ref tb] ∧ SqL K H tb (gs.map V.int) ∧ Den K H v t ∧ EntOk gs.length t ∧ ∀ v' H', Fr [] H H' → Den K H' v' (movT (gF gs) t) → Q v' H'
theorem mov_step {v : V} {tb : Addr} {gs : List Int} {t : T} {H : Hp} {Q : VK} {E : XK} (h : SqL K H tb (gs.map V.int)) (d : Den K H v t) (e : EntOk gs.length t) (q : ∀ v' H', Fr [] H H' → Den K H' v' (movT (gF gs) t) → Q v' H') : spMov K ([v, .ref tb] ++ []) H Q E := by
  unfold spMov; exact ⟨v, tb, gs, t, rfl, h, d, e, q⟩
abbrev s_moved : Stmt := top 31
theorem sc_moved : FnScope ["_law_entry_here", "_law_table"] ["_law_entry_here", "_law_table"] (defScope s_moved) := ⟨rfl, rfl, rfl, by decide +kernel, rfl, by decide +kernel, by decide +kernel⟩

theorem ok_movi (T : Bl mg) (D : Def1 K mg "_law_moved" s_moved) : Cal P w K mg base 1 "_law_moved" ["_law_entry_here", "_law_table"] (spMovI K) := by
  have G_moved : Cal P w K mg base 0 "_law_moved" ["_law_entry_here", "_law_table"] (fun _ _ _ _ => False) := D.never fun _ _ _ _ _ _ us hl => match us, hl with | [_, _], _ => rfl
  refine D.cal sc_moved (fun _ _ _ _ _ _ us hl => match us, hl with | [_, _], _ => rfl) (fun vs H Q E h => ?_) (fun f cdv A outer s H vs Q E hr h => ?_) <;> unfold spMovI at h
  · obtain ⟨v, tb, gs, t, rfl, _⟩ := h
    rfl
  · obtain ⟨v, tb, gs, t, rfl, ht, d, e, q⟩ := h
    refine ⟨_, (pss_cons (ps_if (pt_cmpR op_eq (pe_ix (ixT K) (pv 0) pe_int (fun _ _ => rfl)) pe_str (nomark _))
      (pss_one (ps_ret (pe_tup (pa_cons pe_str (pa_cons (pe_ix (ixT K) (pv 0) pe_int (fun _ _ => rfl)) (pa_cons (pe_cal G_moved (hr.mono (by omega)) (by rfl) (pa_cons (pe_ix (ixT K) (pv 0) pe_int (fun _ _ => rfl)) (pa_cons (pv 1) pa_nil))) pa_nil))))))
      pss_nil)
    (pss_cons (ps_if (PW.pt (pw_or (pt_cmpR op_eq (pe_ix (ixT K) (pv 0) pe_int (fun _ _ => rfl)) pe_str (nomark _)) (pw_or1 (pt_cmpR op_eq (pe_ix (ixT K) (pv 0) pe_int (fun _ _ => rfl)) pe_str (nomark _)))))
      (pss_one (ps_ret (pe_tup (pa_cons (pe_ix (ixT K) (pv 0) pe_int (fun _ _ => rfl)) (pa_cons (pe_ix (ixL K) (pv 1) (pe_ix (ixT K) (pv 0) pe_int (fun _ _ => rfl)) (fun _ _ => rfl)) pa_nil)))))
      pss_nil)
    (pss_one (ps_ret (pv 0))))), ?_⟩
    rcases e with ⟨u, ts, rfl, h1, h2, h3, h4, h5⟩ | ⟨u, j, rfl, hw, j0, j1⟩
    · obtain ⟨p, xs, rfl, hp, dx⟩ := d.tup_inv
      obtain ⟨x, r, rfl, dx1, dr⟩ := dx.uncons
      cases dx1.unstr
      have fin : Den K H (.ref p) (movI (gF gs) (.tup (.str u :: ts))) := by
        rw [movI_plain ⟨u, ts, rfl, h1, h2, h3, h4, h5⟩]; exact d
      tm_at "goo"
      all_goals first | exact absurd (by assumption) h1 | exact absurd (by assumption) h2 | exact absurd (by assumption) h3 | exact q _ _ (by tm_at "fr") fin
    · obtain ⟨p, xs, rfl, hp, dx⟩ := d.tup_inv
      obtain ⟨x, r, rfl, dx1, dr⟩ := dx.uncons
      cases dx1.unstr
      obtain ⟨y, r, rfl, dy, dn⟩ := dr.uncons
      cases dy.unint
      cases dn.unnil
      have up : u ≠ Str.ofString "pending" := by
        rcases hw with rfl | rfl <;> decide +kernel
      have hw' := hw
      rw [movI_ref hw] at q
      tm_at "goo"
      · exact absurd (by assumption) up
      · rw [gF_get hn'] at q
        exact q _ _ (by tm_at "fr") (by tm_at "den")
      · rw [gF_get hn'] at q
        exact q _ _ (by tm_at "fr") (by tm_at "den")
      · exact absurd hw' (by rintro (z | z) <;> contradiction)
local macro_rules | `(tactic| tm_at "call") => `(tactic| (apply movi_step; tm_at "hp"; tm_at "den"; assumption; intro v H1 fr hd))
theorem ok_moved (T : Bl mg) (D : Def1 K mg "_law_moved" s_moved) : Cal P w K mg base 2 "_law_moved" ["_law_entry_here", "_law_table"] (spMov K) := by
  have G_moved : Cal P w K mg base 1 "_law_moved" ["_law_entry_here", "_law_table"] (spMovI K) := ok_movi T D
  refine D.cal sc_moved (fun _ _ _ _ _ _ us hl => match us, hl with | [_, _], _ => rfl) (fun vs H Q E h => ?_) (fun f cdv A outer s H vs Q E hr h => ?_) <;> unfold spMov at h
  · obtain ⟨v, tb, gs, t, rfl, _⟩ := h
    rfl
  · obtain ⟨v, tb, gs, t, rfl, ht, d, e, q⟩ := h
    refine ⟨_, (pss_cons (ps_if (pt_cmpR op_eq (pe_ix (ixT K) (pv 0) pe_int (fun _ _ => rfl)) pe_str (nomark _))
      (pss_one (ps_ret (pe_tup (pa_cons pe_str (pa_cons (pe_ix (ixT K) (pv 0) pe_int (fun _ _ => rfl)) (pa_cons (pe_cal G_moved (hr.mono (by omega)) (by rfl) (pa_cons (pe_ix (ixT K) (pv 0) pe_int (fun _ _ => rfl)) (pa_cons (pv 1) pa_nil))) pa_nil))))))
      pss_nil)
    (pss_cons (ps_if (PW.pt (pw_or (pt_cmpR op_eq (pe_ix (ixT K) (pv 0) pe_int (fun _ _ => rfl)) pe_str (nomark _)) (pw_or1 (pt_cmpR op_eq (pe_ix (ixT K) (pv 0) pe_int (fun _ _ => rfl)) pe_str (nomark _)))))
      (pss_one (ps_ret (pe_tup (pa_cons (pe_ix (ixT K) (pv 0) pe_int (fun _ _ => rfl)) (pa_cons (pe_ix (ixL K) (pv 1) (pe_ix (ixT K) (pv 0) pe_int (fun _ _ => rfl)) (fun _ _ => rfl)) pa_nil)))))
      pss_nil)
    (pss_one (ps_ret (pv 0))))), ?_⟩
    rcases e with (⟨u, ts, rfl, h1, h2, h3, h4, h5⟩ | ⟨u, j, rfl, hw, j0, j1⟩) | ⟨r, i, rfl, hi⟩
    · obtain ⟨p, xs, rfl, hp, dx⟩ := d.tup_inv
      obtain ⟨x, r, rfl, dx1, dr⟩ := dx.uncons
      cases dx1.unstr
      have fin : Den K H (.ref p) (movT (gF gs) (.tup (.str u :: ts))) := by
        rw [movT_plain ⟨u, ts, rfl, h1, h2, h3, h4, h5⟩]; exact d
      tm_at "goo"
      all_goals first | exact absurd (by assumption) h1 | exact absurd (by assumption) h2 | exact absurd (by assumption) h3 | exact q _ _ (by tm_at "fr") fin
    · obtain ⟨p, xs, rfl, hp, dx⟩ := d.tup_inv
      obtain ⟨x, r, rfl, dx1, dr⟩ := dx.uncons
      cases dx1.unstr
      obtain ⟨y, r, rfl, dy, dn⟩ := dr.uncons
      cases dy.unint
      cases dn.unnil
      have up : u ≠ Str.ofString "pending" := by
        rcases hw with rfl | rfl <;> decide +kernel
      have hw' := hw
      rw [movT_ref hw] at q
      tm_at "goo"
      · exact absurd (by assumption) up
      · rw [gF_get hn'] at q
        exact q _ _ (by tm_at "fr") (by tm_at "den")
      · rw [gF_get hn'] at q
        exact q _ _ (by tm_at "fr") (by tm_at "den")
      · exact absurd hw' (by rintro (z | z) <;> contradiction)
    · obtain ⟨p, xs, rfl, hp, dx⟩ := d.tup_inv
      obtain ⟨x, r1, rfl, dx1, dr⟩ := dx.uncons
      cases dx1.unstr
      obtain ⟨y, r2, rfl, dy, dr2⟩ := dr.uncons
      cases dy.unint
      obtain ⟨z, r3, rfl, dz, dn⟩ := dr2.uncons
      cases dn.unnil
      rw [movT_pend] at q
      tm_at "goo"
      all_goals trace_state
      all_goals exact q _ _ (by tm_at "fr") (by tm_at "den")
local macro_rules | `(tactic| tm_at "call") => `(tactic| (apply mov_step; tm_at "hp"; tm_at "den"; assumption; intro v H1 fr hd))
local macro_rules | `(tactic| tm_at "pure") => `(tactic| exact tyes_ok trivial (fun _ h => nomatch h))
/-! ### lists of entries moved -/
@[irreducible] def spSent (K : PySem.W.Frag) : Sp := fun vs H Q _ => ∃ (a tb : Addr) (gs : List Int) (xs : List V) (ts : List T), vs = [.ref a, .ref tb] ∧ SqL K H a xs ∧ Dens K H xs ts ∧ (∀ t ∈ ts, EntOk gs.length t) ∧ xs.length ≤ 2000 ∧ SqL K H tb (gs.map V.int) ∧
  ∀ D H' ys, H D = none → H' D = some (.lst ys) → Dens K H' ys (ts.map (movT (gF gs))) → Fr [] H H' → Q (.ref D) H'
theorem sent_step {a tb : Addr} {gs : List Int} {xs : List V} {ts : List T} {H : Hp} {Q : VK} {E : XK} (h1 : SqL K H a xs) (h2 : SqL K H tb (gs.map V.int)) (h3 : Dens K H xs ts) (h4 : ∀ t ∈ ts, EntOk gs.length t) (h5 : xs.length ≤ 2000)
    (q : ∀ D H' ys, H D = none → H' D = some (.lst ys) → Dens K H' ys (ts.map (movT (gF gs))) → Fr [] H H' → Q (.ref D) H') : spSent K ([.ref a, .ref tb] ++ []) H Q E := by unfold spSent; exact ⟨a, tb, gs, xs, ts, rfl, h1, h3, h4, h5, h2, q⟩
abbrev s_sent : Stmt := top 32
theorem sc_sent : FnScope ["_law_entries", "_law_table", "_law_entry_here"] ["_law_entries", "_law_table"] (defScope s_sent) := ⟨rfl, rfl, rfl, by decide +kernel, rfl, by decide +kernel, by decide +kernel⟩

theorem ok_sent (G_moved : Cal P w K mg base 2 "_law_moved" ["_law_entry_here", "_law_table"] (spMov K)) (D : Def1 K mg "_law_sent" s_sent) : Cal P w K mg base 3 "_law_sent" ["_law_entries", "_law_table"] (spSent K) := by
  refine D.cal sc_sent (fun _ _ _ _ _ _ us hl => match us, hl with | [_, _], _ => rfl) (fun vs H Q E h => ?_) (fun f cdv A outer s H vs Q E hr h => ?_) <;> unfold spSent at h
  · obtain ⟨a, tb, gs, xs, ts, rfl, _⟩ := h
    rfl
  · obtain ⟨a, tb, gs, xs, ts, rfl, ha, dx, ex, lx, ht, q⟩ := h
    refine ⟨_, (pss_one (ps_ret (pe_lc (own := [("_law_entry_here", 2)]) (g := gName 2) (by rfl) sc_sent.nd (pi_list (pv 0)) (blkOk_by (own := [("_law_entry_here", 2)]) (N := [("_law_entries" : Str), ("_law_table" : Str), ("_law_entry_here" : Str)]) (sc := defScope s_sent) (by decide +kernel)) (fun _ _ _ _ _ => pg_name (i := 2) sc_sent.nd rfl (Or.inl rfl)) (fun _ _ _ _ _ => pts_nil) (fun _ _ _ _ _ => (pe_cal G_moved (hr.mono (by omega)) (by rfl) (pa_cons (pv 2) (pa_cons (pv 1) pa_nil))))))), ?_⟩
    tm_at "goo"
    refine ⟨⟨_, ha⟩, ?_⟩
    refine lcL (fun _ => true) (fun H i y => ∃ t, Den K H y t ∧ ts[i]?.map (movT (gF gs)) = some t) (Cg.nil _) stab_den (xs := xs) ha (by simp) (by omega) (fun i x H hi hS f => tyes_ok trivial (fun _ h => nomatch h)) (fun i x H2 hi _ hS f R kk => ?_) (fun D H' ys nD hD m _ f => ?_)
    · obtain ⟨t, et, dt⟩ := dx.get hi
      have dt' : Den K H2 x t := by tm_at "den"
      have et' := ex t (List.mem_of_getElem? et)
      tm_at "goo"
      exact kk _ _ trivial (by tm_at "fr") ⟨_, hd, by rw [et]; rfl⟩
    · rw [keptN_all] at m
      have ma := m.all
      refine q _ _ ys (by tm_at "free") hD ⟨by rw [List.length_map, ma.1, dx.1], fun i y t a b => ?_⟩ (by tm_at "fr")
      obtain ⟨t', d', e'⟩ := ma.2 i y a
      rw [List.getElem?_map, e'] at b
      cases b
      exact d'
/-! ### tables -/
/-! ### the law's target -/
def tgtV (t : T) : Int := (tgtT t).getD (-1)
theorem tgtV_some {t : T} {j : Int} (h : tgtT t = some j) : tgtV t = j := by unfold tgtV; rw [h]; rfl
theorem tgtV_none {t : T} (h : tgtT t = none) : tgtV t = -1 := by unfold tgtV; rw [h]; rfl
@[irreducible] def spTgtI (K : PySem.W.Frag) : Sp := fun vs H Q _ => ∃ (v : V) (t : T), vs = [v] ∧ Den K H v t ∧ EntSI t ∧ Q (.int (tgtV t)) H
theorem tgti_step {v : V} {t : T} {H : Hp} {Q : VK} {E : XK} (d : Den K H v t) (e : EntSI t) (q : Q (.int (tgtV t)) H) : spTgtI K ([v] ++ []) H Q E := by unfold spTgtI; exact ⟨v, t, rfl, d, e, q⟩
@[irreducible] def spTgt (K : PySem.W.Frag) : Sp := fun vs H Q _ => ∃ (v : V) (t : T), vs = [v] ∧ Den K H v t ∧ EntS t ∧ Q (.int (tgtV t)) H
theorem tgt_step {v : V} {t : T} {H : Hp} {Q : VK} {E : XK} (d : Den K H v t) (e : EntS t) (q : Q (.int (tgtV t)) H) : spTgt K ([v] ++ []) H Q E := by unfold spTgt; exact ⟨v, t, rfl, d, e, q⟩
abbrev s_target : Stmt := top 30
theorem sc_target : FnScope ["_law_entry_here"] ["_law_entry_here"] (defScope s_target) := ⟨rfl, rfl, rfl, by decide +kernel, rfl, by decide +kernel, by decide +kernel⟩

theorem ok_tgti (T : Bl mg) (D : Def1 K mg "_law_target" s_target) : Cal P w K mg base 1 "_law_target" ["_law_entry_here"] (spTgtI K) := by
  have G_target : Cal P w K mg base 0 "_law_target" ["_law_entry_here"] (fun _ _ _ _ => False) := D.never fun _ _ _ _ _ _ us hl => match us, hl with | [_], _ => rfl
  refine D.cal sc_target (fun _ _ _ _ _ _ us hl => match us, hl with | [_], _ => rfl) (fun vs H Q E h => ?_) (fun f cdv A outer s H vs Q E hr h => ?_) <;> unfold spTgtI at h
  · obtain ⟨v, t, rfl, _⟩ := h
    rfl
  · obtain ⟨v, t, rfl, d, e, q⟩ := h
    refine ⟨_, (pss_cons (ps_if (pt_cmpR op_eq (pe_ix (ixT K) (pv 0) pe_int (fun _ _ => rfl)) pe_str (nomark _))
      (pss_one (ps_ret (pe_cal G_target (hr.mono (by omega)) (by rfl) (pa_cons (pe_ix (ixT K) (pv 0) pe_int (fun _ _ => rfl)) pa_nil))))
      pss_nil)
    (pss_cons (ps_if (PW.pt (pw_or (pt_cmpR op_eq (pe_ix (ixT K) (pv 0) pe_int (fun _ _ => rfl)) pe_str (nomark _)) (pw_or1 (pt_cmpR op_eq (pe_ix (ixT K) (pv 0) pe_int (fun _ _ => rfl)) pe_str (nomark _)))))
      (pss_one (ps_ret (pe_ix (ixT K) (pv 0) pe_int (fun _ _ => rfl))))
      pss_nil)
    (pss_one (ps_ret (pe_un un_neg pe_int))))), ?_⟩
    have ee := e
    cases e.val d with
    | plain hP hp d h1 h2 h3 =>
      rw [tgtV_none (tgtT_plain hP)] at q
      tm_at "goo"
      all_goals first | exact absurd (by assumption) h1 | exact absurd (by assumption) h2 | exact absurd (by assumption) h3 | exact q
    | ref hw hp h3 =>
      rw [tgtV_some (tgtT_ref hw)] at q
      have hw' := hw
      tm_at "goo"
      · exact absurd (by assumption) h3
      · exact q
      · exact q
      · exact absurd hw' (by rintro (z | z) <;> contradiction)
    | pend hi hp dz =>
      exfalso
      rcases ee with ⟨u, ts, e, _, _, h3, _⟩ | ⟨u, j, e, _⟩
      · cases e; exact h3 rfl
      · cases e
local macro_rules | `(tactic| tm_at "call") => `(tactic| (apply tgti_step; tm_at "den"; assumption))
theorem ok_target (T : Bl mg) (D : Def1 K mg "_law_target" s_target) : Cal P w K mg base 2 "_law_target" ["_law_entry_here"] (spTgt K) := by
  have G_target : Cal P w K mg base 1 "_law_target" ["_law_entry_here"] (spTgtI K) := ok_tgti T D
  refine D.cal sc_target (fun _ _ _ _ _ _ us hl => match us, hl with | [_], _ => rfl) (fun vs H Q E h => ?_) (fun f cdv A outer s H vs Q E hr h => ?_) <;> unfold spTgt at h
  · obtain ⟨v, t, rfl, _⟩ := h
    rfl
  · obtain ⟨v, t, rfl, d, e, q⟩ := h
    refine ⟨_, (pss_cons (ps_if (pt_cmpR op_eq (pe_ix (ixT K) (pv 0) pe_int (fun _ _ => rfl)) pe_str (nomark _))
      (pss_one (ps_ret (pe_cal G_target (hr.mono (by omega)) (by rfl) (pa_cons (pe_ix (ixT K) (pv 0) pe_int (fun _ _ => rfl)) pa_nil))))
      pss_nil)
    (pss_cons (ps_if (PW.pt (pw_or (pt_cmpR op_eq (pe_ix (ixT K) (pv 0) pe_int (fun _ _ => rfl)) pe_str (nomark _)) (pw_or1 (pt_cmpR op_eq (pe_ix (ixT K) (pv 0) pe_int (fun _ _ => rfl)) pe_str (nomark _)))))
      (pss_one (ps_ret (pe_ix (ixT K) (pv 0) pe_int (fun _ _ => rfl))))
      pss_nil)
    (pss_one (ps_ret (pe_un un_neg pe_int))))), ?_⟩
    cases e.val d with
    | plain hP hp d h1 h2 h3 =>
      rw [tgtV_none (tgtT_plain hP)] at q
      tm_at "goo"
      all_goals first | exact absurd (by assumption) h1 | exact absurd (by assumption) h2 | exact absurd (by assumption) h3 | exact q
    | ref hw hp h3 =>
      rw [tgtV_some (tgtT_ref hw)] at q
      have hw' := hw
      tm_at "goo"
      · exact absurd (by assumption) h3
      · exact q
      · exact q
      · exact absurd hw' (by rintro (z | z) <;> contradiction)
    | @pend p r z i hi hp dz =>
      have q' : Q (.int (tgtV i)) H := by
        have z : tgtV (.tup [.str (Str.ofString "pending"), .int r, i]) = tgtV i := by
          unfold tgtV; rw [tgtT_pend, hi.tgt]
        rw [z] at q; exact q
      tm_at "goo"
      all_goals trace_state
      all_goals first | exact q' | skip
end
end M14
set_option Elab.async false
set_option linter.all false
set_option maxRecDepth 100000
set_option maxHeartbeats 4000000
namespace M14
open PySem PySem.Spec PyProof.Rows L2

/-! ### the program's entries -/
def adV (t : T) : V := match tgtT t with
  | some j => .int j
  | none => .non
theorem adV_some {t : T} {j : Int} (h : tgtT t = some j) : adV t = .int j := by unfold adV; rw [h]
theorem adV_none {t : T} (h : tgtT t = none) : adV t = .non := by unfold adV; rw [h]
theorem adV_si {t : T} (h : EntSI t) : adV t = match tgtI t with
  | some j => .int j
  | none => .non := by unfold adV; rw [h.tgt]
theorem adV_pend {r i : T} (h : EntSI i) : adV (.tup [.str (Str.ofString "pending"), r, i]) = adV i := by unfold adV; rw [tgtT_pend, h.tgt]
/-- a dict's keys are these ints -/
def KnA (kvs : List (Key × V)) (os : List Int) : Prop := kvs.length = os.length ∧ ∀ z, (valV kvs (.inl z)).isSome = decide (z ∈ os)
theorem KnA.nil : KnA [] [] := ⟨rfl, fun z => by simp [valV]⟩
theorem KnA.put {kvs : List (Key × V)} {os : List Int} {z : Int} {v : V} (h : KnA kvs os) (n : z ∉ os) : KnA (putK kvs (.inl z) v) (os ++ [z]) := by
  have nk : valV kvs (.inl z) = none := by
    have := h.2 z
    rw [decide_eq_false n] at this
    cases e : valV kvs (.inl z) with
    | none => rfl
    | some u => rw [e] at this; cases this
  refine ⟨by rw [putK_new _ nk]; simp [h.1], fun y => ?_⟩
  rw [valV_put]
  by_cases e : y = z
  · subst e; simp
  · rw [if_neg fun q => e (Sum.inl.inj q), h.2 y]
    simp [e]
section
variable {P : Program} {w : World} {K : PySem.W.Frag} {mg : Str → Option Value} {base : Heap}
set_option hygiene false
local macro_rules | `(tactic| tm_at "sc") => `(tactic| (first | omega | (simp only [List.length_cons, List.length_nil, List.length_map, List.length_set, List.length_append]; omega) | (simp only [List.length_map] at h1 ⊢; omega) | (simp only [List.length_map] at c ⊢; omega) | with_reducible assumption | exact And.intro (by omega) (by omega) | exact Or.inl (And.intro (by omega) (by omega)) | exact Or.inr (And.intro (by omega) (by omega)) | decide +kernel | exact len1000 (by simp) | rfl | fail "no way"))
local macro_rules | `(tactic| tm_at "sc1") => `(tactic| (focus (simp; done)))
local macro_rules | `(tactic| tm_at "ne") => `(tactic| (first | assumption | exact Ne.symm (by assumption) | (apply Box.ne2; assumption; tm_at "hp") | (apply Ne.symm; apply Box.ne2; assumption; tm_at "hp") | (apply ne_of_none2; assumption; tm_at "hp") | (apply Ne.symm; apply ne_of_none2; assumption; tm_at "hp") | fail "no way"))
local macro_rules | `(tactic| tm_at "f0") => `(tactic| (first | assumption | (apply Fr.new; assumption) | fail "no way"))
local macro_rules | `(tactic| tm_at "hp") => `(tactic| (first | assumption | exact upd_same | (apply SqL.of; first | assumption | exact upd_same) | (apply Fr.at0; tm_at "f0"; tm_at "hp") | (apply Fr.at1n; assumption; tm_at "ne"; tm_at "hp") | (apply sqFr0; tm_at "f0"; tm_at "hp") | (apply sqFr1; assumption; tm_at "ne"; tm_at "hp") | (apply Box.fr0; tm_at "f0"; tm_at "hp") | (apply Box.fr1; assumption; tm_at "ne"; tm_at "hp") | (apply Den.fr; tm_at "f0"; tm_at "hp") | (apply Dens.fr; tm_at "f0"; tm_at "hp") | fail "no way"))
local macro_rules | `(tactic| tm_at "free0") => `(tactic| (first | assumption | (apply updFree; assumption) | (apply updFree; apply updFree; assumption) | (apply updFree; apply updFree; apply updFree; assumption) | (apply updFree; apply updFree; apply updFree; apply updFree; assumption) | fail "no way"))
local macro_rules | `(tactic| tm_at "free") => `(tactic| (first | tm_at "free0" | (apply Fr.free; assumption; tm_at "free0") | (apply Box.free; assumption; tm_at "fr"; tm_at "free0") | (apply Fr.free; assumption; apply Fr.free; assumption; tm_at "free0") | fail "no way"))
local macro_rules | `(tactic| tm_at "fr") => `(tactic| (first | assumption | exact Fr.refl0 _ | exact Fr.refl (Box.nt (by assumption)) | (refine Fr.comp0 ?_ (by tm_at "f0"); tm_at "fr") | (refine Fr.comp ?_ (by assumption); tm_at "fr") | (refine Fr.compN ?_ (by assumption) (by tm_at "free"); tm_at "fr") | fail "no way"))
local macro_rules | `(tactic| tm_at "call") => `(tactic| fail "no call")
local macro_rules | `(tactic| tm_at "call") => `(tactic| (apply take_step; tm_at "hp"; tm_at "sc"; tm_at "sc"; intro r H1 h0 h1 hB fr))
local macro_rules | `(tactic| tm_at "ty") => `(tactic| (first | assumption | exact .base .non | exact .base (.bl _) | exact .base (.int _) | exact .base (.str _) | (apply TyX.base; apply TyOf.lst; tm_at "hp") | (apply TyX.base; apply TyOf.tup; tm_at "hp") | fail "no way"))
local macro_rules | `(tactic| tm_at "pre") => `(tactic| fail "none")
local macro_rules | `(tactic| tm_at "go1") => `(tactic| (first | tm_at "pre" | refine ⟨_, rfl, ?_⟩ | refine ⟨_, _, rfl, rfl, ?_⟩ | (apply set_step; tm_at "hp"; tm_at "sc"; tm_at "sc"; intro H1 hp fr) | (with_reducible refine iteDI ?_ ?_ <;> intro c) | (with_reducible refine iteDS ?_ ?_ <;> intro c) | (with_reducible refine iteD ?_ ?_ <;> intro c) | (with_reducible refine iteEM ?_ ?_ <;> intro c) | (with_reducible refine iteE ?_ ?_ <;> intro c) | with_reducible refine iteN ?_ | with_reducible refine iteF ?_ | with_reducible refine iteT ?_ | (refine fun (p : Addr) (np : _ = (none : Option HO)) => ?_; fail_if_success (refine ⟨fun (_ _ : Nat) (_ : Hp) => True, ?_⟩)) | (apply isi_tt; tm_at "ty"; focus (decide +kernel)) | (apply isi_ff; tm_at "ty"; focus (decide +kernel)) | (apply sl_step; tm_at "hp"; intro qq H1 ms nq hq fr) | (apply sum_step; tm_at "hp"; intro i) | (apply tru_step; tm_at "hp") | (apply len_step; tm_at "hp") | (apply lenq_step; assumption) | (apply ixq_step; assumption; tm_at "sc"; tm_at "sc"; intro v hv) | (apply lst_step; tm_at "hp") | (apply tupl_step; tm_at "hp") | (apply ixr_step; tm_at "hp"; exact rfl) | (apply ix0_step; tm_at "hp") | (apply ix1_step; tm_at "hp") | (apply ix2_step; tm_at "hp") | (apply ixi_step; tm_at "hp"; tm_at "sc"; tm_at "sc"; intro n hn hn') | (apply ixl_step; tm_at "hp"; tm_at "sc"; tm_at "sc"; intro v hv) | (apply ixt_step; tm_at "hp"; tm_at "sc"; tm_at "sc"; intro v hm hv) | (apply in_step; tm_at "hp"; rfl; rfl) | (apply cat_step; tm_at "hp"; tm_at "hp"; tm_at "sc") | (apply catT_step; tm_at "hp"; tm_at "hp"; tm_at "sc1") | (apply tyL_and; tm_at "hp") | (apply app_step; tm_at "hp"; tm_at "sc"; intro H1 hp fr) | tm_at "call" | refine ⟨⟨_, rfl⟩, ?_⟩ | (apply ixs_step; tm_at "sc"; tm_at "sc"; tm_at "sc"; intro ch) | refine .inl ⟨_, rfl, ?_⟩ | refine .inr ⟨_, rfl, ?_⟩ | (apply And.intro; tm_at "sc") | (with_reducible refine wayB ?_ ?_ <;> intro c) | fail "no way"))
local macro_rules | `(tactic| tm_at "go") => `(tactic| (repeat tm_at "go1"))
local macro_rules | `(tactic| tm_at "goo") => `(tactic| (repeat' tm_at "go1"))
local macro_rules | `(tactic| tm_at "den") => `(tactic| (first | assumption | exact Den.str _ | exact Den.int _ | exact Den.bl _ | exact Den.non | (apply Den.tups; tm_at "hp"; tm_at "dens") | (apply Den.fr; tm_at "f0"; tm_at "den") | fail "no way"))
local macro_rules | `(tactic| tm_at "dens") => `(tactic| (first | assumption | exact Dens.nil | (apply Dens.cons; tm_at "den"; tm_at "dens") | (apply Dens.fr; tm_at "f0"; tm_at "dens") | fail "no way"))
local macro_rules | `(tactic| tm_at "ix") => `(tactic| (apply Ix.mk; tm_at "hp"; tm_at "ne"; assumption; assumption))
local macro_rules | `(tactic| tm_at "dep") => `(tactic| (first | assumption | exact Dep.int | exact Dep.str | exact Dep.bl | exact Dep.non | (apply Dep.tup; tm_at "dlen"; tm_at "deps") | (apply Dep.mono; assumption; decide) | fail "no way"))
local macro_rules | `(tactic| tm_at "deps") => `(tactic| (first | assumption | exact memN | (apply memC; tm_at "dep"; tm_at "deps") | fail "no way"))
local macro_rules | `(tactic| tm_at "dlen") => `(tactic| (first | assumption | (focus (simp; done)) | omega | fail "no way"))
local macro_rules | `(tactic| tm_at "pre") => `(tactic| (apply rep_step; tm_at "hp"; tm_at "sc"; tm_at "sc"; intro rp H1 nrp hrp fr))

local macro_rules | `(tactic| tm_at "lk") => `(tactic| (first | with_reducible exact lookup_eq | ((with_reducible apply lookup_ne); (focus (decide +kernel)); tm_at "lk") | assumption | rfl | fail "no way"))
local macro_rules | `(tactic| tm_at "pf") => `(tactic| (first | with_reducible exact putF_nil | with_reducible exact putF_eq | ((with_reducible apply putF_ne); (focus (decide +kernel)); tm_at "pf") | fail "no way"))
local macro_rules | `(tactic| tm_at "fl") => `(tactic| (first | assumption | focus (simp only [List.length_cons, List.length_nil]; omega) | focus (simp only [List.length_cons, List.length_nil]; done) | focus (decide) | focus (simp; done) | focus (simp; omega) | fail "no way"))
local macro_rules | `(tactic| tm_at "pre") => `(tactic| (apply fld_step; tm_at "hp"; assumption; assumption; tm_at "lk"))
local macro_rules | `(tactic| tm_at "pre") => `(tactic| (apply putf_step; tm_at "hp"; assumption; assumption; tm_at "fl"; tm_at "pf"; intro H1 hp fr))
local macro_rules | `(tactic| tm_at "pre") => `(tactic| (apply aug_step; tm_at "hp"; assumption; assumption; tm_at "lk"))
local macro_rules | `(tactic| tm_at "pre") => `(tactic| (apply put2_step; tm_at "hp"; tm_at "fl"; tm_at "pf"; intro H1 hp fr))
local macro_rules | `(tactic| tm_at "pre") => `(tactic| (apply dget_step; tm_at "hp"; tm_at "lk"))
local macro_rules | `(tactic| tm_at "pre") => `(tactic| (apply dput_step; tm_at "hp"; (focus (omega)); intro H1 hp fr))
local macro_rules | `(tactic| tm_at "pre") => `(tactic| (apply mth_step; tm_at "hp"; tm_at "lk"))
local macro_rules | `(tactic| tm_at "pre") => `(tactic| (apply lenD_step; tm_at "hp"))
local macro_rules | `(tactic| tm_at "pre") => `(tactic| (apply addI_step))
local macro_rules | `(tactic| tm_at "pre") => `(tactic| (apply newD_step; intro dn H1 nd hp fr))
local macro_rules | `(tactic| tm_at "fr2") => `(tactic| (first | assumption | (apply Fr.appMb; assumption; (focus (simp; done)); tm_at "fr2") | (apply Fr.app0b; tm_at "f0"; tm_at "fr2") | (apply Fr.appNb; assumption; tm_at "free"; tm_at "fr2") | fail "no way"))
local macro_rules | `(tactic| tm_at "ne") => `(tactic| (apply ne_role; assumption; assumption; (focus (decide))))
local macro_rules | `(tactic| tm_at "pre") => `(tactic| (apply dnotin_step; tm_at "hp"))
local macro_rules | `(tactic| tm_at "pre") => `(tactic| (apply din_step; tm_at "hp"))

@[irreducible] def spAddr (K : PySem.W.Frag) : Sp := fun vs H Q _ => ∃ (v : V) (t : T), vs = [v] ∧ Den K H v t ∧ EntS t ∧ Q (adV t) H
theorem addr_step {v : V} {t : T} {H : Hp} {Q : VK} {E : XK} (d : Den K H v t) (e : EntS t) (q : Q (adV t) H) : spAddr K ([v] ++ []) H Q E := by unfold spAddr; exact ⟨v, t, rfl, d, e, q⟩
abbrev s_p_address_of : Stmt := top 2
theorem sc_p_address_of : FnScope ["entry", "inner"] ["entry"] (defScope s_p_address_of) := ⟨rfl, rfl, rfl, by decide +kernel, rfl, by decide +kernel, by decide +kernel⟩

theorem ok_addr (T : Bl mg) (D : Def1 K mg "address_of" s_p_address_of) : Cal P w K mg base 1 "address_of" ["entry"] (spAddr K) := by
  refine D.cal sc_p_address_of (fun _ _ _ _ _ _ us hl => match us, hl with | [_], _ => rfl) (fun vs H Q E h => ?_) (fun f cdv A outer s H vs Q E hr h => ?_) <;> unfold spAddr at h
  · obtain ⟨v, t, rfl, _⟩ := h
    rfl
  · obtain ⟨v, t, rfl, d, e, q⟩ := h
    refine ⟨_, (pss_cons (ps_set (i := 1) sc_p_address_of.nd rfl (Or.inl rfl) (pv 0))
    (pss_cons (ps_if (pt_cmpR op_eq (pe_ix (ixT K) (pv 0) pe_int (fun _ _ => rfl)) pe_str (nomark _))
      (pss_one (ps_set (i := 1) sc_p_address_of.nd rfl (Or.inl rfl) (pe_ix (ixT K) (pv 0) pe_int (fun _ _ => rfl))))
      pss_nil)
    (pss_cons (ps_if (PW.pt (pw_or (pt_cmpR op_eq (pe_ix (ixT K) (pv 1) pe_int (fun _ _ => rfl)) pe_str (nomark _)) (pw_or1 (pt_cmpR op_eq (pe_ix (ixT K) (pv 1) pe_int (fun _ _ => rfl)) pe_str (nomark _)))))
      (pss_one (ps_ret (pe_ix (ixT K) (pv 1) pe_int (fun _ _ => rfl))))
      pss_nil)
    (pss_one (ps_ret pe_non))))), ?_⟩
    cases e.val d with
    | plain hP hp d h1 h2 h3 =>
      rw [adV_none (tgtT_plain hP)] at q
      tm_at "goo"
      all_goals first | exact absurd (by assumption) h1 | exact absurd (by assumption) h2 | exact absurd (by assumption) h3 | exact q
    | ref hw hp h3 =>
      rw [adV_some (tgtT_ref hw)] at q
      have hw' := hw
      tm_at "goo"
      · exact absurd (by assumption) h3
      · exact q
      · exact q
      · exact absurd hw' (by rintro (z | z) <;> contradiction)
    | @pend p r z i hi hp dz =>
      rw [adV_pend hi] at q
      tm_at "goo"
      · cases hi.val dz with
        | plain hP hp d h1 h2 h3 =>
          rw [adV_none (tgtT_plain hP)] at q
          tm_at "goo"
          all_goals first | exact absurd (by assumption) h1 | exact absurd (by assumption) h2 | exact absurd (by assumption) h3 | exact q
        | ref hw hp h3 =>
          rw [adV_some (tgtT_ref hw)] at q
          have hw' := hw
          tm_at "goo"
          · exact q
          · exact q
          · exact absurd hw' (by rintro (z | z) <;> contradiction)
        | pend hj hp dz => exact absurd hi (by
            rintro (⟨u, ts, e, _, _, h3, _⟩ | ⟨u, j, e, _⟩)
            · cases e; exact h3 rfl
            · cases e)
/-! ### moving by a dict -/
@[irreducible] def spPIn (K : PySem.W.Frag) : Sp := fun vs H Q _ => ∃ (v : V) (d : Addr) (kvs : List (Key × V)) (g : Int → Int) (t : T), vs = [v, .ref d] ∧ H d = some (.dK kvs) ∧ Den K H v t ∧ EntSI t ∧ (∀ j, tgtI t = some j → valV kvs (.inl j) = some (.int (g j))) ∧ ∀ v' H', Fr [] H H' → Den K H' v' (movI g t) → Q v' H'
theorem pin_step {v : V} {d : Addr} {kvs : List (Key × V)} {g : Int → Int} {t : T} {H : Hp} {Q : VK} {E : XK} (h : H d = some (.dK kvs)) (dv : Den K H v t) (e : EntSI t) (a : ∀ j, tgtI t = some j → valV kvs (.inl j) = some (.int (g j))) (q : ∀ v' H', Fr [] H H' → Den K H' v' (movI g t) → Q v' H') : spPIn K ([v, .ref d] ++ []) H Q E := by
  unfold spPIn; exact ⟨v, d, kvs, g, t, rfl, h, dv, e, a, q⟩
@[irreducible] def spPMov (K : PySem.W.Frag) : Sp := fun vs H Q _ => ∃ (v : V) (d : Addr) (kvs : List (Key × V)) (g : Int → Int) (t : T), vs = [v, .ref d] ∧ H d = some (.dK kvs) ∧ Den K H v t ∧ EntS t ∧ (∀ j, tgtT t = some j → valV kvs (.inl j) = some (.int (g j))) ∧ ∀ v' H', Fr [] H H' → Den K H' v' (movT g t) → Q v' H'
theorem pmov_step {v : V} {d : Addr} {kvs : List (Key × V)} {g : Int → Int} {t : T} {H : Hp} {Q : VK} {E : XK} (h : H d = some (.dK kvs)) (dv : Den K H v t) (e : EntS t) (a : ∀ j, tgtT t = some j → valV kvs (.inl j) = some (.int (g j))) (q : ∀ v' H', Fr [] H H' → Den K H' v' (movT g t) → Q v' H') : spPMov K ([v, .ref d] ++ []) H Q E := by
  unfold spPMov; exact ⟨v, d, kvs, g, t, rfl, h, dv, e, a, q⟩
abbrev s_p_moved_inner : Stmt := top 4
theorem sc_p_moved_inner : FnScope ["entry", "table"] ["entry", "table"] (defScope s_p_moved_inner) := ⟨rfl, rfl, rfl, by decide +kernel, rfl, by decide +kernel, by decide +kernel⟩

theorem ok_pin (T : Bl mg) (D : Def1 K mg "_moved_inner" s_p_moved_inner) : Cal P w K mg base 1 "_moved_inner" ["entry", "table"] (spPIn K) := by
  refine D.cal sc_p_moved_inner (fun _ _ _ _ _ _ us hl => match us, hl with | [_, _], _ => rfl) (fun vs H Q E h => ?_) (fun f cdv A outer s H vs Q E hr h => ?_) <;> unfold spPIn at h
  · obtain ⟨v, d, kvs, g, t, rfl, _⟩ := h
    rfl
  · obtain ⟨v, dd, kvs, g, t, rfl, hd, d, e, a, q⟩ := h
    have hu := room_hu hr
    refine ⟨_, (pss_cons (ps_if (PW.pt (pw_or (pt_cmpR op_eq (pe_ix (ixT K) (pv 0) pe_int (fun _ _ => rfl)) pe_str (nomark _)) (pw_or1 (pt_cmpR op_eq (pe_ix (ixT K) (pv 0) pe_int (fun _ _ => rfl)) pe_str (nomark _)))))
      (pss_one (ps_ret (pe_tup (pa_cons (pe_ix (ixT K) (pv 0) pe_int (fun _ _ => rfl)) (pa_cons (pe_dgetx hu (pv 1) (pe_ix (ixT K) (pv 0) pe_int (fun _ _ => rfl)) (fun _ _ => rfl)) pa_nil)))))
      pss_nil)
    (pss_one (ps_ret (pv 0)))), ?_⟩
    have ee := e
    cases e.val d with
    | plain hP hp d h1 h2 h3 =>
      rw [movI_plain hP] at q
      tm_at "goo"
      all_goals first | exact absurd (by assumption) h1 | exact absurd (by assumption) h2 | exact absurd (by assumption) h3 | exact q _ _ (by tm_at "fr") d
    | ref hw hp h3 =>
      rw [movI_ref hw] at q
      have a1 := a _ (tgtI_ref hw)
      have hw' := hw
      tm_at "goo"
      · exact q _ _ (by tm_at "fr") (by tm_at "den")
      · exact q _ _ (by tm_at "fr") (by tm_at "den")
      · exact absurd hw' (by rintro (z | z) <;> contradiction)
    | pend hi hp dz =>
      exfalso
      rcases ee with ⟨u, ts, e, _, _, h3, _⟩ | ⟨u, j, e, _⟩
      · cases e; exact h3 rfl
      · cases e
local macro_rules | `(tactic| tm_at "call") => `(tactic| (apply pin_step; tm_at "hp"; tm_at "den"; assumption; assumption; intro v H1 fr hd))
abbrev s_p_moved : Stmt := top 3
theorem sc_p_moved : FnScope ["entry", "table"] ["entry", "table"] (defScope s_p_moved) := ⟨rfl, rfl, rfl, by decide +kernel, rfl, by decide +kernel, by decide +kernel⟩

theorem ok_pmov (T : Bl mg) (G_p_moved_inner : Cal P w K mg base 1 "_moved_inner" ["entry", "table"] (spPIn K)) (D : Def1 K mg "moved" s_p_moved) : Cal P w K mg base 2 "moved" ["entry", "table"] (spPMov K) := by
  refine D.cal sc_p_moved (fun _ _ _ _ _ _ us hl => match us, hl with | [_, _], _ => rfl) (fun vs H Q E h => ?_) (fun f cdv A outer s H vs Q E hr h => ?_) <;> unfold spPMov at h
  · obtain ⟨v, d, kvs, g, t, rfl, _⟩ := h
    rfl
  · obtain ⟨v, dd, kvs, g, t, rfl, hd, d, e, a, q⟩ := h
    have hu := room_hu hr
    refine ⟨_, (pss_cons (ps_if (pt_cmpR op_eq (pe_ix (ixT K) (pv 0) pe_int (fun _ _ => rfl)) pe_str (nomark _))
      (pss_one (ps_ret (pe_tup (pa_cons pe_str (pa_cons (pe_ix (ixT K) (pv 0) pe_int (fun _ _ => rfl)) (pa_cons (pe_cal G_p_moved_inner (hr.mono (by omega)) (by rfl) (pa_cons (pe_ix (ixT K) (pv 0) pe_int (fun _ _ => rfl)) (pa_cons (pv 1) pa_nil))) pa_nil))))))
      pss_nil)
    (pss_one (ps_ret (pe_cal G_p_moved_inner (hr.mono (by omega)) (by rfl) (pa_cons (pv 0) (pa_cons (pv 1) pa_nil)))))), ?_⟩
    have ee := e
    cases e.val d with
    | @plain p u r t hP hp d h1 h2 h3 =>
      have a' : ∀ j, tgtI t = some j → valV kvs (.inl j) = some (.int (g j)) := fun j z => by rw [tgtI_plain hP] at z; cases z
      have e' : EntSI t := .inl hP
      have q' : ∀ v' H', Fr [] H H' → Den K H' v' (movI g t) → Q v' H' := fun v' H' f z => q v' H' f (by rw [movT_plain hP]; rw [movI_plain hP] at z; exact z)
      tm_at "goo"
      all_goals first | exact absurd (by assumption) h3 | exact q' _ _ (by tm_at "fr") (by assumption)
    | @ref p u jj hw hp h3 =>
      have a' : ∀ k, tgtI (.tup [.str u, .int jj]) = some k → valV kvs (.inl k) = some (.int (g k)) := fun k z => a k (by rw [tgtT_ref hw]; rw [tgtI_ref hw] at z; exact z)
      have e' : EntSI (.tup [.str u, .int jj]) := .inr ⟨_, _, rfl, hw⟩
      have q' : ∀ v' H', Fr [] H H' → Den K H' v' (movI g (.tup [.str u, .int jj])) → Q v' H' := fun v' H' f z => q v' H' f (by rw [movT_ref hw]; rw [movI_ref hw] at z; exact z)
      tm_at "goo"
      all_goals first | exact absurd (by assumption) h3 | exact q' _ _ (by tm_at "fr") (by assumption)
    | @pend p r z i hi hp dz =>
      have a' : ∀ j, tgtI i = some j → valV kvs (.inl j) = some (.int (g j)) := fun j z => a j (by rw [tgtT_pend]; exact z)
      rw [movT_pend] at q
      tm_at "goo"
      all_goals exact q _ _ (by tm_at "fr") (by tm_at "den")
/-! ### noting addresses -/
@[irreducible] def NMid (l o kn : Addr) (ts : List T) (os : List Int) (H : Hp) (i : Nat) (σ' : L2.St) (H' : Hp) : Prop :=
  ∃ (x y : Option V) (kvs : List (Key × V)), σ' = [some (.ref l), some (.ref o), some (.ref kn), x, y] ∧ H' o = some (.lst ((noteZ (ts.take i) os).map V.int)) ∧ H' kn = some (.dK kvs) ∧ KnA kvs (noteZ (ts.take i) os) ∧ Fr [o, kn] H H'
theorem NMid.of {l o kn : Addr} {ts : List T} {os : List Int} {H : Hp} {i : Nat} {σ' : L2.St} {H' : Hp} {x y : Option V} {kvs : List (Key × V)} (e : σ' = [some (.ref l), some (.ref o), some (.ref kn), x, y]) (h1 : H' o = some (.lst ((noteZ (ts.take i) os).map V.int))) (h2 : H' kn = some (.dK kvs)) (h3 : KnA kvs (noteZ (ts.take i) os)) (h4 : Fr [o, kn] H H') : NMid l o kn ts os H i σ' H' := by
  unfold NMid; exact ⟨x, y, kvs, e, h1, h2, h3, h4⟩
@[irreducible] def spNote (K : PySem.W.Frag) : Sp := fun vs H Q _ => ∃ (l o kn : Addr) (xs : List V) (ts : List T) (os : List Int) (kvs : List (Key × V)), vs = [.ref l, .ref o, .ref kn] ∧ SqL K H l xs ∧ Dens K H xs ts ∧ (∀ t ∈ ts, EntS t) ∧ l ≠ o ∧ l ≠ kn ∧ H o = some (.lst (os.map V.int)) ∧ H kn = some (.dK kvs) ∧ KnA kvs os ∧ os.length + ts.length ≤ 9000 ∧
  ∀ H' kvs', H' o = some (.lst ((noteZ ts os).map V.int)) → H' kn = some (.dK kvs') → KnA kvs' (noteZ ts os) → Fr [o, kn] H H' → Q .non H'
theorem note_step {l o kn : Addr} {xs : List V} {ts : List T} {os : List Int} {kvs : List (Key × V)} {H : Hp} {Q : VK} {E : XK} (h1 : SqL K H l xs) (h2 : Dens K H xs ts) (h3 : ∀ t ∈ ts, EntS t) (h4 : l ≠ o) (h4' : l ≠ kn) (h5 : H o = some (.lst (os.map V.int))) (h6 : H kn = some (.dK kvs)) (h7 : KnA kvs os) (h8 : os.length + ts.length ≤ 9000)
    (q : ∀ H' kvs', H' o = some (.lst ((noteZ ts os).map V.int)) → H' kn = some (.dK kvs') → KnA kvs' (noteZ ts os) → Fr [o, kn] H H' → Q .non H') : spNote K ([.ref l, .ref o, .ref kn] ++ []) H Q E := by
  unfold spNote; exact ⟨l, o, kn, xs, ts, os, kvs, rfl, h1, h2, h3, h4, h4', h5, h6, h7, h8, q⟩
theorem noteZ_len {ts : List T} {os : List Int} : (noteZ ts os).length ≤ os.length + ts.length := by
  induction ts generalizing os with
  | nil => exact Nat.le_refl _
  | cons t ts ih =>
    have h1 : (note1 os t).length ≤ os.length + 1 := by
      unfold note1
      cases tgtT t with
      | none => exact Nat.le_succ _
      | some j => by_cases q : j ∈ os <;> simp [q]
    have h2 := ih (os := note1 os t)
    show (noteZ ts (note1 os t)).length ≤ _
    simp only [List.length_cons]
    omega
abbrev s_p_note_addresses : Stmt := top 7
theorem sc_p_note_addresses : FnScope ["entries", "order", "known", "entry", "address"] ["entries", "order", "known"] (defScope s_p_note_addresses) := ⟨rfl, rfl, rfl, by decide +kernel, rfl, by decide +kernel, by decide +kernel⟩

theorem ok_note (T : Bl mg) (G_p_address_of : Cal P w K mg base 1 "address_of" ["entry"] (spAddr K)) (D : Def1 K mg "note_addresses" s_p_note_addresses) : Cal P w K mg base 2 "note_addresses" ["entries", "order", "known"] (spNote K) := by
  refine D.cal sc_p_note_addresses (fun _ _ _ _ _ _ us hl => match us, hl with | [_, _, _], _ => rfl) (fun vs H Q E h => ?_) (fun f cdv A outer s H vs Q E hr h => ?_) <;> unfold spNote at h
  · obtain ⟨l, o, kn, xs, ts, os, kvs, rfl, _⟩ := h
    rfl
  · obtain ⟨l, o, kn, xs, ts, os, kvs, rfl, hl, dx, es, nlo, nlk, ho, hk, ka, bd, q⟩ := h
    have hu := room_hu hr
    refine ⟨_, (pss_one (ps_for PassesOwn.never rfl (pi_list (pv 0)) (pg_name (i := 3) sc_p_note_addresses.nd rfl (Or.inl rfl))
      (pss_cons (ps_set (i := 4) sc_p_note_addresses.nd rfl (Or.inl rfl) (pe_cal G_p_address_of (hr.mono (by omega)) (by rfl) (pa_cons (pv 3) pa_nil)))
      (pss_one (ps_if (PW.pt (pw_and (pt_cmpR op_notN (pv 4) pe_non (nomark _)) (pw_and1 (pt_cmp (pc_dnotinx hu (pv 4) (pv 2))))))
        (pss_cons (ps_dputx hu (pv 2) (pv 4) pe_bl rfl)
        (pss_one (ps_expr (pe_bm PySem.F.plainAttrs_list PySem.F.slot_list_append PySem.F.type_list_append mtApp (pv 1) (pa_cons (pv 4) pa_nil)))))
        pss_nil))))), ?_⟩
    tm_at "goo"
    refine ⟨⟨_, hl⟩, ?_⟩
    refine for_list (xs := xs) (NMid l o kn ts os H) (NMid.of (x := none) (y := none) rfl ho hk ka (.refl fun a m zs e => ?_)) (fun i σ' H' _ hP => ?_) (fun i x σ' H' hx hP => ?_) (fun σ' H' hP => ?_)
    · simp only [List.mem_cons, List.not_mem_nil, or_false] at m
      rcases m with rfl | rfl
      · rw [ho] at e; cases e
      · rw [hk] at e; cases e
    · unfold NMid at hP
      obtain ⟨x, y, kvs', rfl, h1, h2, h3, h4⟩ := hP
      exact sqFr h4 (by simp [nlo, nlk]) hl
    · unfold NMid at hP
      obtain ⟨x0, y, kvs', rfl, h1, h2, h3, h4⟩ := hP
      obtain ⟨t, et, dt⟩ := dx.get hx
      have dt' := dt.fr h4
      have st := es t (List.mem_of_getElem? et)
      have nok : kn ≠ o := fun e => by rw [e, h1] at h2; cases h2
      have lo : (noteZ (ts.take i) os).length ≤ 9000 := by
        have := noteZ_len (ts := ts.take i) (os := os)
        have : (ts.take i).length ≤ ts.length := by rw [List.length_take]; exact Nat.min_le_right _ _
        omega
      have lk : kvs'.length < 10000 := by have := h3.1; omega
      tm_at "goo"
      refine addr_step dt' st ?_
      cases ea : tgtT t with
      | none =>
        rw [adV_none ea]
        have e1 : noteZ (ts.take (i + 1)) os = noteZ (ts.take i) os := by rw [noteZ_take_succ et, note1_none ea]
        tm_at "goo"
        all_goals first
          | exact absurd rfl (by assumption)
          | exact NMid.of rfl (by rw [e1]; exact h1) h2 (by rw [e1]; exact h3) h4
      | some j =>
        rw [adV_some ea]
        have e1 := noteZ_take_succ (os := os) et
        rw [note1_some ea] at e1
        have kj := h3.2 j
        tm_at "goo"
        · have hj : j ∈ noteZ (ts.take i) os := of_decide_eq_true (kj.symm.trans (by assumption))
          exact NMid.of rfl (by rw [e1, if_pos hj]; exact h1) h2 (by rw [e1, if_pos hj]; exact h3) h4
        · have hj : j ∉ noteZ (ts.take i) os := fun z => by
            rw [decide_eq_true z] at kj
            have c' : (valV kvs' (.inl j)).isSome = false := by assumption
            rw [kj] at c'; cases c'
          rename_i hk2 fk
          refine NMid.of (kvs := putK kvs' (.inl j) (.bl true)) rfl (by rw [e1, if_neg hj, List.map_append]; exact hp) (fr.at1n nok hk2) (by rw [e1, if_neg hj]; exact h3.put hj) ((h4.app fk fun a m => .inl (by simp at m; rw [m]; simp)).app fr fun a m => .inl (by simp at m; rw [m]; simp))
    · unfold NMid at hP
      obtain ⟨x, y, kvs', rfl, h1, h2, h3, h4⟩ := hP
      have e : ts.take xs.length = ts := List.take_of_length_le (by rw [dx.1]; exact Nat.le_refl _)
      rw [e] at h1 h3
      exact q _ _ h1 h2 h3 h4
end
end M14
set_option Elab.async false
set_option linter.all false
set_option maxRecDepth 100000
set_option maxHeartbeats 4000000
namespace M14
open PySem PySem.Spec PyProof.Rows L2

/-! ### a while that counts -/
theorem whileN {c : TT} {tb : TS} {D : Ends} {σ : L2.St} {H : Hp} (Pv : Nat → L2.St → Hp → Prop) (n : Nat) (h0 : Pv 0 σ H)
    (hs : ∀ i σ H, Pv i σ H → c σ H fun b H1 => if b = true then ∃ N : L2.St → Hp → Prop, (∀ σ' H', N σ' H' → ∃ m', m' < n - i ∧ ∃ k, m' = n - k ∧ Pv k σ' H') ∧ tb { D with nx := N, ct := N, bk := D.nx } σ H1 else D.nx σ H1) : tWhile c tb D σ H := by
  refine ⟨fun m σ H => ∃ i, m = n - i ∧ Pv i σ H, ⟨_, 0, rfl, h0⟩, ?_⟩
  rintro m σ H ⟨i, rfl, p⟩
  exact hs i σ H p
theorem wnext {tb : TS} {D : Ends} {σ : L2.St} {H1 : Hp} {Pv : Nat → L2.St → Hp → Prop} {n i : Nat} (h : i < n) (k : tb { D with nx := Pv (i + 1), ct := Pv (i + 1), bk := D.nx } σ H1) :
    ∃ N : L2.St → Hp → Prop, (∀ σ' H', N σ' H' → ∃ m', m' < n - i ∧ ∃ k, m' = n - k ∧ Pv k σ' H') ∧ tb { D with nx := N, ct := N, bk := D.nx } σ H1 :=
  ⟨Pv (i + 1), fun _ _ p => ⟨n - (i + 1), by omega, i + 1, rfl, p⟩, k⟩
/-! ### what can be reached -/
structure Rch (step : Int) (ys : List Th) (es : List T) (tb : List Int) (sl : Int → List T) : Prop where
  sh : ∀ t ∈ es, EntS t
  tgs : ∀ t ∈ es, ∀ j, tgtT t = some j → j ∈ tb
  cl : Clo sl tb
  at_ : ∀ a ∈ tb, ∃ (k : Nat) (y : Th), a = gT step k ∧ ys[k]? = some y ∧ y.us = sl a
  len : tb.length ≤ 2000
  le : es.length ≤ 1000
theorem Rch.start {step : Int} {ys : List Th} {es : List T} {tb : List Int} {sl : Int → List T} (h : Rch step ys es tb sl) : ∀ a ∈ noteZ es [], a ∈ tb := noteZ_in (fun _ m => nomatch m) h.tgs
section
variable {P : Program} {w : World} {K : PySem.W.Frag} {mg : Str → Option Value} {base : Heap}
set_option hygiene false
local macro_rules | `(tactic| tm_at "sc") => `(tactic| (first | omega | (simp only [List.length_cons, List.length_nil, List.length_map, List.length_set, List.length_append]; omega) | (simp only [List.length_map] at h1 ⊢; omega) | (simp only [List.length_map] at c ⊢; omega) | with_reducible assumption | exact And.intro (by omega) (by omega) | exact Or.inl (And.intro (by omega) (by omega)) | exact Or.inr (And.intro (by omega) (by omega)) | decide +kernel | exact len1000 (by simp) | rfl | fail "no way"))
local macro_rules | `(tactic| tm_at "sc1") => `(tactic| (focus (simp; done)))
local macro_rules | `(tactic| tm_at "ne") => `(tactic| (first | assumption | exact Ne.symm (by assumption) | (apply Box.ne2; assumption; tm_at "hp") | (apply Ne.symm; apply Box.ne2; assumption; tm_at "hp") | (apply ne_of_none2; assumption; tm_at "hp") | (apply Ne.symm; apply ne_of_none2; assumption; tm_at "hp") | fail "no way"))
local macro_rules | `(tactic| tm_at "f0") => `(tactic| (first | assumption | (apply Fr.new; assumption) | fail "no way"))
local macro_rules | `(tactic| tm_at "hp") => `(tactic| (first | assumption | exact upd_same | (apply SqL.of; first | assumption | exact upd_same) | (apply Fr.at0; tm_at "f0"; tm_at "hp") | (apply Fr.at1n; assumption; tm_at "ne"; tm_at "hp") | (apply sqFr0; tm_at "f0"; tm_at "hp") | (apply sqFr1; assumption; tm_at "ne"; tm_at "hp") | (apply Box.fr0; tm_at "f0"; tm_at "hp") | (apply Box.fr1; assumption; tm_at "ne"; tm_at "hp") | (apply Den.fr; tm_at "f0"; tm_at "hp") | (apply Dens.fr; tm_at "f0"; tm_at "hp") | fail "no way"))
local macro_rules | `(tactic| tm_at "free0") => `(tactic| (first | assumption | (apply updFree; assumption) | (apply updFree; apply updFree; assumption) | (apply updFree; apply updFree; apply updFree; assumption) | (apply updFree; apply updFree; apply updFree; apply updFree; assumption) | fail "no way"))
local macro_rules | `(tactic| tm_at "free") => `(tactic| (first | tm_at "free0" | (apply Fr.free; assumption; tm_at "free0") | (apply Box.free; assumption; tm_at "fr"; tm_at "free0") | (apply Fr.free; assumption; apply Fr.free; assumption; tm_at "free0") | fail "no way"))
local macro_rules | `(tactic| tm_at "fr") => `(tactic| (first | assumption | exact Fr.refl0 _ | exact Fr.refl (Box.nt (by assumption)) | (refine Fr.comp0 ?_ (by tm_at "f0"); tm_at "fr") | (refine Fr.comp ?_ (by assumption); tm_at "fr") | (refine Fr.compN ?_ (by assumption) (by tm_at "free"); tm_at "fr") | fail "no way"))
local macro_rules | `(tactic| tm_at "call") => `(tactic| fail "no call")
local macro_rules | `(tactic| tm_at "call") => `(tactic| (apply take_step; tm_at "hp"; tm_at "sc"; tm_at "sc"; intro r H1 h0 h1 hB fr))
local macro_rules | `(tactic| tm_at "ty") => `(tactic| (first | assumption | exact .base .non | exact .base (.bl _) | exact .base (.int _) | exact .base (.str _) | (apply TyX.base; apply TyOf.lst; tm_at "hp") | (apply TyX.base; apply TyOf.tup; tm_at "hp") | fail "no way"))
local macro_rules | `(tactic| tm_at "pre") => `(tactic| fail "none")
local macro_rules | `(tactic| tm_at "go1") => `(tactic| (first | tm_at "pre" | refine ⟨_, rfl, ?_⟩ | refine ⟨_, _, rfl, rfl, ?_⟩ | (apply set_step; tm_at "hp"; tm_at "sc"; tm_at "sc"; intro H1 hp fr) | (with_reducible refine iteDI ?_ ?_ <;> intro c) | (with_reducible refine iteDS ?_ ?_ <;> intro c) | (with_reducible refine iteD ?_ ?_ <;> intro c) | (with_reducible refine iteEM ?_ ?_ <;> intro c) | (with_reducible refine iteE ?_ ?_ <;> intro c) | with_reducible refine iteN ?_ | with_reducible refine iteF ?_ | with_reducible refine iteT ?_ | (refine fun (p : Addr) (np : _ = (none : Option HO)) => ?_; fail_if_success (refine ⟨fun (_ _ : Nat) (_ : Hp) => True, ?_⟩)) | (apply isi_tt; tm_at "ty"; focus (decide +kernel)) | (apply isi_ff; tm_at "ty"; focus (decide +kernel)) | (apply sl_step; tm_at "hp"; intro qq H1 ms nq hq fr) | (apply sum_step; tm_at "hp"; intro i) | (apply tru_step; tm_at "hp") | (apply len_step; tm_at "hp") | (apply lenq_step; assumption) | (apply ixq_step; assumption; tm_at "sc"; tm_at "sc"; intro v hv) | (apply lst_step; tm_at "hp") | (apply tupl_step; tm_at "hp") | (apply ixr_step; tm_at "hp"; exact rfl) | (apply ix0_step; tm_at "hp") | (apply ix1_step; tm_at "hp") | (apply ix2_step; tm_at "hp") | (apply ixi_step; tm_at "hp"; tm_at "sc"; tm_at "sc"; intro n hn hn') | (apply ixl_step; tm_at "hp"; tm_at "sc"; tm_at "sc"; intro v hv) | (apply ixt_step; tm_at "hp"; tm_at "sc"; tm_at "sc"; intro v hm hv) | (apply in_step; tm_at "hp"; rfl; rfl) | (apply cat_step; tm_at "hp"; tm_at "hp"; tm_at "sc") | (apply catT_step; tm_at "hp"; tm_at "hp"; tm_at "sc1") | (apply tyL_and; tm_at "hp") | (apply app_step; tm_at "hp"; tm_at "sc"; intro H1 hp fr) | tm_at "call" | refine ⟨⟨_, rfl⟩, ?_⟩ | (apply ixs_step; tm_at "sc"; tm_at "sc"; tm_at "sc"; intro ch) | refine .inl ⟨_, rfl, ?_⟩ | refine .inr ⟨_, rfl, ?_⟩ | (apply And.intro; tm_at "sc") | (with_reducible refine wayB ?_ ?_ <;> intro c) | fail "no way"))
local macro_rules | `(tactic| tm_at "go") => `(tactic| (repeat tm_at "go1"))
local macro_rules | `(tactic| tm_at "goo") => `(tactic| (repeat' tm_at "go1"))
local macro_rules | `(tactic| tm_at "den") => `(tactic| (first | assumption | exact Den.str _ | exact Den.int _ | exact Den.bl _ | exact Den.non | (apply Den.tups; tm_at "hp"; tm_at "dens") | (apply Den.fr; tm_at "f0"; tm_at "den") | fail "no way"))
local macro_rules | `(tactic| tm_at "dens") => `(tactic| (first | assumption | exact Dens.nil | (apply Dens.cons; tm_at "den"; tm_at "dens") | (apply Dens.fr; tm_at "f0"; tm_at "dens") | fail "no way"))
local macro_rules | `(tactic| tm_at "ix") => `(tactic| (apply Ix.mk; tm_at "hp"; tm_at "ne"; assumption; assumption))
local macro_rules | `(tactic| tm_at "dep") => `(tactic| (first | assumption | exact Dep.int | exact Dep.str | exact Dep.bl | exact Dep.non | (apply Dep.tup; tm_at "dlen"; tm_at "deps") | (apply Dep.mono; assumption; decide) | fail "no way"))
local macro_rules | `(tactic| tm_at "deps") => `(tactic| (first | assumption | exact memN | (apply memC; tm_at "dep"; tm_at "deps") | fail "no way"))
local macro_rules | `(tactic| tm_at "dlen") => `(tactic| (first | assumption | (focus (simp; done)) | omega | fail "no way"))
local macro_rules | `(tactic| tm_at "pre") => `(tactic| (apply rep_step; tm_at "hp"; tm_at "sc"; tm_at "sc"; intro rp H1 nrp hrp fr))

local macro_rules | `(tactic| tm_at "lk") => `(tactic| (first | with_reducible exact lookup_eq | ((with_reducible apply lookup_ne); (focus (decide +kernel)); tm_at "lk") | assumption | rfl | fail "no way"))
local macro_rules | `(tactic| tm_at "pf") => `(tactic| (first | with_reducible exact putF_nil | with_reducible exact putF_eq | ((with_reducible apply putF_ne); (focus (decide +kernel)); tm_at "pf") | fail "no way"))
local macro_rules | `(tactic| tm_at "fl") => `(tactic| (first | assumption | focus (simp only [List.length_cons, List.length_nil]; omega) | focus (simp only [List.length_cons, List.length_nil]; done) | focus (decide) | focus (simp; done) | focus (simp; omega) | fail "no way"))
local macro_rules | `(tactic| tm_at "pre") => `(tactic| (apply fld_step; tm_at "hp"; assumption; assumption; tm_at "lk"))
local macro_rules | `(tactic| tm_at "pre") => `(tactic| (apply putf_step; tm_at "hp"; assumption; assumption; tm_at "fl"; tm_at "pf"; intro H1 hp fr))
local macro_rules | `(tactic| tm_at "pre") => `(tactic| (apply aug_step; tm_at "hp"; assumption; assumption; tm_at "lk"))
local macro_rules | `(tactic| tm_at "pre") => `(tactic| (apply put2_step; tm_at "hp"; tm_at "fl"; tm_at "pf"; intro H1 hp fr))
local macro_rules | `(tactic| tm_at "pre") => `(tactic| (apply dget_step; tm_at "hp"; tm_at "lk"))
local macro_rules | `(tactic| tm_at "pre") => `(tactic| (apply dput_step; tm_at "hp"; (focus (omega)); intro H1 hp fr))
local macro_rules | `(tactic| tm_at "pre") => `(tactic| (apply mth_step; tm_at "hp"; tm_at "lk"))
local macro_rules | `(tactic| tm_at "pre") => `(tactic| (apply lenD_step; tm_at "hp"))
local macro_rules | `(tactic| tm_at "pre") => `(tactic| (apply addI_step))
local macro_rules | `(tactic| tm_at "pre") => `(tactic| (apply newD_step; intro dn H1 nd hp fr))
local macro_rules | `(tactic| tm_at "fr2") => `(tactic| (first | assumption | (apply Fr.appMb; assumption; (focus (simp; done)); tm_at "fr2") | (apply Fr.app0b; tm_at "f0"; tm_at "fr2") | (apply Fr.appNb; assumption; tm_at "free"; tm_at "fr2") | fail "no way"))
local macro_rules | `(tactic| tm_at "ne") => `(tactic| (apply ne_role; assumption; assumption; (focus (decide))))
local macro_rules | `(tactic| tm_at "pre") => `(tactic| (apply dnotin_step; tm_at "hp"))
local macro_rules | `(tactic| tm_at "pre") => `(tactic| (apply din_step; tm_at "hp"))

@[irreducible] def spReach (K : PySem.W.Frag) (CT C : Addr) : Sp := fun vs H Q _ => ∃ (ρ : Role) (s : Nat) (step : Int) (tl : List (Str × V)) (B D l : Addr) (ys : List Th) (xs : List V) (es : List T) (tb : List Int) (sl : Int → List T),
  vs = [.ref B, .ref l] ∧ BkA K ρ s step CT C tl H B D ys ∧ H l = some (.lst xs) ∧ Dens K H xs es ∧ Rch step ys es tb sl ∧ ∀ r H', H r = none → H' r = some (.lst ((bfs sl (noteZ es []) tb.length).map V.int)) → Fr [] H H' → Q (.ref r) H'
theorem reach_step {CT C : Addr} {ρ : Role} {s : Nat} {step : Int} {tl : List (Str × V)} {B D l : Addr} {ys : List Th} {xs : List V} {es : List T} {tb : List Int} {sl : Int → List T} {H : Hp} {Q : VK} {E : XK} (h1 : BkA K ρ s step CT C tl H B D ys) (h2 : H l = some (.lst xs)) (h3 : Dens K H xs es) (h4 : Rch step ys es tb sl)
    (q : ∀ r H', H r = none → H' r = some (.lst ((bfs sl (noteZ es []) tb.length).map V.int)) → Fr [] H H' → Q (.ref r) H') : spReach K CT C [.ref B, .ref l] H Q E := by
  unfold spReach; exact ⟨ρ, s, step, tl, B, D, l, ys, xs, es, tb, sl, rfl, h1, h2, h3, h4, q⟩
@[irreducible] def WMid (B l o kn : Addr) (sl : Int → List T) (os0 : List Int) (H : Hp) (i : Nat) (σ' : L2.St) (H' : Hp) : Prop :=
  ∃ (kvs : List (Key × V)), σ' = [some (.ref B), some (.ref l), some (.ref o), some (.ref kn), some (.int i)] ∧ H' o = some (.lst ((bfs sl os0 i).map V.int)) ∧ H' kn = some (.dK kvs) ∧ KnA kvs (bfs sl os0 i) ∧ Fr [o, kn] H H'
theorem WMid.of {B l o kn : Addr} {sl : Int → List T} {os0 : List Int} {H : Hp} {i : Nat} {σ' : L2.St} {H' : Hp} {kvs : List (Key × V)} (e : σ' = [some (.ref B), some (.ref l), some (.ref o), some (.ref kn), some (.int i)]) (h1 : H' o = some (.lst ((bfs sl os0 i).map V.int))) (h2 : H' kn = some (.dK kvs)) (h3 : KnA kvs (bfs sl os0 i)) (h4 : Fr [o, kn] H H') : WMid B l o kn sl os0 H i σ' H' := by
  unfold WMid; exact ⟨kvs, e, h1, h2, h3, h4⟩
abbrev s_Store_reach : Stmt := inClass (top 8) 11
theorem sc_Store_reach : FnScope ["self", "entries", "order", "known", "at"] ["self", "entries"] (defScope s_Store_reach) := ⟨rfl, rfl, rfl, by decide +kernel, rfl, by decide +kernel, by decide +kernel⟩

theorem ok_reach {C CT : Addr} (cf : ClF K C CT) (T : Bl mg) (G_p_note_addresses : Cal P w K mg base 2 "note_addresses" ["entries", "order", "known"] (spNote K)) (D : Def2 K C "reach" "Store.reach" s_Store_reach) : CalM P w K mg base 3 C "reach" ["self", "entries"] (spReach K CT C) := by
  refine D.cal cf.cC sc_Store_reach (fun _ _ _ _ _ _ us hl => match us, hl with | [_, _], _ => rfl) (fun vs H Q E h => ?_) (fun f cdv A outer s H vs Q E hr h => ?_) <;> unfold spReach at h
  · obtain ⟨ρ, sd, step, tl, B, dD, l, ys, xs, es, tb, sl, rfl, _⟩ := h
    rfl
  · obtain ⟨ρ, sd, step, tl, B, dD, l, ys, xs, es, tb, sl, rfl, hb, hl, dx, hR, q⟩ := h
    obtain ⟨c1, a1, a2, c2, n1, n2, n3, n4⟩ := cf
    obtain ⟨dx0, gr, hB⟩ := hb.at_
    obtain ⟨kvs, hD, hlen, hg, _⟩ := hb.dk
    have hu := room_hu hr
    refine ⟨_, (pss_cons (ps_set (i := 2) sc_Store_reach.nd rfl (Or.inl rfl) (pe_lst pa_nil))
    (pss_cons (ps_set (i := 3) sc_Store_reach.nd rfl (Or.inl rfl) pe_dnewK)
    (pss_cons (ps_expr (pe_cal G_p_note_addresses (hr.mono (by omega)) (by rfl) (pa_cons (pv 1) (pa_cons (pv 2) (pa_cons (pv 3) pa_nil)))))
    (pss_cons (ps_set (i := 4) sc_Store_reach.nd rfl (Or.inl rfl) pe_int)
    (pss_cons (ps_while PassesOwn.never (pt_cmpR op_lt (pv 4) (pe_callB (cLen K) (by rfl) T.z_len (by decide +kernel) (pa_cons (pv 2) pa_nil)) (nomark _))
      (pss_cons (ps_expr (pe_cal G_p_note_addresses (hr.mono (by omega)) (by rfl) (pa_cons (pe_fldx K (pe_dgetx hu (pe_fldx K (pv 0) rfl) (pe_ix (ixL K) (pv 2) (pv 4) (fun _ _ => rfl)) (fun _ _ => rfl)) rfl) (pa_cons (pv 2) (pa_cons (pv 3) pa_nil)))))
      (pss_one (ps_aug (i := 4) sc_Store_reach.nd rfl (Or.inl rfl) pe_int ip_add))))
    (pss_one (ps_ret (pv 2)))))))), ?_⟩
    tm_at "goo"
    rename_i o no
    have nlo : l ≠ o := ne_of_none2 no hl
    have np0 : H p = none := updFree np
    have nlp : l ≠ p := ne_of_none2 np0 hl
    have F1 : Fr [] H (upd (upd H o (.lst [])) p (.dK [])) := (Fr.new no).tr (Fr.new np)
    refine note_step (os := []) (SqL.of (F1.at0 hl)) (dx.fr F1) hR.sh nlo nlp ((Fr.new np).at0 upd_same) upd_same KnA.nil (by have := hR.le; simp; omega) fun H2 kvs2 ho2 hk2 ka2 f2 => ?_
    have nBo : B ≠ o := ne_of_none2 no hB
    have nBp : B ≠ p := ne_of_none2 np0 hB
    have nDo : dD ≠ o := ne_of_none2 no hD
    have nDp : dD ≠ p := ne_of_none2 np0 hD
    have keep : ∀ {a : Addr} {u : HO} {H' : Hp}, H a = some u → Fr [o, p] H2 H' → H' a = some u := fun {a u H'} h f => f.kp _ _ (f2.kp _ _ (F1.at0 h) (by simp [(ne_of_none2 no h), (ne_of_none2 np0 h)])) (by simp [(ne_of_none2 no h), (ne_of_none2 np0 h)])
    have hst := hR.start
    have hnd : (noteZ es []).Nodup := noteZ_nodup List.nodup_nil
    tm_at "goo"
    refine whileN (WMid B l o p sl (noteZ es []) H2) (tb.length + 1) (WMid.of rfl ho2 hk2 ka2 (.refl fun a m zs e => ?_)) (fun i σ' H' hP => ?_)
    · simp only [List.mem_cons, List.not_mem_nil, or_false] at m
      rcases m with rfl | rfl
      · rw [ho2] at e; cases e
      · rw [hk2] at e; cases e
    · unfold WMid at hP
      obtain ⟨kvs3, rfl, ho3, hk3, ka3, f3⟩ := hP
      have hB3 := keep hB f3
      have hD3 := keep hD f3
      have bl := bfs_len hR.cl hst hnd i
      have tl2 := hR.len
      tm_at "goo"
      · refine wnext (by simp at c; omega) ?_
        tm_at "goo"
        obtain ⟨k, y, en, hy, hus⟩ := hR.at_ n (bfs_in hR.cl hst i n hn)
        obtain ⟨⟨dt, hth⟩, _⟩ := hb.th k y hy
        have hth3 := keep hth f3
        have hsl3 := keep (hb.sl k y hy).1 f3
        have eg := hg k y hy
        rw [← en] at eg
        tm_at "goo"
        have hn2 : (bfs sl (noteZ es []) i)[i]? = some n := by simpa using hn'
        have hus2 : y.us = sl n := hus
        obtain ⟨o1, o2, o3, o4, o5⟩ := hb.ok k y hy
        have d3 : Dens K H' y.ss (sl n) := by
          rw [← hus2]
          exact ((o1.fr F1).fr f2).fr f3
        have nyo : y.sl ≠ o := ne_of_none2 no (hb.sl k y hy).1
        have nyp : y.sl ≠ p := ne_of_none2 np0 (hb.sl k y hy).1
        refine note_step (SqL.of hsl3) d3 (hR.cl.sh n (bfs_in hR.cl hst i n hn)) nyo nyp ho3 hk3 ka3 (by have := d3.1; omega) fun H4 kvs4 ho4 hk4 ka4 f4 => ?_
        rw [← bfs_succ hn2] at ho4 ka4
        tm_at "goo"
        exact WMid.of rfl ho4 hk4 ka4 (f3.trans f4)
      · rw [bfs_end hR.cl hst hnd (by simp at c; omega)] at ho3
        exact q _ _ no ho3 (F1.app (f2.trans f3) fun x m => .inr (by
          simp only [List.mem_cons, List.not_mem_nil, or_false] at m
          rcases m with rfl | rfl
          · exact no
          · exact np0))
end
end M14
set_option Elab.async false
set_option linter.all false
set_option maxRecDepth 100000
set_option maxHeartbeats 4000000
namespace M14
open PySem PySem.Spec PyProof.Rows L2

/-! ### what graph tells -/
def posF (os : List Int) (a : Int) : Int := (os.idxOf a : Nat)
theorem posF_at {os : List Int} {i : Nat} {a : Int} (hn : os.Nodup) (h : os[i]? = some a) : posF os a = i := by
  unfold posF
  obtain ⟨hi, e⟩ := List.getElem?_eq_some_iff.mp h
  rw [← e]
  exact congrArg Int.ofNat (hn.idxOf_getElem i hi)
def grT (kd : Int → Str) (tg : Int → T) (sl : Int → List T) (es : List T) (os : List Int) : T :=
  .tup [.tup (es.map (movT (posF os))), .tup (os.map fun a => .tup [.str (kd a), tg a, .tup ((sl a).map (movT (posF os)))])]
theorem made_dens {K : PySem.W.Frag} {H : Hp} {ts : List T} {F : T → T} {ys : List V} {n : Nat} (hn : n = ts.length) (m : Made (fun H i y => ∃ t, Den K H y t ∧ (ts[i]?).map F = some t) H (List.range n) ys) : Dens K H ys (ts.map F) := by
  have ma := m.all
  refine ⟨by rw [List.length_map, ma.1, hn], fun i y t a b => ?_⟩
  obtain ⟨t', d', e'⟩ := ma.2 i y a
  rw [List.getElem?_map] at b
  rw [e'] at b
  cases b
  exact d'
/-- a dict tells the place of each -/
def TabA (kvs : List (Key × V)) (os : List Int) (i : Nat) : Prop := kvs.length ≤ i ∧ ∀ (j : Nat) (a : Int), j < i → os[j]? = some a → valV kvs (.inl a) = some (.int j)
theorem TabA.nil {os : List Int} : TabA [] os 0 := ⟨Nat.le_refl _, fun j a h => absurd h (Nat.not_lt_zero _)⟩
theorem putK_len {kvs : List (Key × V)} {k : Key} {v : V} : (putK kvs k v).length ≤ kvs.length + 1 := by
  induction kvs with
  | nil => simp [putK]
  | cons p r ih =>
    obtain ⟨q, u⟩ := p
    unfold putK
    split <;> simp_all
theorem TabA.put {kvs : List (Key × V)} {os : List Int} {i : Nat} {a : Int} (hn : os.Nodup) (h : TabA kvs os i) (e : os[i]? = some a) : TabA (putK kvs (.inl a) (.int i)) os (i + 1) := by
  refine ⟨Nat.le_trans putK_len (Nat.succ_le_succ h.1), fun j b hj eb => ?_⟩
  rw [valV_put]
  by_cases q : b = a
  · subst q
    rw [if_pos rfl]
    obtain ⟨hj', e1⟩ := List.getElem?_eq_some_iff.mp eb
    obtain ⟨hi', e2⟩ := List.getElem?_eq_some_iff.mp e
    have q1 := posF_at hn eb
    have q2 := posF_at hn e
    rw [← q1, q2]
  · rw [if_neg fun z => q (Sum.inl.inj z)]
    have : j ≠ i := fun z => by
      subst z
      rw [e] at eb
      exact q (Option.some.inj eb).symm
    exact h.2 j b (by omega) eb
section
variable {P : Program} {w : World} {K : PySem.W.Frag} {mg : Str → Option Value} {base : Heap}
set_option hygiene false
local macro_rules | `(tactic| tm_at "sc") => `(tactic| (first | omega | (simp only [List.length_cons, List.length_nil, List.length_map, List.length_set, List.length_append]; omega) | (simp only [List.length_map] at h1 ⊢; omega) | (simp only [List.length_map] at c ⊢; omega) | with_reducible assumption | exact And.intro (by omega) (by omega) | exact Or.inl (And.intro (by omega) (by omega)) | exact Or.inr (And.intro (by omega) (by omega)) | decide +kernel | exact len1000 (by simp) | rfl | fail "no way"))
local macro_rules | `(tactic| tm_at "sc1") => `(tactic| (focus (simp; done)))
local macro_rules | `(tactic| tm_at "ne") => `(tactic| (first | assumption | exact Ne.symm (by assumption) | (apply Box.ne2; assumption; tm_at "hp") | (apply Ne.symm; apply Box.ne2; assumption; tm_at "hp") | (apply ne_of_none2; assumption; tm_at "hp") | (apply Ne.symm; apply ne_of_none2; assumption; tm_at "hp") | fail "no way"))
local macro_rules | `(tactic| tm_at "f0") => `(tactic| (first | assumption | (apply Fr.new; assumption) | fail "no way"))
local macro_rules | `(tactic| tm_at "hp") => `(tactic| (first | assumption | exact upd_same | (apply SqL.of; first | assumption | exact upd_same) | (apply Fr.at0; tm_at "f0"; tm_at "hp") | (apply Fr.at1n; assumption; tm_at "ne"; tm_at "hp") | (apply sqFr0; tm_at "f0"; tm_at "hp") | (apply sqFr1; assumption; tm_at "ne"; tm_at "hp") | (apply Box.fr0; tm_at "f0"; tm_at "hp") | (apply Box.fr1; assumption; tm_at "ne"; tm_at "hp") | (apply Den.fr; tm_at "f0"; tm_at "hp") | (apply Dens.fr; tm_at "f0"; tm_at "hp") | fail "no way"))
local macro_rules | `(tactic| tm_at "free0") => `(tactic| (first | assumption | (apply updFree; assumption) | (apply updFree; apply updFree; assumption) | (apply updFree; apply updFree; apply updFree; assumption) | (apply updFree; apply updFree; apply updFree; apply updFree; assumption) | fail "no way"))
local macro_rules | `(tactic| tm_at "free") => `(tactic| (first | tm_at "free0" | (apply Fr.free; assumption; tm_at "free0") | (apply Box.free; assumption; tm_at "fr"; tm_at "free0") | (apply Fr.free; assumption; apply Fr.free; assumption; tm_at "free0") | fail "no way"))
local macro_rules | `(tactic| tm_at "fr") => `(tactic| (first | assumption | exact Fr.refl0 _ | exact Fr.refl (Box.nt (by assumption)) | (refine Fr.comp0 ?_ (by tm_at "f0"); tm_at "fr") | (refine Fr.comp ?_ (by assumption); tm_at "fr") | (refine Fr.compN ?_ (by assumption) (by tm_at "free"); tm_at "fr") | fail "no way"))
local macro_rules | `(tactic| tm_at "call") => `(tactic| fail "no call")
local macro_rules | `(tactic| tm_at "call") => `(tactic| (apply take_step; tm_at "hp"; tm_at "sc"; tm_at "sc"; intro r H1 h0 h1 hB fr))
local macro_rules | `(tactic| tm_at "ty") => `(tactic| (first | assumption | exact .base .non | exact .base (.bl _) | exact .base (.int _) | exact .base (.str _) | (apply TyX.base; apply TyOf.lst; tm_at "hp") | (apply TyX.base; apply TyOf.tup; tm_at "hp") | fail "no way"))
local macro_rules | `(tactic| tm_at "pre") => `(tactic| fail "none")
local macro_rules | `(tactic| tm_at "go1") => `(tactic| (first | tm_at "pre" | refine ⟨_, rfl, ?_⟩ | refine ⟨_, _, rfl, rfl, ?_⟩ | (apply set_step; tm_at "hp"; tm_at "sc"; tm_at "sc"; intro H1 hp fr) | (with_reducible refine iteDI ?_ ?_ <;> intro c) | (with_reducible refine iteDS ?_ ?_ <;> intro c) | (with_reducible refine iteD ?_ ?_ <;> intro c) | (with_reducible refine iteEM ?_ ?_ <;> intro c) | (with_reducible refine iteE ?_ ?_ <;> intro c) | with_reducible refine iteN ?_ | with_reducible refine iteF ?_ | with_reducible refine iteT ?_ | (refine fun (p : Addr) (np : _ = (none : Option HO)) => ?_; fail_if_success (refine ⟨fun (_ _ : Nat) (_ : Hp) => True, ?_⟩)) | (apply isi_tt; tm_at "ty"; focus (decide +kernel)) | (apply isi_ff; tm_at "ty"; focus (decide +kernel)) | (apply sl_step; tm_at "hp"; intro qq H1 ms nq hq fr) | (apply sum_step; tm_at "hp"; intro i) | (apply tru_step; tm_at "hp") | (apply len_step; tm_at "hp") | (apply lenq_step; assumption) | (apply ixq_step; assumption; tm_at "sc"; tm_at "sc"; intro v hv) | (apply lst_step; tm_at "hp") | (apply tupl_step; tm_at "hp") | (apply ixr_step; tm_at "hp"; exact rfl) | (apply ix0_step; tm_at "hp") | (apply ix1_step; tm_at "hp") | (apply ix2_step; tm_at "hp") | (apply ixi_step; tm_at "hp"; tm_at "sc"; tm_at "sc"; intro n hn hn') | (apply ixl_step; tm_at "hp"; tm_at "sc"; tm_at "sc"; intro v hv) | (apply ixt_step; tm_at "hp"; tm_at "sc"; tm_at "sc"; intro v hm hv) | (apply in_step; tm_at "hp"; rfl; rfl) | (apply cat_step; tm_at "hp"; tm_at "hp"; tm_at "sc") | (apply catT_step; tm_at "hp"; tm_at "hp"; tm_at "sc1") | (apply tyL_and; tm_at "hp") | (apply app_step; tm_at "hp"; tm_at "sc"; intro H1 hp fr) | tm_at "call" | refine ⟨⟨_, rfl⟩, ?_⟩ | (apply ixs_step; tm_at "sc"; tm_at "sc"; tm_at "sc"; intro ch) | refine .inl ⟨_, rfl, ?_⟩ | refine .inr ⟨_, rfl, ?_⟩ | (apply And.intro; tm_at "sc") | (with_reducible refine wayB ?_ ?_ <;> intro c) | fail "no way"))
local macro_rules | `(tactic| tm_at "go") => `(tactic| (repeat tm_at "go1"))
local macro_rules | `(tactic| tm_at "goo") => `(tactic| (repeat' tm_at "go1"))
local macro_rules | `(tactic| tm_at "den") => `(tactic| (first | assumption | exact Den.str _ | exact Den.int _ | exact Den.bl _ | exact Den.non | (apply Den.tups; tm_at "hp"; tm_at "dens") | (apply Den.fr; tm_at "f0"; tm_at "den") | fail "no way"))
local macro_rules | `(tactic| tm_at "dens") => `(tactic| (first | assumption | exact Dens.nil | (apply Dens.cons; tm_at "den"; tm_at "dens") | (apply Dens.fr; tm_at "f0"; tm_at "dens") | fail "no way"))
local macro_rules | `(tactic| tm_at "ix") => `(tactic| (apply Ix.mk; tm_at "hp"; tm_at "ne"; assumption; assumption))
local macro_rules | `(tactic| tm_at "dep") => `(tactic| (first | assumption | exact Dep.int | exact Dep.str | exact Dep.bl | exact Dep.non | (apply Dep.tup; tm_at "dlen"; tm_at "deps") | (apply Dep.mono; assumption; decide) | fail "no way"))
local macro_rules | `(tactic| tm_at "deps") => `(tactic| (first | assumption | exact memN | (apply memC; tm_at "dep"; tm_at "deps") | fail "no way"))
local macro_rules | `(tactic| tm_at "dlen") => `(tactic| (first | assumption | (focus (simp; done)) | omega | fail "no way"))
local macro_rules | `(tactic| tm_at "pre") => `(tactic| (apply rep_step; tm_at "hp"; tm_at "sc"; tm_at "sc"; intro rp H1 nrp hrp fr))

local macro_rules | `(tactic| tm_at "lk") => `(tactic| (first | with_reducible exact lookup_eq | ((with_reducible apply lookup_ne); (focus (decide +kernel)); tm_at "lk") | assumption | rfl | fail "no way"))
local macro_rules | `(tactic| tm_at "pf") => `(tactic| (first | with_reducible exact putF_nil | with_reducible exact putF_eq | ((with_reducible apply putF_ne); (focus (decide +kernel)); tm_at "pf") | fail "no way"))
local macro_rules | `(tactic| tm_at "fl") => `(tactic| (first | assumption | focus (simp only [List.length_cons, List.length_nil]; omega) | focus (simp only [List.length_cons, List.length_nil]; done) | focus (decide) | focus (simp; done) | focus (simp; omega) | fail "no way"))
local macro_rules | `(tactic| tm_at "pre") => `(tactic| (apply fld_step; tm_at "hp"; assumption; assumption; tm_at "lk"))
local macro_rules | `(tactic| tm_at "pre") => `(tactic| (apply putf_step; tm_at "hp"; assumption; assumption; tm_at "fl"; tm_at "pf"; intro H1 hp fr))
local macro_rules | `(tactic| tm_at "pre") => `(tactic| (apply aug_step; tm_at "hp"; assumption; assumption; tm_at "lk"))
local macro_rules | `(tactic| tm_at "pre") => `(tactic| (apply put2_step; tm_at "hp"; tm_at "fl"; tm_at "pf"; intro H1 hp fr))
local macro_rules | `(tactic| tm_at "pre") => `(tactic| (apply dget_step; tm_at "hp"; tm_at "lk"))
local macro_rules | `(tactic| tm_at "pre") => `(tactic| (apply dput_step; tm_at "hp"; (focus (omega)); intro H1 hp fr))
local macro_rules | `(tactic| tm_at "pre") => `(tactic| (apply mth_step; tm_at "hp"; tm_at "lk"))
local macro_rules | `(tactic| tm_at "pre") => `(tactic| (apply lenD_step; tm_at "hp"))
local macro_rules | `(tactic| tm_at "pre") => `(tactic| (apply addI_step))
local macro_rules | `(tactic| tm_at "pre") => `(tactic| (apply newD_step; intro dn H1 nd hp fr))
local macro_rules | `(tactic| tm_at "fr2") => `(tactic| (first | assumption | (apply Fr.appMb; assumption; (focus (simp; done)); tm_at "fr2") | (apply Fr.app0b; tm_at "f0"; tm_at "fr2") | (apply Fr.appNb; assumption; tm_at "free"; tm_at "fr2") | fail "no way"))
local macro_rules | `(tactic| tm_at "ne") => `(tactic| (apply ne_role; assumption; assumption; (focus (decide))))
local macro_rules | `(tactic| tm_at "pre") => `(tactic| (apply dnotin_step; tm_at "hp"))
local macro_rules | `(tactic| tm_at "pre") => `(tactic| (apply din_step; tm_at "hp"))

structure RchG (step : Int) (ys : List Th) (es : List T) (tb : List Int) (sl : Int → List T) (kd : Int → Str) (tg : Int → T) : Prop extends Rch step ys es tb sl where
  of_ : ∀ (a : Int) (k : Nat) (y : Th), a ∈ tb → a = gT step k → ys[k]? = some y → y.kd = kd a ∧ y.tg = tg a
@[irreducible] def spGraph (K : PySem.W.Frag) (CT C : Addr) : Sp := fun vs H Q _ => ∃ (ρ : Role) (s : Nat) (step : Int) (tl : List (Str × V)) (B D l : Addr) (ys : List Th) (xs : List V) (es : List T) (tb : List Int) (sl : Int → List T) (kd : Int → Str) (tg : Int → T),
  vs = [.ref B, .ref l] ∧ BkA K ρ s step CT C tl H B D ys ∧ H l = some (.lst xs) ∧ Dens K H xs es ∧ RchG step ys es tb sl kd tg ∧ ∀ v H', Den K H' v (grT kd tg sl es (bfs sl (noteZ es []) tb.length)) → Fr [] H H' → Q v H'
theorem graph_step {CT C : Addr} {ρ : Role} {s : Nat} {step : Int} {tl : List (Str × V)} {B D l : Addr} {ys : List Th} {xs : List V} {es : List T} {tb : List Int} {sl : Int → List T} {kd : Int → Str} {tg : Int → T} {H : Hp} {Q : VK} {E : XK} (h1 : BkA K ρ s step CT C tl H B D ys) (h2 : H l = some (.lst xs)) (h3 : Dens K H xs es) (h4 : RchG step ys es tb sl kd tg)
    (q : ∀ v H', Den K H' v (grT kd tg sl es (bfs sl (noteZ es []) tb.length)) → Fr [] H H' → Q v H') : spGraph K CT C [.ref B, .ref l] H Q E := by
  unfold spGraph; exact ⟨ρ, s, step, tl, B, D, l, ys, xs, es, tb, sl, kd, tg, rfl, h1, h2, h3, h4, q⟩
/-- while the table is filled -/
@[irreducible] def EMid (tbl : Addr) (os : List Int) (H : Hp) (σ : L2.St) (i : Nat) (σ' : L2.St) (H' : Hp) : Prop :=
  ∃ (x y : Option V) (kvs : List (Key × V)), σ' = (σ.set 4 x).set 5 y ∧ H' tbl = some (.dK kvs) ∧ TabA kvs os i ∧ Fr [tbl] H H'
theorem EMid.of {tbl : Addr} {os : List Int} {H : Hp} {σ σ' : L2.St} {i : Nat} {H' : Hp} {x y : Option V} {kvs : List (Key × V)} (e : σ' = (σ.set 4 x).set 5 y) (h1 : H' tbl = some (.dK kvs)) (h2 : TabA kvs os i) (h3 : Fr [tbl] H H') : EMid tbl os H σ i σ' H' := by
  unfold EMid; exact ⟨x, y, kvs, e, h1, h2, h3⟩
/-- while the objects are told -/
@[irreducible] def OMid (K : PySem.W.Frag) (q : Addr) (F : Int → T) (os : List Int) (H : Hp) (σ : L2.St) (i : Nat) (σ' : L2.St) (H' : Hp) : Prop :=
  ∃ (x y z : Option V) (vs : List V), σ' = ((σ.set 5 x).set 9 y).set 10 z ∧ H' q = some (.lst vs) ∧ Dens K H' vs ((os.take i).map F) ∧ Fr [q] H H'
theorem OMid.of {q : Addr} {F : Int → T} {os : List Int} {H : Hp} {σ σ' : L2.St} {i : Nat} {H' : Hp} {x y z : Option V} {vs : List V} (e : σ' = ((σ.set 5 x).set 9 y).set 10 z) (h1 : H' q = some (.lst vs)) (h2 : Dens K H' vs ((os.take i).map F)) (h3 : Fr [q] H H') : OMid K q F os H σ i σ' H' := by
  unfold OMid; exact ⟨x, y, z, vs, e, h1, h2, h3⟩
abbrev s_Store_graph : Stmt := inClass (top 8) 12
theorem sc_Store_graph : FnScope ["self", "entries", "order", "table", "at", "address", "tops", "entry", "objects", "thing", "slots"] ["self", "entries"] (defScope s_Store_graph) := ⟨rfl, rfl, rfl, by decide +kernel, rfl, by decide +kernel, by decide +kernel⟩

theorem ok_graph {C CT : Addr} (cf : ClF K C CT) (T : Bl mg) (G_p_moved : Cal P w K mg base 2 "moved" ["entry", "table"] (spPMov K)) (M_reach : CalM P w K mg base 3 C "reach" ["self", "entries"] (spReach K CT C)) (D : Def2 K C "graph" "Store.graph" s_Store_graph) : CalM P w K mg base 4 C "graph" ["self", "entries"] (spGraph K CT C) := by
  refine D.cal cf.cC sc_Store_graph (fun _ _ _ _ _ _ us hl => match us, hl with | [_, _], _ => rfl) (fun vs H Q E h => ?_) (fun f cdv A outer s H vs Q E hr h => ?_) <;> unfold spGraph at h
  · obtain ⟨ρ, sd, step, tl, B, dD, l, ys, xs, es, tb, sl, kd, tg, rfl, _⟩ := h
    rfl
  · obtain ⟨ρ, sd, step, tl, B, dD, l, ys, xs, es, tb, sl, kd, tg, rfl, hb, hl, dx, hR, q⟩ := h
    obtain ⟨c1, a1, a2, c2, n1, n2, n3, n4⟩ := cf
    obtain ⟨dx0, gr, hB⟩ := hb.at_
    obtain ⟨kvs, hD, hlen, hg, _⟩ := hb.dk
    have hu := room_hu hr
    have nomr : tl.lookup ("reach" : Str) = none := hb.tll.nom _ (by decide +kernel)
    refine ⟨_, (pss_cons (ps_set (i := 2) sc_Store_graph.nd rfl (Or.inl rfl) (pe_mcalx (pv 0) M_reach (hr.mono (by omega)) (pa_cons (pv 1) pa_nil)))
    (pss_cons (ps_set (i := 3) sc_Store_graph.nd rfl (Or.inr rfl) pe_dnewK)
    (pss_cons (ps_for PassesOwn.never rfl (pi_enum (by rfl) T.z_enumerate (pa_cons (pv 2) pa_nil)) (pg_tup (by rfl) (pgs_cons (pg_name (i := 4) sc_Store_graph.nd rfl (Or.inl rfl)) (pgs_cons (pg_name (i := 5) sc_Store_graph.nd rfl (Or.inl rfl)) pgs_nil)))
      (pss_one (ps_dputx hu (pv 3) (pv 5) (pv 4) rfl)))
    (pss_cons (ps_set (i := 6) sc_Store_graph.nd rfl (Or.inl rfl) (pe_callTy (cTuple K) (by rfl) T.z_tuple (by decide +kernel) (pa_cons (pe_lc (own := [("entry", 7)]) (g := gName 7) (by rfl) sc_Store_graph.nd (pi_list (pv 1)) (blkOk_by (own := [("entry", 7)]) (N := [("self" : Str), ("entries" : Str), ("order" : Str), ("table" : Str), ("at" : Str), ("address" : Str), ("tops" : Str), ("entry" : Str), ("objects" : Str), ("thing" : Str), ("slots" : Str)]) (sc := defScope s_Store_graph) (by decide +kernel)) (fun _ _ _ _ _ => pg_name (i := 7) sc_Store_graph.nd rfl (Or.inl rfl)) (fun _ _ _ _ _ => pts_nil) (fun _ _ _ _ _ => (pe_cal G_p_moved (hr.mono (by omega)) (by rfl) (pa_cons (pv 7) (pa_cons (pv 3) pa_nil))))) pa_nil)))
    (pss_cons (ps_set (i := 8) sc_Store_graph.nd rfl (Or.inl rfl) (pe_lst pa_nil))
    (pss_cons (ps_for PassesOwn.never rfl (pi_list (pv 2)) (pg_name (i := 5) sc_Store_graph.nd rfl (Or.inl rfl))
      (pss_cons (ps_set (i := 9) sc_Store_graph.nd rfl (Or.inl rfl) (pe_dgetx hu (pe_fldx K (pv 0) rfl) (pv 5) (fun _ _ => rfl)))
      (pss_cons (ps_set (i := 10) sc_Store_graph.nd rfl (Or.inl rfl) (pe_callTy (cTuple K) (by rfl) T.z_tuple (by decide +kernel) (pa_cons (pe_lc (own := [("entry", 7)]) (g := gName 7) (by rfl) sc_Store_graph.nd (pi_list (pe_fldx K (pv 9) rfl)) (blkOk_by (own := [("entry", 7)]) (N := [("self" : Str), ("entries" : Str), ("order" : Str), ("table" : Str), ("at" : Str), ("address" : Str), ("tops" : Str), ("entry" : Str), ("objects" : Str), ("thing" : Str), ("slots" : Str)]) (sc := defScope s_Store_graph) (by decide +kernel)) (fun _ _ _ _ _ => pg_name (i := 7) sc_Store_graph.nd rfl (Or.inl rfl)) (fun _ _ _ _ _ => pts_nil) (fun _ _ _ _ _ => (pe_cal G_p_moved (hr.mono (by omega)) (by rfl) (pa_cons (pv 7) (pa_cons (pv 3) pa_nil))))) pa_nil)))
      (pss_one (ps_expr (pe_bm PySem.F.plainAttrs_list PySem.F.slot_list_append PySem.F.type_list_append mtApp (pv 8) (pa_cons (pe_tup (pa_cons (pe_fldx K (pv 9) rfl) (pa_cons (pe_fldx K (pv 9) rfl) (pa_cons (pv 10) pa_nil)))) pa_nil)))))))
    (pss_one (ps_ret (pe_tup (pa_cons (pv 6) (pa_cons (pe_callTy (cTuple K) (by rfl) T.z_tuple (by decide +kernel) (pa_cons (pv 8) pa_nil)) pa_nil))))))))))), ?_⟩
    tm_at "goo"
    refine reach_step hb hl dx hR.toRch fun o H1 no ho f1 => ?_
    have hst := hR.start
    have hnd : (noteZ es []).Nodup := noteZ_nodup List.nodup_nil
    have osn := bfs_nodup (sl := sl) hnd tb.length
    have osi := bfs_in hR.cl hst tb.length
    have osl := bfs_len hR.cl hst hnd tb.length
    have ost : ∀ t ∈ es, ∀ j, tgtT t = some j → j ∈ bfs sl (noteZ es []) tb.length := fun t m j e => bfs_start (noteZ_has m e)
    have osc : ∀ a ∈ bfs sl (noteZ es []) tb.length, ∀ t ∈ sl a, ∀ j, tgtT t = some j → j ∈ bfs sl (noteZ es []) tb.length := fun a ha t ht j e => bfs_closed osl ha ht e
    generalize bfs sl (noteZ es []) tb.length = os at *
    tm_at "goo"
    obtain ⟨tbl, htbl⟩ : ∃ z, z = p := ⟨_, rfl⟩
    subst htbl
    have nop : o ≠ tbl := ne_of_none2 np ho
    have ho1 : upd H1 tbl (.dK []) o = some (.lst (os.map V.int)) := (Fr.new np).at0 ho
    refine ⟨_, _, rfl, .of ho1, ?_⟩
    refine for_it (walk_enum (K := K) (a := o) (xs := os.map V.int)) (EMid tbl os (upd H1 tbl (.dK [])) [some (.ref B), some (.ref l), some (.ref o), some (.ref tbl), none, none, none, none, none, none, none]) (EMid.of (x := none) (y := none) rfl upd_same TabA.nil (.refl fun a m zs e => ?_)) (fun i σ' H' hi hP => ?_) (fun i x σ' H' H'' hi hP hY => ?_) (fun σ' H' hP => ?_)
    · have z := List.mem_singleton.mp m
      rw [z, upd_same] at e; cases e
    · unfold EMid at hP
      obtain ⟨x, y, kvs', rfl, h1, h2, h3⟩ := hP
      exact .of (h3.at1n nop ho1)
    · unfold EMid at hP
      obtain ⟨x, y, kvs', rfl, h1, h2, h3⟩ := hP
      obtain ⟨tq, u, v, rfl, nt, rfl, e1, e2⟩ := hY
      cases e1
      have hi' : i < os.length := by simpa using hi
      have e2 : (os.map V.int)[i]? = some v := e2
      rw [List.getElem?_map, List.getElem?_eq_getElem hi'] at e2
      have eo : os[i]? = some os[i] := List.getElem?_eq_getElem hi'
      generalize os[i] = ai at eo e2
      obtain rfl : V.int ai = v := Option.some.inj e2
      refine ⟨tq, _, rfl, SqT.of upd_same, rfl, ?_⟩
      refine ⟨_, _, rfl, _, _, rfl, rfl, ?_⟩
      have lk : kvs'.length < 10000 := by have := h2.1; have := hR.len; omega
      have hp1 := (Fr.new (o := .tup [.int i, .int ai]) nt).at0 h1
      tm_at "goo"
      exact EMid.of rfl hp (h2.put osn eo) ((h3.tr (Fr.new nt)).trans fr)
    · unfold EMid at hP
      obtain ⟨x, y, kvs', rfl, h1, h2, h3⟩ := hP
      have hlo : (os.map V.int).length = os.length := by simp
      rw [hlo] at h2
      have fH : Fr [] H H' := ((f1.tr (Fr.new np)).compN h3 (f1.free np))
      have tab : ∀ j ∈ os, valV kvs' (.inl j) = some (.int (posF os j)) := fun j m => by
        obtain ⟨i, hi, e⟩ := List.getElem_of_mem m
        have e' : os[i]? = some j := by rw [← e]; exact List.getElem?_eq_getElem hi
        rw [posF_at osn e']
        exact h2.2 i j hi e'
      have hl' := fH.at0 hl
      have dx' := dx.fr fH
      have hB' := fH.at0 hB
      have hD' := fH.at0 hD
      have ho' : H' o = some (.lst (os.map V.int)) := h3.at1n nop ho1
      have lx : xs.length ≤ 1000 := by have := hR.le; have := dx.1; omega
      tm_at "goo"
      refine ⟨⟨_, .of hl'⟩, ?_⟩
      refine lcL (fun _ => true) (fun H i y => ∃ t, Den K H y t ∧ (es[i]?).map (movT (posF os)) = some t) (Cg.nil _) stab_den (.of hl') (by simp) (by omega) (fun i x H2 hi hS f => tyes_ok trivial (fun _ h => nomatch h)) (fun i x H2 hi _ hS f R kk => ?_) (fun tp H2 tv ntp htp m2 _ f2 => ?_)
      · obtain ⟨t, et, dt⟩ := dx'.get hi
        tm_at "goo"
        refine pmov_step (f.at0 h1) (dt.fr f) (hR.sh t (List.mem_of_getElem? et)) (fun j e => tab j (ost t (List.mem_of_getElem? et) j e)) fun v' H3 f3 d3 => ?_
        exact kk _ _ trivial f3 ⟨_, d3, by rw [et]; rfl⟩
      · rw [keptN_all] at m2
        have dtp := made_dens (by rw [← dx.1]) m2
        have h12 := f2.at0 h1
        have ho2 := f2.at0 ho'
        have fH2 := fH.tr f2
        tm_at "goo"
        rename_i tt ntt
        obtain ⟨ob, hob⟩ : ∃ z, z = p := ⟨_, rfl⟩
        subst hob
        have nptt : ob ≠ tt := (ne_of_none2 np upd_same).symm
        have nDtt := (Fr.new (o := .tup tv) ntt)
        have ft : Fr [] H2 (upd (upd H2 tt (.tup tv)) ob (.lst [])) := nDtt.tr (Fr.new np)
        have hq0 : upd (upd H2 tt (.tup tv)) ob (.lst []) ob = some (.lst []) := upd_same
        have htt := (Fr.new (o := .lst []) np).at0 (upd_same (H := H2) (a := tt) (o := HO.tup tv))
        have ho3 := ft.at0 ho2
        have h13 := ft.at0 h12
        have fH3 := fH2.tr ft
        have dtp3 : Dens K (upd (upd H2 tt (.tup tv)) ob (.lst [])) tv (es.map (movT (posF os))) := dtp.fr ft
        have nlp0 : H ob = none := fH2.free (updFree np)
        have nop3 : o ≠ ob := ne_of_none2 (updFree np) ho2
        have nlp3 : ∀ {a : Addr} {u : HO}, H a = some u → a ≠ ob := fun h => ne_of_none2 (updFree np) (fH2.at0 h)
        have n1p : ∀ {a : Addr} {u : HO}, H2 a = some u → a ≠ ob := fun h => ne_of_none2 (updFree np) h
        generalize upd (upd H2 tt (.tup tv)) ob (.lst []) = H3 at *
        refine ⟨⟨_, .of ho3⟩, ?_⟩
        refine for_list (xs := os.map V.int) (OMid K ob (fun a => .tup [.str (kd a), tg a, .tup ((sl a).map (movT (posF os)))]) os H3 ((([some (.ref B), some (.ref l), some (.ref o), some (.ref tbl), none, none, none, none, none, none, none].set 4 x).set 5 y |>.set 6 (some (.ref tt))).set 8 (some (.ref ob)))) ?_ (fun i σ' H' hi hP => ?_) (fun i x σ' H' hx hP => ?_) (fun σ' H' hP => ?_)
        · exact OMid.of (x := y) (y := none) (z := none) rfl hq0 .nil (Fr.reflL hq0)
        · unfold OMid at hP
          obtain ⟨x, y, z, vs, rfl, g1, g2, g3⟩ := hP
          exact .of (g3.at1n nop3 ho3)
        · unfold OMid at hP
          obtain ⟨x0, y0, z0, vs, rfl, g1, g2, g3⟩ := hP
          obtain ⟨a, ea, rfl⟩ : ∃ a, os[i]? = some a ∧ x = .int a := by
            rw [List.getElem?_map] at hx
            cases e : os[i]? with
            | none => rw [e] at hx; cases hx
            | some a => rw [e] at hx; exact ⟨a, rfl, (Option.some.inj hx).symm⟩
          have ma := List.mem_of_getElem? ea
          obtain ⟨k, yk, en, hy, hus⟩ := hR.at_ a (osi a ma)
          obtain ⟨rk, rt⟩ := hR.of_ a k yk (osi a ma) en hy
          obtain ⟨⟨dtk, hth⟩, _⟩ := hb.th k yk hy
          have hsl := (hb.sl k yk hy).1
          obtain ⟨o1, o2, o3, o4, o5⟩ := hb.ok k yk hy
          have eg := hg k yk hy
          rw [← en] at eg
          have hth4 := g3.at1n (nlp3 hth) (fH3.at0 hth)
          have hsl4 := g3.at1n (nlp3 hsl) (fH3.at0 hsl)
          have hB4 := g3.at1n (nlp3 hB) (fH3.at0 hB)
          have hD4 := g3.at1n (nlp3 hD) (fH3.at0 hD)
          have h14 := g3.at1n (n1p h12) h13
          tm_at "goo"
          refine ⟨⟨_, .of hsl4⟩, ?_⟩
          have d0 : Dens K H' yk.ss (sl a) := by
            have hus2 : yk.us = sl a := hus
            rw [← hus2]; exact (o1.fr fH3).fr g3
          have dtg : Den K H' yk.tv (tg a) := by rw [← rt]; exact (o3.fr fH3).fr g3
          refine lcL (fun _ => true) (fun H i y => ∃ t, Den K H y t ∧ ((sl a)[i]?).map (movT (posF os)) = some t) (Cg.nil _) stab_den (.of hsl4) (by simp) (by omega) (fun i x H2 hi hS f => tyes_ok trivial (fun _ h => nomatch h)) (fun i x H2 hi _ hS f R kk => ?_) (fun tp2 H4 tv2 ntp2 htp2 m4 _ f4 => ?_)
          · obtain ⟨t, et, dt⟩ := d0.get hi
            have mt := List.mem_of_getElem? et
            tm_at "goo"
            refine pmov_step (f.at0 h14) (dt.fr f) (hR.cl.sh a (osi a ma) t mt) (fun j e => tab j (osc a ma t mt j e)) fun v' H3 f3 d3 => ?_
            exact kk _ _ trivial f3 ⟨_, d3, by rw [et]; rfl⟩
          · rw [keptN_all] at m4
            have ds := made_dens (by rw [← d0.1]) m4
            have g14 := f4.at0 g1
            have hth5 := f4.at0 hth4
            have lvs : vs.length ≤ 2000 := by
              have e1 := g2.1
              have e2 := hR.len
              simp at e1
              omega
            tm_at "goo"
            rename_i t2 nt2
            have F4 := (f4.tr (Fr.new (o := .tup tv2) nt2)).tr (Fr.new (o := .tup [.str yk.kd, yk.tv, .ref t2]) np)
            have g3' := (g3.tr F4).trans fr
            have npo : p ≠ ob := ne_of_none2 np ((Fr.new nt2).at0 g14) |>.symm
            have nto2 : t2 ≠ ob := ne_of_none2 nt2 g14 |>.symm
            have hpt : H1 p = some (.tup [.str yk.kd, yk.tv, .ref t2]) := fr.at1n npo upd_same
            have hpt2 : H1 t2 = some (.tup tv2) := fr.at1n nto2 ((Fr.new np).at0 upd_same)
            have dn : Den K H1 (.ref p) (.tup [.str (kd a), tg a, .tup ((sl a).map (movT (posF os)))]) := by
              rw [← rk]
              refine Den.tups hpt (.cons (.str _) (.cons ?_ (.cons (Den.tups hpt2 ?_) .nil)))
              · exact (dtg.fr F4).fr fr
              · exact ((ds.fr ((Fr.new (o := .tup tv2) nt2).tr (Fr.new (o := .tup [.str yk.kd, yk.tv, .ref t2]) np)))).fr fr
            refine OMid.of rfl hp ?_ g3'
            have et : os.take (i + 1) = os.take i ++ [a] := by rw [List.take_add_one, ea]; rfl
            rw [et, List.map_append]
            exact ((g2.fr F4).fr fr).app (.cons dn .nil)
        · unfold OMid at hP
          obtain ⟨x0, y0, z0, vs, rfl, g1, g2, g3⟩ := hP
          have et : os.take (os.map V.int).length = os := List.take_of_length_le (by simp)
          rw [et] at g2
          have gtt := g3.tup htt
          have gto := dtp3.fr g3
          have gfH : Fr [] H H' := fH3.compN g3 (nlp0)
          tm_at "goo"
          rename_i to nto
          refine q _ _ ?_ ((gfH.tr (Fr.new nto)).tr (Fr.new np))
          have ff := (Fr.new (o := .tup vs) nto).tr (Fr.new (o := .tup [.ref tt, .ref to]) np)
          exact Den.tups upd_same (.cons (Den.tups (ff.tup gtt) (gto.fr ff)) (.cons (Den.tups ((Fr.new np).at0 upd_same) (g2.fr ff)) .nil))
end
end M14
set_option Elab.async false
set_option linter.all false
set_option maxRecDepth 100000
set_option maxHeartbeats 4000000
namespace M14
open PySem PySem.Spec PyProof.Rows L2

/-! ### the law's walk -/
def slN (xs : List Nd) (a : Int) : List T := match xs[a.toNat]? with
  | some x => x.ts
  | none => []
def idx (n : Nat) : List Int := (List.range n).map fun i : Nat => (i : Int)
theorem idx_len {n : Nat} : (idx n).length = n := by simp [idx]
theorem idx_mem {n : Nat} {a : Int} : a ∈ idx n ↔ 0 ≤ a ∧ a < n := by
  unfold idx
  rw [List.mem_map]
  constructor
  · rintro ⟨i, hi, rfl⟩
    have := List.mem_range.mp hi
    omega
  · rintro ⟨h0, h1⟩
    exact ⟨a.toNat, List.mem_range.mpr (by omega), by omega⟩
theorem slN_at {xs : List Nd} {i : Nat} {x : Nd} (h : xs[i]? = some x) : slN xs i = x.ts := by unfold slN; rw [Int.toNat_natCast, h]
theorem slN_get {xs : List Nd} {a : Int} {x : Nd} (h : xs[a.toNat]? = some x) : slN xs a = x.ts := by unfold slN; rw [h]
theorem NdA.clo {K : PySem.W.Frag} {ρ : Role} {s : Nat} {H : Hp} {N : Addr} {xs : List Nd} (h : NdA K ρ s xs.length H N xs) : Clo (slN xs) (idx xs.length) := by
  have key : ∀ a ∈ idx xs.length, ∃ x, xs[a.toNat]? = some x ∧ slN xs a = x.ts := fun a m => by
    obtain ⟨h0, h1⟩ := idx_mem.mp m
    have hk : a.toNat < xs.length := by omega
    exact ⟨xs[a.toNat], List.getElem?_eq_getElem hk, slN_get (List.getElem?_eq_getElem hk)⟩
  refine ⟨fun a m t ht => ?_, fun a m t ht j e => ?_⟩
  · obtain ⟨x, ex, es⟩ := key a m
    rw [es] at ht
    exact ((h.ok _ x ex).2.1 t ht).shape
  · obtain ⟨x, ex, es⟩ := key a m
    rw [es] at ht
    exact idx_mem.mpr (((h.ok _ x ex).2.1 t ht).tgt_in e)
/-- who is seen -/
def SeenA (sv : List V) (fs : List Int) (n : Nat) : Prop := sv.length = n ∧ ∀ j : Nat, j < n → sv[j]? = some (.bl (decide ((j : Int) ∈ fs)))
theorem SeenA.nil {n : Nat} : SeenA (List.replicate n (.bl false)) [] n := ⟨by simp, fun j h => by rw [List.getElem?_replicate, if_pos h]; rfl⟩
theorem SeenA.put {sv : List V} {fs : List Int} {n : Nat} {j : Int} (h : SeenA sv fs n) (h0 : 0 ≤ j) (h1 : j < n) : SeenA (sv.set j.toNat (.bl true)) (fs ++ [j]) n := by
  refine ⟨by rw [List.length_set]; exact h.1, fun i hi => ?_⟩
  by_cases q : j.toNat = i
  · subst q
    rw [List.getElem?_set_self (by rw [h.1]; exact hi)]
    have e : ((j.toNat : Nat) : Int) = j := by omega
    rw [e]
    simp
  · rw [List.getElem?_set_ne q, h.2 i hi]
    have e : (i : Int) ≠ j := by omega
    simp [e]
theorem tgtV_neg {n : Int} {t : T} (h : EntOk n t) (c : tgtV t < 0) : tgtT t = none := by
  cases e : tgtT t with
  | none => rfl
  | some j =>
    rw [tgtV_some e] at c
    have := h.tgt_in e
    omega
theorem tgtV_pos {t : T} (c : 0 ≤ tgtV t) : tgtT t = some (tgtV t) := by
  cases e : tgtT t with
  | none => rw [tgtV_none e] at c; omega
  | some j => rw [tgtV_some e]
section
variable {P : Program} {w : World} {K : PySem.W.Frag} {mg : Str → Option Value} {base : Heap}
set_option hygiene false
local macro_rules | `(tactic| tm_at "sc") => `(tactic| (first | omega | (simp only [List.length_cons, List.length_nil, List.length_map, List.length_set, List.length_append]; omega) | (simp only [List.length_map] at h1 ⊢; omega) | (simp only [List.length_map] at c ⊢; omega) | with_reducible assumption | exact And.intro (by omega) (by omega) | exact Or.inl (And.intro (by omega) (by omega)) | exact Or.inr (And.intro (by omega) (by omega)) | decide +kernel | exact len1000 (by simp) | rfl | fail "no way"))
local macro_rules | `(tactic| tm_at "sc1") => `(tactic| (focus (simp; done)))
local macro_rules | `(tactic| tm_at "ne") => `(tactic| (first | assumption | exact Ne.symm (by assumption) | (apply Box.ne2; assumption; tm_at "hp") | (apply Ne.symm; apply Box.ne2; assumption; tm_at "hp") | (apply ne_of_none2; assumption; tm_at "hp") | (apply Ne.symm; apply ne_of_none2; assumption; tm_at "hp") | fail "no way"))
local macro_rules | `(tactic| tm_at "f0") => `(tactic| (first | assumption | (apply Fr.new; assumption) | fail "no way"))
local macro_rules | `(tactic| tm_at "hp") => `(tactic| (first | assumption | exact upd_same | (apply SqL.of; first | assumption | exact upd_same) | (apply Fr.at0; tm_at "f0"; tm_at "hp") | (apply Fr.at1n; assumption; tm_at "ne"; tm_at "hp") | (apply sqFr0; tm_at "f0"; tm_at "hp") | (apply sqFr1; assumption; tm_at "ne"; tm_at "hp") | (apply Box.fr0; tm_at "f0"; tm_at "hp") | (apply Box.fr1; assumption; tm_at "ne"; tm_at "hp") | (apply Den.fr; tm_at "f0"; tm_at "hp") | (apply Dens.fr; tm_at "f0"; tm_at "hp") | fail "no way"))
local macro_rules | `(tactic| tm_at "free0") => `(tactic| (first | assumption | (apply updFree; assumption) | (apply updFree; apply updFree; assumption) | (apply updFree; apply updFree; apply updFree; assumption) | (apply updFree; apply updFree; apply updFree; apply updFree; assumption) | fail "no way"))
local macro_rules | `(tactic| tm_at "free") => `(tactic| (first | tm_at "free0" | (apply Fr.free; assumption; tm_at "free0") | (apply Box.free; assumption; tm_at "fr"; tm_at "free0") | (apply Fr.free; assumption; apply Fr.free; assumption; tm_at "free0") | fail "no way"))
local macro_rules | `(tactic| tm_at "fr") => `(tactic| (first | assumption | exact Fr.refl0 _ | exact Fr.refl (Box.nt (by assumption)) | (refine Fr.comp0 ?_ (by tm_at "f0"); tm_at "fr") | (refine Fr.comp ?_ (by assumption); tm_at "fr") | (refine Fr.compN ?_ (by assumption) (by tm_at "free"); tm_at "fr") | fail "no way"))
local macro_rules | `(tactic| tm_at "call") => `(tactic| fail "no call")
local macro_rules | `(tactic| tm_at "call") => `(tactic| (apply take_step; tm_at "hp"; tm_at "sc"; tm_at "sc"; intro r H1 h0 h1 hB fr))
local macro_rules | `(tactic| tm_at "ty") => `(tactic| (first | assumption | exact .base .non | exact .base (.bl _) | exact .base (.int _) | exact .base (.str _) | (apply TyX.base; apply TyOf.lst; tm_at "hp") | (apply TyX.base; apply TyOf.tup; tm_at "hp") | fail "no way"))
local macro_rules | `(tactic| tm_at "pre") => `(tactic| fail "none")
local macro_rules | `(tactic| tm_at "go1") => `(tactic| (first | tm_at "pre" | refine ⟨_, rfl, ?_⟩ | refine ⟨_, _, rfl, rfl, ?_⟩ | (apply set_step; tm_at "hp"; tm_at "sc"; tm_at "sc"; intro H1 hp fr) | (with_reducible refine iteDI ?_ ?_ <;> intro c) | (with_reducible refine iteDS ?_ ?_ <;> intro c) | (with_reducible refine iteD ?_ ?_ <;> intro c) | (with_reducible refine iteEM ?_ ?_ <;> intro c) | (with_reducible refine iteE ?_ ?_ <;> intro c) | with_reducible refine iteN ?_ | with_reducible refine iteF ?_ | with_reducible refine iteT ?_ | (refine fun (p : Addr) (np : _ = (none : Option HO)) => ?_; fail_if_success (refine ⟨fun (_ _ : Nat) (_ : Hp) => True, ?_⟩)) | (apply isi_tt; tm_at "ty"; focus (decide +kernel)) | (apply isi_ff; tm_at "ty"; focus (decide +kernel)) | (apply sl_step; tm_at "hp"; intro qq H1 ms nq hq fr) | (apply sum_step; tm_at "hp"; intro i) | (apply tru_step; tm_at "hp") | (apply len_step; tm_at "hp") | (apply lenq_step; assumption) | (apply ixq_step; assumption; tm_at "sc"; tm_at "sc"; intro v hv) | (apply lst_step; tm_at "hp") | (apply tupl_step; tm_at "hp") | (apply ixr_step; tm_at "hp"; exact rfl) | (apply ix0_step; tm_at "hp") | (apply ix1_step; tm_at "hp") | (apply ix2_step; tm_at "hp") | (apply ixi_step; tm_at "hp"; tm_at "sc"; tm_at "sc"; intro n hn hn') | (apply ixl_step; tm_at "hp"; tm_at "sc"; tm_at "sc"; intro v hv) | (apply ixt_step; tm_at "hp"; tm_at "sc"; tm_at "sc"; intro v hm hv) | (apply in_step; tm_at "hp"; rfl; rfl) | (apply cat_step; tm_at "hp"; tm_at "hp"; tm_at "sc") | (apply catT_step; tm_at "hp"; tm_at "hp"; tm_at "sc1") | (apply tyL_and; tm_at "hp") | (apply app_step; tm_at "hp"; tm_at "sc"; intro H1 hp fr) | tm_at "call" | refine ⟨⟨_, rfl⟩, ?_⟩ | (apply ixs_step; tm_at "sc"; tm_at "sc"; tm_at "sc"; intro ch) | refine .inl ⟨_, rfl, ?_⟩ | refine .inr ⟨_, rfl, ?_⟩ | (apply And.intro; tm_at "sc") | (with_reducible refine wayB ?_ ?_ <;> intro c) | fail "no way"))
local macro_rules | `(tactic| tm_at "go") => `(tactic| (repeat tm_at "go1"))
local macro_rules | `(tactic| tm_at "goo") => `(tactic| (repeat' tm_at "go1"))
local macro_rules | `(tactic| tm_at "den") => `(tactic| (first | assumption | exact Den.str _ | exact Den.int _ | exact Den.bl _ | exact Den.non | (apply Den.tups; tm_at "hp"; tm_at "dens") | (apply Den.fr; tm_at "f0"; tm_at "den") | fail "no way"))
local macro_rules | `(tactic| tm_at "dens") => `(tactic| (first | assumption | exact Dens.nil | (apply Dens.cons; tm_at "den"; tm_at "dens") | (apply Dens.fr; tm_at "f0"; tm_at "dens") | fail "no way"))
local macro_rules | `(tactic| tm_at "ix") => `(tactic| (apply Ix.mk; tm_at "hp"; tm_at "ne"; assumption; assumption))
local macro_rules | `(tactic| tm_at "dep") => `(tactic| (first | assumption | exact Dep.int | exact Dep.str | exact Dep.bl | exact Dep.non | (apply Dep.tup; tm_at "dlen"; tm_at "deps") | (apply Dep.mono; assumption; decide) | fail "no way"))
local macro_rules | `(tactic| tm_at "deps") => `(tactic| (first | assumption | exact memN | (apply memC; tm_at "dep"; tm_at "deps") | fail "no way"))
local macro_rules | `(tactic| tm_at "dlen") => `(tactic| (first | assumption | (focus (simp; done)) | omega | fail "no way"))
local macro_rules | `(tactic| tm_at "pre") => `(tactic| (apply rep_step; tm_at "hp"; tm_at "sc"; tm_at "sc"; intro rp H1 nrp hrp fr))

local macro_rules | `(tactic| tm_at "lk") => `(tactic| (first | with_reducible exact lookup_eq | ((with_reducible apply lookup_ne); (focus (decide +kernel)); tm_at "lk") | assumption | rfl | fail "no way"))
local macro_rules | `(tactic| tm_at "pf") => `(tactic| (first | with_reducible exact putF_nil | with_reducible exact putF_eq | ((with_reducible apply putF_ne); (focus (decide +kernel)); tm_at "pf") | fail "no way"))
local macro_rules | `(tactic| tm_at "fl") => `(tactic| (first | assumption | focus (simp only [List.length_cons, List.length_nil]; omega) | focus (simp only [List.length_cons, List.length_nil]; done) | focus (decide) | focus (simp; done) | focus (simp; omega) | fail "no way"))
local macro_rules | `(tactic| tm_at "pre") => `(tactic| (apply fld_step; tm_at "hp"; assumption; assumption; tm_at "lk"))
local macro_rules | `(tactic| tm_at "pre") => `(tactic| (apply putf_step; tm_at "hp"; assumption; assumption; tm_at "fl"; tm_at "pf"; intro H1 hp fr))
local macro_rules | `(tactic| tm_at "pre") => `(tactic| (apply aug_step; tm_at "hp"; assumption; assumption; tm_at "lk"))
local macro_rules | `(tactic| tm_at "pre") => `(tactic| (apply put2_step; tm_at "hp"; tm_at "fl"; tm_at "pf"; intro H1 hp fr))
local macro_rules | `(tactic| tm_at "pre") => `(tactic| (apply dget_step; tm_at "hp"; tm_at "lk"))
local macro_rules | `(tactic| tm_at "pre") => `(tactic| (apply dput_step; tm_at "hp"; (focus (omega)); intro H1 hp fr))
local macro_rules | `(tactic| tm_at "pre") => `(tactic| (apply mth_step; tm_at "hp"; tm_at "lk"))
local macro_rules | `(tactic| tm_at "pre") => `(tactic| (apply lenD_step; tm_at "hp"))
local macro_rules | `(tactic| tm_at "pre") => `(tactic| (apply addI_step))
local macro_rules | `(tactic| tm_at "pre") => `(tactic| (apply newD_step; intro dn H1 nd hp fr))
local macro_rules | `(tactic| tm_at "fr2") => `(tactic| (first | assumption | (apply Fr.appMb; assumption; (focus (simp; done)); tm_at "fr2") | (apply Fr.app0b; tm_at "f0"; tm_at "fr2") | (apply Fr.appNb; assumption; tm_at "free"; tm_at "fr2") | fail "no way"))
local macro_rules | `(tactic| tm_at "ne") => `(tactic| (apply ne_role; assumption; assumption; (focus (decide))))
local macro_rules | `(tactic| tm_at "pre") => `(tactic| (apply dnotin_step; tm_at "hp"))
local macro_rules | `(tactic| tm_at "pre") => `(tactic| (apply din_step; tm_at "hp"))

local macro_rules | `(tactic| tm_at "nda") => `(tactic| (first | assumption | (apply NdA.of0; tm_at "f0"; tm_at "nda") | fail "no way"))
local macro_rules | `(tactic| tm_at "pre") => `(tactic| (apply nd_step; tm_at "nda"; tm_at "sc"; tm_at "sc"; intro xn hxn hnd hrow))
@[irreducible] def spWalk (K : PySem.W.Frag) : Sp := fun vs H Q _ => ∃ (ρ : Role) (s : Nat) (e N : Addr) (xs : List Nd) (ev : List V) (es : List T), vs = [.ref e, .ref N] ∧ NdA K ρ s xs.length H N xs ∧ H e = some (.lst ev) ∧ Dens K H ev es ∧ (∀ t ∈ es, EntOk xs.length t) ∧ es.length ≤ 1000 ∧
  ∀ D H', H D = none → H' D = some (.lst ((bfs (slN xs) (noteZ es []) xs.length).map V.int)) → Fr [] H H' → Q (.ref D) H'
theorem walk_step {ρ : Role} {s : Nat} {e N : Addr} {xs : List Nd} {ev : List V} {es : List T} {H : Hp} {Q : VK} {E : XK} (h1 : NdA K ρ s xs.length H N xs) (h2 : H e = some (.lst ev)) (h3 : Dens K H ev es) (h4 : ∀ t ∈ es, EntOk xs.length t) (h5 : es.length ≤ 1000)
    (q : ∀ D H', H D = none → H' D = some (.lst ((bfs (slN xs) (noteZ es []) xs.length).map V.int)) → Fr [] H H' → Q (.ref D) H') : spWalk K ([.ref e, .ref N] ++ []) H Q E := by
  unfold spWalk; exact ⟨ρ, s, e, N, xs, ev, es, rfl, h1, h2, h3, h4, h5, q⟩
/-- within a place: j entries are done -/
structure InA (K : PySem.W.Frag) (fd sn : Addr) (n : Nat) (H1 : Hp) (fs : List Int) (H' : Hp) : Prop where
  f : H' fd = some (.lst (fs.map V.int))
  s : ∃ sv, H' sn = some (.lst sv) ∧ SeenA sv fs n
  i : ∀ a ∈ fs, a ∈ idx n
  d : fs.Nodup
  fr : Fr [fd, sn] H1 H'
@[irreducible] def InMid (K : PySem.W.Frag) (fd sn : Addr) (n : Nat) (H1 : Hp) (fs : List Int) (ts : List T) (σ : L2.St) (j : Nat) (σ' : L2.St) (H' : Hp) : Prop := ∃ x y, σ' = (σ.set 6 x).set 7 y ∧ InA K fd sn n H1 (noteZ (ts.take j) fs) H'
theorem InMid.of {fd sn : Addr} {n : Nat} {H1 : Hp} {fs : List Int} {ts : List T} {σ : L2.St} {j : Nat} {σ' : L2.St} {H' : Hp} {x y : Option V} (e : σ' = (σ.set 6 x).set 7 y) (h : InA K fd sn n H1 (noteZ (ts.take j) fs) H') : InMid K fd sn n H1 fs ts σ j σ' H' := by
  unfold InMid; exact ⟨x, y, e, h⟩
@[irreducible] def OwMid (K : PySem.W.Frag) (e N fd sn : Addr) (n : Nat) (H1 : Hp) (sl : Int → List T) (os0 : List Int) (i : Nat) (σ' : L2.St) (H' : Hp) : Prop :=
  ∃ (x y z : Option V) (ra : Addr) (rv : List V) (ts : List T) (fs : List Int), σ' = [some (.ref e), some (.ref N), some (.ref fd), some (.ref sn), some (.ref ra), x, y, z] ∧ InA K fd sn n H1 fs H' ∧ H1 ra = some (.lst rv) ∧ ra ≠ fd ∧ ra ≠ sn ∧ Dens K H1 rv ts ∧ (∀ t ∈ ts, EntOk n t) ∧ ts.length ≤ 1000 ∧ noteZ ts fs = bfs sl os0 i ∧ (i = 0 ∨ i ≤ (bfs sl os0 (i - 1)).length)
theorem OwMid.of {e N fd sn : Addr} {n : Nat} {H1 : Hp} {sl : Int → List T} {os0 : List Int} {i : Nat} {σ' : L2.St} {H' : Hp} {x y z : Option V} {ra : Addr} {rv : List V} {ts : List T} {fs : List Int} (h0 : σ' = [some (.ref e), some (.ref N), some (.ref fd), some (.ref sn), some (.ref ra), x, y, z]) (h1 : InA K fd sn n H1 fs H') (h2 : H1 ra = some (.lst rv)) (h3 : ra ≠ fd) (h4 : ra ≠ sn) (h5 : Dens K H1 rv ts) (h6 : ∀ t ∈ ts, EntOk n t) (h7 : ts.length ≤ 1000) (h8 : noteZ ts fs = bfs sl os0 i) (h9 : i = 0 ∨ i ≤ (bfs sl os0 (i - 1)).length) : OwMid K e N fd sn n H1 sl os0 i σ' H' := by
  unfold OwMid; exact ⟨x, y, z, ra, rv, ts, fs, h0, h1, h2, h3, h4, h5, h6, h7, h8, h9⟩
abbrev s_walk : Stmt := top 33
theorem sc_walk : FnScope ["_law_entries", "_law_nodes_here", "_law_found", "_law_seen", "_law_rows", "_law_place", "_law_entry_here", "_law_target_here"] ["_law_entries", "_law_nodes_here"] (defScope s_walk) := ⟨rfl, rfl, rfl, by decide +kernel, rfl, by decide +kernel, by decide +kernel⟩

theorem ok_walk (T : Bl mg) (G_target : Cal P w K mg base 2 "_law_target" ["_law_entry_here"] (spTgt K)) (D : Def1 K mg "_law_walk" s_walk) : Cal P w K mg base 3 "_law_walk" ["_law_entries", "_law_nodes_here"] (spWalk K) := by
  refine D.cal sc_walk (fun _ _ _ _ _ _ us hl => match us, hl with | [_, _], _ => rfl) (fun vs H Q E h => ?_) (fun f cdv A outer s H vs Q E hr h => ?_) <;> unfold spWalk at h
  · obtain ⟨ρ, sd, e, N, xs, ev, es, rfl, _⟩ := h
    rfl
  · obtain ⟨ρ, sd, e, N, xs, ev, es, rfl, hN, he, de, oe, le, q⟩ := h
    have hN0 := hN.at_
    have hlx := hN.len
    refine ⟨_, (pss_cons (ps_set (i := 2) sc_walk.nd rfl (Or.inl rfl) (pe_lst pa_nil))
    (pss_cons (ps_set (i := 3) sc_walk.nd rfl (Or.inl rfl) (pe_op opRep (pe_lst (pa_cons pe_bl pa_nil)) (pe_callB (cLen K) (by rfl) T.z_len (by decide +kernel) (pa_cons (pv 1) pa_nil))))
    (pss_cons (ps_set (i := 4) sc_walk.nd rfl (Or.inl rfl) (pv 0))
    (pss_cons (ps_for PassesOwn.never rfl (pi_range1 (by rfl) T.z_range (pa_cons (pe_op op_add (pe_callB (cLen K) (by rfl) T.z_len (by decide +kernel) (pa_cons (pv 1) pa_nil)) pe_int) pa_nil)) (pg_name (i := 5) sc_walk.nd rfl (Or.inl rfl))
      (pss_cons (ps_for PassesOwn.never rfl (pi_list (pv 4)) (pg_name (i := 6) sc_walk.nd rfl (Or.inl rfl))
        (pss_cons (ps_set (i := 7) sc_walk.nd rfl (Or.inl rfl) (pe_cal G_target (hr.mono (by omega)) (by rfl) (pa_cons (pv 6) pa_nil)))
        (pss_one (ps_if (PW.pt (pw_and (pt_cmpR op_ge (pv 7) pe_int (nomark _)) (pw_and1 (pt_not (pt_val (pe_ix (ixL K) (pv 3) (pv 7) (fun _ _ => rfl)))))))
          (pss_cons (ps_asg pe_bl (pg_sub (pv 3) (pv 7) setL))
          (pss_one (ps_expr (pe_bm PySem.F.plainAttrs_list PySem.F.slot_list_append PySem.F.type_list_append mtApp (pv 2) (pa_cons (pv 7) pa_nil)))))
          pss_nil))))
      (pss_cons (ps_if (pt_cmpR op_ge (pv 5) (pe_callB (cLen K) (by rfl) T.z_len (by decide +kernel) (pa_cons (pv 2) pa_nil)) (nomark _))
        (pss_one ps_break)
        pss_nil)
      (pss_one (ps_set (i := 4) sc_walk.nd rfl (Or.inl rfl) (pe_ix (ixL K) (pe_ix (ixL K) (pv 1) (pe_ix (ixL K) (pv 2) (pv 5) (fun _ _ => rfl)) (fun _ _ => rfl)) pe_int (fun _ _ => rfl)))))))
    (pss_one (ps_ret (pv 2))))))), ?_⟩
    tm_at "goo"
    rename_i fd nfd
    have F1 : Fr [] H H1 := ((Fr.new nfd).tr (Fr.new np)).tr fr
    have hfd : H1 fd = some (.lst []) := fr.at0 ((Fr.new np).at0 upd_same)
    have nsn : H rp = none := updFree (updFree nrp)
    have nfs : fd ≠ rp := ne_of_none2 (updFree nrp) upd_same
    have en : ((((xs.map fun x => V.ref x.nd).length : Nat) : Int)).toNat = xs.length := by simp
    have en1 : ((((xs.map fun x => V.ref x.nd).length : Nat) : Int) + 1).toNat = xs.length + 1 := by simp
    rw [en] at hrp
    have hC := hN.clo
    have hes : ∀ a ∈ noteZ es [], a ∈ idx xs.length := noteZ_in (fun _ m => nomatch m) fun t m j e => idx_mem.mpr ((oe t m).tgt_in e)
    have hnd : (noteZ es []).Nodup := noteZ_nodup List.nodup_nil
    have he1 := F1.at0 he
    have hN1 := hN.fr0 F1
    have hN10 := hN1.at_
    have fresh : ∀ {a : Addr} {o : HO}, H a = some o → a ≠ fd ∧ a ≠ rp := fun h => ⟨ne_of_none2 nfd h, ne_of_none2 nsn h⟩
    have ref1 : ∀ a ∈ [fd, rp], ∀ zs, H1 a ≠ some (.tup zs) := fun a m zs e => by
      simp only [List.mem_cons, List.not_mem_nil, or_false] at m
      rcases m with rfl | rfl
      · rw [hfd] at e; cases e
      · rw [hrp] at e; cases e
    have bl : ∀ i, (bfs (slN xs) (noteZ es []) i).length ≤ xs.length := fun i => by
      have := bfs_len hC hes hnd i
      rw [idx_len] at this
      exact this
    have fin : ∀ i, (bfs (slN xs) (noteZ es []) i).length ≤ i → bfs (slN xs) (noteZ es []) i = bfs (slN xs) (noteZ es []) xs.length := fun i h => by
      have := bfs_end hC hes hnd h
      rw [idx_len] at this
      exact this
    refine forR (OwMid K e N fd rp xs.length H1 (slN xs) (noteZ es [])) ?_ (fun i σ' H' hi hP => ?_) (fun σ' H' hP => ?_)
    · exact OwMid.of (x := none) (y := none) (z := none) (fs := []) rfl ⟨hfd, ⟨_, hrp, SeenA.nil⟩, (fun _ m => nomatch m), List.nodup_nil, .refl ref1⟩ he1 (fresh he).1 (fresh he).2 (de.fr F1) oe le rfl (.inl rfl)
    · unfold OwMid at hP
      obtain ⟨x, y, z, ra, rv, ts, fs, rfl, hA, hra, nrf, nrs, dts, ots, lts, ebf, _⟩ := hP
      rw [en1] at hi
      have hra' : H' ra = some (.lst rv) := hA.fr.kp _ _ hra (by simp [nrf, nrs])
      tm_at "goo"
      refine ⟨⟨_, .of hra'⟩, ?_⟩
      refine for_list (xs := rv) (InMid K fd rp xs.length H1 fs ts ([some (.ref e), some (.ref N), some (.ref fd), some (.ref rp), some (.ref ra), x, y, z].set 5 (some (.int (0 + (i : Int)))))) (InMid.of (x := y) (y := z) rfl hA) (fun j σ' H' _ hP => ?_) (fun j u σ' H' hu hP => ?_) (fun σ' H' hP => ?_)
      · unfold InMid at hP
        obtain ⟨x2, y2, rfl, h⟩ := hP
        exact .of (h.fr.kp _ _ hra (by simp [nrf, nrs]))
      · unfold InMid at hP
        obtain ⟨x2, y2, rfl, h⟩ := hP
        obtain ⟨t, et, dt⟩ := dts.get hu
        have ot := ots t (List.mem_of_getElem? et)
        obtain ⟨h1, ⟨sv, h2, h3⟩, h4, h5, h6⟩ := h
        have e1 := noteZ_take_succ (os := fs) et
        have lfs : (noteZ (ts.take j) fs).length ≤ 2000 := by
          have := nodup_le h5 h4
          rw [idx_len] at this
          omega
        tm_at "goo"
        refine tgt_step (dt.fr h6) ot.shape ?_
        tm_at "goo"
        · have c0 : 0 ≤ tgtV t := by assumption
          have ej := tgtV_pos c0
          obtain ⟨_, j1⟩ := ot.tgt_in ej
          generalize tgtV t = k at ej j1 c0
          have ek : ((k.toNat : Nat) : Int) = k := by omega
          have hs := h3.2 k.toNat (by omega)
          rw [ek] at hs
          rw [note1_some ej] at e1
          refine ixl_step (.of h2) c0 (by rw [h3.1]; omega) fun v hv => ?_
          rw [hs] at hv
          cases hv
          have lsv := h3.1
          by_cases hk : k ∈ noteZ (ts.take j) fs
          · rw [if_pos hk] at e1
            simp only [hk, decide_true]
            tm_at "goo"
            exact InMid.of rfl ⟨by rw [e1]; exact h1, ⟨sv, h2, by rw [e1]; exact h3⟩, by rw [e1]; exact h4, by rw [e1]; exact h5, h6⟩
          · rw [if_neg hk] at e1
            simp only [hk, decide_false]
            have k2 : k < sv.length := by rw [lsv]; exact j1
            tm_at "goo"
            rename_i hs2 fs2
            refine InMid.of rfl ⟨by rw [e1, List.map_append]; exact hp, ⟨_, fr.at1n nfs.symm hs2, by rw [e1]; exact h3.put c0 j1⟩, ?_, ?_, (h6.app fs2 fun a m => .inl (by rw [List.mem_singleton.mp m]; simp)).app fr fun a m => .inl (by rw [List.mem_singleton.mp m]; simp)⟩
            · rw [e1]; intro a m
              rcases List.mem_append.mp m with m | m
              · exact h4 a m
              · rw [List.mem_singleton.mp m]; exact idx_mem.mpr ⟨c0, j1⟩
            · have := note1_nodup (t := t) h5
              rw [note1_some ej, if_neg hk] at this
              rw [e1]; exact this
        · have c0 : ¬ (0 ≤ tgtV t) := by assumption
          have en := tgtV_neg ot (by omega)
          rw [note1_none en] at e1
          exact InMid.of rfl ⟨by rw [e1]; exact h1, ⟨sv, h2, by rw [e1]; exact h3⟩, by rw [e1]; exact h4, by rw [e1]; exact h5, h6⟩
      · unfold InMid at hP
        obtain ⟨x2, y2, rfl, h⟩ := hP
        have et : ts.take rv.length = ts := List.take_of_length_le (by rw [dts.1]; exact Nat.le_refl _)
        rw [et, ebf] at h
        obtain ⟨h1, h2, h3, h4, h5⟩ := h
        have bli := bl i
        have nNf := (fresh hN0).1
        have nNr := (fresh hN0).2
        have hN2 : H' N = some (.lst (xs.map fun x => V.ref x.nd)) := h5.kp _ _ hN10 (by simp [nNf, nNr])
        rw [show (0 : Int) + (i : Int) = i from Int.zero_add _]
        tm_at "goo"
        · have hc : (bfs (slN xs) (noteZ es []) i).length ≤ i := by
            have c2 : (((bfs (slN xs) (noteZ es []) i).map V.int).length : Int) ≤ i := by assumption
            simp at c2; exact c2
          rw [fin i hc] at h1
          exact q _ _ nfd h1 (F1.app h5 fun a m => .inr (by
            simp only [List.mem_cons, List.not_mem_nil, or_false] at m
            rcases m with rfl | rfl <;> assumption))
        · have FH : Fr [] H H' := F1.app h5 fun a m => .inr (by
            simp only [List.mem_cons, List.not_mem_nil, or_false] at m
            rcases m with rfl | rfl <;> assumption)
          have hN' := hN.fr0 FH
          obtain ⟨n0, n1⟩ := idx_mem.mp (h3 n hn)
          have hn2 : (bfs (slN xs) (noteZ es []) i)[i]? = some n := by simpa using hn'
          have c2 : i < (bfs (slN xs) (noteZ es []) i).length := (List.getElem?_eq_some_iff.mp hn2).1
          tm_at "goo"
          obtain ⟨r1, r2, r3, r4, r5⟩ := hN.ok _ xn hxn
          have hrow0 := (hN.row _ xn hxn).1
          refine OwMid.of (fs := bfs (slN xs) (noteZ es []) i) rfl ⟨h1, h2, h3, h4, h5⟩ (F1.at0 hrow0) (fresh hrow0).1 (fresh hrow0).2 (r1.fr F1) r2 (by have := r1.1; omega) ?_ (.inr (by rw [Nat.add_sub_cancel]; exact c2))
          rw [bfs_succ hn2, slN_get hxn]
    · unfold OwMid at hP
      obtain ⟨x, y, z, ra, rv, ts, fs, rfl, hA, hra, nrf, nrs, dts, ots, lts, ebf, hlast⟩ := hP
      exfalso
      rw [en1] at hlast
      have := bl xs.length
      rcases hlast with h | h
      · omega
      · simp at h; omega
end
end M14
set_option Elab.async false
set_option linter.all false
set_option maxRecDepth 100000
set_option maxHeartbeats 4000000
namespace M14
open PySem PySem.Spec PyProof.Rows L2

/-! ### the law's graph -/
def kdN (xs : List Nd) (a : Int) : Str := match xs[a.toNat]? with
  | some x => x.kd
  | none => Str.ofString ""
def tgN (xs : List Nd) (a : Int) : T := match xs[a.toNat]? with
  | some x => x.tg
  | none => .non
theorem kdN_get {xs : List Nd} {a : Int} {x : Nd} (h : xs[a.toNat]? = some x) : kdN xs a = x.kd := by unfold kdN; rw [h]
theorem tgN_get {xs : List Nd} {a : Int} {x : Nd} (h : xs[a.toNat]? = some x) : tgN xs a = x.tg := by unfold tgN; rw [h]
/-- the first k of fs have their places -/
def PlA (pl fs : List Int) (n k : Nat) : Prop := pl.length = n ∧ ∀ (j : Nat) (a : Int), j < k → fs[j]? = some a → pl[a.toNat]? = some (j : Int)
theorem PlA.put {pl fs : List Int} {n k : Nat} {a : Int} (hn : fs.Nodup) (hi : ∀ b ∈ fs, b ∈ idx n) (h : PlA pl fs n k) (e : fs[k]? = some a) : PlA (pl.set a.toNat (k : Int)) fs n (k + 1) := by
  refine ⟨by rw [List.length_set]; exact h.1, fun j b hj eb => ?_⟩
  obtain ⟨a0, a1⟩ := idx_mem.mp (hi a (List.mem_of_getElem? e))
  obtain ⟨b0, b1⟩ := idx_mem.mp (hi b (List.mem_of_getElem? eb))
  by_cases q : b = a
  · subst q
    have q1 := posF_at hn eb
    have q2 := posF_at hn e
    have : j = k := by rw [q1] at q2; omega
    subst this
    rw [List.getElem?_set_self (by rw [h.1]; omega)]
  · rw [List.getElem?_set_ne (by omega)]
    refine h.2 j b ?_ eb
    have : j ≠ k := fun z => by
      subst z
      rw [e] at eb
      exact q (Option.some.inj eb).symm
    omega
theorem PlA.pos {pl fs : List Int} {n k : Nat} (hn : fs.Nodup) (h : PlA pl fs n k) (hk : fs.length ≤ k) {a : Int} (m : a ∈ fs) : gF pl a = posF fs a := by
  obtain ⟨j, hj, e⟩ := List.getElem_of_mem m
  have e' : fs[j]? = some a := by rw [← e]; exact List.getElem?_eq_getElem hj
  rw [posF_at hn e']
  exact gF_get (h.2 j a (by omega) e')
section
variable {P : Program} {w : World} {K : PySem.W.Frag} {mg : Str → Option Value} {base : Heap}
set_option hygiene false
local macro_rules | `(tactic| tm_at "sc") => `(tactic| (first | omega | (simp only [List.length_cons, List.length_nil, List.length_map, List.length_set, List.length_append]; omega) | (simp only [List.length_map] at h1 ⊢; omega) | (simp only [List.length_map] at c ⊢; omega) | with_reducible assumption | exact And.intro (by omega) (by omega) | exact Or.inl (And.intro (by omega) (by omega)) | exact Or.inr (And.intro (by omega) (by omega)) | decide +kernel | exact len1000 (by simp) | rfl | fail "no way"))
local macro_rules | `(tactic| tm_at "sc1") => `(tactic| (focus (simp; done)))
local macro_rules | `(tactic| tm_at "ne") => `(tactic| (first | assumption | exact Ne.symm (by assumption) | (apply Box.ne2; assumption; tm_at "hp") | (apply Ne.symm; apply Box.ne2; assumption; tm_at "hp") | (apply ne_of_none2; assumption; tm_at "hp") | (apply Ne.symm; apply ne_of_none2; assumption; tm_at "hp") | fail "no way"))
local macro_rules | `(tactic| tm_at "f0") => `(tactic| (first | assumption | (apply Fr.new; assumption) | fail "no way"))
local macro_rules | `(tactic| tm_at "hp") => `(tactic| (first | assumption | exact upd_same | (apply SqL.of; first | assumption | exact upd_same) | (apply Fr.at0; tm_at "f0"; tm_at "hp") | (apply Fr.at1n; assumption; tm_at "ne"; tm_at "hp") | (apply sqFr0; tm_at "f0"; tm_at "hp") | (apply sqFr1; assumption; tm_at "ne"; tm_at "hp") | (apply Box.fr0; tm_at "f0"; tm_at "hp") | (apply Box.fr1; assumption; tm_at "ne"; tm_at "hp") | (apply Den.fr; tm_at "f0"; tm_at "hp") | (apply Dens.fr; tm_at "f0"; tm_at "hp") | fail "no way"))
local macro_rules | `(tactic| tm_at "free0") => `(tactic| (first | assumption | (apply updFree; assumption) | (apply updFree; apply updFree; assumption) | (apply updFree; apply updFree; apply updFree; assumption) | (apply updFree; apply updFree; apply updFree; apply updFree; assumption) | fail "no way"))
local macro_rules | `(tactic| tm_at "free") => `(tactic| (first | tm_at "free0" | (apply Fr.free; assumption; tm_at "free0") | (apply Box.free; assumption; tm_at "fr"; tm_at "free0") | (apply Fr.free; assumption; apply Fr.free; assumption; tm_at "free0") | fail "no way"))
local macro_rules | `(tactic| tm_at "fr") => `(tactic| (first | assumption | exact Fr.refl0 _ | exact Fr.refl (Box.nt (by assumption)) | (refine Fr.comp0 ?_ (by tm_at "f0"); tm_at "fr") | (refine Fr.comp ?_ (by assumption); tm_at "fr") | (refine Fr.compN ?_ (by assumption) (by tm_at "free"); tm_at "fr") | fail "no way"))
local macro_rules | `(tactic| tm_at "call") => `(tactic| fail "no call")
local macro_rules | `(tactic| tm_at "call") => `(tactic| (apply take_step; tm_at "hp"; tm_at "sc"; tm_at "sc"; intro r H1 h0 h1 hB fr))
local macro_rules | `(tactic| tm_at "ty") => `(tactic| (first | assumption | exact .base .non | exact .base (.bl _) | exact .base (.int _) | exact .base (.str _) | (apply TyX.base; apply TyOf.lst; tm_at "hp") | (apply TyX.base; apply TyOf.tup; tm_at "hp") | fail "no way"))
local macro_rules | `(tactic| tm_at "pre") => `(tactic| fail "none")
local macro_rules | `(tactic| tm_at "go1") => `(tactic| (first | tm_at "pre" | refine ⟨_, rfl, ?_⟩ | refine ⟨_, _, rfl, rfl, ?_⟩ | (apply set_step; tm_at "hp"; tm_at "sc"; tm_at "sc"; intro H1 hp fr) | (with_reducible refine iteDI ?_ ?_ <;> intro c) | (with_reducible refine iteDS ?_ ?_ <;> intro c) | (with_reducible refine iteD ?_ ?_ <;> intro c) | (with_reducible refine iteEM ?_ ?_ <;> intro c) | (with_reducible refine iteE ?_ ?_ <;> intro c) | with_reducible refine iteN ?_ | with_reducible refine iteF ?_ | with_reducible refine iteT ?_ | (refine fun (p : Addr) (np : _ = (none : Option HO)) => ?_; fail_if_success (refine ⟨fun (_ _ : Nat) (_ : Hp) => True, ?_⟩)) | (apply isi_tt; tm_at "ty"; focus (decide +kernel)) | (apply isi_ff; tm_at "ty"; focus (decide +kernel)) | (apply sl_step; tm_at "hp"; intro qq H1 ms nq hq fr) | (apply sum_step; tm_at "hp"; intro i) | (apply tru_step; tm_at "hp") | (apply len_step; tm_at "hp") | (apply lenq_step; assumption) | (apply ixq_step; assumption; tm_at "sc"; tm_at "sc"; intro v hv) | (apply lst_step; tm_at "hp") | (apply tupl_step; tm_at "hp") | (apply ixr_step; tm_at "hp"; exact rfl) | (apply ix0_step; tm_at "hp") | (apply ix1_step; tm_at "hp") | (apply ix2_step; tm_at "hp") | (apply ixi_step; tm_at "hp"; tm_at "sc"; tm_at "sc"; intro n hn hn') | (apply ixl_step; tm_at "hp"; tm_at "sc"; tm_at "sc"; intro v hv) | (apply ixt_step; tm_at "hp"; tm_at "sc"; tm_at "sc"; intro v hm hv) | (apply in_step; tm_at "hp"; rfl; rfl) | (apply cat_step; tm_at "hp"; tm_at "hp"; tm_at "sc") | (apply catT_step; tm_at "hp"; tm_at "hp"; tm_at "sc1") | (apply tyL_and; tm_at "hp") | (apply app_step; tm_at "hp"; tm_at "sc"; intro H1 hp fr) | tm_at "call" | refine ⟨⟨_, rfl⟩, ?_⟩ | (apply ixs_step; tm_at "sc"; tm_at "sc"; tm_at "sc"; intro ch) | refine .inl ⟨_, rfl, ?_⟩ | refine .inr ⟨_, rfl, ?_⟩ | (apply And.intro; tm_at "sc") | (with_reducible refine wayB ?_ ?_ <;> intro c) | fail "no way"))
local macro_rules | `(tactic| tm_at "go") => `(tactic| (repeat tm_at "go1"))
local macro_rules | `(tactic| tm_at "goo") => `(tactic| (repeat' tm_at "go1"))
local macro_rules | `(tactic| tm_at "den") => `(tactic| (first | assumption | exact Den.str _ | exact Den.int _ | exact Den.bl _ | exact Den.non | (apply Den.tups; tm_at "hp"; tm_at "dens") | (apply Den.fr; tm_at "f0"; tm_at "den") | fail "no way"))
local macro_rules | `(tactic| tm_at "dens") => `(tactic| (first | assumption | exact Dens.nil | (apply Dens.cons; tm_at "den"; tm_at "dens") | (apply Dens.fr; tm_at "f0"; tm_at "dens") | fail "no way"))
local macro_rules | `(tactic| tm_at "ix") => `(tactic| (apply Ix.mk; tm_at "hp"; tm_at "ne"; assumption; assumption))
local macro_rules | `(tactic| tm_at "dep") => `(tactic| (first | assumption | exact Dep.int | exact Dep.str | exact Dep.bl | exact Dep.non | (apply Dep.tup; tm_at "dlen"; tm_at "deps") | (apply Dep.mono; assumption; decide) | fail "no way"))
local macro_rules | `(tactic| tm_at "deps") => `(tactic| (first | assumption | exact memN | (apply memC; tm_at "dep"; tm_at "deps") | fail "no way"))
local macro_rules | `(tactic| tm_at "dlen") => `(tactic| (first | assumption | (focus (simp; done)) | omega | fail "no way"))
local macro_rules | `(tactic| tm_at "pre") => `(tactic| (apply rep_step; tm_at "hp"; tm_at "sc"; tm_at "sc"; intro rp H1 nrp hrp fr))

local macro_rules | `(tactic| tm_at "lk") => `(tactic| (first | with_reducible exact lookup_eq | ((with_reducible apply lookup_ne); (focus (decide +kernel)); tm_at "lk") | assumption | rfl | fail "no way"))
local macro_rules | `(tactic| tm_at "pf") => `(tactic| (first | with_reducible exact putF_nil | with_reducible exact putF_eq | ((with_reducible apply putF_ne); (focus (decide +kernel)); tm_at "pf") | fail "no way"))
local macro_rules | `(tactic| tm_at "fl") => `(tactic| (first | assumption | focus (simp only [List.length_cons, List.length_nil]; omega) | focus (simp only [List.length_cons, List.length_nil]; done) | focus (decide) | focus (simp; done) | focus (simp; omega) | fail "no way"))
local macro_rules | `(tactic| tm_at "pre") => `(tactic| (apply fld_step; tm_at "hp"; assumption; assumption; tm_at "lk"))
local macro_rules | `(tactic| tm_at "pre") => `(tactic| (apply putf_step; tm_at "hp"; assumption; assumption; tm_at "fl"; tm_at "pf"; intro H1 hp fr))
local macro_rules | `(tactic| tm_at "pre") => `(tactic| (apply aug_step; tm_at "hp"; assumption; assumption; tm_at "lk"))
local macro_rules | `(tactic| tm_at "pre") => `(tactic| (apply put2_step; tm_at "hp"; tm_at "fl"; tm_at "pf"; intro H1 hp fr))
local macro_rules | `(tactic| tm_at "pre") => `(tactic| (apply dget_step; tm_at "hp"; tm_at "lk"))
local macro_rules | `(tactic| tm_at "pre") => `(tactic| (apply dput_step; tm_at "hp"; (focus (omega)); intro H1 hp fr))
local macro_rules | `(tactic| tm_at "pre") => `(tactic| (apply mth_step; tm_at "hp"; tm_at "lk"))
local macro_rules | `(tactic| tm_at "pre") => `(tactic| (apply lenD_step; tm_at "hp"))
local macro_rules | `(tactic| tm_at "pre") => `(tactic| (apply addI_step))
local macro_rules | `(tactic| tm_at "pre") => `(tactic| (apply newD_step; intro dn H1 nd hp fr))
local macro_rules | `(tactic| tm_at "fr2") => `(tactic| (first | assumption | (apply Fr.appMb; assumption; (focus (simp; done)); tm_at "fr2") | (apply Fr.app0b; tm_at "f0"; tm_at "fr2") | (apply Fr.appNb; assumption; tm_at "free"; tm_at "fr2") | fail "no way"))
local macro_rules | `(tactic| tm_at "ne") => `(tactic| (apply ne_role; assumption; assumption; (focus (decide))))
local macro_rules | `(tactic| tm_at "pre") => `(tactic| (apply dnotin_step; tm_at "hp"))
local macro_rules | `(tactic| tm_at "pre") => `(tactic| (apply din_step; tm_at "hp"))

local macro_rules | `(tactic| tm_at "nda") => `(tactic| (first | assumption | (apply NdA.of0; tm_at "f0"; tm_at "nda") | fail "no way"))
local macro_rules | `(tactic| tm_at "pre") => `(tactic| (apply nd_step; tm_at "nda"; tm_at "sc"; tm_at "sc"; intro xn hxn hnd hrow))
@[irreducible] def spLGraph (K : PySem.W.Frag) : Sp := fun vs H Q _ => ∃ (ρ : Role) (s : Nat) (e N fd : Addr) (xs : List Nd) (ev : List V) (es : List T) (fs : List Int), vs = [.ref e, .ref N, .ref fd] ∧ NdA K ρ s xs.length H N xs ∧ H e = some (.lst ev) ∧ Dens K H ev es ∧ (∀ t ∈ es, EntOk xs.length t) ∧ es.length ≤ 1000 ∧
  H fd = some (.lst (fs.map V.int)) ∧ fs.Nodup ∧ (∀ a ∈ fs, a ∈ idx xs.length) ∧ (∀ t ∈ es, ∀ j, tgtT t = some j → j ∈ fs) ∧ (∀ a ∈ fs, ∀ t ∈ slN xs a, ∀ j, tgtT t = some j → j ∈ fs) ∧
  ∀ v H', Den K H' v (grT (kdN xs) (tgN xs) (slN xs) es fs) → Fr [] H H' → Q v H'
theorem lgraph_step {ρ : Role} {s : Nat} {e N fd : Addr} {xs : List Nd} {ev : List V} {es : List T} {fs : List Int} {H : Hp} {Q : VK} {E : XK} (h1 : NdA K ρ s xs.length H N xs) (h2 : H e = some (.lst ev)) (h3 : Dens K H ev es) (h4 : ∀ t ∈ es, EntOk xs.length t) (h5 : es.length ≤ 1000)
    (h6 : H fd = some (.lst (fs.map V.int))) (h7 : fs.Nodup) (h8 : ∀ a ∈ fs, a ∈ idx xs.length) (h9 : ∀ t ∈ es, ∀ j, tgtT t = some j → j ∈ fs) (h10 : ∀ a ∈ fs, ∀ t ∈ slN xs a, ∀ j, tgtT t = some j → j ∈ fs)
    (q : ∀ v H', Den K H' v (grT (kdN xs) (tgN xs) (slN xs) es fs) → Fr [] H H' → Q v H') : spLGraph K ([.ref e, .ref N, .ref fd] ++ []) H Q E := by
  unfold spLGraph; exact ⟨ρ, s, e, N, fd, xs, ev, es, fs, rfl, h1, h2, h3, h4, h5, h6, h7, h8, h9, h10, q⟩
@[irreducible] def PlMid (pl : Addr) (fs : List Int) (n : Nat) (H1 : Hp) (σ : L2.St) (k : Nat) (σ' : L2.St) (H' : Hp) : Prop := ∃ x ps, σ' = σ.set 4 x ∧ H' pl = some (.lst (ps.map V.int)) ∧ PlA ps fs n k ∧ Fr [pl] H1 H'
theorem PlMid.of {pl : Addr} {fs : List Int} {n : Nat} {H1 : Hp} {σ : L2.St} {k : Nat} {σ' : L2.St} {H' : Hp} {x : Option V} {ps : List Int} (e : σ' = σ.set 4 x) (h1 : H' pl = some (.lst (ps.map V.int))) (h2 : PlA ps fs n k) (h3 : Fr [pl] H1 H') : PlMid pl fs n H1 σ k σ' H' := by
  unfold PlMid; exact ⟨x, ps, e, h1, h2, h3⟩
@[irreducible] def GoMid (K : PySem.W.Frag) (q : Addr) (F : Int → T) (os : List Int) (H : Hp) (σ : L2.St) (i : Nat) (σ' : L2.St) (H' : Hp) : Prop :=
  ∃ (x : Option V) (vs : List V), σ' = σ.set 6 x ∧ H' q = some (.lst vs) ∧ Dens K H' vs ((os.take i).map F) ∧ Fr [q] H H'
theorem GoMid.of {q : Addr} {F : Int → T} {os : List Int} {H : Hp} {σ σ' : L2.St} {i : Nat} {H' : Hp} {x : Option V} {vs : List V} (e : σ' = σ.set 6 x) (h1 : H' q = some (.lst vs)) (h2 : Dens K H' vs ((os.take i).map F)) (h3 : Fr [q] H H') : GoMid K q F os H σ i σ' H' := by
  unfold GoMid; exact ⟨x, vs, e, h1, h2, h3⟩
abbrev s_graph : Stmt := top 34
theorem sc_graph : FnScope ["_law_entries", "_law_nodes_here", "_law_found", "_law_places", "_law_k", "_law_rows", "_law_node"] ["_law_entries", "_law_nodes_here", "_law_found"] (defScope s_graph) := ⟨rfl, rfl, rfl, by decide +kernel, rfl, by decide +kernel, by decide +kernel⟩

theorem ok_lgraph (T : Bl mg) (G_sent : Cal P w K mg base 3 "_law_sent" ["_law_entries", "_law_table"] (spSent K)) (D : Def1 K mg "_law_graph" s_graph) : Cal P w K mg base 4 "_law_graph" ["_law_entries", "_law_nodes_here", "_law_found"] (spLGraph K) := by
  refine D.cal sc_graph (fun _ _ _ _ _ _ us hl => match us, hl with | [_, _, _], _ => rfl) (fun vs H Q E h => ?_) (fun f cdv A outer s H vs Q E hr h => ?_) <;> unfold spLGraph at h
  · obtain ⟨ρ, sd, e, N, fd, xs, ev, es, fs, rfl, _⟩ := h
    rfl
  · obtain ⟨ρ, sd, e, N, fd, xs, ev, es, fs, rfl, hN, he, de, oe, le, hfd, fn, fi, ft, fc, q⟩ := h
    have hN0 := hN.at_
    have hlx := hN.len
    have lfs : fs.length ≤ xs.length := by
      have := nodup_le fn fi
      rw [idx_len] at this
      exact this
    refine ⟨_, (pss_cons (ps_set (i := 3) sc_graph.nd rfl (Or.inl rfl) (pe_op opRep (pe_lst (pa_cons (pe_un un_neg pe_int) pa_nil)) (pe_callB (cLen K) (by rfl) T.z_len (by decide +kernel) (pa_cons (pv 1) pa_nil))))
    (pss_cons (ps_for PassesOwn.never rfl (pi_range1 (by rfl) T.z_range (pa_cons (pe_callB (cLen K) (by rfl) T.z_len (by decide +kernel) (pa_cons (pv 2) pa_nil)) pa_nil)) (pg_name (i := 4) sc_graph.nd rfl (Or.inl rfl))
      (pss_one (ps_asg (pv 4) (pg_sub (pv 3) (pe_ix (ixL K) (pv 2) (pv 4) (fun _ _ => rfl)) setL))))
    (pss_cons (ps_set (i := 5) sc_graph.nd rfl (Or.inl rfl) (pe_lst pa_nil))
    (pss_cons (ps_for PassesOwn.never rfl (pi_list (pv 2)) (pg_name (i := 6) sc_graph.nd rfl (Or.inl rfl))
      (pss_one (ps_expr (pe_bm PySem.F.plainAttrs_list PySem.F.slot_list_append PySem.F.type_list_append mtApp (pv 5) (pa_cons (pe_tup (pa_cons (pe_ix (ixL K) (pe_ix (ixL K) (pv 1) (pv 6) (fun _ _ => rfl)) pe_int (fun _ _ => rfl)) (pa_cons (pe_ix (ixL K) (pe_ix (ixL K) (pv 1) (pv 6) (fun _ _ => rfl)) pe_int (fun _ _ => rfl)) (pa_cons (pe_callTy (cTuple K) (by rfl) T.z_tuple (by decide +kernel) (pa_cons (pe_cal G_sent (hr.mono (by omega)) (by rfl) (pa_cons (pe_ix (ixL K) (pe_ix (ixL K) (pv 1) (pv 6) (fun _ _ => rfl)) pe_int (fun _ _ => rfl)) (pa_cons (pv 3) pa_nil))) pa_nil)) pa_nil)))) pa_nil)))))
    (pss_one (ps_ret (pe_tup (pa_cons (pe_callTy (cTuple K) (by rfl) T.z_tuple (by decide +kernel) (pa_cons (pe_cal G_sent (hr.mono (by omega)) (by rfl) (pa_cons (pv 0) (pa_cons (pv 3) pa_nil))) pa_nil)) (pa_cons (pe_callTy (cTuple K) (by rfl) T.z_tuple (by decide +kernel) (pa_cons (pv 5) pa_nil)) pa_nil))))))))), ?_⟩
    tm_at "goo"
    have F1 : Fr [] H H1 := (Fr.new np).tr fr
    have en : ((((xs.map fun x => V.ref x.nd).length : Nat) : Int)).toNat = xs.length := by simp
    rw [en] at hrp
    have nrp0 : H rp = none := updFree nrp
    have hfd1 := F1.at0 hfd
    have nfr : fd ≠ rp := ne_of_none2 nrp0 hfd
    have hpl : H1 rp = some (.lst ((List.replicate xs.length (-1)).map V.int)) := by rw [hrp, List.map_replicate]
    refine forR (PlMid rp fs xs.length H1 [some (.ref e), some (.ref N), some (.ref fd), some (.ref rp), none, none, none]) (PlMid.of (x := none) rfl hpl ⟨by simp, fun j a h => absurd h (Nat.not_lt_zero _)⟩ (Fr.reflL hpl)) (fun i σ' H' hi hP => ?_) (fun σ' H' hP => ?_)
    · unfold PlMid at hP
      obtain ⟨x, ps, rfl, h1, h2, h3⟩ := hP
      have hi' : i < fs.length := by simpa using hi
      have hfd2 := h3.at1n nfr hfd1
      rw [show (0 : Int) + (i : Int) = i from Int.zero_add _]
      tm_at "goo"
      obtain ⟨n0, n1⟩ := idx_mem.mp (fi n hn)
      have hn2 : fs[i]? = some n := by simpa using hn'
      have lps := h2.1
      tm_at "goo"
      rw [show (ps.map V.int).set n.toNat (.int i) = (ps.set n.toNat (i : Int)).map V.int from (List.map_set ..).symm] at hp
      exact PlMid.of rfl hp (h2.put fn fi hn2) (h3.trans fr)
    · unfold PlMid at hP
      obtain ⟨x, ps, rfl, h1, h2, h3⟩ := hP
      have pos : ∀ a ∈ fs, gF ps a = posF fs a := fun a m => h2.pos fn (by simp) m
      have FH : Fr [] H H' := F1.compN h3 nrp0
      have lps := h2.1
      tm_at "goo"
      obtain ⟨ob, hob⟩ : ∃ z, z = p := ⟨_, rfl⟩
      subst hob
      have f0 := Fr.new (o := .lst []) np
      have FH2 := FH.tr f0
      have hq0 : upd H' ob (.lst []) ob = some (.lst []) := upd_same
      have hfd2 := FH2.at0 hfd
      have h12 := f0.at0 h1
      have np0 : H ob = none := FH.free np
      have nfp : fd ≠ ob := ne_of_none2 np0 hfd
      have nrpp : rp ≠ ob := ne_of_none2 np h1
      have alp : ∀ {a : Addr} {o : HO}, H a = some o → a ≠ ob := fun h => ne_of_none2 np0 h
      refine ⟨⟨_, .of hfd2⟩, ?_⟩
      generalize upd H' ob (.lst []) = H3 at *
      refine for_list (xs := fs.map V.int) (GoMid K ob (fun a => .tup [.str (kdN xs a), tgN xs a, .tup ((slN xs a).map (movT (posF fs)))]) fs H3 (([some (.ref e), some (.ref N), some (.ref fd), some (.ref rp), none, none, none].set 4 x).set 5 (some (.ref ob)))) ?_ (fun i σ' H' hi hP => ?_) (fun i u σ' H' hx hP => ?_) (fun σ' H' hP => ?_)
      · exact GoMid.of (x := none) rfl hq0 .nil (Fr.reflL hq0)
      · unfold GoMid at hP
        obtain ⟨y, vs, rfl, g1, g2, g3⟩ := hP
        exact .of (g3.at1n nfp hfd2)
      · unfold GoMid at hP
        obtain ⟨y, vs, rfl, g1, g2, g3⟩ := hP
        obtain ⟨a, ea, rfl⟩ : ∃ a, fs[i]? = some a ∧ u = .int a := by
          rw [List.getElem?_map] at hx
          cases e : fs[i]? with
          | none => rw [e] at hx; cases hx
          | some a => rw [e] at hx; exact ⟨a, rfl, (Option.some.inj hx).symm⟩
        have ma := List.mem_of_getElem? ea
        obtain ⟨a0, a1⟩ := idx_mem.mp (fi a ma)
        have FH4 : Fr [] H H' := FH2.compN g3 np0
        have hN' := hN.fr0 FH4
        have g12 := g3.at1n nrpp h12
        have lvs : vs.length ≤ 2000 := by
          have e1 := g2.1
          simp at e1
          omega
        tm_at "goo"
        rename_i xa hxa hna hra xb hxb hnb hrb
        rw [hxn] at hxa hxb
        cases hxa; cases hxb
        obtain ⟨o1, o2, o3, o4, o5⟩ := hN.ok _ xa hxn
        have esl := slN_get hxn
        refine sent_step (gs := ps) (xs := xa.rs) (ts := xa.ts) (.of hrow) (.of g12) (o1.fr FH4) (by rw [lps]; exact o2) (by omega) fun sD H4 sv nsD hsD dsv f4 => ?_
        have dsl : Dens K H4 sv ((slN xs a).map (movT (posF fs))) := by
          rw [esl]
          have e : xa.ts.map (movT (gF ps)) = xa.ts.map (movT (posF fs)) := List.map_congr_left fun t m => (o2 t m).shape.mov_congr fun j ej => pos j (fc a ma t (by rw [esl]; exact m) j ej)
          rw [← e]; exact dsv
        have g14 := f4.at0 g1
        tm_at "goo"
        rename_i t2 nt2
        have F4 := (f4.tr (Fr.new (o := .tup sv) nt2)).tr (Fr.new (o := .tup [.str xa.kd, xa.tv, .ref t2]) np)
        have g3' := (g3.tr F4).trans fr
        have npo : p ≠ ob := (ne_of_none2 np ((Fr.new nt2).at0 g14)).symm
        have nto2 : t2 ≠ ob := (ne_of_none2 nt2 g14).symm
        have hpt : H1 p = some (.tup [.str xa.kd, xa.tv, .ref t2]) := fr.at1n npo upd_same
        have hpt2 : H1 t2 = some (.tup sv) := fr.at1n nto2 ((Fr.new np).at0 upd_same)
        have dn : Den K H1 (.ref p) (.tup [.str (kdN xs a), tgN xs a, .tup ((slN xs a).map (movT (posF fs)))]) := by
          rw [kdN_get hxn, tgN_get hxn]
          exact Den.tups hpt (.cons (.str _) (.cons (((o3.fr FH4).fr F4).fr fr) (.cons (Den.tups hpt2 ((dsl.fr ((Fr.new (o := .tup sv) nt2).tr (Fr.new (o := .tup [.str xa.kd, xa.tv, .ref t2]) np))).fr fr)) .nil)))
        refine GoMid.of rfl hp ?_ g3'
        have et : fs.take (i + 1) = fs.take i ++ [a] := by rw [List.take_add_one, ea]; rfl
        rw [et, List.map_append]
        exact ((g2.fr F4).fr fr).app (.cons dn .nil)
      · unfold GoMid at hP
        obtain ⟨y, vs, rfl, g1, g2, g3⟩ := hP
        have et : fs.take (fs.map V.int).length = fs := List.take_of_length_le (by simp)
        rw [et] at g2
        have FH4 : Fr [] H H' := FH2.compN g3 np0
        have he4 := FH4.at0 he
        have g12 := g3.at1n nrpp h12
        tm_at "goo"
        refine sent_step (gs := ps) (xs := ev) (ts := es) (.of he4) (.of g12) (de.fr FH4) (by rw [lps]; exact oe) (by have := de.1; omega) fun sD H4 sv nsD hsD dsv f4 => ?_
        have dsl : Dens K H4 sv (es.map (movT (posF fs))) := by
          have e : es.map (movT (gF ps)) = es.map (movT (posF fs)) := List.map_congr_left fun t m => (oe t m).shape.mov_congr fun j ej => pos j (ft t m j ej)
          rw [← e]; exact dsv
        have g14 := f4.at0 g1
        tm_at "goo"
        rename_i ta nta tb2 ntb2
        have ff := ((Fr.new (o := .tup sv) nta).tr (Fr.new (o := .tup vs) ntb2)).tr (Fr.new (o := .tup [.ref ta, .ref tb2]) np)
        refine q _ _ ?_ ((FH4.tr f4).tr ff)
        exact Den.tups upd_same (.cons (Den.tups ((Fr.new np).at0 ((Fr.new ntb2).at0 upd_same)) (dsl.fr ff)) (.cons (Den.tups ((Fr.new np).at0 upd_same) ((g2.fr f4).fr ff)) .nil))
end
end M14
set_option Elab.async false
set_option linter.all false
set_option maxRecDepth 100000
set_option maxHeartbeats 4000000
namespace M14
open PySem PySem.Spec PyProof.Rows L2

/-- what a def's body owes -/
def BodyOk (P : Program) (w : World) (K : PySem.W.Frag) (mg : Str → Option Value) (base : Heap) (x : Str) (st : Stmt) (N : List Str) (k : Nat) (sp : Sp) : Prop :=
  ∀ (f : Addr) (cdv : Value) (A : Around) (outer : List Env) (s : Shared) (H : Hp) (vs : List V) (Q : VK) (E : XK), Room k (A.deeper (envOfC x (defScope st) s.heap.objs.size f cdv)) → sp vs H Q E →
      ∃ t, PSs (cxOf CX0 P w K mg base N x (defScope st) f cdv A outer s H E).nox (defBody st) t ∧ t { nx := fun _ H' => Q .non H', rt := Q } (start N vs) H
/-! ### a bank and the law's nodes, by a table -/
structure TabS (K : PySem.W.Frag) (ρ : Role) (s : Nat) (step : Int) (CT C : Addr) (tl : List (Str × V)) (H : Hp) (B D : Addr) (ys : List Th) (Ta : Addr) (tb : List Int) (xs : List Nd) : Prop where
  bk : BkA K ρ s step CT C tl H B D ys
  ta : H Ta = some (.lst (tb.map V.int))
  rt : ρ Ta = some (s, 7, 0)
  len : tb.length = xs.length
  nd : tb.Nodup
  rel : ∀ (k : Nat) (x : Nd), xs[k]? = some x → ∃ (p : Nat) (y : Th), tb[k]? = some (gT step p) ∧ ys[p]? = some y ∧ y.kd = x.kd ∧ y.tg = x.tg ∧ y.us = x.ts.map (movT (gF tb))
def slZ (xs : List Nd) (tb : List Int) (a : Int) : List T := (slN xs (posF tb a)).map (movT (gF tb))
def kdZ (xs : List Nd) (tb : List Int) (a : Int) : Str := kdN xs (posF tb a)
def tgZ (xs : List Nd) (tb : List Int) (a : Int) : T := tgN xs (posF tb a)
section
variable {K : PySem.W.Frag} {ρ ρ' : Role} {s s' : Nat} {step : Int} {CT C : Addr} {tl : List (Str × V)} {H H' : Hp} {B D N Ta : Addr} {ys : List Th} {tb : List Int} {xs : List Nd} {es : List T}
theorem nil_in {S : List Int} : ∀ a ∈ ([] : List Int), a ∈ S := fun _ m => nomatch m
theorem gF_mem {a : Int} (h0 : 0 ≤ a) (h1 : a < tb.length) : gF tb a ∈ tb ∧ tb[a.toNat]? = some (gF tb a) := by
  have hk : a.toNat < tb.length := by omega
  have e : tb[a.toNat]? = some tb[a.toNat] := List.getElem?_eq_getElem hk
  rw [gF_get e]
  exact ⟨List.getElem_mem hk, e⟩
theorem posF_gF (hn : tb.Nodup) {a : Int} (h0 : 0 ≤ a) (h1 : a < tb.length) : posF tb (gF tb a) = a := by
  have := posF_at hn (gF_mem h0 h1).2
  rw [this]; omega
theorem gF_inj (hn : tb.Nodup) : ∀ a ∈ idx tb.length, ∀ b ∈ idx tb.length, gF tb a = gF tb b → a = b := fun a ha b hb e => by
  obtain ⟨a0, a1⟩ := idx_mem.mp ha
  obtain ⟨b0, b1⟩ := idx_mem.mp hb
  rw [← posF_gF hn a0 a1, e, posF_gF hn b0 b1]
theorem mem_gF {a : Int} (h : a ∈ tb) : ∃ k ∈ idx tb.length, a = gF tb k := by
  obtain ⟨i, hi, e⟩ := List.getElem_of_mem h
  refine ⟨(i : Int), idx_mem.mpr ⟨by omega, by omega⟩, ?_⟩
  rw [gF_at (show tb[i]? = some a by rw [← e]; exact List.getElem?_eq_getElem hi)]
theorem slZ_at (hn : tb.Nodup) {a : Int} (h : a ∈ idx tb.length) : slZ xs tb (gF tb a) = (slN xs a).map (movT (gF tb)) := by
  obtain ⟨a0, a1⟩ := idx_mem.mp h
  unfold slZ
  rw [posF_gF hn a0 a1]
theorem TabS.rch (h : TabS K ρ s step CT C tl H B D ys Ta tb xs) (hN : NdA K ρ' s' xs.length H' N xs) (oe : ∀ t ∈ es, EntOk xs.length t) (le : es.length ≤ 1000) : RchG step ys (es.map (movT (gF tb))) tb (slZ xs tb) (kdZ xs tb) (tgZ xs tb) := by
  have hC := hN.clo
  rw [← h.len] at hC
  have key : ∀ k ∈ idx tb.length, ∃ x, xs[k.toNat]? = some x := fun k m => by
    obtain ⟨k0, k1⟩ := idx_mem.mp m
    have hk : k.toNat < xs.length := by rw [← h.len]; omega
    exact ⟨_, List.getElem?_eq_getElem hk⟩
  have at_ : ∀ a ∈ tb, ∃ k ∈ idx tb.length, ∃ (x : Nd) (p : Nat) (y : Th), a = gF tb k ∧ xs[k.toNat]? = some x ∧ a = gT step p ∧ ys[p]? = some y ∧ y.kd = x.kd ∧ y.tg = x.tg ∧ y.us = x.ts.map (movT (gF tb)) := fun a m => by
    obtain ⟨k, mk, rfl⟩ := mem_gF m
    obtain ⟨x, ex⟩ := key k mk
    obtain ⟨p, y, e1, e2, e3, e4, e5⟩ := h.rel _ x ex
    exact ⟨k, mk, x, p, y, rfl, ex, gF_get e1, e2, e3, e4, e5⟩
  refine ⟨⟨fun t m => ?_, fun t m j e => ?_, ⟨fun a m t ht => ?_, fun a m t ht j e => ?_⟩, fun a m => ?_, ?_, by simpa using le⟩, fun a k y m ea ey => ?_⟩
  · obtain ⟨u, mu, rfl⟩ := List.mem_map.mp m
    exact (oe u mu).shape.mov
  · obtain ⟨u, mu, rfl⟩ := List.mem_map.mp m
    rw [(oe u mu).shape.tgt_mov] at e
    cases eu : tgtT u with
    | none => rw [eu] at e; cases e
    | some i =>
      rw [eu] at e
      obtain rfl : gF tb i = j := Option.some.inj e
      obtain ⟨i0, i1⟩ := (oe u mu).tgt_in eu
      exact (gF_mem i0 (by rw [h.len]; exact i1)).1
  · obtain ⟨k, mk, x, p, y, rfl, ex, _⟩ := at_ a m
    rw [slZ_at h.nd mk] at ht
    obtain ⟨u, mu, rfl⟩ := List.mem_map.mp ht
    exact (hC.sh k mk u mu).mov
  · obtain ⟨k, mk, x, p, y, rfl, ex, _⟩ := at_ a m
    rw [slZ_at h.nd mk] at ht
    obtain ⟨u, mu, rfl⟩ := List.mem_map.mp ht
    rw [(hC.sh k mk u mu).tgt_mov] at e
    cases eu : tgtT u with
    | none => rw [eu] at e; cases e
    | some i =>
      rw [eu] at e
      obtain rfl : gF tb i = j := Option.some.inj e
      obtain ⟨i0, i1⟩ := idx_mem.mp (hC.cl k mk u mu i eu)
      exact (gF_mem i0 i1).1
  · obtain ⟨k, mk, x, p, y, ea, ex, ep, ey, r1, r2, r3⟩ := at_ a m
    refine ⟨p, y, ep, ey, ?_⟩
    rw [ea, slZ_at h.nd mk, slN_get ex, r3]
  · have := hN.len
    rw [h.len]; exact this
  · obtain ⟨k', mk, x, p, y', ea', ex, ep, ey', r1, r2, r3⟩ := at_ a m
    have : p = k := by
      have := gT_inj h.bk.st (ep.symm.trans ea)
      omega
    subst this
    rw [ey] at ey'
    cases ey'
    obtain ⟨k0, k1⟩ := idx_mem.mp mk
    unfold kdZ tgZ
    rw [ea', posF_gF h.nd k0 k1, kdN_get ex, tgN_get ex]
    exact ⟨r1, r2⟩
/-- what is reached, by addresses -/
theorem TabS.bfs (h : TabS K ρ s step CT C tl H B D ys Ta tb xs) (hN : NdA K ρ' s' xs.length H' N xs) (oe : ∀ t ∈ es, EntOk xs.length t) : bfs (slZ xs tb) (noteZ (es.map (movT (gF tb))) []) tb.length = (M14.bfs (slN xs) (noteZ es []) xs.length).map (gF tb) := by
  have hC := hN.clo
  rw [← h.len] at hC oe ⊢
  have inj := gF_inj h.nd
  have ht : ∀ t ∈ es, ∀ j, tgtT t = some j → j ∈ idx tb.length := fun t m j e => idx_mem.mpr ((oe t m).tgt_in e)
  have e0 : noteZ (es.map (movT (gF tb))) [] = (noteZ es []).map (gF tb) := noteZ_map (os := []) inj (fun t m => (oe t m).shape) nil_in ht
  rw [e0]
  exact bfs_map hC inj (noteZ_in nil_in ht) (fun a m => slZ_at h.nd m) _
theorem posF_map {g : Int → Int} {fs : List Int} (hn : fs.Nodup) (hm : (fs.map g).Nodup) {j : Int} (m : j ∈ fs) : posF (fs.map g) (g j) = posF fs j := by
  obtain ⟨i, hi, e⟩ := List.getElem_of_mem m
  have e1 : fs[i]? = some j := by rw [← e]; exact List.getElem?_eq_getElem hi
  rw [posF_at hn e1]
  exact posF_at hm (by rw [List.getElem?_map, e1]; rfl)
theorem nodup_map {g : Int → Int} : ∀ {fs : List Int}, fs.Nodup → (∀ a ∈ fs, ∀ b ∈ fs, g a = g b → a = b) → (fs.map g).Nodup
  | [], _, _ => List.nodup_nil
  | a :: r, hn, hi => by
    obtain ⟨na, nr⟩ := List.nodup_cons.mp hn
    refine List.nodup_cons.mpr ⟨fun m => ?_, nodup_map nr fun x hx y hy e => hi x (List.mem_cons_of_mem _ hx) y (List.mem_cons_of_mem _ hy) e⟩
    obtain ⟨b, mb, e⟩ := List.mem_map.mp m
    have := hi b (List.mem_cons_of_mem _ mb) a List.mem_cons_self e
    exact na (this ▸ mb)
theorem TabS.gr (h : TabS K ρ s step CT C tl H B D ys Ta tb xs) (hN : NdA K ρ' s' xs.length H' N xs) (oe : ∀ t ∈ es, EntOk xs.length t) {fs : List Int} (fn : fs.Nodup) (fi : ∀ a ∈ fs, a ∈ idx xs.length) (ft : ∀ t ∈ es, ∀ j, tgtT t = some j → j ∈ fs) (fc : ∀ a ∈ fs, ∀ t ∈ slN xs a, ∀ j, tgtT t = some j → j ∈ fs) :
    grT (kdZ xs tb) (tgZ xs tb) (slZ xs tb) (es.map (movT (gF tb))) (fs.map (gF tb)) = grT (kdN xs) (tgN xs) (slN xs) es fs := by
  have hC := hN.clo
  rw [← h.len] at fi hC
  have hm : (fs.map (gF tb)).Nodup := nodup_map fn fun a ha b hb e => gF_inj h.nd a (fi a ha) b (fi b hb) e
  have mm : ∀ {ts : List T}, (∀ t ∈ ts, EntS t) → (∀ t ∈ ts, ∀ j, tgtT t = some j → j ∈ fs) → (ts.map (movT (gF tb))).map (movT (posF (fs.map (gF tb)))) = ts.map (movT (posF fs)) := fun {ts} hs ht => by
    rw [List.map_map]
    refine List.map_congr_left fun t m => ?_
    show movT _ (movT _ t) = _
    rw [(hs t m).mov_mov]
    exact (hs t m).mov_congr fun j e => posF_map fn hm (ht t m j e)
  unfold grT
  rw [mm (fun t m => (oe t m).shape) ft, List.map_map]
  congr 2
  congr 1
  congr 1
  refine List.map_congr_left fun a m => ?_
  obtain ⟨a0, a1⟩ := idx_mem.mp (fi a m)
  show T.tup _ = _
  rw [slZ_at h.nd (fi a m), mm (hC.sh a (fi a m)) (fc a m)]
  unfold kdZ tgZ
  rw [posF_gF h.nd a0 a1]
end
end M14
set_option Elab.async false
set_option linter.all false
set_option maxRecDepth 100000
set_option maxHeartbeats 4000000
namespace M14
open PySem PySem.Spec PyProof.Rows L2

theorem made_map {H : Hp} {fs : List Int} {g : Int → Int} {ys : List V} {n : Nat} (hn : n = fs.length) (m : Made (fun _ i y => ∃ a, fs[i]? = some a ∧ y = .int (g a)) H (List.range n) ys) : ys = (fs.map g).map V.int := by
  obtain ⟨l, a⟩ := m.all
  refine List.ext_getElem? fun i => ?_
  rw [List.getElem?_map, List.getElem?_map]
  cases e : ys[i]? with
  | none =>
    have := List.getElem?_eq_none_iff.mp e
    rw [List.getElem?_eq_none_iff.mpr (by omega)]; rfl
  | some y =>
    obtain ⟨b, eb, rfl⟩ := a i y e
    rw [eb]; rfl
theorem dens_ints {K : PySem.W.Frag} {H : Hp} {zs : List Int} : Dens K H (zs.map V.int) (zs.map T.int) := ⟨by simp, fun i x t a b => by
  rw [List.getElem?_map] at a b
  cases e : zs[i]? with
  | none => rw [e] at a; cases a
  | some z =>
    rw [e] at a b
    cases a; cases b
    exact .int z⟩
theorem dep_ints {zs : List Int} {d : Nat} : ∀ t ∈ zs.map T.int, Dep d t := fun t m => by
  obtain ⟨z, _, rfl⟩ := List.mem_map.mp m
  exact .int
theorem grT_dep {kd : Int → Str} {tg : Int → T} {sl : Int → List T} {es : List T} {os : List Int} (he : ∀ t ∈ es, EntS t) (hd : ∀ t ∈ es, Dep 2 t) (le : es.length ≤ 1000) (lo : os.length ≤ 2000) (hs : ∀ a ∈ os, (sl a).length ≤ 1000 ∧ ∀ t ∈ sl a, EntS t ∧ Dep 2 t) (ht : ∀ a ∈ os, Dep 3 (tg a)) : Dep 6 (grT kd tg sl es os) := by
  have mv : ∀ {g : Int → Int} {t : T}, EntS t → Dep 2 (movT g t) := fun {g t} h => by
    rcases h with (h | ⟨w, j, rfl, hw⟩) | ⟨r, i, rfl, h⟩
    · rw [movT_plain h]; exact h.dep.mono (by decide)
    · rw [movT_ref hw]
      exact .tup (by simp) (memC .str (memC .int memN))
    · rw [movT_pend]
      refine .tup (by simp) (memC .str (memC .int (memC ?_ memN)))
      rcases h with h | ⟨w, j, rfl, hw⟩
      · rw [movI_plain h]; exact h.dep
      · rw [movI_ref hw]; exact .tup (by simp) (memC .str (memC .int memN))
  refine .tup (by simp) (memC ?_ (memC ?_ memN))
  · refine Dep.mono (d := 3) (.tup (by simp; omega) fun t m => ?_) (by decide)
    obtain ⟨u, mu, rfl⟩ := List.mem_map.mp m
    exact mv (he u mu)
  · refine .tup (by simpa using lo) fun t m => ?_
    obtain ⟨a, ma, rfl⟩ := List.mem_map.mp m
    obtain ⟨l1, h1⟩ := hs a ma
    refine .tup (by simp) (memC .str (memC (ht a ma) (memC ?_ memN)))
    refine .tup (by simp; omega) fun t m => ?_
    obtain ⟨u, mu, rfl⟩ := List.mem_map.mp m
    exact mv (h1 u mu).1
section
variable {P : Program} {w : World} {K : PySem.W.Frag} {mg : Str → Option Value} {base : Heap}
set_option hygiene false
local macro_rules | `(tactic| tm_at "sc") => `(tactic| (first | omega | (simp only [List.length_cons, List.length_nil, List.length_map, List.length_set, List.length_append]; omega) | (simp only [List.length_map] at h1 ⊢; omega) | (simp only [List.length_map] at c ⊢; omega) | with_reducible assumption | exact And.intro (by omega) (by omega) | exact Or.inl (And.intro (by omega) (by omega)) | exact Or.inr (And.intro (by omega) (by omega)) | decide +kernel | exact len1000 (by simp) | rfl | fail "no way"))
local macro_rules | `(tactic| tm_at "sc1") => `(tactic| (focus (simp; done)))
local macro_rules | `(tactic| tm_at "ne") => `(tactic| (first | assumption | exact Ne.symm (by assumption) | (apply Box.ne2; assumption; tm_at "hp") | (apply Ne.symm; apply Box.ne2; assumption; tm_at "hp") | (apply ne_of_none2; assumption; tm_at "hp") | (apply Ne.symm; apply ne_of_none2; assumption; tm_at "hp") | fail "no way"))
local macro_rules | `(tactic| tm_at "f0") => `(tactic| (first | assumption | (apply Fr.new; assumption) | fail "no way"))
local macro_rules | `(tactic| tm_at "hp") => `(tactic| (first | assumption | exact upd_same | (apply SqL.of; first | assumption | exact upd_same) | (apply Fr.at0; tm_at "f0"; tm_at "hp") | (apply Fr.at1n; assumption; tm_at "ne"; tm_at "hp") | (apply sqFr0; tm_at "f0"; tm_at "hp") | (apply sqFr1; assumption; tm_at "ne"; tm_at "hp") | (apply Box.fr0; tm_at "f0"; tm_at "hp") | (apply Box.fr1; assumption; tm_at "ne"; tm_at "hp") | (apply Den.fr; tm_at "f0"; tm_at "hp") | (apply Dens.fr; tm_at "f0"; tm_at "hp") | fail "no way"))
local macro_rules | `(tactic| tm_at "free0") => `(tactic| (first | assumption | (apply updFree; assumption) | (apply updFree; apply updFree; assumption) | (apply updFree; apply updFree; apply updFree; assumption) | (apply updFree; apply updFree; apply updFree; apply updFree; assumption) | fail "no way"))
local macro_rules | `(tactic| tm_at "free") => `(tactic| (first | tm_at "free0" | (apply Fr.free; assumption; tm_at "free0") | (apply Box.free; assumption; tm_at "fr"; tm_at "free0") | (apply Fr.free; assumption; apply Fr.free; assumption; tm_at "free0") | fail "no way"))
local macro_rules | `(tactic| tm_at "fr") => `(tactic| (first | assumption | exact Fr.refl0 _ | exact Fr.refl (Box.nt (by assumption)) | (refine Fr.comp0 ?_ (by tm_at "f0"); tm_at "fr") | (refine Fr.comp ?_ (by assumption); tm_at "fr") | (refine Fr.compN ?_ (by assumption) (by tm_at "free"); tm_at "fr") | fail "no way"))
local macro_rules | `(tactic| tm_at "call") => `(tactic| fail "no call")
local macro_rules | `(tactic| tm_at "call") => `(tactic| (apply take_step; tm_at "hp"; tm_at "sc"; tm_at "sc"; intro r H1 h0 h1 hB fr))
local macro_rules | `(tactic| tm_at "ty") => `(tactic| (first | assumption | exact .base .non | exact .base (.bl _) | exact .base (.int _) | exact .base (.str _) | (apply TyX.base; apply TyOf.lst; tm_at "hp") | (apply TyX.base; apply TyOf.tup; tm_at "hp") | fail "no way"))
local macro_rules | `(tactic| tm_at "pre") => `(tactic| fail "none")
local macro_rules | `(tactic| tm_at "go1") => `(tactic| (first | tm_at "pre" | refine ⟨_, rfl, ?_⟩ | refine ⟨_, _, rfl, rfl, ?_⟩ | (apply set_step; tm_at "hp"; tm_at "sc"; tm_at "sc"; intro H1 hp fr) | (with_reducible refine iteDI ?_ ?_ <;> intro c) | (with_reducible refine iteDS ?_ ?_ <;> intro c) | (with_reducible refine iteD ?_ ?_ <;> intro c) | (with_reducible refine iteEM ?_ ?_ <;> intro c) | (with_reducible refine iteE ?_ ?_ <;> intro c) | with_reducible refine iteN ?_ | with_reducible refine iteF ?_ | with_reducible refine iteT ?_ | (refine fun (p : Addr) (np : _ = (none : Option HO)) => ?_; fail_if_success (refine ⟨fun (_ _ : Nat) (_ : Hp) => True, ?_⟩)) | (apply isi_tt; tm_at "ty"; focus (decide +kernel)) | (apply isi_ff; tm_at "ty"; focus (decide +kernel)) | (apply sl_step; tm_at "hp"; intro qq H1 ms nq hq fr) | (apply sum_step; tm_at "hp"; intro i) | (apply tru_step; tm_at "hp") | (apply len_step; tm_at "hp") | (apply lenq_step; assumption) | (apply ixq_step; assumption; tm_at "sc"; tm_at "sc"; intro v hv) | (apply lst_step; tm_at "hp") | (apply tupl_step; tm_at "hp") | (apply ixr_step; tm_at "hp"; exact rfl) | (apply ix0_step; tm_at "hp") | (apply ix1_step; tm_at "hp") | (apply ix2_step; tm_at "hp") | (apply ixi_step; tm_at "hp"; tm_at "sc"; tm_at "sc"; intro n hn hn') | (apply ixl_step; tm_at "hp"; tm_at "sc"; tm_at "sc"; intro v hv) | (apply ixt_step; tm_at "hp"; tm_at "sc"; tm_at "sc"; intro v hm hv) | (apply in_step; tm_at "hp"; rfl; rfl) | (apply cat_step; tm_at "hp"; tm_at "hp"; tm_at "sc") | (apply catT_step; tm_at "hp"; tm_at "hp"; tm_at "sc1") | (apply tyL_and; tm_at "hp") | (apply app_step; tm_at "hp"; tm_at "sc"; intro H1 hp fr) | tm_at "call" | refine ⟨⟨_, rfl⟩, ?_⟩ | (apply ixs_step; tm_at "sc"; tm_at "sc"; tm_at "sc"; intro ch) | refine .inl ⟨_, rfl, ?_⟩ | refine .inr ⟨_, rfl, ?_⟩ | (apply And.intro; tm_at "sc") | (with_reducible refine wayB ?_ ?_ <;> intro c) | fail "no way"))
local macro_rules | `(tactic| tm_at "go") => `(tactic| (repeat tm_at "go1"))
local macro_rules | `(tactic| tm_at "goo") => `(tactic| (repeat' tm_at "go1"))
local macro_rules | `(tactic| tm_at "den") => `(tactic| (first | assumption | exact Den.str _ | exact Den.int _ | exact Den.bl _ | exact Den.non | (apply Den.tups; tm_at "hp"; tm_at "dens") | (apply Den.fr; tm_at "f0"; tm_at "den") | fail "no way"))
local macro_rules | `(tactic| tm_at "dens") => `(tactic| (first | assumption | exact Dens.nil | (apply Dens.cons; tm_at "den"; tm_at "dens") | (apply Dens.fr; tm_at "f0"; tm_at "dens") | fail "no way"))
local macro_rules | `(tactic| tm_at "ix") => `(tactic| (apply Ix.mk; tm_at "hp"; tm_at "ne"; assumption; assumption))
local macro_rules | `(tactic| tm_at "dep") => `(tactic| (first | assumption | exact Dep.int | exact Dep.str | exact Dep.bl | exact Dep.non | (apply Dep.tup; tm_at "dlen"; tm_at "deps") | (apply Dep.mono; assumption; decide) | fail "no way"))
local macro_rules | `(tactic| tm_at "deps") => `(tactic| (first | assumption | exact memN | (apply memC; tm_at "dep"; tm_at "deps") | fail "no way"))
local macro_rules | `(tactic| tm_at "dlen") => `(tactic| (first | assumption | (focus (simp; done)) | omega | fail "no way"))
local macro_rules | `(tactic| tm_at "pre") => `(tactic| (apply rep_step; tm_at "hp"; tm_at "sc"; tm_at "sc"; intro rp H1 nrp hrp fr))

local macro_rules | `(tactic| tm_at "lk") => `(tactic| (first | with_reducible exact lookup_eq | ((with_reducible apply lookup_ne); (focus (decide +kernel)); tm_at "lk") | assumption | rfl | fail "no way"))
local macro_rules | `(tactic| tm_at "pf") => `(tactic| (first | with_reducible exact putF_nil | with_reducible exact putF_eq | ((with_reducible apply putF_ne); (focus (decide +kernel)); tm_at "pf") | fail "no way"))
local macro_rules | `(tactic| tm_at "fl") => `(tactic| (first | assumption | focus (simp only [List.length_cons, List.length_nil]; omega) | focus (simp only [List.length_cons, List.length_nil]; done) | focus (decide) | focus (simp; done) | focus (simp; omega) | fail "no way"))
local macro_rules | `(tactic| tm_at "pre") => `(tactic| (apply fld_step; tm_at "hp"; assumption; assumption; tm_at "lk"))
local macro_rules | `(tactic| tm_at "pre") => `(tactic| (apply putf_step; tm_at "hp"; assumption; assumption; tm_at "fl"; tm_at "pf"; intro H1 hp fr))
local macro_rules | `(tactic| tm_at "pre") => `(tactic| (apply aug_step; tm_at "hp"; assumption; assumption; tm_at "lk"))
local macro_rules | `(tactic| tm_at "pre") => `(tactic| (apply put2_step; tm_at "hp"; tm_at "fl"; tm_at "pf"; intro H1 hp fr))
local macro_rules | `(tactic| tm_at "pre") => `(tactic| (apply dget_step; tm_at "hp"; tm_at "lk"))
local macro_rules | `(tactic| tm_at "pre") => `(tactic| (apply dput_step; tm_at "hp"; (focus (omega)); intro H1 hp fr))
local macro_rules | `(tactic| tm_at "pre") => `(tactic| (apply mth_step; tm_at "hp"; tm_at "lk"))
local macro_rules | `(tactic| tm_at "pre") => `(tactic| (apply lenD_step; tm_at "hp"))
local macro_rules | `(tactic| tm_at "pre") => `(tactic| (apply addI_step))
local macro_rules | `(tactic| tm_at "pre") => `(tactic| (apply newD_step; intro dn H1 nd hp fr))
local macro_rules | `(tactic| tm_at "fr2") => `(tactic| (first | assumption | (apply Fr.appMb; assumption; (focus (simp; done)); tm_at "fr2") | (apply Fr.app0b; tm_at "f0"; tm_at "fr2") | (apply Fr.appNb; assumption; tm_at "free"; tm_at "fr2") | fail "no way"))
local macro_rules | `(tactic| tm_at "ne") => `(tactic| (apply ne_role; assumption; assumption; (focus (decide))))
local macro_rules | `(tactic| tm_at "pre") => `(tactic| (apply dnotin_step; tm_at "hp"))
local macro_rules | `(tactic| tm_at "pre") => `(tactic| (apply din_step; tm_at "hp"))

@[irreducible] def spAsked (K : PySem.W.Frag) (CT C : Addr) : Sp := fun vs H Q _ => ∃ (ρ ρ2 : Role) (s s2 : Nat) (step : Int) (tl : List (Str × V)) (B D N Ta e : Addr) (ys : List Th) (tb : List Int) (xs : List Nd) (ev : List V) (es : List T),
  vs = [.ref B, .ref N, .ref Ta, .ref e] ∧ TabS K ρ s step CT C tl H B D ys Ta tb xs ∧ NdA K ρ2 s2 xs.length H N xs ∧ H e = some (.lst ev) ∧ Dens K H ev es ∧ (∀ t ∈ es, EntOk xs.length t) ∧ es.length ≤ 1000 ∧ ∀ H', Fr [] H H' → Q (.bl true) H'
theorem asked_step {CT C : Addr} {ρ ρ2 : Role} {s s2 : Nat} {step : Int} {tl : List (Str × V)} {B D N Ta e : Addr} {ys : List Th} {tb : List Int} {xs : List Nd} {ev : List V} {es : List T} {H : Hp} {Q : VK} {E : XK} (h1 : TabS K ρ s step CT C tl H B D ys Ta tb xs) (h2 : NdA K ρ2 s2 xs.length H N xs) (h3 : H e = some (.lst ev)) (h4 : Dens K H ev es) (h5 : ∀ t ∈ es, EntOk xs.length t) (h6 : es.length ≤ 1000) (q : ∀ H', Fr [] H H' → Q (.bl true) H') : spAsked K CT C ([.ref B, .ref N, .ref Ta, .ref e] ++ []) H Q E := by
  unfold spAsked; exact ⟨ρ, ρ2, s, s2, step, tl, B, D, N, Ta, e, ys, tb, xs, ev, es, rfl, h1, h2, h3, h4, h5, h6, q⟩
abbrev s_asked : Stmt := top 39
theorem sc_asked : FnScope ["_law_bank", "_law_nodes_here", "_law_table", "_law_entries", "_law_found", "_law_due", "_law_k", "_law_handed", "_law_kept", "_law_row"] ["_law_bank", "_law_nodes_here", "_law_table", "_law_entries"] (defScope s_asked) := ⟨rfl, rfl, rfl, by decide +kernel, rfl, by decide +kernel, by decide +kernel⟩

theorem body_asked {C CT : Addr} (T : Bl mg) (G_same : Cal P w K mg base 7 "_law_same" ["_law_told", "_law_due"] (spSm K 7)) (G_walk : Cal P w K mg base 3 "_law_walk" ["_law_entries", "_law_nodes_here"] (spWalk K)) (G_graph : Cal P w K mg base 4 "_law_graph" ["_law_entries", "_law_nodes_here", "_law_found"] (spLGraph K)) (G_sent : Cal P w K mg base 3 "_law_sent" ["_law_entries", "_law_table"] (spSent K))
    (M_reach : CalM P w K mg base 3 C "reach" ["self", "entries"] (spReach K CT C)) (M_graph : CalM P w K mg base 4 C "graph" ["self", "entries"] (spGraph K CT C)) : BodyOk P w K mg base "_law_asked" s_asked ["_law_bank", "_law_nodes_here", "_law_table", "_law_entries", "_law_found", "_law_due", "_law_k", "_law_handed", "_law_kept", "_law_row"] 7 (spAsked K CT C) := by
  intro f cdv A outer s H vs Q E hr h
  unfold spAsked at h
  · obtain ⟨ρ, ρ2, sd, s2, step, tl, B, dD, N, Ta, e, ys, tb, xs, ev, es, rfl, hT, hN, he, de, oe, le, q⟩ := h
    have lx := hN.len
    have hC := hN.clo
    have hes : ∀ t ∈ es, ∀ j, tgtT t = some j → j ∈ idx xs.length := fun t m j e => idx_mem.mpr ((oe t m).tgt_in e)
    have hst : ∀ a ∈ noteZ es [], a ∈ idx xs.length := noteZ_in nil_in hes
    have hnd : (noteZ es []).Nodup := noteZ_nodup List.nodup_nil
    have lfs := bfs_len hC hst hnd xs.length
    rw [idx_len] at lfs
    have fn := bfs_nodup (sl := slN xs) hnd xs.length
    have fi := bfs_in hC hst xs.length
    have ft : ∀ t ∈ es, ∀ j, tgtT t = some j → j ∈ M14.bfs (slN xs) (noteZ es []) xs.length := fun t m j e => bfs_start (noteZ_has m e)
    have fc : ∀ a ∈ M14.bfs (slN xs) (noteZ es []) xs.length, ∀ t ∈ slN xs a, ∀ j, tgtT t = some j → j ∈ M14.bfs (slN xs) (noteZ es []) xs.length := fun a ha t ht j e => bfs_closed lfs ha ht e
    have hR := hT.rch hN oe le
    have eb := hT.bfs hN oe
    have eg := hT.gr hN oe fn fi ft fc
    have hTa := hT.ta
    have ltb := hT.len
    have nm1 : tl.lookup ("reach" : Str) = none := hT.bk.tll.nom _ (by decide +kernel)
    have nm2 : tl.lookup ("graph" : Str) = none := hT.bk.tll.nom _ (by decide +kernel)
    obtain ⟨dx0, gr, hB⟩ := hT.bk.at_
    refine ⟨_, (pss_cons (ps_set (i := 4) sc_asked.nd rfl (Or.inl rfl) (pe_cal G_walk (hr.mono (by omega)) (by rfl) (pa_cons (pv 3) (pa_cons (pv 1) pa_nil))))
    (pss_cons (ps_setLc (i := 5) (own := [("_law_k", 6)]) (g := gName 6) (by rfl) sc_asked.nd rfl rfl (sw_true rfl rfl rfl (by decide +kernel)) (pi_list (pv 4)) (blkOk_by (own := [("_law_k", 6)]) (N := [("_law_bank" : Str), ("_law_nodes_here" : Str), ("_law_table" : Str), ("_law_entries" : Str), ("_law_found" : Str), ("_law_due" : Str), ("_law_k" : Str), ("_law_handed" : Str), ("_law_kept" : Str), ("_law_row" : Str)]) (sc := defScope s_asked) (by decide +kernel)) (fun _ _ _ _ _ => pg_name (i := 6) sc_asked.nd rfl (Or.inl rfl)) (fun _ _ _ _ _ => pts_nil) (fun _ _ _ _ _ => (pe_ix (ixL K) (pv 2) (pv 6) (fun _ _ => rfl))))
    (pss_cons (ps_set (i := 7) sc_asked.nd rfl (Or.inl rfl) (pe_cal G_sent (hr.mono (by omega)) (by rfl) (pa_cons (pv 3) (pa_cons (pv 2) pa_nil))))
    (pss_cons (ps_set (i := 8) sc_asked.nd rfl (Or.inl rfl) (pe_callTy (cList K) (by rfl) T.z_list (by decide +kernel) (pa_cons (pv 7) pa_nil)))
    (pss_cons (ps_set (i := 9) sc_asked.nd rfl (Or.inl rfl) (pe_mcalx (pv 0) M_reach (hr.mono (by omega)) (pa_cons (pv 7) pa_nil)))
    (pss_cons (ps_if (PW.pt (pw_and (pt_not (pt_val (pe_callB (cIsi K) (by rfl) T.z_isinstance (by decide +kernel) (pa_cons (pv 9) (pa_cons (pe_bltn (v := .ty "list") (by rfl) T.z_list (by decide +kernel) rfl) pa_nil))))) (pw_and1 (pt_not (pt_val (pe_callB (cIsi K) (by rfl) T.z_isinstance (by decide +kernel) (pa_cons (pv 9) (pa_cons (pe_bltn (v := .ty "tuple") (by rfl) T.z_tuple (by decide +kernel) rfl) pa_nil))))))))
      (pss_one (ps_ret pe_bl))
      pss_nil)
    (pss_cons (ps_if (pt_not (pt_val (pe_cal G_same (hr.mono (by omega)) (by rfl) (pa_cons (pe_callTy (cList K) (by rfl) T.z_list (by decide +kernel) (pa_cons (pv 9) pa_nil)) (pa_cons (pv 5) pa_nil)))))
      (pss_one (ps_ret pe_bl))
      pss_nil)
    (pss_cons (ps_if (pt_not (pt_val (pe_cal G_same (hr.mono (by omega)) (by rfl) (pa_cons (pe_mcalx (pv 0) M_graph (hr.mono (by omega)) (pa_cons (pv 7) pa_nil)) (pa_cons (pe_cal G_graph (hr.mono (by omega)) (by rfl) (pa_cons (pv 3) (pa_cons (pv 1) (pa_cons (pv 4) pa_nil)))) pa_nil)))))
      (pss_one (ps_ret pe_bl))
      pss_nil)
    (pss_cons (ps_if (pt_val (pe_callB (cIsi K) (by rfl) T.z_isinstance (by decide +kernel) (pa_cons (pv 9) (pa_cons (pe_bltn (v := .ty "list") (by rfl) T.z_list (by decide +kernel) rfl) pa_nil))))
      (pss_one (ps_expr (pe_bm PySem.F.plainAttrs_list PySem.F.slot_list_append PySem.F.type_list_append mtApp (pv 9) (pa_cons (pe_un un_neg pe_int) pa_nil))))
      pss_nil)
    (pss_one (ps_ret (pe_and (pe_cal G_same (hr.mono (by omega)) (by rfl) (pa_cons (pe_callTy (cList K) (by rfl) T.z_list (by decide +kernel) (pa_cons (pe_mcalx (pv 0) M_reach (hr.mono (by omega)) (pa_cons (pv 7) pa_nil)) pa_nil)) (pa_cons (pv 5) pa_nil))) (pe_one (pe_cal G_same (hr.mono (by omega)) (by rfl) (pa_cons (pv 7) (pa_cons (pv 8) pa_nil)))))))))))))))), ?_⟩
    tm_at "goo"
    refine walk_step hN he de oe le fun fd H1 nfd hfd f1 => ?_
    generalize M14.bfs (slN xs) (noteZ es []) xs.length = fs at *
    tm_at "goo"
    refine ⟨⟨_, .of hfd⟩, ?_⟩
    have hTa1 := f1.at0 hTa
    refine lcL (fun _ => true) (fun _ i y => ∃ a, fs[i]? = some a ∧ y = .int (gF tb a)) (Cg.nil _) stab_v (.of hfd) (by simp) (by simp; omega) (fun i x H2 hi hS f => tyes_ok trivial (fun _ h => nomatch h)) (fun i x H2 hi _ hS f R kk => ?_) (fun du H2 dv ndu hdu m2 _ f2 => ?_)
    · obtain ⟨a, ea, rfl⟩ : ∃ a, fs[i]? = some a ∧ x = .int a := by
        rw [List.getElem?_map] at hi
        cases e : fs[i]? with
        | none => rw [e] at hi; cases hi
        | some a => rw [e] at hi; exact ⟨a, rfl, (Option.some.inj hi).symm⟩
      obtain ⟨a0, a1⟩ := idx_mem.mp (fi a (List.mem_of_getElem? ea))
      have hTa2 := f.at0 hTa1
      have a2 : a < tb.length := by rw [ltb]; exact a1
      tm_at "goo"
      rw [← gF_get hn']
      exact kk _ _ trivial (by tm_at "fr") ⟨a, ea, rfl⟩
    · rw [keptN_all] at m2
      rw [made_map (by simp) m2] at hdu
      have f02 : Fr [] H H2 := f1.tr f2
      have he2 := f02.at0 he
      have hTa2 := f02.at0 hTa
      tm_at "goo"
      refine sent_step (gs := tb) (.of he2) (.of hTa2) (de.fr f02) (by rw [ltb]; exact oe) (by have := de.1; omega) fun hd H3 hv nhd hhd dhv f3 => ?_
      have lhv : hv.length ≤ 1000 := by have := dhv.1; simp at this; omega
      tm_at "goo"
      obtain ⟨kp, hkp⟩ : ∃ z, z = p := ⟨_, rfl⟩
      subst hkp
      have fk := Fr.new (o := .lst hv) np
      have f0k : Fr [] H (upd H3 kp (.lst hv)) := (f02.tr f3).tr fk
      have hhdk := fk.at0 hhd
      have hkk : upd H3 kp (.lst hv) kp = some (.lst hv) := upd_same
      have hduk := fk.at0 (f3.at0 hdu)
      have hfdk := fk.at0 (f3.at0 (f2.at0 hfd))
      have hBk := f0k.at0 hB
      have dhk := dhv.fr fk
      generalize upd H3 kp (.lst hv) = Hk at *
      refine reach_step (hT.bk.of0 f0k) hhdk dhk hR.toRch fun row H4 nrow hrow f4 => ?_
      rw [eb] at hrow
      tm_at "goo"
      have ld : ((fs.map (gF tb)).map V.int).length ≤ 10000 := by simp; omega
      have f5 := Fr.new (o := .lst ((fs.map (gF tb)).map V.int)) np
      refine sm_step (Sm.of_dens (d := 5) upd_same (f5.at0 (f4.at0 hduk)) dens_ints dens_ints ld dep_ints) ?_
      have f05 : Fr [] H _ := (f0k.tr f4).tr f5
      have hhd5 := f5.at0 (f4.at0 hhdk)
      have hB5 := f05.at0 hB
      have hrow5 := f5.at0 hrow
      have hfd5 := f5.at0 (f4.at0 hfdk)
      have he5 := f05.at0 he
      have hdu5 := f5.at0 (f4.at0 hduk)
      have hk5 := f5.at0 (f4.at0 hkk)
      have dh5 := (dhk.fr f4).fr f5
      have nrow0 : H row = none := f0k.free nrow
      have ndr : du ≠ row := ne_of_none2 nrow hduk
      have nhr : hd ≠ row := ne_of_none2 nrow hhdk
      have nkr : kp ≠ row := ne_of_none2 nrow hkk
      generalize upd H4 p (.lst ((fs.map (gF tb)).map V.int)) = H5 at *
      clear fk f4 f5
      tm_at "goo"
      refine graph_step (hT.bk.of0 f05) hhd5 dh5 hR fun v6 H6 d6 f6 => ?_
      rw [eb, eg] at d6
      have f06 := f05.tr f6
      tm_at "goo"
      refine lgraph_step (hN.fr0 f06) (f06.at0 he) (de.fr f06) oe le (f6.at0 hfd5) fn fi ft fc fun v7 H7 d7 f7 => ?_
      have f07 := f06.tr f7
      have key : ∀ a ∈ fs, ∃ x, xs[a.toNat]? = some x := fun a m => by
        obtain ⟨a0, a1⟩ := idx_mem.mp (fi a m)
        have hk : a.toNat < xs.length := by omega
        exact ⟨_, List.getElem?_eq_getElem hk⟩
      have dep6 : Dep 6 (grT (kdN xs) (tgN xs) (slN xs) es fs) := by
        refine grT_dep (fun t m => (oe t m).shape) (fun t m => (oe t m).dep) le (by omega) (fun a m => ?_) (fun a m => ?_)
        · obtain ⟨x, ex⟩ := key a m
          obtain ⟨o1, o2, o3, o4, o5⟩ := hN.ok _ x ex
          rw [slN_get ex]
          exact ⟨by have := o1.1; omega, fun t m => ⟨(o2 t m).shape, (o2 t m).dep⟩⟩
        · obtain ⟨x, ex⟩ := key a m
          rw [tgN_get ex]
          exact (hN.ok _ x ex).2.2.2.1
      refine sm_step (Sm.of_den (d6.fr f7) d7 dep6) ?_
      have hB7 := f07.at0 hB
      have hrow7 := f7.at0 (f6.at0 hrow5)
      have hdu7 := f7.at0 (f6.at0 hdu5)
      have hhd7 := f7.at0 (f6.at0 hhd5)
      have hk7 := f7.at0 (f6.at0 hk5)
      have dh7 := (dh5.fr f6).fr f7
      clear f6 f7
      have lrow : ((fs.map (gF tb)).map V.int).length < 10000 := by simp; omega
      tm_at "goo"
      have f08 : Fr [] H H1 := f07.compN fr nrow0
      have hB8 := fr.at1n (fun e => by rw [e, hrow7] at hB7; cases hB7) hB7
      have hdu8 := fr.at1n ndr hdu7
      have hhd8 := fr.at1n nhr hhd7
      have hk8 := fr.at1n nkr hk7
      have dh8 := dh7.fr fr
      refine reach_step (hT.bk.of0 f08) hhd8 dh8 hR.toRch fun row2 H9 nrow2 hrow2 f9 => ?_
      rw [eb] at hrow2
      tm_at "goo"
      have f10 := Fr.new (o := .lst ((fs.map (gF tb)).map V.int)) np
      refine sm_step (Sm.of_dens (d := 5) upd_same (f10.at0 (f9.at0 hdu8)) dens_ints dens_ints ld dep_ints) ?_
      have hhd10 := f10.at0 (f9.at0 hhd8)
      have hk10 := f10.at0 (f9.at0 hk8)
      have dh10 := (dh8.fr f9).fr f10
      have fend := (f08.tr f9).tr f10
      generalize upd H9 p (.lst ((fs.map (gF tb)).map V.int)) = H10 at *
      tm_at "goo"
      refine sm_step (Sm.of_dens (d := 5) hhd10 hk10 dh10 dh10 (by omega) fun t m => ?_) ?_
      · obtain ⟨u, mu, rfl⟩ := List.mem_map.mp m
        exact (movT_dep (oe u mu)).mono (by decide)
      · tm_at "goo"
        exact q _ fend
end
end M14
set_option Elab.async false
set_option linter.all false
set_option maxRecDepth 100000
set_option maxHeartbeats 4000000
namespace M14
open PySem PySem.Spec PyProof.Rows L2

/-- the second part of a pair that stands in H -/
def sndF (H : Hp) (v : V) : Int := match v with
  | .ref t => (match H t with
    | some (.tup [_, .int j]) => j
    | _ => 0)
  | _ => 0
theorem sndF_at {H : Hp} {t : Addr} {x : V} {j : Int} (h : H t = some (.tup [x, .int j])) : sndF H (.ref t) = j := by
  show (match H t with
    | some (.tup [_, .int j]) => j
    | _ => 0) = j
  rw [h]
theorem idx_add {m t : Nat} : ((idx m) ++ (List.range t).map fun i : Nat => (m : Int) + t - 1 - i).Perm (idx (m + t)) := by
  induction t with
  | zero => simp [idx]
  | succ t ih =>
    have e1 : idx (m + (t + 1)) = idx (m + t) ++ [((m + t : Nat) : Int)] := by
      unfold idx
      rw [← Nat.add_assoc, List.range_succ, List.map_append]; rfl
    have e2 : ((List.range (t + 1)).map fun i : Nat => (m : Int) + (t + 1 : Nat) - 1 - i) = ((m + t : Nat) : Int) :: ((List.range t).map fun i : Nat => (m : Int) + t - 1 - i) := by
      rw [List.range_succ_eq_map, List.map_cons, List.map_map]
      congr 1
      · simp; omega
      · refine List.map_congr_left fun i _ => ?_
        show (m : Int) + (t + 1 : Nat) - 1 - ((i + 1 : Nat) : Int) = _
        omega
    rw [e1, e2]
    refine List.Perm.trans List.perm_middle ?_
    refine List.Perm.trans (List.Perm.cons _ ih) ?_
    exact (List.perm_append_singleton _ _).symm
section
variable {P : Program} {w : World} {K : PySem.W.Frag} {mg : Str → Option Value} {base : Heap}
set_option hygiene false
local macro_rules | `(tactic| tm_at "sc") => `(tactic| (first | omega | (simp only [List.length_cons, List.length_nil, List.length_map, List.length_set, List.length_append]; omega) | (simp only [List.length_map] at h1 ⊢; omega) | (simp only [List.length_map] at c ⊢; omega) | with_reducible assumption | exact And.intro (by omega) (by omega) | exact Or.inl (And.intro (by omega) (by omega)) | exact Or.inr (And.intro (by omega) (by omega)) | decide +kernel | exact len1000 (by simp) | rfl | fail "no way"))
local macro_rules | `(tactic| tm_at "sc1") => `(tactic| (focus (simp; done)))
local macro_rules | `(tactic| tm_at "ne") => `(tactic| (first | assumption | exact Ne.symm (by assumption) | (apply Box.ne2; assumption; tm_at "hp") | (apply Ne.symm; apply Box.ne2; assumption; tm_at "hp") | (apply ne_of_none2; assumption; tm_at "hp") | (apply Ne.symm; apply ne_of_none2; assumption; tm_at "hp") | fail "no way"))
local macro_rules | `(tactic| tm_at "f0") => `(tactic| (first | assumption | (apply Fr.new; assumption) | fail "no way"))
local macro_rules | `(tactic| tm_at "hp") => `(tactic| (first | assumption | exact upd_same | (apply SqL.of; first | assumption | exact upd_same) | (apply Fr.at0; tm_at "f0"; tm_at "hp") | (apply Fr.at1n; assumption; tm_at "ne"; tm_at "hp") | (apply sqFr0; tm_at "f0"; tm_at "hp") | (apply sqFr1; assumption; tm_at "ne"; tm_at "hp") | (apply Box.fr0; tm_at "f0"; tm_at "hp") | (apply Box.fr1; assumption; tm_at "ne"; tm_at "hp") | (apply Den.fr; tm_at "f0"; tm_at "hp") | (apply Dens.fr; tm_at "f0"; tm_at "hp") | fail "no way"))
local macro_rules | `(tactic| tm_at "free0") => `(tactic| (first | assumption | (apply updFree; assumption) | (apply updFree; apply updFree; assumption) | (apply updFree; apply updFree; apply updFree; assumption) | (apply updFree; apply updFree; apply updFree; apply updFree; assumption) | fail "no way"))
local macro_rules | `(tactic| tm_at "free") => `(tactic| (first | tm_at "free0" | (apply Fr.free; assumption; tm_at "free0") | (apply Box.free; assumption; tm_at "fr"; tm_at "free0") | (apply Fr.free; assumption; apply Fr.free; assumption; tm_at "free0") | fail "no way"))
local macro_rules | `(tactic| tm_at "fr") => `(tactic| (first | assumption | exact Fr.refl0 _ | exact Fr.refl (Box.nt (by assumption)) | (refine Fr.comp0 ?_ (by tm_at "f0"); tm_at "fr") | (refine Fr.comp ?_ (by assumption); tm_at "fr") | (refine Fr.compN ?_ (by assumption) (by tm_at "free"); tm_at "fr") | fail "no way"))
local macro_rules | `(tactic| tm_at "call") => `(tactic| fail "no call")
local macro_rules | `(tactic| tm_at "call") => `(tactic| (apply take_step; tm_at "hp"; tm_at "sc"; tm_at "sc"; intro r H1 h0 h1 hB fr))
local macro_rules | `(tactic| tm_at "ty") => `(tactic| (first | assumption | exact .base .non | exact .base (.bl _) | exact .base (.int _) | exact .base (.str _) | (apply TyX.base; apply TyOf.lst; tm_at "hp") | (apply TyX.base; apply TyOf.tup; tm_at "hp") | fail "no way"))
local macro_rules | `(tactic| tm_at "pre") => `(tactic| fail "none")
local macro_rules | `(tactic| tm_at "go1") => `(tactic| (first | tm_at "pre" | refine ⟨_, rfl, ?_⟩ | refine ⟨_, _, rfl, rfl, ?_⟩ | (apply set_step; tm_at "hp"; tm_at "sc"; tm_at "sc"; intro H1 hp fr) | (with_reducible refine iteDI ?_ ?_ <;> intro c) | (with_reducible refine iteDS ?_ ?_ <;> intro c) | (with_reducible refine iteD ?_ ?_ <;> intro c) | (with_reducible refine iteEM ?_ ?_ <;> intro c) | (with_reducible refine iteE ?_ ?_ <;> intro c) | with_reducible refine iteN ?_ | with_reducible refine iteF ?_ | with_reducible refine iteT ?_ | (refine fun (p : Addr) (np : _ = (none : Option HO)) => ?_; fail_if_success (refine ⟨fun (_ _ : Nat) (_ : Hp) => True, ?_⟩)) | (apply isi_tt; tm_at "ty"; focus (decide +kernel)) | (apply isi_ff; tm_at "ty"; focus (decide +kernel)) | (apply sl_step; tm_at "hp"; intro qq H1 ms nq hq fr) | (apply sum_step; tm_at "hp"; intro i) | (apply tru_step; tm_at "hp") | (apply len_step; tm_at "hp") | (apply lenq_step; assumption) | (apply ixq_step; assumption; tm_at "sc"; tm_at "sc"; intro v hv) | (apply lst_step; tm_at "hp") | (apply tupl_step; tm_at "hp") | (apply ixr_step; tm_at "hp"; exact rfl) | (apply ix0_step; tm_at "hp") | (apply ix1_step; tm_at "hp") | (apply ix2_step; tm_at "hp") | (apply ixi_step; tm_at "hp"; tm_at "sc"; tm_at "sc"; intro n hn hn') | (apply ixl_step; tm_at "hp"; tm_at "sc"; tm_at "sc"; intro v hv) | (apply ixt_step; tm_at "hp"; tm_at "sc"; tm_at "sc"; intro v hm hv) | (apply in_step; tm_at "hp"; rfl; rfl) | (apply cat_step; tm_at "hp"; tm_at "hp"; tm_at "sc") | (apply catT_step; tm_at "hp"; tm_at "hp"; tm_at "sc1") | (apply tyL_and; tm_at "hp") | (apply app_step; tm_at "hp"; tm_at "sc"; intro H1 hp fr) | tm_at "call" | refine ⟨⟨_, rfl⟩, ?_⟩ | (apply ixs_step; tm_at "sc"; tm_at "sc"; tm_at "sc"; intro ch) | refine .inl ⟨_, rfl, ?_⟩ | refine .inr ⟨_, rfl, ?_⟩ | (apply And.intro; tm_at "sc") | (with_reducible refine wayB ?_ ?_ <;> intro c) | fail "no way"))
local macro_rules | `(tactic| tm_at "go") => `(tactic| (repeat tm_at "go1"))
local macro_rules | `(tactic| tm_at "goo") => `(tactic| (repeat' tm_at "go1"))
local macro_rules | `(tactic| tm_at "den") => `(tactic| (first | assumption | exact Den.str _ | exact Den.int _ | exact Den.bl _ | exact Den.non | (apply Den.tups; tm_at "hp"; tm_at "dens") | (apply Den.fr; tm_at "f0"; tm_at "den") | fail "no way"))
local macro_rules | `(tactic| tm_at "dens") => `(tactic| (first | assumption | exact Dens.nil | (apply Dens.cons; tm_at "den"; tm_at "dens") | (apply Dens.fr; tm_at "f0"; tm_at "dens") | fail "no way"))
local macro_rules | `(tactic| tm_at "ix") => `(tactic| (apply Ix.mk; tm_at "hp"; tm_at "ne"; assumption; assumption))
local macro_rules | `(tactic| tm_at "dep") => `(tactic| (first | assumption | exact Dep.int | exact Dep.str | exact Dep.bl | exact Dep.non | (apply Dep.tup; tm_at "dlen"; tm_at "deps") | (apply Dep.mono; assumption; decide) | fail "no way"))
local macro_rules | `(tactic| tm_at "deps") => `(tactic| (first | assumption | exact memN | (apply memC; tm_at "dep"; tm_at "deps") | fail "no way"))
local macro_rules | `(tactic| tm_at "dlen") => `(tactic| (first | assumption | (focus (simp; done)) | omega | fail "no way"))
local macro_rules | `(tactic| tm_at "pre") => `(tactic| (apply rep_step; tm_at "hp"; tm_at "sc"; tm_at "sc"; intro rp H1 nrp hrp fr))

@[irreducible] def spOrder : Sp := fun vs H Q _ => ∃ (b : Addr) (m t : Nat) (way : Int), vs = [.ref b, .int m, .int t, .int way] ∧ Box H b ∧ m + t ≤ 1500 ∧
  ∀ D H' (os : List Int), H D = none → H' D = some (.lst (os.map V.int)) → os.Perm (idx (m + t)) → Box H' b → Fr [b] H H' → Q (.ref D) H'
theorem order_step {b : Addr} {m t : Nat} {way : Int} {H : Hp} {Q : VK} {E : XK} (h1 : Box H b) (h2 : m + t ≤ 1500) (q : ∀ D H' (os : List Int), H D = none → H' D = some (.lst (os.map V.int)) → os.Perm (idx (m + t)) → Box H' b → Fr [b] H H' → Q (.ref D) H') : spOrder ([.ref b, .int m, .int t, .int way] ++ []) H Q E := by
  unfold spOrder; exact ⟨b, m, t, way, rfl, h1, h2, q⟩
abbrev s_order : Stmt := top 37
theorem sc_order : FnScope ["_law_box_here", "_law_many", "_law_tall", "_law_way", "_law_k", "_law_ranks", "_law_rank"] ["_law_box_here", "_law_many", "_law_tall", "_law_way"] (defScope s_order) := ⟨rfl, rfl, rfl, by decide +kernel, rfl, by decide +kernel, by decide +kernel⟩

theorem ok_order (T : Bl mg) (G_take : CTake P w K mg base) (D : Def1 K mg "_law_order" s_order) : Cal P w K mg base 2 "_law_order" ["_law_box_here", "_law_many", "_law_tall", "_law_way"] spOrder := by
  refine D.cal sc_order (fun _ _ _ _ _ _ us hl => match us, hl with | [_, _, _, _], _ => rfl) (fun vs H Q E h => ?_) (fun f cdv A outer s H vs Q E hr h => ?_) <;> unfold spOrder at h
  · obtain ⟨b, m, t, way, rfl, _⟩ := h
    rfl
  · obtain ⟨b, m, t, way, rfl, hB, hmt, q⟩ := h
    refine ⟨_, (pss_cons (ps_if (pt_cmpR op_eq (pv 3) pe_int (nomark _))
      (pss_one (ps_ret (pe_lc (own := [("_law_k", 4)]) (g := gName 4) (by rfl) sc_order.nd (pi_range1 (by rfl) T.z_range (pa_cons (pe_op op_add (pv 1) (pv 2)) pa_nil)) (blkOk_by (own := [("_law_k", 4)]) (N := [("_law_box_here" : Str), ("_law_many" : Str), ("_law_tall" : Str), ("_law_way" : Str), ("_law_k" : Str), ("_law_ranks" : Str), ("_law_rank" : Str)]) (sc := defScope s_order) (by decide +kernel)) (fun _ _ _ _ _ => pg_name (i := 4) sc_order.nd rfl (Or.inl rfl)) (fun _ _ _ _ _ => pts_nil) (fun _ _ _ _ _ => (pv 4)))))
      pss_nil)
    (pss_cons (ps_set (i := 5) sc_order.nd rfl (Or.inl rfl) (pe_callB (cSortP K) (by rfl) T.z_sorted (by decide +kernel) (pa_cons (pe_lc (own := [("_law_k", 4)]) (g := gName 4) (by rfl) sc_order.nd (pi_range1 (by rfl) T.z_range (pa_cons (pv 1) pa_nil)) (blkOk_by (own := [("_law_k", 4)]) (N := [("_law_box_here" : Str), ("_law_many" : Str), ("_law_tall" : Str), ("_law_way" : Str), ("_law_k" : Str), ("_law_ranks" : Str), ("_law_rank" : Str)]) (sc := defScope s_order) (by decide +kernel)) (fun _ _ _ _ _ => pg_name (i := 4) sc_order.nd rfl (Or.inl rfl)) (fun _ _ _ _ _ => pts_nil) (fun _ _ _ _ _ => (pe_tup (pa_cons (pe_cal G_take (hr.mono (by omega)) (by rfl) (pa_cons (pv 0) (pa_cons pe_int pa_nil))) (pa_cons (pv 4) pa_nil))))) pa_nil)))
    (pss_one (ps_ret (pe_op opCat (pe_lc (own := [("_law_rank", 6)]) (g := gName 6) (by rfl) sc_order.nd (pi_list (pv 5)) (blkOk_by (own := [("_law_rank", 6)]) (N := [("_law_box_here" : Str), ("_law_many" : Str), ("_law_tall" : Str), ("_law_way" : Str), ("_law_k" : Str), ("_law_ranks" : Str), ("_law_rank" : Str)]) (sc := defScope s_order) (by decide +kernel)) (fun _ _ _ _ _ => pg_name (i := 6) sc_order.nd rfl (Or.inl rfl)) (fun _ _ _ _ _ => pts_nil) (fun _ _ _ _ _ => (pe_ix (ixT K) (pv 6) pe_int (fun _ _ => rfl)))) (pe_lc (own := [("_law_k", 4)]) (g := gName 4) (by rfl) sc_order.nd (pi_range1 (by rfl) T.z_range (pa_cons (pv 2) pa_nil)) (blkOk_by (own := [("_law_k", 4)]) (N := [("_law_box_here" : Str), ("_law_many" : Str), ("_law_tall" : Str), ("_law_way" : Str), ("_law_k" : Str), ("_law_ranks" : Str), ("_law_rank" : Str)]) (sc := defScope s_order) (by decide +kernel)) (fun _ _ _ _ _ => pg_name (i := 4) sc_order.nd rfl (Or.inl rfl)) (fun _ _ _ _ _ => pts_nil) (fun _ _ _ _ _ => (pe_op op_sub (pe_op op_sub (pe_op op_add (pv 1) (pv 2)) pe_int) (pv 4))))))))), ?_⟩
    tm_at "goo"
    · refine lcR (fun _ => true) (fun _ i y => y = .int (0 + (i : Int))) (Cg.nil _) stab_v (by omega) (fun i H2 hi hS f => tyes_ok trivial (fun _ h => nomatch h)) (fun i H2 hi _ hS f R kk => ?_) (fun D H' ys nD hD m2 _ f => ?_)
      · tm_at "goo"
        exact kk _ _ trivial (by tm_at "fr") rfl
      · rw [keptN_all] at m2
        rw [m2.ints] at hD
        have e : ((m : Int) + t).toNat = m + t := by omega
        rw [e] at hD
        refine q _ _ (idx (m + t)) nD ?_ (List.Perm.refl _) (hB.fr0 f) ((Fr.refl hB.nt).tr f)
        rw [hD]
        unfold idx
        simp
    · refine lcR (fun _ => true) (fun H i y => ∃ (p : Addr) (r : Int), y = .ref p ∧ H p = some (.tup [.int r, .int (0 + (i : Int))])) (Cg.box hB) (fun M H H' i y f ⟨p, r, e, h⟩ => ⟨p, r, e, f.tup h⟩) (by omega) (fun i H2 hi hS f => tyes_ok hS hS.nt) (fun i H2 hi _ hS f R kk => ?_) (fun D H' ys nD hD m2 hB2 f => ?_)
      · tm_at "goo"
        exact kk _ _ (by tm_at "hp") (by tm_at "fr") ⟨_, _, rfl, upd_same⟩
      · rw [keptN_all] at m2
        obtain ⟨l2, a2⟩ := m2.all
        have em : ((m : Int)).toNat = m := by omega
        rw [em] at l2
        have e2 : ys.map (sndF H') = idx m := by
          refine List.ext_getElem? fun i => ?_
          rw [List.getElem?_map]
          cases e : ys[i]? with
          | none =>
            have := List.getElem?_eq_none_iff.mp e
            rw [List.getElem?_eq_none_iff.mpr (by rw [idx_len]; omega)]; rfl
          | some y =>
            have hi : i < m := by rw [← l2]; exact (List.getElem?_eq_some_iff.mp e).1
            obtain ⟨p, r, rfl, hp⟩ := a2 i y e
            unfold idx
            rw [List.getElem?_map, List.getElem?_range hi]
            show some (sndF H' (.ref p)) = _
            rw [sndF_at hp]; simp
        refine sortP_step hD (fun x mx => ?_) fun zs p H3 pz npz hpz f3 => ?_
        · obtain ⟨i, _, p, r, rfl, hp⟩ := m2.mem mx
          exact ⟨p, _, _, rfl, hp⟩
        · have lz : zs.length = m := by rw [pz.length_eq, l2]
          have hz : ∀ z ∈ zs, ∃ (p : Addr) (r : V) (j : Int), z = .ref p ∧ H' p = some (.tup [r, .int j]) := fun z mz => by
            obtain ⟨i, _, p, r, rfl, hp⟩ := m2.mem (pz.mem_iff.mp mz)
            exact ⟨p, _, _, rfl, hp⟩
          have pz2 : (zs.map (sndF H')).Perm (idx m) := by rw [← e2]; exact pz.map _
          have hB3 := hB2.fr0 f3
          have FB : Fr [b] H H3 := f.tr f3
          have nD0 : H p = none := Box.free hB2 f npz
          tm_at "goo"
          refine ⟨⟨_, .of hpz⟩, ?_⟩
          refine lcL (fun _ => true) (fun _ i y => ∃ a, (zs.map (sndF H'))[i]? = some a ∧ y = .int a) (Cg.nil _) stab_v (.of hpz) (by simp) (by omega) (fun i x H2 hi hS f => tyes_ok trivial (fun _ h => nomatch h)) (fun i x H2 hi _ hS f R kk => ?_) (fun o1 H4 v1 no1 ho1 m4 _ f4 => ?_)
          · obtain ⟨t, r, j, rfl, ht⟩ := hz x (List.mem_of_getElem? hi)
            have ht2 := f.tup (f3.tup ht)
            tm_at "goo"
            refine kk _ _ trivial (by tm_at "fr") ⟨j, ?_, rfl⟩
            rw [List.getElem?_map, hi]
            show some (sndF H' (.ref t)) = _
            rw [sndF_at ht]
          · rw [keptN_all] at m4
            have e4 := made_map (g := fun a => a) (by simp) m4
            rw [List.map_id'] at e4
            rw [e4] at ho1
            tm_at "goo"
            refine lcR (fun _ => true) (fun _ i y => y = .int ((m : Int) + t - 1 - (0 + (i : Int)))) (Cg.nil _) stab_v (by omega) (fun i H2 hi hS f => tyes_ok trivial (fun _ h => nomatch h)) (fun i H2 hi _ hS f R kk => ?_) (fun o2 H5 v2 no2 ho2 m5 _ f5 => ?_)
            · tm_at "goo"
              exact kk _ _ trivial (by tm_at "fr") rfl
            · rw [keptN_all] at m5
              rw [m5.ints] at ho2
              have ho15 := f5.at0 ho1
              have et : ((t : Int)).toNat = t := by omega
              rw [et] at ho2
              have lz2 : (zs.map (sndF H')).length = m := by simp [lz]
              refine cat_step ho15 ho2 (by simp [lz]; omega) fun pc npc => ?_
              have fc := Fr.new (o := .lst (((zs.map (sndF H')).map V.int) ++ (((List.range t).map fun i : Nat => (m : Int) + t - 1 - (0 + (i : Int))).map V.int))) npc
              have F6 := ((FB.tr f4).tr f5).tr fc
              refine q _ _ ((zs.map (sndF H')) ++ ((List.range t).map fun i : Nat => (m : Int) + t - 1 - i)) ?_ ?_ ?_ (((hB3.fr0 f4).fr0 f5).fr0 fc) F6
              · exact Box.free hB2 f (f3.free (f4.free (f5.free npc)))
              · rw [upd_same, List.map_append]
                simp only [Int.zero_add]
              · exact (List.Perm.append_right _ pz2).trans idx_add
end
end M14
set_option Elab.async false
set_option linter.all false
set_option maxRecDepth 100000
set_option maxHeartbeats 4000000
namespace M14
open PySem PySem.Spec PyProof.Rows L2

theorem yes_if {σ : L2.St} {H : Hp} {A B : Hp → Prop} (h : A H) : tYes σ H fun b H3 => if b = true then A H3 else B H3 := by
  have e : (if (true : Bool) = true then A H else B H) := by rw [if_pos rfl]; exact h
  exact e
/-- [box(.., ..) for k in range(lo, lo + n)] -/
theorem lcBox {lo : Int} {n : Nat} {te : TE} {σ : L2.St} {H1 : Hp} {j : Nat} {Qd : Addr → Hp → Prop} (hz : n ≤ 10000)
    (he : ∀ (i : Nat) H, i < n → Fr [] H1 H → ∀ R : VK, (∀ b H', H b = none → Box H' b → Fr [] H H' → R (.ref b) H') → te ((wipe σ [j]).set j (some (.int (lo + i)))) H R)
    (hd : ∀ D H' (bs : List Addr), H1 D = none → H' D = some (.lst (bs.map V.ref)) → bs.length = n → (∀ b ∈ bs, Box H' b ∧ H1 b = none ∧ b ≠ D) → Fr [] H1 H' → Qd D H') :
    ∀ D, H1 D = none → ∃ W : Nat → Nat → Hp → Prop, (∃ m, W 0 m (upd H1 D (.lst []))) ∧ ∀ i m H, W i m H →
      ((Itr lo n).stop i H ∧ Qd D H) ∨ ((Itr lo n).go i H ∧ ∃ Nx : Hp → Prop, (∀ H', Nx H' → ∃ m', m' < m ∧ W (i + 1) m' H') ∧ ∀ x H', (Itr lo n).yld i H x H' → gName j x (wipe σ [j]) H' fun σ2 H2 => wipe σ2 [j] = wipe σ [j] ∧ tYes σ2 H2 fun b H3 =>
        if b = true then te σ2 H3 fun y H4 => ∃ acc, H4 D = some (.lst acc) ∧ acc.length < sizeLine ∧ Nx (upd H4 D (.lst (acc ++ [y]))) else Nx H3) := fun D hD => by
  refine lc_range (fun i H => ∃ bs : List Addr, H D = some (.lst (bs.map V.ref)) ∧ bs.length = i ∧ (∀ b ∈ bs, Box H b ∧ H1 b = none ∧ b ≠ D) ∧ Fr [] H1 H) ⟨[], upd_same, rfl, (fun _ m => nomatch m), Fr.new hD⟩ (fun i H hi ⟨bs, h1, h2, h3, h4⟩ => ⟨wipe_again σ j _, ?_⟩) (fun H ⟨bs, h1, h2, h3, h4⟩ => hd D H bs hD h1 h2 h3 h4)
  refine yes_if ?_
  refine he i H hi h4 _ fun b H' nb hb f => ?_
  have hD' := f.at0 h1
  have nbD : b ≠ D := (ne_of_none2 nb h1).symm
  have fp : Fr [D] H' (upd H' D (.lst ((bs ++ [b]).map V.ref))) := Fr.put hD' (by intro _ z; cases z)
  refine ⟨bs.map V.ref, hD', Nat.lt_of_lt_of_le (by rw [List.length_map]; omega : (bs.map V.ref).length < 10000) (by decide), bs ++ [b], ?_⟩
  rw [show bs.map V.ref ++ [.ref b] = (bs ++ [b]).map V.ref by simp]
  refine ⟨upd_same, by simp [h2], fun c m => ?_, (h4.tr f).compN fp hD⟩
  rcases List.mem_append.mp m with m | m
  · obtain ⟨c1, c2, c3⟩ := h3 c m
    exact ⟨(c1.fr0 f).fr1 fp c3, c2, c3⟩
  · rw [List.mem_singleton.mp m]
    exact ⟨hb.fr1 fp nbD, h4.free nb, nbD⟩
theorem boxes_one {H H' : Hp} {bs : List Addr} {b : Addr} (h : ∀ c ∈ bs, Box H c) (hb : Box H' b) (f : Fr [b] H H') : ∀ c ∈ bs, Box H' c := fun c m => by
  by_cases e : c = b
  · rw [e]; exact hb
  · exact (h c m).fr1 f e
theorem boxes_fr {H H' : Hp} {bs : List Addr} {b : Addr} (h : ∀ c ∈ bs, Box H c) (m : b ∈ bs) (f : Fr [b] H H') : Fr bs H H' := f.to (fun x mx => .inl (by rw [List.mem_singleton.mp mx]; exact m)) fun a ma => (h a ma).nt a (by simp)
theorem Cg.boxes {H1 : Hp} {bs : List Addr} (h : ∀ c ∈ bs, Box H1 c) : Cg bs (fun H => ∀ c ∈ bs, Box H c) H1 :=
  ⟨fun a m => (h a m).nt a (by simp), fun a m e => (by obtain ⟨o, q⟩ := (h a m).has; rw [q] at e; cases e), fun H' f c m => (h c m).fr0 f, fun D H H' n f hs c m => (hs c m).fr1 f ((h c m).ne n).symm⟩
section
variable {P : Program} {w : World} {K : PySem.W.Frag} {mg : Str → Option Value} {base : Heap}
set_option hygiene false
local macro_rules | `(tactic| tm_at "sc") => `(tactic| (first | omega | (simp only [List.length_cons, List.length_nil, List.length_map, List.length_set, List.length_append]; omega) | (simp only [List.length_map] at h1 ⊢; omega) | (simp only [List.length_map] at c ⊢; omega) | with_reducible assumption | exact And.intro (by omega) (by omega) | exact Or.inl (And.intro (by omega) (by omega)) | exact Or.inr (And.intro (by omega) (by omega)) | decide +kernel | exact len1000 (by simp) | rfl | fail "no way"))
local macro_rules | `(tactic| tm_at "sc1") => `(tactic| (focus (simp; done)))
local macro_rules | `(tactic| tm_at "ne") => `(tactic| (first | assumption | exact Ne.symm (by assumption) | (apply Box.ne2; assumption; tm_at "hp") | (apply Ne.symm; apply Box.ne2; assumption; tm_at "hp") | (apply ne_of_none2; assumption; tm_at "hp") | (apply Ne.symm; apply ne_of_none2; assumption; tm_at "hp") | fail "no way"))
local macro_rules | `(tactic| tm_at "f0") => `(tactic| (first | assumption | (apply Fr.new; assumption) | fail "no way"))
local macro_rules | `(tactic| tm_at "hp") => `(tactic| (first | assumption | exact upd_same | (apply SqL.of; first | assumption | exact upd_same) | (apply Fr.at0; tm_at "f0"; tm_at "hp") | (apply Fr.at1n; assumption; tm_at "ne"; tm_at "hp") | (apply sqFr0; tm_at "f0"; tm_at "hp") | (apply sqFr1; assumption; tm_at "ne"; tm_at "hp") | (apply Box.fr0; tm_at "f0"; tm_at "hp") | (apply Box.fr1; assumption; tm_at "ne"; tm_at "hp") | (apply Den.fr; tm_at "f0"; tm_at "hp") | (apply Dens.fr; tm_at "f0"; tm_at "hp") | fail "no way"))
local macro_rules | `(tactic| tm_at "free0") => `(tactic| (first | assumption | (apply updFree; assumption) | (apply updFree; apply updFree; assumption) | (apply updFree; apply updFree; apply updFree; assumption) | (apply updFree; apply updFree; apply updFree; apply updFree; assumption) | fail "no way"))
local macro_rules | `(tactic| tm_at "free") => `(tactic| (first | tm_at "free0" | (apply Fr.free; assumption; tm_at "free0") | (apply Box.free; assumption; tm_at "fr"; tm_at "free0") | (apply Fr.free; assumption; apply Fr.free; assumption; tm_at "free0") | fail "no way"))
local macro_rules | `(tactic| tm_at "fr") => `(tactic| (first | assumption | exact Fr.refl0 _ | exact Fr.refl (Box.nt (by assumption)) | (refine Fr.comp0 ?_ (by tm_at "f0"); tm_at "fr") | (refine Fr.comp ?_ (by assumption); tm_at "fr") | (refine Fr.compN ?_ (by assumption) (by tm_at "free"); tm_at "fr") | fail "no way"))
local macro_rules | `(tactic| tm_at "call") => `(tactic| fail "no call")
local macro_rules | `(tactic| tm_at "call") => `(tactic| (apply take_step; tm_at "hp"; tm_at "sc"; tm_at "sc"; intro r H1 h0 h1 hB fr))
local macro_rules | `(tactic| tm_at "ty") => `(tactic| (first | assumption | exact .base .non | exact .base (.bl _) | exact .base (.int _) | exact .base (.str _) | (apply TyX.base; apply TyOf.lst; tm_at "hp") | (apply TyX.base; apply TyOf.tup; tm_at "hp") | fail "no way"))
local macro_rules | `(tactic| tm_at "pre") => `(tactic| fail "none")
local macro_rules | `(tactic| tm_at "go1") => `(tactic| (first | tm_at "pre" | refine ⟨_, rfl, ?_⟩ | refine ⟨_, _, rfl, rfl, ?_⟩ | (apply set_step; tm_at "hp"; tm_at "sc"; tm_at "sc"; intro H1 hp fr) | (with_reducible refine iteDI ?_ ?_ <;> intro c) | (with_reducible refine iteDS ?_ ?_ <;> intro c) | (with_reducible refine iteD ?_ ?_ <;> intro c) | (with_reducible refine iteEM ?_ ?_ <;> intro c) | (with_reducible refine iteE ?_ ?_ <;> intro c) | with_reducible refine iteN ?_ | with_reducible refine iteF ?_ | with_reducible refine iteT ?_ | (refine fun (p : Addr) (np : _ = (none : Option HO)) => ?_; fail_if_success (refine ⟨fun (_ _ : Nat) (_ : Hp) => True, ?_⟩)) | (apply isi_tt; tm_at "ty"; focus (decide +kernel)) | (apply isi_ff; tm_at "ty"; focus (decide +kernel)) | (apply sl_step; tm_at "hp"; intro qq H1 ms nq hq fr) | (apply sum_step; tm_at "hp"; intro i) | (apply tru_step; tm_at "hp") | (apply len_step; tm_at "hp") | (apply lenq_step; assumption) | (apply ixq_step; assumption; tm_at "sc"; tm_at "sc"; intro v hv) | (apply lst_step; tm_at "hp") | (apply tupl_step; tm_at "hp") | (apply ixr_step; tm_at "hp"; exact rfl) | (apply ix0_step; tm_at "hp") | (apply ix1_step; tm_at "hp") | (apply ix2_step; tm_at "hp") | (apply ixi_step; tm_at "hp"; tm_at "sc"; tm_at "sc"; intro n hn hn') | (apply ixl_step; tm_at "hp"; tm_at "sc"; tm_at "sc"; intro v hv) | (apply ixt_step; tm_at "hp"; tm_at "sc"; tm_at "sc"; intro v hm hv) | (apply in_step; tm_at "hp"; rfl; rfl) | (apply cat_step; tm_at "hp"; tm_at "hp"; tm_at "sc") | (apply catT_step; tm_at "hp"; tm_at "hp"; tm_at "sc1") | (apply tyL_and; tm_at "hp") | (apply app_step; tm_at "hp"; tm_at "sc"; intro H1 hp fr) | tm_at "call" | refine ⟨⟨_, rfl⟩, ?_⟩ | (apply ixs_step; tm_at "sc"; tm_at "sc"; tm_at "sc"; intro ch) | refine .inl ⟨_, rfl, ?_⟩ | refine .inr ⟨_, rfl, ?_⟩ | (apply And.intro; tm_at "sc") | (with_reducible refine wayB ?_ ?_ <;> intro c) | fail "no way"))
local macro_rules | `(tactic| tm_at "go") => `(tactic| (repeat tm_at "go1"))
local macro_rules | `(tactic| tm_at "goo") => `(tactic| (repeat' tm_at "go1"))
local macro_rules | `(tactic| tm_at "den") => `(tactic| (first | assumption | exact Den.str _ | exact Den.int _ | exact Den.bl _ | exact Den.non | (apply Den.tups; tm_at "hp"; tm_at "dens") | (apply Den.fr; tm_at "f0"; tm_at "den") | fail "no way"))
local macro_rules | `(tactic| tm_at "dens") => `(tactic| (first | assumption | exact Dens.nil | (apply Dens.cons; tm_at "den"; tm_at "dens") | (apply Dens.fr; tm_at "f0"; tm_at "dens") | fail "no way"))
local macro_rules | `(tactic| tm_at "ix") => `(tactic| (apply Ix.mk; tm_at "hp"; tm_at "ne"; assumption; assumption))
local macro_rules | `(tactic| tm_at "dep") => `(tactic| (first | assumption | exact Dep.int | exact Dep.str | exact Dep.bl | exact Dep.non | (apply Dep.tup; tm_at "dlen"; tm_at "deps") | (apply Dep.mono; assumption; decide) | fail "no way"))
local macro_rules | `(tactic| tm_at "deps") => `(tactic| (first | assumption | exact memN | (apply memC; tm_at "dep"; tm_at "deps") | fail "no way"))
local macro_rules | `(tactic| tm_at "dlen") => `(tactic| (first | assumption | (focus (simp; done)) | omega | fail "no way"))
local macro_rules | `(tactic| tm_at "pre") => `(tactic| (apply rep_step; tm_at "hp"; tm_at "sc"; tm_at "sc"; intro rp H1 nrp hrp fr))

local macro_rules | `(tactic| tm_at "call") => `(tactic| (apply word_step; tm_at "hp"; intro v H1 hv hB fr))
local macro_rules | `(tactic| tm_at "call") => `(tactic| (apply name_step; tm_at "hp"; intro v H1 hv hB fr))
local macro_rules | `(tactic| tm_at "call") => `(tactic| (apply plain_step; tm_at "hp"; intro v H1 t hd he hB fr))
local macro_rules | `(tactic| tm_at "call") => `(tactic| (apply entry_step; tm_at "hp"; tm_at "ix"; tm_at "ix"; intro v H1 t hd he hB fr))
local macro_rules | `(tactic| tm_at "call") => `(tactic| (apply kinds_step; intro p H1 np hp fr))
local macro_rules | `(tactic| tm_at "call") => `(tactic| (apply kind_step; tm_at "hp"; intro v H1 hv hB fr))
local macro_rules | `(tactic| tm_at "call") => `(tactic| (apply marks_step; intro m))
local macro_rules | `(tactic| tm_at "pre") => `(tactic| (apply strInt_step; tm_at "sc"; intro s hs))
local macro_rules | `(tactic| tm_at "pre") => `(tactic| (apply addS_step; tm_at "sc"; intro s hs))

local macro_rules | `(tactic| tm_at "lk") => `(tactic| (first | with_reducible exact lookup_eq | ((with_reducible apply lookup_ne); (focus (decide +kernel)); tm_at "lk") | assumption | rfl | fail "no way"))
local macro_rules | `(tactic| tm_at "pf") => `(tactic| (first | with_reducible exact putF_nil | with_reducible exact putF_eq | ((with_reducible apply putF_ne); (focus (decide +kernel)); tm_at "pf") | fail "no way"))
local macro_rules | `(tactic| tm_at "fl") => `(tactic| (first | assumption | focus (simp only [List.length_cons, List.length_nil]; omega) | focus (simp only [List.length_cons, List.length_nil]; done) | focus (decide) | focus (simp; done) | focus (simp; omega) | fail "no way"))
local macro_rules | `(tactic| tm_at "pre") => `(tactic| (apply fld_step; tm_at "hp"; assumption; assumption; tm_at "lk"))
local macro_rules | `(tactic| tm_at "pre") => `(tactic| (apply putf_step; tm_at "hp"; assumption; assumption; tm_at "fl"; tm_at "pf"; intro H1 hp fr))
local macro_rules | `(tactic| tm_at "pre") => `(tactic| (apply aug_step; tm_at "hp"; assumption; assumption; tm_at "lk"))
local macro_rules | `(tactic| tm_at "pre") => `(tactic| (apply put2_step; tm_at "hp"; tm_at "fl"; tm_at "pf"; intro H1 hp fr))
local macro_rules | `(tactic| tm_at "pre") => `(tactic| (apply dget_step; tm_at "hp"; tm_at "lk"))
local macro_rules | `(tactic| tm_at "pre") => `(tactic| (apply dput_step; tm_at "hp"; (focus (omega)); intro H1 hp fr))
local macro_rules | `(tactic| tm_at "pre") => `(tactic| (apply mth_step; tm_at "hp"; tm_at "lk"))
local macro_rules | `(tactic| tm_at "pre") => `(tactic| (apply lenD_step; tm_at "hp"))
local macro_rules | `(tactic| tm_at "pre") => `(tactic| (apply addI_step))
local macro_rules | `(tactic| tm_at "pre") => `(tactic| (apply newD_step; intro dn H1 nd hp fr))
local macro_rules | `(tactic| tm_at "fr2") => `(tactic| (first | assumption | (apply Fr.appMb; assumption; (focus (simp; done)); tm_at "fr2") | (apply Fr.app0b; tm_at "f0"; tm_at "fr2") | (apply Fr.appNb; assumption; tm_at "free"; tm_at "fr2") | fail "no way"))
local macro_rules | `(tactic| tm_at "ne") => `(tactic| (apply ne_role; assumption; assumption; (focus (decide))))
local macro_rules | `(tactic| tm_at "pre") => `(tactic| (apply dnotin_step; tm_at "hp"))
local macro_rules | `(tactic| tm_at "pre") => `(tactic| (apply din_step; tm_at "hp"))

@[irreducible] def spNodes (K : PySem.W.Frag) : Sp := fun vs H Q _ => ∃ (ρ : Role) (a : Addr) (ns : List Int) (m t : Nat), vs = [.ref a, .int m, .int t] ∧ SqL K H a (ns.map V.int) ∧ 1 ≤ m ∧ m ≤ 30 ∧ t ≤ 1150 ∧
  ∀ N H' ρ' (xs : List Nd), H N = none → NdA K ρ' 3 xs.length H' N xs → xs.length = m + t → Ext H ρ ρ' → Fr [] H H' → Q (.ref N) H'
theorem nodes_step {ρ : Role} {a : Addr} {ns : List Int} {m t : Nat} {H : Hp} {Q : VK} {E : XK} (h1 : SqL K H a (ns.map V.int)) (h2 : 1 ≤ m) (h3 : m ≤ 30) (h4 : t ≤ 1150) (q : ∀ N H' ρ' (xs : List Nd), H N = none → NdA K ρ' 3 xs.length H' N xs → xs.length = m + t → Ext H ρ ρ' → Fr [] H H' → Q (.ref N) H') : spNodes K ([.ref a, .int m, .int t] ++ []) H Q E := by
  unfold spNodes; exact ⟨ρ, a, ns, m, t, rfl, h1, h2, h3, h4, q⟩
theorem strs_b {n : Nat} {ys : List V} (h : ∀ y ∈ ys, isS n y) : ∃ ss : List Str, ys = ss.map V.str := let ⟨ss, e, _⟩ := strs_of h; ⟨ss, e⟩
theorem str_at {ks : List Str} {i : Nat} {v : V} (h : (ks.map V.str)[i]? = some v) : ∃ st, ks[i]? = some st ∧ v = .str st := by
  rw [List.getElem?_map] at h
  cases e : ks[i]? with
  | none => rw [e] at h; cases h
  | some st => rw [e] at h; exact ⟨st, rfl, (Option.some.inj h).symm⟩
theorem ref_at {bs : List Addr} {i : Nat} {v : V} (h : (bs.map V.ref)[i]? = some v) : ∃ b, bs[i]? = some b ∧ v = .ref b := by
  rw [List.getElem?_map] at h
  cases e : bs[i]? with
  | none => rw [e] at h; cases h
  | some b => rw [e] at h; exact ⟨b, rfl, (Option.some.inj h).symm⟩
/-- the pool of all object numbers -/
theorem pool_ix {H : Hp} {p b : Addr} {n : Nat} (hp : H p = some (.lst (((List.range n).map fun i : Nat => (0 : Int) + (i : Int)).map V.int))) (ne : p ≠ b) (hn : n ≤ 1000) : Ix K H p b n ((List.range n).map fun i : Nat => (0 : Int) + (i : Int)) :=
  ⟨.of hp, ne, by simpa using hn, fun x m => by
    obtain ⟨i, hi, rfl⟩ := List.mem_map.mp m
    have := List.mem_range.mp hi
    omega⟩
/-- while the drawn nodes are made -/
@[irreducible] def N1Mid (K : PySem.W.Frag) (ρ0 : Role) (N : Addr) (bs : List Addr) (n0 : Int) (H : Hp) (σ : L2.St) (i : Nat) (σ' : L2.St) (H' : Hp) : Prop :=
  ∃ (x y : Option V) (ρ' : Role) (xs : List Nd), σ' = (σ.set 4 x).set 10 y ∧ NdA K ρ' 3 n0 H' N xs ∧ xs.length = i ∧ (∀ b ∈ bs, Box H' b ∧ ρ' b = none) ∧ Ext H ρ0 ρ' ∧ Fr (N :: bs) H H'
theorem N1Mid.of {ρ0 : Role} {N : Addr} {bs : List Addr} {n0 : Int} {H : Hp} {σ σ' : L2.St} {i : Nat} {H' : Hp} {x y : Option V} {ρ' : Role} {xs : List Nd} (e : σ' = (σ.set 4 x).set 10 y) (h1 : NdA K ρ' 3 n0 H' N xs) (h2 : xs.length = i) (h3 : ∀ b ∈ bs, Box H' b ∧ ρ' b = none) (h4 : Ext H ρ0 ρ') (h5 : Fr (N :: bs) H H') : N1Mid K ρ0 N bs n0 H σ i σ' H' := by
  unfold N1Mid; exact ⟨x, y, ρ', xs, e, h1, h2, h3, h4, h5⟩
/-- while the chain is made -/
@[irreducible] def N2Mid (K : PySem.W.Frag) (ρ0 : Role) (N : Addr) (m t : Nat) (H : Hp) (σ : L2.St) (i : Nat) (σ' : L2.St) (H' : Hp) : Prop :=
  ∃ (x : Option V) (ρ' : Role) (xs : List Nd), σ' = σ.set 4 x ∧ NdA K ρ' 3 (m + t + 1 : Nat) H' N xs ∧ xs.length = m + i ∧ (∀ (j : Nat) (z : Nd), xs[j]? = some z → j + 1 < m + t ∨ t = 0 → ∀ u ∈ z.ts, EntOk (m + t : Nat) u) ∧ Ext H ρ0 ρ' ∧ Fr [N] H H'
theorem N2Mid.of {ρ0 : Role} {N : Addr} {m t : Nat} {H : Hp} {σ σ' : L2.St} {i : Nat} {H' : Hp} {x : Option V} {ρ' : Role} {xs : List Nd} (e : σ' = σ.set 4 x) (h1 : NdA K ρ' 3 (m + t + 1 : Nat) H' N xs) (h2 : xs.length = m + i) (h3 : ∀ (j : Nat) (z : Nd), xs[j]? = some z → j + 1 < m + t ∨ t = 0 → ∀ u ∈ z.ts, EntOk (m + t : Nat) u) (h4 : Ext H ρ0 ρ') (h5 : Fr [N] H H') : N2Mid K ρ0 N m t H σ i σ' H' := by
  unfold N2Mid; exact ⟨x, ρ', xs, e, h1, h2, h3, h4, h5⟩
abbrev s_nodes : Stmt := top 35
theorem sc_nodes : FnScope ["_law_script", "_law_many", "_law_tall", "_law_boxes", "_law_k", "_law_kinds_here", "_law_box_here", "_law_pool", "_law_errors", "_law_nodes_here", "_law_form_here"] ["_law_script", "_law_many", "_law_tall"] (defScope s_nodes) := ⟨rfl, rfl, rfl, by decide +kernel, rfl, by decide +kernel, by decide +kernel⟩

theorem ok_nodes (T : Bl mg) (G_box : Cal P w K mg base 2 "_law_box" ["_law_script", "_law_k"] (spBox K)) (G_kind : Cal P w K mg base 2 "_law_kind" ["_law_box_here"] spKind) (G_form : Cal P w K mg base 7 "_law_form" ["_law_box_here", "_law_kind_here", "_law_pool", "_law_errors"] (spForm K))
    (D : Def1 K mg "_law_nodes" s_nodes) : Cal P w K mg base 8 "_law_nodes" ["_law_script", "_law_many", "_law_tall"] (spNodes K) := by
  refine D.cal sc_nodes (fun _ _ _ _ _ _ us hl => match us, hl with | [_, _, _], _ => rfl) (fun vs H Q E h => ?_) (fun f cdv A outer s H vs Q E hr h => ?_) <;> unfold spNodes at h
  · obtain ⟨ρ, a, ns, m, t, rfl, _⟩ := h
    rfl
  · obtain ⟨ρ, a, ns, m, t, rfl, ha, m1, m2, t2, q⟩ := h
    refine ⟨_, (pss_cons (ps_setLc (i := 3) (own := [("_law_k", 4)]) (g := gName 4) (by rfl) sc_nodes.nd rfl rfl (sw_true rfl rfl rfl (by decide +kernel)) (pi_range1 (by rfl) T.z_range (pa_cons (pv 1) pa_nil)) (blkOk_by (own := [("_law_k", 4)]) (N := [("_law_script" : Str), ("_law_many" : Str), ("_law_tall" : Str), ("_law_boxes" : Str), ("_law_k" : Str), ("_law_kinds_here" : Str), ("_law_box_here" : Str), ("_law_pool" : Str), ("_law_errors" : Str), ("_law_nodes_here" : Str), ("_law_form_here" : Str)]) (sc := defScope s_nodes) (by decide +kernel)) (fun _ _ _ _ _ => pg_name (i := 4) sc_nodes.nd rfl (Or.inl rfl)) (fun _ _ _ _ _ => pts_nil) (fun _ _ _ _ _ => (pe_cal G_box (hr.mono (by omega)) (by rfl) (pa_cons (pv 0) (pa_cons (pe_op op_add pe_int (pv 4)) pa_nil)))))
    (pss_cons (ps_set (i := 5) sc_nodes.nd rfl (Or.inr rfl) (pe_lc (own := [("_law_box_here", 6)]) (g := gName 6) (by rfl) sc_nodes.nd (pi_list (pv 3)) (blkOk_by (own := [("_law_box_here", 6)]) (N := [("_law_script" : Str), ("_law_many" : Str), ("_law_tall" : Str), ("_law_boxes" : Str), ("_law_k" : Str), ("_law_kinds_here" : Str), ("_law_box_here" : Str), ("_law_pool" : Str), ("_law_errors" : Str), ("_law_nodes_here" : Str), ("_law_form_here" : Str)]) (sc := defScope s_nodes) (by decide +kernel)) (fun _ _ _ _ _ => pg_name (i := 6) sc_nodes.nd rfl (Or.inl rfl)) (fun _ _ _ _ _ => pts_nil) (fun _ _ _ _ _ => (pe_cal G_kind (hr.mono (by omega)) (by rfl) (pa_cons (pv 6) pa_nil)))))
    (pss_cons (ps_setLc (i := 7) (own := [("_law_k", 4)]) (g := gName 4) (by rfl) sc_nodes.nd rfl rfl (sw_true rfl rfl rfl (by decide +kernel)) (pi_range1 (by rfl) T.z_range (pa_cons (pe_op op_add (pv 1) (pe_callTy call_int1 (by rfl) T.z_int (by decide +kernel) (pa_cons (pe_cmpR op_gt (pv 2) pe_int (nomark _)) pa_nil))) pa_nil)) (blkOk_by (own := [("_law_k", 4)]) (N := [("_law_script" : Str), ("_law_many" : Str), ("_law_tall" : Str), ("_law_boxes" : Str), ("_law_k" : Str), ("_law_kinds_here" : Str), ("_law_box_here" : Str), ("_law_pool" : Str), ("_law_errors" : Str), ("_law_nodes_here" : Str), ("_law_form_here" : Str)]) (sc := defScope s_nodes) (by decide +kernel)) (fun _ _ _ _ _ => pg_name (i := 4) sc_nodes.nd rfl (Or.inl rfl)) (fun _ _ _ _ _ => pts_nil) (fun _ _ _ _ _ => (pv 4)))
    (pss_cons (ps_setLc (i := 8) (own := [("_law_k", 4)]) (g := gName 4) (by rfl) sc_nodes.nd rfl rfl (sw_true rfl rfl rfl (by decide +kernel)) (pi_range1 (by rfl) T.z_range (pa_cons (pv 1) pa_nil)) (blkOk_by (own := [("_law_k", 4)]) (N := [("_law_script" : Str), ("_law_many" : Str), ("_law_tall" : Str), ("_law_boxes" : Str), ("_law_k" : Str), ("_law_kinds_here" : Str), ("_law_box_here" : Str), ("_law_pool" : Str), ("_law_errors" : Str), ("_law_nodes_here" : Str), ("_law_form_here" : Str)]) (sc := defScope s_nodes) (by decide +kernel)) (fun _ _ _ _ _ => pg_name (i := 4) sc_nodes.nd rfl (Or.inl rfl)) (fun _ _ _ _ _ => (pts_one (pt_cmpR op_eq (pe_ix (ixL K) (pv 5) (pv 4) (fun _ _ => rfl)) pe_str (nomark _)))) (fun _ _ _ _ _ => (pv 4)))
    (pss_cons (ps_set (i := 9) sc_nodes.nd rfl (Or.inl rfl) (pe_lst pa_nil))
    (pss_cons (ps_for PassesOwn.never rfl (pi_range1 (by rfl) T.z_range (pa_cons (pv 1) pa_nil)) (pg_name (i := 4) sc_nodes.nd rfl (Or.inl rfl))
      (pss_cons (ps_set (i := 10) sc_nodes.nd rfl (Or.inl rfl) (pe_cal G_form (hr.mono (by omega)) (by rfl) (pa_cons (pe_ix (ixL K) (pv 3) (pv 4) (fun _ _ => rfl)) (pa_cons (pe_ix (ixL K) (pv 5) (pv 4) (fun _ _ => rfl)) (pa_cons (pv 7) (pa_cons (pv 8) pa_nil))))))
      (pss_one (ps_expr (pe_bm PySem.F.plainAttrs_list PySem.F.slot_list_append PySem.F.type_list_append mtApp (pv 9) (pa_cons (pe_lst (pa_cons (pe_ix (ixL K) (pv 5) (pv 4) (fun _ _ => rfl)) (pa_cons (pe_ix (ixT K) (pv 10) pe_int (fun _ _ => rfl)) (pa_cons (pe_ix (ixT K) (pv 10) pe_int (fun _ _ => rfl)) pa_nil)))) pa_nil))))))
    (pss_cons (ps_for PassesOwn.never rfl (pi_range1 (by rfl) T.z_range (pa_cons (pv 2) pa_nil)) (pg_name (i := 4) sc_nodes.nd rfl (Or.inl rfl))
      (pss_one (ps_expr (pe_bm PySem.F.plainAttrs_list PySem.F.slot_list_append PySem.F.type_list_append mtApp (pv 9) (pa_cons (pe_lst (pa_cons pe_str (pa_cons pe_non (pa_cons (pe_lst (pa_cons (pe_tup (pa_cons pe_str (pa_cons (pe_op op_add (pe_op op_add (pv 1) (pv 4)) pe_int) pa_nil))) pa_nil)) pa_nil)))) pa_nil)))))
    (pss_cons (ps_if (pt_cmpR op_gt (pv 2) pe_int (nomark _))
      (pss_one (ps_asg (pe_lst (pa_cons pe_str (pa_cons pe_non (pa_cons (pe_lst (pa_cons (pe_tup (pa_cons pe_str (pa_cons pe_int pa_nil))) pa_nil)) pa_nil)))) (pg_sub (pv 9) (pe_op op_sub (pe_op op_add (pv 1) (pv 2)) pe_int) setL)))
      pss_nil)
    (pss_one (ps_ret (pv 9))))))))))), ?_⟩
    tm_at "goo"
    refine lcBox (by omega) (fun i H2 hi f R kk => ?_) (fun bl H2 bs nbl hbl lbs hbs f2 => ?_)
    · tm_at "goo"
      refine box_step (sqFr0 f ha) (by omega) fun b H' nb hb f' => ?_
      exact kk _ _ nb hb f'
    · tm_at "goo"
      have hB2 : ∀ c ∈ bs, Box H2 c := fun c mc => (hbs c mc).1
      have nbl2 : bl ∉ bs := fun mb => (hbs bl mb).2.2 rfl
      refine ⟨⟨_, .of hbl⟩, ?_⟩
      refine lcL (fun _ => true) (fun _ _ y => isS 100 y) (Cg.boxes hB2) stab_v (.of hbl) nbl2 (by simp; omega) (fun i x H hi hS f => tyes_ok hS fun a ma => (hS a ma).nt a (by simp)) (fun i x H hi _ hS f R kk => ?_) (fun kl H3 kv nkl hkl m3 hB3 f3 => ?_)
      · obtain ⟨b, eb, rfl⟩ : ∃ b, bs[i]? = some b ∧ x = .ref b := by
          rw [List.getElem?_map] at hi
          cases e : bs[i]? with
          | none => rw [e] at hi; cases hi
          | some b => rw [e] at hi; exact ⟨b, rfl, (Option.some.inj hi).symm⟩
        have mb := List.mem_of_getElem? eb
        have hb := hS b mb
        tm_at "goo"
        exact kk _ _ (boxes_one hS hB fr) (boxes_fr hS mb fr) hv
      · rw [keptN_all] at m3
        have lk := m3.all.1
        obtain ⟨ks, rfl⟩ := strs_b (n := 100) fun y my => let ⟨_, _, z⟩ := m3.mem my; z
        have lks : ks.length = m := by simp at lk; omega
        tm_at "goo"
        refine lcR (fun _ => true) (fun _ i y => y = .int (0 + (i : Int))) (Cg.nil _) stab_v (by split <;> omega) (fun i H2 hi hS f => tyes_ok trivial (fun _ h => nomatch h)) (fun i H2 hi _ hS f R kk => ?_) (fun pl H4 pv npl hpl m4 _ f4 => ?_)
        · tm_at "goo"
          exact kk _ _ trivial (by tm_at "fr") rfl
        · rw [keptN_all] at m4
          rw [m4.ints] at hpl
          have hkl4 := f4.at0 hkl
          tm_at "goo"
          refine lcR (fun i => decide (ks[i]? = some (Str.ofString "instance"))) (fun _ i y => y = .int (0 + (i : Int))) (Cg.nil _) stab_v (by omega) (fun i H2 hi hS f R kk => ?_) (fun i H2 hi _ hS f R kk => ?_) (fun el H5 ev nel hel m5 _ f5 => ?_)
          · have hkl5 := f.at0 hkl4
            have hi' : i < m := by omega
            rw [show (0 : Int) + (i : Int) = i from Int.zero_add _]
            tm_at "goo"
            obtain ⟨st, es, rfl⟩ := str_at hv
            rw [Int.toNat_natCast] at es
            have ed : decide (ks[i]? = some (Str.ofString "instance")) = decide (V.str st = V.str (Str.ofString "instance")) := by
              rw [es]
              by_cases z : st = Str.ofString "instance" <;> simp [z]
            tm_at "goo"
            rw [← ed]
            exact kk _ trivial (by tm_at "fr")
          · tm_at "goo"
            exact kk _ _ trivial (by tm_at "fr") rfl
          · rw [m5.ints] at hel
            obtain ⟨n0, e0, c1, c2, c3⟩ : ∃ n0 : Nat, ((m : Int) + if decide ((0 : Int) < t) = true then 1 else 0).toNat = n0 ∧ m ≤ n0 ∧ n0 ≤ 31 ∧ n0 ≤ m + t := by
              by_cases z : (0 : Int) < t
              · exact ⟨m + 1, by rw [decide_eq_true z, if_pos rfl]; omega, by omega, by omega, by omega⟩
              · exact ⟨m, by rw [decide_eq_false z, if_neg (by decide)]; omega, by omega, by omega, by omega⟩
            rw [e0] at hpl
            have lel : ((keptN (fun i => decide (ks[i]? = some (Str.ofString "instance"))) ((m : Int)).toNat).map fun i : Nat => (0 : Int) + (i : Int)).length ≤ 1000 := by
              rw [List.length_map]
              exact Nat.le_trans (keptN_le _ _) (by omega)
            have iel : ∀ e ∈ (keptN (fun i => decide (ks[i]? = some (Str.ofString "instance"))) ((m : Int)).toNat).map fun i : Nat => (0 : Int) + (i : Int), 0 ≤ e ∧ e < (n0 : Int) := fun e me => by
              obtain ⟨i, hi, rfl⟩ := List.mem_map.mp me
              have := (kept_in hi).1
              omega
            generalize (keptN (fun i => decide (ks[i]? = some (Str.ofString "instance"))) ((m : Int)).toNat).map (fun i : Nat => (0 : Int) + (i : Int)) = els at *
            tm_at "goo"
            obtain ⟨N, hNp⟩ : ∃ z, z = p := ⟨_, rfl⟩
            subst hNp
            have f6 := Fr.new (o := .lst []) np
            have hB3' : ∀ c ∈ bs, Box (upd H5 N (.lst [])) c := fun c mc => ((hB3 c mc).fr0 f4 |>.fr0 f5).fr0 f6
            have nNb : ∀ c ∈ bs, N ≠ c := fun c mc => (((hB3 c mc).fr0 f4).fr0 f5).ne np
            have F35 : Fr [] H3 H5 := f4.tr f5
            have npb : ∀ c ∈ bs, pl ≠ c := fun c mc => (hB3 c mc).ne (by assumption)
            have neb : ∀ c ∈ bs, el ≠ c := fun c mc => ((hB3 c mc).fr0 f4).ne (by assumption)
            have nkb : ∀ c ∈ bs, kl ≠ c := fun c mc => (hB2 c mc).ne (by assumption)
            have nlb : ∀ c ∈ bs, bl ≠ c := fun c mc => (hbs c mc).2.2.symm
            have hN6 : upd H5 N (.lst []) N = some (.lst []) := upd_same
            have hpl6 := f6.at0 (f5.at0 hpl)
            have hel6 := f6.at0 hel
            have hkl6 := f6.at0 (F35.at0 hkl)
            have hbl6 : upd H5 N (.lst []) bl = some (.lst (bs.map V.ref)) := f6.at0 (F35.at0 (f3.kp _ _ hbl nbl2))
            have nplN : pl ≠ N := ne_of_none2 np (f5.at0 hpl)
            have nelN : el ≠ N := ne_of_none2 np hel
            have nklN : kl ≠ N := ne_of_none2 np (F35.at0 hkl)
            have nblN : bl ≠ N := ne_of_none2 np (F35.at0 (f3.kp _ _ hbl nbl2))
            have F06 : Fr [] H (upd H5 N (.lst [])) := ((f2.app f3 fun x mx => .inr (hbs x mx).2.1).tr F35).tr f6
            have nN0 : H N = none := ((f2.app f3 fun x mx => .inr (hbs x mx).2.1).tr F35).free np
            have ex1 : Ext H ρ (role1 (hide ρ bs) N (3, 2, 0)) := ext_trans (hide_ext fun c mc => (hbs c mc).2.1) (role1_ext nN0)
            have rb1 : ∀ c ∈ bs, role1 (hide ρ bs) N (3, 2, 0) c = none := fun c mc => by rw [role1_ne (nNb c mc).symm]; exact hide_at mc
            have hNd : NdA K (role1 (hide ρ bs) N (3, 2, 0)) 3 n0 (upd H5 N (.lst [])) N [] := ⟨by simpa using hN6, role1_at, fun i y e => by simp at e, fun i y e => by simp at e, fun i y e => by simp at e, by simp⟩
            have nt6 : ∀ c ∈ N :: bs, ∀ zs, upd H5 N (.lst []) c ≠ some (.tup zs) := fun c mc zs e => by
              rcases List.mem_cons.mp mc with rfl | mc
              · rw [hN6] at e; cases e
              · exact (hB3' c mc).nt c (by simp) zs e
            generalize upd H5 N (.lst []) = H6 at *
            generalize role1 (hide ρ bs) N (3, 2, 0) = ρ1 at *
            have kept : ∀ {c : Addr} {o : HO} {H' : Hp}, H6 c = some o → c ≠ N → (∀ d ∈ bs, c ≠ d) → Fr (N :: bs) H6 H' → H' c = some o := fun h n1 n2 f => f.kp _ _ h fun mc => by
              rcases List.mem_cons.mp mc with z | mc
              · exact n1 z
              · exact n2 _ mc rfl
            refine forR (N1Mid K ρ1 N bs n0 H6 [some (.ref a), some (.int m), some (.int t), some (.ref bl), none, some (.ref kl), none, some (.ref pl), some (.ref el), some (.ref N), none]) (N1Mid.of (x := none) (y := none) rfl hNd rfl (fun c mc => ⟨hB3' c mc, rb1 c mc⟩) Ext.refl (.refl nt6)) (fun k σ' H7 hk hP => ?_) (fun σ' H7 hP => ?_)
            · unfold N1Mid at hP
              obtain ⟨x, y, ρ2, xs, rfl, hNk, lxs, hbk, exk, fk⟩ := hP
              have hk' : k < m := by omega
              rw [show (0 : Int) + (k : Int) = k from Int.zero_add _]
              have hbl7 := kept hbl6 nblN nlb fk
              have hkl7 := kept hkl6 nklN nkb fk
              have hpl7 := kept hpl6 nplN npb fk
              have hel7 := kept hel6 nelN neb fk
              have lb2 : (k : Int) < (bs.map V.ref).length := by simp; omega
              have lk2 : (k : Int) < (ks.map V.str).length := by simp; omega
              tm_at "goo"
              rename_i vb hvb
              rw [Int.toNat_natCast] at hvb hv
              obtain ⟨b, eb, rfl⟩ := ref_at hvb
              obtain ⟨kd, ek, rfl⟩ := str_at hv
              have mb := List.mem_of_getElem? eb
              obtain ⟨hbb, rbb⟩ := hbk b mb
              refine form_step (n := n0) hbb (pool_ix hpl7 (npb b mb) (by omega)) ⟨.of hel7, neb b mb, lel, iel⟩ fun fm l tg es2 H8 hF hB8 f8 => ?_
              obtain ⟨ft, fl, fnew, flen, ⟨fts, fden, fok⟩, ⟨ftg, ftd, ftp⟩⟩ := hF
              have nlb' : ∀ c ∈ bs, l ≠ c := fun c mc => ((hbk c mc).1).ne fnew
              have hkl8 := f8.at1n (nkb b mb) hkl7
              have nNbb : N ≠ b := nNb b mb
              have hN7 := hNk.at_
              have hN8 := f8.at1n nNbb hN7
              have lxs2 : (xs.map fun x => V.ref x.nd).length < 10000 := by simp; omega
              tm_at "goo"
              rw [Int.toNat_natCast] at hv
              obtain ⟨kd2, ek2, rfl⟩ := str_at hv
              have npN : p ≠ N := (ne_of_none2 np hN8).symm
              have exa : Ext H7 ρ2 (role1 ρ2 l (3, 4, xs.length)) := role1_ext fnew
              have rba : role1 ρ2 l (3, 4, xs.length) b = none := by rw [role1_ne (nlb' b mb).symm]; exact rbb
              have hNa := (hNk.ext exa).frM f8 (.one rba)
              have fN : Fr [N] H8 H1 := ((Fr.reflL hN8).tr (Fr.new np)).trans fr
              have hadd := hNa.add1 np role1_at fl hp (fr.at1n npN upd_same) fN fden fok ftd ftp flen (by omega)
              have hB8a := boxes_one (fun c m => (hbk c m).1) hB8 f8
              have al7 : ∀ q, H6 q ≠ none → H7 q ≠ none := alive fk fun c mc => by
                rcases List.mem_cons.mp mc with rfl | mc
                · exact some_ne hN7
                · obtain ⟨o, z⟩ := (hbk c mc).1.has
                  exact some_ne z
              have al8 : ∀ q, H7 q ≠ none → H8 q ≠ none := alive f8 fun c mc => by
                rw [List.mem_singleton.mp mc]
                obtain ⟨o, z⟩ := hB8.has
                exact some_ne z
              refine N1Mid.of rfl hadd (by simp [lxs]) (fun c mc => ⟨((hB8a c mc).fr0 (Fr.new np)).fr1 fr (nNb c mc).symm, ?_⟩) (fun q n => ?_) ((fk.app (boxes_fr (fun c m => (hbk c m).1) mb f8) fun x mx => .inl (List.mem_cons_of_mem _ mx)).app fN fun x mx => .inl (by rw [List.mem_singleton.mp mx]; simp))
              · rw [role1_ne ((hB8a c mc).ne np).symm, role1_ne (nlb' c mc).symm]
                exact (hbk c mc).2
              · have n7 := al7 q n
                rw [role1_ext np q (al8 q n7), exa q n7, exk q n]
            · unfold N1Mid at hP
              obtain ⟨x, y, ρ2, xs, rfl, hNk, lxs, hbk, exk, fk⟩ := hP
              have em : ((m : Int)).toNat = m := by omega
              rw [em] at lxs
              have hN7 := hNk.at_
              have al7 : ∀ q, H6 q ≠ none → H7 q ≠ none := alive fk fun c mc => by
                rcases List.mem_cons.mp mc with rfl | mc
                · exact some_ne hN7
                · obtain ⟨o, z⟩ := (hbk c mc).1.has
                  exact some_ne z
              have F07 : Fr [] H H7 := F06.app fk fun c mc => .inr (by
                rcases List.mem_cons.mp mc with rfl | mc
                · exact nN0
                · exact (hbs c mc).2.1)
              have al6 : ∀ q, H q ≠ none → H6 q ≠ none := alive F06 fun _ z => nomatch z
              have ex07 : Ext H ρ ρ2 := fun q n => by rw [exk q (al6 q n), ex1 q n]
              tm_at "goo"
              have et : ((t : Int)).toNat = t := by omega
              have ok0 : ∀ (i : Nat) (z : Nd), xs[i]? = some z → ∀ u ∈ z.ts, EntOk (m + t : Nat) u := fun i z ez u mu => ((hNk.ok i z ez).2.1 u mu).mono (by omega)
              have hN0b : NdA K ρ2 3 (m + t + 1 : Nat) H7 N xs := hNk.bound fun i z ez u mu => (ok0 i z ez u mu).mono (by omega)
              refine forR (N2Mid K ρ2 N m t H7 ([some (.ref a), some (.int m), some (.int t), some (.ref bl), none, some (.ref kl), none, some (.ref pl), some (.ref el), some (.ref N), none].set 10 y)) (N2Mid.of (x := x) rfl hN0b (by omega) (fun i z ez _ => ok0 i z ez) Ext.refl (Fr.reflL hN7)) (fun k σ' H8 hk hP => ?_) (fun σ' H8 hP => ?_)
              · unfold N2Mid at hP
                obtain ⟨x, ρ3, xs3, rfl, hN3, lx3, ok3, ex3, f3⟩ := hP
                rw [et] at hk
                have hN8 := hN3.at_
                have lxs3 : (xs3.map fun x => V.ref x.nd).length < 10000 := by simp; omega
                rw [show (0 : Int) + (k : Int) = k from Int.zero_add _]
                tm_at "goo"
                rename_i tq ntq rq nrq
                have qa : H8 p = none := updFree (updFree np)
                have ql : H8 rq = none := updFree nrq
                have npr : p ≠ rq := (ne_of_none2 np upd_same).symm
                have npN : p ≠ N := (ne_of_none2 qa hN8).symm
                have nrN : rq ≠ N := (ne_of_none2 ql hN8).symm
                have ntN : tq ≠ N := (ne_of_none2 ntq hN8).symm
                have ff := ((Fr.new (o := .tup [.str (Str.ofString "ref"), .int ((m : Int) + k + 1)]) ntq).tr (Fr.new (o := .lst [.ref tq]) nrq)).tr (Fr.new (o := .lst [.str (Str.ofString "list"), .non, .ref rq]) np)
                have fN : Fr [N] H8 H1 := ((Fr.reflL hN8).tr ff).trans fr
                have e1 : H1 p = some (.lst [.str (Str.ofString "list"), .non, .ref rq]) := fr.at1n npN upd_same
                have e2 : H1 rq = some (.lst [.ref tq]) := fr.at1n nrN ((Fr.new np).at0 upd_same)
                have e3 : H1 tq = some (.tup [.str (Str.ofString "ref"), .int ((m : Int) + k + 1)]) := fr.at1n ntN ((Fr.new np).at0 ((Fr.new nrq).at0 upd_same))
                have hadd := hN3.add (n' := (m + t + 1 : Nat)) (ts := [.tup [.str (Str.ofString "ref"), .int ((m : Int) + k + 1)]]) (tg := .non) (Int.le_refl _) qa ql npr hp e1 e2 fN (.cons (Den.tups e3 (.cons (.str _) (.cons (.int _) .nil))) .nil) (fun u mu => by
                  rw [List.mem_singleton.mp mu]
                  exact .inl (entI_r ⟨by omega, by omega⟩)) .non .non (by simp) (by omega)
                refine N2Mid.of rfl hadd (by simp [lx3]; omega) (fun j z ez hj u mu => ?_) (fun q n => ?_) (f3.trans fN)
                · by_cases jl : j < xs3.length
                  · rw [List.getElem?_append_left jl] at ez
                    exact ok3 j z ez hj u mu
                  · rw [List.getElem?_append_right (by omega)] at ez
                    have j0 := (List.getElem?_eq_some_iff.mp ez).1
                    have j1 : j = xs3.length := by simp at j0; omega
                    subst j1
                    simp at ez
                    rw [← ez] at mu
                    have mu : u ∈ [M14.T.tup [.str (Str.ofString "ref"), .int ((m : Int) + k + 1)]] := mu
                    rw [List.mem_singleton.mp mu]
                    exact .inl (entI_r ⟨by omega, by omega⟩)
                · have n8 : H8 q ≠ none := alive f3 (fun c mc => by rw [List.mem_singleton.mp mc]; exact some_ne hN8) q n
                  exact (role2_ext (ρ := ρ3) (s := 3) (k := xs3.length) qa ql q n8).trans (ex3 q n)
              · unfold N2Mid at hP
                obtain ⟨x, ρ3, xs3, rfl, hN3, lx3, ok3, ex3, f3⟩ := hP
                rw [et] at lx3 
                have hN8 := hN3.at_
                have FH8 : Fr [] H H8 := F07.compN f3 nN0
                have al7' : ∀ q, H q ≠ none → H7 q ≠ none := alive F07 fun _ z => nomatch z
                have al8' : ∀ q, H q ≠ none → H8 q ≠ none := alive FH8 fun _ z => nomatch z
                have exf : Ext H ρ ρ3 := fun q n => by rw [ex3 q (al7' q n), ex07 q n]
                tm_at "goo"
                · rename_i tq ntq rq nrq
                  have t0 : 0 < t := by omega
                  have qa : H8 p = none := updFree (updFree np)
                  have ql : H8 rq = none := updFree nrq
                  have npr : p ≠ rq := (ne_of_none2 np upd_same).symm
                  have npN : p ≠ N := (ne_of_none2 qa hN8).symm
                  have nrN : rq ≠ N := (ne_of_none2 ql hN8).symm
                  have ntN : tq ≠ N := (ne_of_none2 ntq hN8).symm
                  have ff := ((Fr.new (o := .tup [.str (Str.ofString "ref"), .int 0]) ntq).tr (Fr.new (o := .lst [.ref tq]) nrq)).tr (Fr.new (o := .lst [.str (Str.ofString "list"), .non, .ref rq]) np)
                  have fN : Fr [N] H8 H1 := ((Fr.reflL hN8).tr ff).trans fr
                  have e1 : H1 p = some (.lst [.str (Str.ofString "list"), .non, .ref rq]) := fr.at1n npN upd_same
                  have e2 : H1 rq = some (.lst [.ref tq]) := fr.at1n nrN ((Fr.new np).at0 upd_same)
                  have e3 : H1 tq = some (.tup [.str (Str.ofString "ref"), .int 0]) := fr.at1n ntN ((Fr.new np).at0 ((Fr.new nrq).at0 upd_same))
                  have ek : ((m : Int) + t - 1).toNat = m + t - 1 := by omega
                  rw [ek] at hp
                  have hput := hN3.put (k := m + t - 1) (ts := [.tup [.str (Str.ofString "ref"), .int 0]]) (tg := .non) (by omega) qa ql npr hp e1 e2 fN (.cons (Den.tups e3 (.cons (.str _) (.cons (.int _) .nil))) .nil) (fun u mu => by
                    rw [List.mem_singleton.mp mu]
                    exact .inl (entI_r ⟨by omega, by omega⟩)) .non .non (by simp)
                  refine q N H1 _ _ nN0 (hput.bound fun i z ez u mu => ?_) (by simp [lx3]) (fun q n => ?_) (FH8.compN fN nN0)
                  · rw [List.length_set, lx3]
                    by_cases qi : m + t - 1 = i
                    · subst qi
                      rw [List.getElem?_set_self (by omega)] at ez
                      cases ez
                      have mu : u ∈ [M14.T.tup [.str (Str.ofString "ref"), .int 0]] := mu
                      rw [List.mem_singleton.mp mu]
                      exact .inl (entI_r ⟨by omega, by omega⟩)
                    · rw [List.getElem?_set_ne qi] at ez
                      have hi := (List.getElem?_eq_some_iff.mp ez).1
                      exact ok3 i z ez (.inl (by omega)) u mu
                  · exact (role2_ext (ρ := ρ3) (s := 3) (k := m + t - 1) qa ql q (al8' q n)).trans (exf q n)
                · have t0 : t = 0 := by omega
                  refine q N H8 ρ3 xs3 nN0 (hN3.bound fun i z ez u mu => ?_) lx3 exf FH8
                  rw [lx3]
                  exact ok3 i z ez (.inr t0) u mu
end
end M14
set_option Elab.async false
set_option linter.all false
set_option maxRecDepth 100000
set_option maxHeartbeats 4000000
namespace M14
open PySem PySem.Spec PyProof.Rows L2

def bareT (t : T) : T := if tgtT t = none then t else .tup [.str (Str.ofString "none")]
theorem bareT_none {t : T} (h : tgtT t = none) : bareT t = t := if_pos h
theorem bareT_some {t : T} (h : tgtT t ≠ none) : bareT t = .tup [.str (Str.ofString "none")] := if_neg h
theorem bareT_dep {n : Int} {t : T} (h : EntOk n t) : Dep 2 (bareT t) := by
  unfold bareT
  split
  · exact h.dep
  · exact .tup (by simp) (memC .str memN)
section
variable {P : Program} {w : World} {K : PySem.W.Frag} {mg : Str → Option Value} {base : Heap}
set_option hygiene false
local macro_rules | `(tactic| tm_at "sc") => `(tactic| (first | omega | (simp only [List.length_cons, List.length_nil, List.length_map, List.length_set, List.length_append]; omega) | (simp only [List.length_map] at h1 ⊢; omega) | (simp only [List.length_map] at c ⊢; omega) | with_reducible assumption | exact And.intro (by omega) (by omega) | exact Or.inl (And.intro (by omega) (by omega)) | exact Or.inr (And.intro (by omega) (by omega)) | decide +kernel | exact len1000 (by simp) | rfl | fail "no way"))
local macro_rules | `(tactic| tm_at "sc1") => `(tactic| (focus (simp; done)))
local macro_rules | `(tactic| tm_at "ne") => `(tactic| (first | assumption | exact Ne.symm (by assumption) | (apply Box.ne2; assumption; tm_at "hp") | (apply Ne.symm; apply Box.ne2; assumption; tm_at "hp") | (apply ne_of_none2; assumption; tm_at "hp") | (apply Ne.symm; apply ne_of_none2; assumption; tm_at "hp") | fail "no way"))
local macro_rules | `(tactic| tm_at "f0") => `(tactic| (first | assumption | (apply Fr.new; assumption) | fail "no way"))
local macro_rules | `(tactic| tm_at "hp") => `(tactic| (first | assumption | exact upd_same | (apply SqL.of; first | assumption | exact upd_same) | (apply Fr.at0; tm_at "f0"; tm_at "hp") | (apply Fr.at1n; assumption; tm_at "ne"; tm_at "hp") | (apply sqFr0; tm_at "f0"; tm_at "hp") | (apply sqFr1; assumption; tm_at "ne"; tm_at "hp") | (apply Box.fr0; tm_at "f0"; tm_at "hp") | (apply Box.fr1; assumption; tm_at "ne"; tm_at "hp") | (apply Den.fr; tm_at "f0"; tm_at "hp") | (apply Dens.fr; tm_at "f0"; tm_at "hp") | fail "no way"))
local macro_rules | `(tactic| tm_at "free0") => `(tactic| (first | assumption | (apply updFree; assumption) | (apply updFree; apply updFree; assumption) | (apply updFree; apply updFree; apply updFree; assumption) | (apply updFree; apply updFree; apply updFree; apply updFree; assumption) | fail "no way"))
local macro_rules | `(tactic| tm_at "free") => `(tactic| (first | tm_at "free0" | (apply Fr.free; assumption; tm_at "free0") | (apply Box.free; assumption; tm_at "fr"; tm_at "free0") | (apply Fr.free; assumption; apply Fr.free; assumption; tm_at "free0") | fail "no way"))
local macro_rules | `(tactic| tm_at "fr") => `(tactic| (first | assumption | exact Fr.refl0 _ | exact Fr.refl (Box.nt (by assumption)) | (refine Fr.comp0 ?_ (by tm_at "f0"); tm_at "fr") | (refine Fr.comp ?_ (by assumption); tm_at "fr") | (refine Fr.compN ?_ (by assumption) (by tm_at "free"); tm_at "fr") | fail "no way"))
local macro_rules | `(tactic| tm_at "call") => `(tactic| fail "no call")
local macro_rules | `(tactic| tm_at "call") => `(tactic| (apply take_step; tm_at "hp"; tm_at "sc"; tm_at "sc"; intro r H1 h0 h1 hB fr))
local macro_rules | `(tactic| tm_at "ty") => `(tactic| (first | assumption | exact .base .non | exact .base (.bl _) | exact .base (.int _) | exact .base (.str _) | (apply TyX.base; apply TyOf.lst; tm_at "hp") | (apply TyX.base; apply TyOf.tup; tm_at "hp") | fail "no way"))
local macro_rules | `(tactic| tm_at "pre") => `(tactic| fail "none")
local macro_rules | `(tactic| tm_at "go1") => `(tactic| (first | tm_at "pre" | refine ⟨_, rfl, ?_⟩ | refine ⟨_, _, rfl, rfl, ?_⟩ | (apply set_step; tm_at "hp"; tm_at "sc"; tm_at "sc"; intro H1 hp fr) | (with_reducible refine iteDI ?_ ?_ <;> intro c) | (with_reducible refine iteDS ?_ ?_ <;> intro c) | (with_reducible refine iteD ?_ ?_ <;> intro c) | (with_reducible refine iteEM ?_ ?_ <;> intro c) | (with_reducible refine iteE ?_ ?_ <;> intro c) | with_reducible refine iteN ?_ | with_reducible refine iteF ?_ | with_reducible refine iteT ?_ | (refine fun (p : Addr) (np : _ = (none : Option HO)) => ?_; fail_if_success (refine ⟨fun (_ _ : Nat) (_ : Hp) => True, ?_⟩)) | (apply isi_tt; tm_at "ty"; focus (decide +kernel)) | (apply isi_ff; tm_at "ty"; focus (decide +kernel)) | (apply sl_step; tm_at "hp"; intro qq H1 ms nq hq fr) | (apply sum_step; tm_at "hp"; intro i) | (apply tru_step; tm_at "hp") | (apply len_step; tm_at "hp") | (apply lenq_step; assumption) | (apply ixq_step; assumption; tm_at "sc"; tm_at "sc"; intro v hv) | (apply lst_step; tm_at "hp") | (apply tupl_step; tm_at "hp") | (apply ixr_step; tm_at "hp"; exact rfl) | (apply ix0_step; tm_at "hp") | (apply ix1_step; tm_at "hp") | (apply ix2_step; tm_at "hp") | (apply ixi_step; tm_at "hp"; tm_at "sc"; tm_at "sc"; intro n hn hn') | (apply ixl_step; tm_at "hp"; tm_at "sc"; tm_at "sc"; intro v hv) | (apply ixt_step; tm_at "hp"; tm_at "sc"; tm_at "sc"; intro v hm hv) | (apply in_step; tm_at "hp"; rfl; rfl) | (apply cat_step; tm_at "hp"; tm_at "hp"; tm_at "sc") | (apply catT_step; tm_at "hp"; tm_at "hp"; tm_at "sc1") | (apply tyL_and; tm_at "hp") | (apply app_step; tm_at "hp"; tm_at "sc"; intro H1 hp fr) | tm_at "call" | refine ⟨⟨_, rfl⟩, ?_⟩ | (apply ixs_step; tm_at "sc"; tm_at "sc"; tm_at "sc"; intro ch) | refine .inl ⟨_, rfl, ?_⟩ | refine .inr ⟨_, rfl, ?_⟩ | (apply And.intro; tm_at "sc") | (with_reducible refine wayB ?_ ?_ <;> intro c) | fail "no way"))
local macro_rules | `(tactic| tm_at "go") => `(tactic| (repeat tm_at "go1"))
local macro_rules | `(tactic| tm_at "goo") => `(tactic| (repeat' tm_at "go1"))
local macro_rules | `(tactic| tm_at "den") => `(tactic| (first | assumption | exact Den.str _ | exact Den.int _ | exact Den.bl _ | exact Den.non | (apply Den.tups; tm_at "hp"; tm_at "dens") | (apply Den.fr; tm_at "f0"; tm_at "den") | fail "no way"))
local macro_rules | `(tactic| tm_at "dens") => `(tactic| (first | assumption | exact Dens.nil | (apply Dens.cons; tm_at "den"; tm_at "dens") | (apply Dens.fr; tm_at "f0"; tm_at "dens") | fail "no way"))
local macro_rules | `(tactic| tm_at "ix") => `(tactic| (apply Ix.mk; tm_at "hp"; tm_at "ne"; assumption; assumption))
local macro_rules | `(tactic| tm_at "dep") => `(tactic| (first | assumption | exact Dep.int | exact Dep.str | exact Dep.bl | exact Dep.non | (apply Dep.tup; tm_at "dlen"; tm_at "deps") | (apply Dep.mono; assumption; decide) | fail "no way"))
local macro_rules | `(tactic| tm_at "deps") => `(tactic| (first | assumption | exact memN | (apply memC; tm_at "dep"; tm_at "deps") | fail "no way"))
local macro_rules | `(tactic| tm_at "dlen") => `(tactic| (first | assumption | (focus (simp; done)) | omega | fail "no way"))
local macro_rules | `(tactic| tm_at "pre") => `(tactic| (apply rep_step; tm_at "hp"; tm_at "sc"; tm_at "sc"; intro rp H1 nrp hrp fr))

@[irreducible] def spBare (K : PySem.W.Frag) : Sp := fun vs H Q _ => ∃ (v : V) (n : Int) (t : T), vs = [v] ∧ Den K H v t ∧ EntOk n t ∧ ∀ v' H', Fr [] H H' → Den K H' v' (bareT t) → Q v' H'
theorem bare_step {v : V} {n : Int} {t : T} {H : Hp} {Q : VK} {E : XK} (d : Den K H v t) (e : EntOk n t) (q : ∀ v' H', Fr [] H H' → Den K H' v' (bareT t) → Q v' H') : spBare K ([v] ++ []) H Q E := by unfold spBare; exact ⟨v, n, t, rfl, d, e, q⟩
abbrev s_bare : Stmt := top 36
theorem sc_bare : FnScope ["_law_entry_here"] ["_law_entry_here"] (defScope s_bare) := ⟨rfl, rfl, rfl, by decide +kernel, rfl, by decide +kernel, by decide +kernel⟩

theorem ok_bare (T : Bl mg) (G_target : Cal P w K mg base 2 "_law_target" ["_law_entry_here"] (spTgt K)) (D : Def1 K mg "_law_bare" s_bare) : Cal P w K mg base 3 "_law_bare" ["_law_entry_here"] (spBare K) := by
  refine D.cal sc_bare (fun _ _ _ _ _ _ us hl => match us, hl with | [_], _ => rfl) (fun vs H Q E h => ?_) (fun f cdv A outer s H vs Q E hr h => ?_) <;> unfold spBare at h
  · obtain ⟨v, n, t, rfl, _⟩ := h
    rfl
  · obtain ⟨v, n, t, rfl, d, e, q⟩ := h
    refine ⟨_, (pss_cons (ps_if (pt_cmpR op_lt (pe_cal G_target (hr.mono (by omega)) (by rfl) (pa_cons (pv 0) pa_nil)) pe_int (nomark _))
      (pss_one (ps_ret (pv 0)))
      pss_nil)
    (pss_one (ps_ret (pe_tup (pa_cons pe_str pa_nil))))), ?_⟩
    tm_at "goo"
    refine tgt_step d e.shape ?_
    tm_at "goo"
    · have c0 : tgtV t < 0 := by assumption
      rw [bareT_none (tgtV_neg e c0)] at q
      exact q _ _ (by tm_at "fr") d
    · have c0 : ¬ tgtV t < 0 := by assumption
      have z : tgtT t ≠ none := by rw [tgtV_pos (by omega)]; exact fun z => nomatch z
      rw [bareT_some z] at q
      exact q _ _ (by tm_at "fr") (by tm_at "den")
end
end M14
set_option Elab.async false
set_option linter.all false
set_option maxRecDepth 100000
set_option maxHeartbeats 4000000
namespace M14
open PySem PySem.Spec PyProof.Rows L2

/-! ### a cut between two statements -/
def tCutS (t u : TS) : TS := fun D σ H => ∃ Mid : L2.St → Hp → Prop, t { D with nx := Mid } σ H ∧ ∀ σ' H', Mid σ' H' → u D σ' H'
theorem pss_cut {X : Cx} {st : Stmt} {rest : List Stmt} {t u : TS} (h1 : PS X st t) (h2 : PSs X rest u) : PSs X (st :: rest) (tCutS t u) := by
  refine ⟨fun pins s σ H D I h => ?_⟩
  obtain ⟨Mid, h, hm⟩ := h
  refine wpAny_execs_cons (thn (h1.run pins s σ H { D with nx := Mid } I h) fun f s1 q => ?_)
  cases f with
  | next =>
    obtain ⟨σ', H', I', q⟩ := q
    exact h2.run pins s1 σ' H' D I' (hm _ _ q)
  | ret v => exact q
  | brk => exact q
  | cont => exact q
theorem cut_step {t u : TS} {D : Ends} {σ : L2.St} {H : Hp} (Mid : L2.St → Hp → Prop) (h1 : t { D with nx := Mid } σ H) (h2 : ∀ σ' H', Mid σ' H' → u D σ' H') : tCutS t u D σ H := ⟨Mid, h1, h2⟩
/-! ### the bank while it is built from the nodes -/
/-- the things that stand for the nodes of dom, with slots ux -/
def BRel (step : Int) (dom : List Int) (ux : Nat → Nd → List T) (tb : List Int) (ys : List Th) (xs : List Nd) : Prop :=
  ∀ (k : Nat) (x : Nd), xs[k]? = some x → (k : Int) ∈ dom → ∃ (p : Nat) (y : Th), tb[k]? = some (gT step p) ∧ ys[p]? = some y ∧ y.kd = x.kd ∧ y.tg = x.tg ∧ y.us = ux k x
def BInj (dom : List Int) (tb : List Int) : Prop := ∀ a ∈ dom, ∀ b ∈ dom, gF tb a = gF tb b → a = b
section
variable {step : Int} {dom : List Int} {ux ux' : Nat → Nd → List T} {tb : List Int} {ys : List Th} {xs : List Nd}
theorem BRel.nil : BRel step [] ux tb ys xs := fun _ _ _ m => nomatch m
theorem BInj.nil : BInj [] tb := fun _ m => nomatch m
theorem BRel.extra {y : Th} (h : BRel step dom ux tb ys xs) : BRel step dom ux tb (ys ++ [y]) xs := fun k x hx m => by
  obtain ⟨p, y', e1, e2, r⟩ := h k x hx m
  exact ⟨p, y', e1, by rw [List.getElem?_append_left (List.getElem?_eq_some_iff.mp e2).1]; exact e2, r⟩
theorem BRel.add {k : Nat} {x : Nd} {y : Th} (h : BRel step dom ux tb ys xs) (hx : xs[k]? = some x) (nk : (k : Int) ∉ dom) (lk : k < tb.length) (e : y.kd = x.kd ∧ y.tg = x.tg ∧ y.us = ux k x) : BRel step (dom ++ [(k : Int)]) ux (tb.set k (gT step ys.length)) (ys ++ [y]) xs := fun j z hz m => by
  by_cases q : k = j
  · subst q
    rw [hx] at hz; cases hz
    exact ⟨ys.length, y, List.getElem?_set_self lk, by simp, e⟩
  · have mj : (j : Int) ∈ dom := by
      rcases List.mem_append.mp m with m | m
      · exact m
      · have : (j : Int) = k := by simpa using m
        omega
    obtain ⟨p, y', e1, e2, r⟩ := h j z hz mj
    exact ⟨p, y', by rw [List.getElem?_set_ne q]; exact e1, by rw [List.getElem?_append_left (List.getElem?_eq_some_iff.mp e2).1]; exact e2, r⟩
theorem BInj.add {k : Nat} (h : BInj dom tb) (r : BRel step dom ux tb ys xs) (st : step = 1 ∨ step = 2) (sub : ∀ a ∈ dom, a ∈ idx xs.length) (lk : k < tb.length) (nk : (k : Int) ∉ dom) : BInj (dom ++ [(k : Int)]) (tb.set k (gT step ys.length)) := by
  have old : ∀ a ∈ dom, gF (tb.set k (gT step ys.length)) a = gF tb a ∧ ∃ p : Nat, p < ys.length ∧ gF tb a = gT step p := fun a m => by
    obtain ⟨a0, a1⟩ := idx_mem.mp (sub a m)
    obtain ⟨i, rfl⟩ : ∃ i : Nat, (i : Int) = a := ⟨a.toNat, by omega⟩
    have hi : i < xs.length := by omega
    obtain ⟨p, y, e1, e2, _⟩ := r i xs[i] (List.getElem?_eq_getElem hi) m
    have ne : k ≠ i := fun e => nk (by rw [e]; exact m)
    have e3 : (tb.set k (gT step ys.length))[i]? = some (gT step p) := by rw [List.getElem?_set_ne ne]; exact e1
    exact ⟨by rw [gF_at e3, gF_at e1], p, (List.getElem?_eq_some_iff.mp e2).1, gF_at e1⟩
  have new : gF (tb.set k (gT step ys.length)) k = gT step ys.length := gF_at (List.getElem?_set_self lk)
  intro a ma b mb e
  rcases List.mem_append.mp ma with ma | ma <;> rcases List.mem_append.mp mb with mb | mb
  · exact h a ma b mb (by rw [← (old a ma).1, ← (old b mb).1]; exact e)
  · have z : b = k := by simpa using mb
    obtain ⟨o1, p, hp, o2⟩ := old a ma
    rw [z, new, o1, o2] at e
    have := gT_inj st e
    omega
  · have z : a = k := by simpa using ma
    obtain ⟨o1, p, hp, o2⟩ := old b mb
    rw [z, new, o1, o2] at e
    have := gT_inj st e
    omega
  · have z : a = k := by simpa using ma
    have z' : b = k := by simpa using mb
    rw [z, z']
theorem BRel.set {k p : Nat} {x : Nd} {y' : Th} (h : BRel step dom ux tb ys xs) (inj : BInj dom tb) (hx : xs[k]? = some x) (mk : (k : Int) ∈ dom) (ep : tb[k]? = some (gT step p)) (lp : p < ys.length) (e : y'.kd = x.kd ∧ y'.tg = x.tg ∧ y'.us = ux' k x)
    (off : ∀ j z, j ≠ k → ux' j z = ux j z) : BRel step dom ux' tb (ys.set p y') xs := fun j z hz m => by
  by_cases q : j = k
  · subst q
    rw [hx] at hz; cases hz
    exact ⟨p, y', ep, List.getElem?_set_self lp, e⟩
  · obtain ⟨p2, y2, e1, e2, r⟩ := h j z hz m
    have np : p ≠ p2 := fun ee => q (by
      have := inj _ m _ mk (by rw [gF_at e1, gF_at ep, ee])
      omega)
    exact ⟨p2, y2, e1, by rw [List.getElem?_set_ne np]; exact e2, by rw [off j z q]; exact r⟩
theorem BRel.same (h : BRel step dom ux tb ys xs) (e : ∀ (j : Nat) z, xs[j]? = some z → (j : Int) ∈ dom → ux' j z = ux j z) : BRel step dom ux' tb ys xs := fun j z hz m => by rw [e j z hz m]; exact h j z hz m
end
/-- the first a moved, the rest bare -/
def mixT {α β : Type} (f g : α → β) (a : Nat) (ts : List α) : List β := (ts.take a).map f ++ (ts.drop a).map g
theorem mixT_zero {α β : Type} {f g : α → β} {ts : List α} : mixT f g 0 ts = ts.map g := by simp [mixT]
theorem mixT_all {α β : Type} {f g : α → β} {ts : List α} {a : Nat} (h : ts.length ≤ a) : mixT f g a ts = ts.map f := by
  unfold mixT
  rw [List.take_of_length_le h, List.drop_eq_nil_of_le h]; simp
theorem mixT_len {α β : Type} {f g : α → β} {ts : List α} {a : Nat} : (mixT f g a ts).length = ts.length := by
  unfold mixT
  rw [List.length_append, List.length_map, List.length_map, ← List.length_append, List.take_append_drop]
theorem mixT_get {α β : Type} {f g : α → β} {ts : List α} {a i : Nat} : (mixT f g a ts)[i]? = (ts[i]?).map (if i < a then f else g) := by
  unfold mixT
  by_cases h : i < a
  · rw [if_pos h]
    by_cases l : i < ts.length
    · rw [List.getElem?_append_left (by simp; omega), List.getElem?_map, List.getElem?_take, if_pos h]
    · rw [List.getElem?_eq_none (by simp; omega), List.getElem?_eq_none (by omega)]; rfl
  · rw [if_neg h]
    by_cases l : a ≤ ts.length
    · rw [List.getElem?_append_right (by simp; omega), List.getElem?_map, List.getElem?_drop]
      congr 1
      congr 1
      simp
      omega
    · rw [List.getElem?_eq_none (by simp; omega), List.getElem?_eq_none (by omega)]; rfl
theorem mixT_set {α β : Type} {f g : α → β} {ts : List α} {a : Nat} {t : α} (h : ts[a]? = some t) : (mixT f g a ts).set a (f t) = mixT f g (a + 1) ts := by
  have la := (List.getElem?_eq_some_iff.mp h).1
  refine List.ext_getElem? fun i => ?_
  rw [mixT_get]
  by_cases q : a = i
  · subst q
    rw [List.getElem?_set_self (by rw [mixT_len]; exact la), h, if_pos (by omega)]; rfl
  · rw [List.getElem?_set_ne q, mixT_get]
    by_cases l : i < a
    · rw [if_pos l, if_pos (by omega)]
    · rw [if_neg l, if_neg (by omega)]
theorem mixT_stay {α β : Type} {f g : α → β} {ts : List α} {a : Nat} {t : α} (h : ts[a]? = some t) (e : f t = g t) : mixT f g (a + 1) ts = mixT f g a ts := by
  refine List.ext_getElem? fun i => ?_
  rw [mixT_get, mixT_get]
  by_cases q : i = a
  · subst q
    rw [h, if_pos (by omega), if_neg (by omega)]
    exact congrArg some e
  · by_cases l : i < a
    · rw [if_pos l, if_pos (by omega)]
    · rw [if_neg l, if_neg (by omega)]
/-- frames of what side s owns, and of b -/
structure Fro (ρ0 : Role) (s : Nat) (b : Addr) (H0 : Hp) (ρ : Role) (H : Hp) : Prop where
  ex : Ext H0 ρ0 ρ
  fr : ∃ M, Fr M H0 H ∧ ∀ a ∈ M, a = b ∨ ∃ i j, ρ0 a = some (s, i, j)
  al : ∀ a, H0 a ≠ none → H a ≠ none
theorem Fro.refl {ρ : Role} {s : Nat} {b : Addr} {H : Hp} : Fro ρ s b H ρ H := ⟨Ext.refl, ⟨[], .refl0 _, fun _ m => nomatch m⟩, fun _ h => h⟩
theorem Fro.step {ρ0 ρ ρ' : Role} {s : Nat} {b : Addr} {H0 H H' : Hp} {M : List Addr} (h : Fro ρ0 s b H0 ρ H) (ex : Ext H ρ ρ') (f : Fr M H H') (aw : ∀ a ∈ M, a = b ∨ ∃ i j, ρ a = some (s, i, j)) (al : ∀ a ∈ M, H' a ≠ none) : Fro ρ0 s b H0 ρ' H' := by
  obtain ⟨N, fN, aN⟩ := h.fr
  refine ⟨extT h.ex ex h.al, ⟨N ++ M.filter fun q => (H0 q).isSome, ?_, fun a m => ?_⟩, fun a n => alive f al a (h.al a n)⟩
  · refine (fN.to (fun x z => .inl (List.mem_append_left _ z)) fun q z zs e => ?_).app f fun x z => ?_
    · rcases List.mem_append.mp z with z | z
      · exact fN.nt q z zs e
      · exact f.nt q (List.mem_filter.mp z).1 zs (fN.tup e)
    · cases e : H0 x with
      | none => exact .inr rfl
      | some o => exact .inl (List.mem_append_right _ (List.mem_filter.mpr ⟨z, by rw [e]; rfl⟩))
  · rcases List.mem_append.mp m with m | m
    · exact aN a m
    · obtain ⟨m, z⟩ := List.mem_filter.mp m
      have n0 : H0 a ≠ none := fun e => by rw [e] at z; cases z
      rcases aw a m with e | ⟨i, j, e⟩
      · exact .inl e
      · exact .inr ⟨i, j, by rw [← h.ex a n0]; exact e⟩
theorem Fro.of0 {ρ0 ρ : Role} {s : Nat} {b : Addr} {H0 H H' : Hp} (h : Fro ρ0 s b H0 ρ H) (f : Fr [] H H') : Fro ρ0 s b H0 ρ H' := h.step Ext.refl f (fun _ m => nomatch m) fun _ m => nomatch m
theorem Fro.box {ρ0 ρ : Role} {s : Nat} {b : Addr} {H0 H H' : Hp} (h : Fro ρ0 s b H0 ρ H) (f : Fr [b] H H') (hb : Box H' b) : Fro ρ0 s b H0 ρ H' := h.step Ext.refl f (fun a m => .inl (List.mem_singleton.mp m)) fun a m => by
  obtain ⟨o, q⟩ := hb.has
  rw [List.mem_singleton.mp m]; exact some_ne q
theorem Fro.new {ρ0 ρ : Role} {s : Nat} {b : Addr} {H0 H : Hp} (h : Fro ρ0 s b H0 ρ H) {x : Addr} {o : HO} {r : Nat × Nat × Nat} (n : H x = none) : Fro ρ0 s b H0 (role1 ρ x r) (upd H x o) := h.step (role1_ext n) (Fr.new n) (fun _ m => nomatch m) fun _ m => nomatch m
/-- what stands while the bank is built -/
structure BdA (K : PySem.W.Frag) (ρ : Role) (s s2 : Nat) (step : Int) (CT C : Addr) (tlf : Addr → Nat → List (Str × V)) (R b B D N Lo Ta : Addr) (os : List Int) (xs : List Nd) (H : Hp) (tb : List Int) (ys : List Th) : Prop where
  bk : BkA K ρ s step CT C (tlf R ys.length) H B D ys
  nd : NdA K ρ s2 xs.length H N xs
  ta : H Ta = some (.lst (tb.map V.int))
  rt : ρ Ta = some (s, 7, 0)
  lo : H Lo = some (.lst (os.map V.int))
  rl : ρ Lo = none
  bx : Box H b
  rb : ρ b = none
  len : tb.length = xs.length
  ns : s ≠ s2
section
variable {K : PySem.W.Frag} {ρ ρ' : Role} {s s2 : Nat} {step : Int} {CT C : Addr} {tlf : Addr → Nat → List (Str × V)} {R b B D N Lo Ta : Addr} {os : List Int} {xs : List Nd} {H H' : Hp} {tb tb' : List Int} {ys ys' : List Th}
theorem BdA.of0 (h : BdA K ρ s s2 step CT C tlf R b B D N Lo Ta os xs H tb ys) (f : Fr [] H H') : BdA K ρ s s2 step CT C tlf R b B D N Lo Ta os xs H' tb ys :=
  ⟨h.bk.of0 f, h.nd.fr0 f, f.at0 h.ta, h.rt, f.at0 h.lo, h.rl, h.bx.fr0 f, h.rb, h.len, h.ns⟩
theorem BdA.nTb (h : BdA K ρ s s2 step CT C tlf R b B D N Lo Ta os xs H tb ys) : Ta ≠ b := fun e => by have := h.rt; rw [e, h.rb] at this; cases this
theorem BdA.nTl (h : BdA K ρ s s2 step CT C tlf R b B D N Lo Ta os xs H tb ys) : Ta ≠ Lo := fun e => by have := h.rt; rw [e, h.rl] at this; cases this
theorem BdA.box (h : BdA K ρ s s2 step CT C tlf R b B D N Lo Ta os xs H tb ys) (f : Fr [b] H H') (hb : Box H' b) (nl : Lo ≠ b) : BdA K ρ s s2 step CT C tlf R b B D N Lo Ta os xs H' tb ys :=
  ⟨h.bk.frM f (.one h.rb), h.nd.frM f (.one h.rb), f.at1n h.nTb h.ta, h.rt, f.at1n nl h.lo, h.rl, hb, h.rb, h.len, h.ns⟩
/-- the bank has changed -/
theorem BdA.bank {M : List Addr} (h : BdA K ρ s s2 step CT C tlf R b B D N Lo Ta os xs H tb ys) (hb : BkA K ρ' s step CT C (tlf R ys'.length) H' B D ys') (ex : Ext H ρ ρ') (f : Fr M H H') (aw : ∀ a ∈ M, H a ≠ none ∧ ∃ i j, ρ a = some (s, i, j) ∧ i ≠ 7) : BdA K ρ' s s2 step CT C tlf R b B D N Lo Ta os xs H' tb ys' := by
  have no : ∀ {a : Addr}, ρ a = none → a ∉ M := fun r m => by
    obtain ⟨_, i, j, e, _⟩ := aw _ m
    rw [r] at e; cases e
  have nt : Ta ∉ M := fun m => by
    obtain ⟨_, i, j, e, n⟩ := aw _ m
    rw [h.rt] at e
    injection e with e
    injection e with _ e
    injection e with e _
    exact n e.symm
  obtain ⟨i0, i1, i2, i3, i4, hx⟩ := h.bx
  refine ⟨hb, (h.nd.ext ex).frM f fun a m i j e => ?_, f.kp _ _ h.ta nt, by rw [ex _ (some_ne h.ta)]; exact h.rt, f.kp _ _ h.lo (no h.rl), by rw [ex _ (some_ne h.lo)]; exact h.rl, ⟨i0, i1, i2, i3, i4, f.kp _ _ hx (no h.rb)⟩, by rw [ex _ (some_ne hx)]; exact h.rb, h.len, h.ns⟩
  obtain ⟨n, i', j', e', _⟩ := aw a m
  rw [ex a n, e'] at e
  injection e with e
  injection e with e _
  exact h.ns e
theorem BdA.twoBD (h : BdA K ρ s s2 step CT C tlf R b B D N Lo Ta os xs H tb ys) : ∀ a ∈ [B, D], H a ≠ none ∧ ∃ i j, ρ a = some (s, i, j) ∧ i ≠ 7 := fun a m => by
  obtain ⟨_, _, hB⟩ := h.bk.at_
  obtain ⟨_, hD, _⟩ := h.bk.dk
  simp only [List.mem_cons, List.not_mem_nil, or_false] at m
  rcases m with rfl | rfl
  · exact ⟨some_ne hB, _, _, h.bk.rB, by decide⟩
  · exact ⟨some_ne hD, _, _, h.bk.rD, by decide⟩
theorem BdA.oneSl {p : Nat} {y : Th} (h : BdA K ρ s s2 step CT C tlf R b B D N Lo Ta os xs H tb ys) (hy : ys[p]? = some y) : ∀ a ∈ [y.sl], H a ≠ none ∧ ∃ i j, ρ a = some (s, i, j) ∧ i ≠ 7 := fun a m => by
  rw [List.mem_singleton.mp m]
  exact ⟨some_ne (h.bk.sl p y hy).1, _, _, (h.bk.sl p y hy).2, by decide⟩
theorem BdA.twoTh {p : Nat} {y : Th} (h : BdA K ρ s s2 step CT C tlf R b B D N Lo Ta os xs H tb ys) (hy : ys[p]? = some y) : ∀ a ∈ [B, y.th], H a ≠ none ∧ ∃ i j, ρ a = some (s, i, j) ∧ i ≠ 7 := fun a m => by
  obtain ⟨_, _, hB⟩ := h.bk.at_
  obtain ⟨⟨_, hT⟩, rT⟩ := h.bk.th p y hy
  simp only [List.mem_cons, List.not_mem_nil, or_false] at m
  rcases m with rfl | rfl
  · exact ⟨some_ne hB, _, _, h.bk.rB, by decide⟩
  · exact ⟨some_ne hT, _, _, rT, by decide⟩
theorem BdA.put {tb' : List Int} (h : BdA K ρ s s2 step CT C tlf R b B D N Lo Ta os xs H tb ys) (f : Fr [Ta] H H') (ht : H' Ta = some (.lst (tb'.map V.int))) (l : tb'.length = xs.length) : BdA K ρ s s2 step CT C tlf R b B D N Lo Ta os xs H' tb' ys := by
  have nb := h.nTb
  have nl := h.nTl
  refine ⟨h.bk.frN f (awOne (p := fun i => i ≠ 0 ∧ i ≠ 1 ∧ i ≠ 5 ∧ i ≠ 6) h.rt (by decide)), h.nd.frM f fun a m i j e => ?_, ht, h.rt, f.at1n nl.symm h.lo, h.rl, h.bx.fr1 f nb.symm, h.rb, l, h.ns⟩
  rw [List.mem_singleton.mp m, h.rt] at e
  injection e with e
  injection e with e _
  exact h.ns e
/-- at the end: the table holds -/
theorem BdA.tab (h : BdA K ρ s s2 step CT C tlf R b B D N Lo Ta os xs H tb ys) (po : os.Perm (idx xs.length)) (r : BRel step os (fun _ x => x.ts.map (movT (gF tb))) tb ys xs) (inj : BInj os tb) : TabS K ρ s step CT C (tlf R ys.length) H B D ys Ta tb xs := by
  have mem : ∀ k : Nat, k < xs.length → (k : Int) ∈ os := fun k hk => po.mem_iff.mpr (idx_mem.mpr ⟨by omega, by omega⟩)
  refine ⟨h.bk, h.ta, h.rt, h.len, ?_, fun k x hx => r k x hx (mem k (List.getElem?_eq_some_iff.mp hx).1)⟩
  refine List.pairwise_iff_getElem.mpr fun i j hi0 hj0 hij e => ?_
  have hi : i < xs.length := by rw [← h.len]; exact hi0
  have hj : j < xs.length := by rw [← h.len]; exact hj0
  have ei : tb[i]? = some tb[i] := List.getElem?_eq_getElem hi0
  have ej : tb[j]? = some tb[j] := List.getElem?_eq_getElem hj0
  have := inj _ (mem i hi) _ (mem j hj) (by rw [gF_at ei, gF_at ej]; exact e)
  omega
end
end M14
set_option Elab.async false
set_option linter.all false
set_option maxRecDepth 100000
set_option maxHeartbeats 4000000
namespace M14
open PySem PySem.Spec PyProof.Rows L2

@[irreducible] def B1Mid (K : PySem.W.Frag) (ρ0 : Role) (H0 : Hp) (s s2 : Nat) (step : Int) (CT C : Addr) (tlf : Addr → Nat → List (Str × V)) (R b B D N Lo Ta : Addr) (os : List Int) (xs : List Nd) (i : Nat) (σ' : L2.St) (H' : Hp) : Prop :=
  ∃ (x y : Option V) (ρ : Role) (tb : List Int) (ys : List Th), σ' = [some (.ref b), some (.ref B), some (.ref N), some (.ref Lo), some (.int step), some (.ref Ta), some (.int ys.length), x, y, none, none, none] ∧ BdA K ρ s s2 step CT C tlf R b B D N Lo Ta os xs H' tb ys ∧ Fro ρ0 s b H0 ρ H' ∧ ys.length ≤ 2 * i ∧
    BRel step (os.take i) (fun _ x => x.ts.map bareT) tb ys xs ∧ BInj (os.take i) tb
/-- before node k is made -/
@[irreducible] def B3Mid (K : PySem.W.Frag) (ρ0 : Role) (H0 : Hp) (s s2 : Nat) (step : Int) (CT C : Addr) (tlf : Addr → Nat → List (Str × V)) (R b B D N Lo Ta : Addr) (os : List Int) (xs : List Nd) (i k : Nat) (σ' : L2.St) (H' : Hp) : Prop :=
  ∃ (x : Option V) (ρ : Role) (tb : List Int) (ys : List Th), σ' = [some (.ref b), some (.ref B), some (.ref N), some (.ref Lo), some (.int step), some (.ref Ta), some (.int ys.length), some (.int k), x, none, none, none] ∧ BdA K ρ s s2 step CT C tlf R b B D N Lo Ta os xs H' tb ys ∧ Fro ρ0 s b H0 ρ H' ∧ ys.length ≤ 2 * i + 1 ∧
    BRel step (os.take i) (fun _ x => x.ts.map bareT) tb ys xs ∧ BInj (os.take i) tb
def ux2 (os tb : List Int) (i : Nat) (k : Nat) (x : Nd) : List T := if (k : Int) ∈ os.take i then x.ts.map (movT (gF tb)) else x.ts.map bareT
def ux3 (os tb : List Int) (j k : Nat) (a : Nat) (k' : Nat) (x : Nd) : List T := if k' = k then mixT (movT (gF tb)) bareT a x.ts else ux2 os tb j k' x
@[irreducible] def B2Mid (K : PySem.W.Frag) (ρ0 : Role) (H0 : Hp) (s s2 : Nat) (step : Int) (CT C : Addr) (tlf : Addr → Nat → List (Str × V)) (R b B D N Lo Ta : Addr) (os : List Int) (xs : List Nd) (tb : List Int) (σ : Option V → Option V → L2.St) (ux : Nat → Nat → Nd → List T) (i : Nat) (σ' : L2.St) (H' : Hp) : Prop :=
  ∃ (x y : Option V) (ρ : Role) (ys : List Th), σ' = σ x y ∧ BdA K ρ s s2 step CT C tlf R b B D N Lo Ta os xs H' tb ys ∧ Fro ρ0 s b H0 ρ H' ∧ BRel step os (ux i) tb ys xs
section
variable {K : PySem.W.Frag} {ρ0 ρ : Role} {H0 : Hp} {s s2 : Nat} {step : Int} {CT C : Addr} {tlf : Addr → Nat → List (Str × V)} {R b B D N Lo Ta : Addr} {os : List Int} {xs : List Nd} {H' : Hp} {tb : List Int} {ys : List Th}
theorem B1Mid.of {i : Nat} {σ' : L2.St} {x y : Option V} (e : σ' = [some (.ref b), some (.ref B), some (.ref N), some (.ref Lo), some (.int step), some (.ref Ta), some (.int ys.length), x, y, none, none, none]) (h1 : BdA K ρ s s2 step CT C tlf R b B D N Lo Ta os xs H' tb ys) (h2 : Fro ρ0 s b H0 ρ H') (h3 : ys.length ≤ 2 * i) (h4 : BRel step (os.take i) (fun _ x => x.ts.map bareT) tb ys xs) (h5 : BInj (os.take i) tb) :
    B1Mid K ρ0 H0 s s2 step CT C tlf R b B D N Lo Ta os xs i σ' H' := by unfold B1Mid; exact ⟨x, y, ρ, tb, ys, e, h1, h2, h3, h4, h5⟩
theorem B3Mid.of {i k : Nat} {σ' : L2.St} {x : Option V} (e : σ' = [some (.ref b), some (.ref B), some (.ref N), some (.ref Lo), some (.int step), some (.ref Ta), some (.int ys.length), some (.int k), x, none, none, none]) (h1 : BdA K ρ s s2 step CT C tlf R b B D N Lo Ta os xs H' tb ys) (h2 : Fro ρ0 s b H0 ρ H') (h3 : ys.length ≤ 2 * i + 1) (h4 : BRel step (os.take i) (fun _ x => x.ts.map bareT) tb ys xs) (h5 : BInj (os.take i) tb) :
    B3Mid K ρ0 H0 s s2 step CT C tlf R b B D N Lo Ta os xs i k σ' H' := by unfold B3Mid; exact ⟨x, ρ, tb, ys, e, h1, h2, h3, h4, h5⟩
theorem B2Mid.of {σ : Option V → Option V → L2.St} {ux : Nat → Nat → Nd → List T} {i : Nat} {σ' : L2.St} {x y : Option V} (e : σ' = σ x y) (h1 : BdA K ρ s s2 step CT C tlf R b B D N Lo Ta os xs H' tb ys) (h2 : Fro ρ0 s b H0 ρ H') (h3 : BRel step os (ux i) tb ys xs) :
    B2Mid K ρ0 H0 s s2 step CT C tlf R b B D N Lo Ta os xs tb σ ux i σ' H' := by unfold B2Mid; exact ⟨x, y, ρ, ys, e, h1, h2, h3⟩
end
section
variable {P : Program} {w : World} {K : PySem.W.Frag} {mg : Str → Option Value} {base : Heap}
set_option hygiene false
local macro_rules | `(tactic| tm_at "sc") => `(tactic| (first | omega | (simp only [List.length_cons, List.length_nil, List.length_map, List.length_set, List.length_append]; omega) | (simp only [List.length_map] at h1 ⊢; omega) | (simp only [List.length_map] at c ⊢; omega) | with_reducible assumption | exact And.intro (by omega) (by omega) | exact Or.inl (And.intro (by omega) (by omega)) | exact Or.inr (And.intro (by omega) (by omega)) | decide +kernel | exact len1000 (by simp) | rfl | fail "no way"))
local macro_rules | `(tactic| tm_at "sc1") => `(tactic| (focus (simp; done)))
local macro_rules | `(tactic| tm_at "ne") => `(tactic| (first | assumption | exact Ne.symm (by assumption) | (apply Box.ne2; assumption; tm_at "hp") | (apply Ne.symm; apply Box.ne2; assumption; tm_at "hp") | (apply ne_of_none2; assumption; tm_at "hp") | (apply Ne.symm; apply ne_of_none2; assumption; tm_at "hp") | fail "no way"))
local macro_rules | `(tactic| tm_at "f0") => `(tactic| (first | assumption | (apply Fr.new; assumption) | fail "no way"))
local macro_rules | `(tactic| tm_at "hp") => `(tactic| (first | assumption | exact upd_same | (apply SqL.of; first | assumption | exact upd_same) | (apply Fr.at0; tm_at "f0"; tm_at "hp") | (apply Fr.at1n; assumption; tm_at "ne"; tm_at "hp") | (apply sqFr0; tm_at "f0"; tm_at "hp") | (apply sqFr1; assumption; tm_at "ne"; tm_at "hp") | (apply Box.fr0; tm_at "f0"; tm_at "hp") | (apply Box.fr1; assumption; tm_at "ne"; tm_at "hp") | (apply Den.fr; tm_at "f0"; tm_at "hp") | (apply Dens.fr; tm_at "f0"; tm_at "hp") | fail "no way"))
local macro_rules | `(tactic| tm_at "free0") => `(tactic| (first | assumption | (apply updFree; assumption) | (apply updFree; apply updFree; assumption) | (apply updFree; apply updFree; apply updFree; assumption) | (apply updFree; apply updFree; apply updFree; apply updFree; assumption) | fail "no way"))
local macro_rules | `(tactic| tm_at "free") => `(tactic| (first | tm_at "free0" | (apply Fr.free; assumption; tm_at "free0") | (apply Box.free; assumption; tm_at "fr"; tm_at "free0") | (apply Fr.free; assumption; apply Fr.free; assumption; tm_at "free0") | fail "no way"))
local macro_rules | `(tactic| tm_at "fr") => `(tactic| (first | assumption | exact Fr.refl0 _ | exact Fr.refl (Box.nt (by assumption)) | (refine Fr.comp0 ?_ (by tm_at "f0"); tm_at "fr") | (refine Fr.comp ?_ (by assumption); tm_at "fr") | (refine Fr.compN ?_ (by assumption) (by tm_at "free"); tm_at "fr") | fail "no way"))
local macro_rules | `(tactic| tm_at "call") => `(tactic| fail "no call")
local macro_rules | `(tactic| tm_at "call") => `(tactic| (apply take_step; tm_at "hp"; tm_at "sc"; tm_at "sc"; intro r H1 h0 h1 hB fr))
local macro_rules | `(tactic| tm_at "ty") => `(tactic| (first | assumption | exact .base .non | exact .base (.bl _) | exact .base (.int _) | exact .base (.str _) | (apply TyX.base; apply TyOf.lst; tm_at "hp") | (apply TyX.base; apply TyOf.tup; tm_at "hp") | fail "no way"))
local macro_rules | `(tactic| tm_at "pre") => `(tactic| fail "none")
local macro_rules | `(tactic| tm_at "go1") => `(tactic| (first | tm_at "pre" | refine ⟨_, rfl, ?_⟩ | refine ⟨_, _, rfl, rfl, ?_⟩ | (apply set_step; tm_at "hp"; tm_at "sc"; tm_at "sc"; intro H1 hp fr) | (with_reducible refine iteDI ?_ ?_ <;> intro c) | (with_reducible refine iteDS ?_ ?_ <;> intro c) | (with_reducible refine iteD ?_ ?_ <;> intro c) | (with_reducible refine iteEM ?_ ?_ <;> intro c) | (with_reducible refine iteE ?_ ?_ <;> intro c) | with_reducible refine iteN ?_ | with_reducible refine iteF ?_ | with_reducible refine iteT ?_ | (refine fun (p : Addr) (np : _ = (none : Option HO)) => ?_; fail_if_success (refine ⟨fun (_ _ : Nat) (_ : Hp) => True, ?_⟩)) | (apply isi_tt; tm_at "ty"; focus (decide +kernel)) | (apply isi_ff; tm_at "ty"; focus (decide +kernel)) | (apply sl_step; tm_at "hp"; intro qq H1 ms nq hq fr) | (apply sum_step; tm_at "hp"; intro i) | (apply tru_step; tm_at "hp") | (apply len_step; tm_at "hp") | (apply lenq_step; assumption) | (apply ixq_step; assumption; tm_at "sc"; tm_at "sc"; intro v hv) | (apply lst_step; tm_at "hp") | (apply tupl_step; tm_at "hp") | (apply ixr_step; tm_at "hp"; exact rfl) | (apply ix0_step; tm_at "hp") | (apply ix1_step; tm_at "hp") | (apply ix2_step; tm_at "hp") | (apply ixi_step; tm_at "hp"; tm_at "sc"; tm_at "sc"; intro n hn hn') | (apply ixl_step; tm_at "hp"; tm_at "sc"; tm_at "sc"; intro v hv) | (apply ixt_step; tm_at "hp"; tm_at "sc"; tm_at "sc"; intro v hm hv) | (apply in_step; tm_at "hp"; rfl; rfl) | (apply cat_step; tm_at "hp"; tm_at "hp"; tm_at "sc") | (apply catT_step; tm_at "hp"; tm_at "hp"; tm_at "sc1") | (apply tyL_and; tm_at "hp") | (apply app_step; tm_at "hp"; tm_at "sc"; intro H1 hp fr) | tm_at "call" | refine ⟨⟨_, rfl⟩, ?_⟩ | (apply ixs_step; tm_at "sc"; tm_at "sc"; tm_at "sc"; intro ch) | refine .inl ⟨_, rfl, ?_⟩ | refine .inr ⟨_, rfl, ?_⟩ | (apply And.intro; tm_at "sc") | (with_reducible refine wayB ?_ ?_ <;> intro c) | fail "no way"))
local macro_rules | `(tactic| tm_at "go") => `(tactic| (repeat tm_at "go1"))
local macro_rules | `(tactic| tm_at "goo") => `(tactic| (repeat' tm_at "go1"))
local macro_rules | `(tactic| tm_at "den") => `(tactic| (first | assumption | exact Den.str _ | exact Den.int _ | exact Den.bl _ | exact Den.non | (apply Den.tups; tm_at "hp"; tm_at "dens") | (apply Den.fr; tm_at "f0"; tm_at "den") | fail "no way"))
local macro_rules | `(tactic| tm_at "dens") => `(tactic| (first | assumption | exact Dens.nil | (apply Dens.cons; tm_at "den"; tm_at "dens") | (apply Dens.fr; tm_at "f0"; tm_at "dens") | fail "no way"))
local macro_rules | `(tactic| tm_at "ix") => `(tactic| (apply Ix.mk; tm_at "hp"; tm_at "ne"; assumption; assumption))
local macro_rules | `(tactic| tm_at "dep") => `(tactic| (first | assumption | exact Dep.int | exact Dep.str | exact Dep.bl | exact Dep.non | (apply Dep.tup; tm_at "dlen"; tm_at "deps") | (apply Dep.mono; assumption; decide) | fail "no way"))
local macro_rules | `(tactic| tm_at "deps") => `(tactic| (first | assumption | exact memN | (apply memC; tm_at "dep"; tm_at "deps") | fail "no way"))
local macro_rules | `(tactic| tm_at "dlen") => `(tactic| (first | assumption | (focus (simp; done)) | omega | fail "no way"))
local macro_rules | `(tactic| tm_at "pre") => `(tactic| (apply rep_step; tm_at "hp"; tm_at "sc"; tm_at "sc"; intro rp H1 nrp hrp fr))

local macro_rules | `(tactic| tm_at "call") => `(tactic| (apply word_step; tm_at "hp"; intro v H1 hv hB fr))
local macro_rules | `(tactic| tm_at "call") => `(tactic| (apply name_step; tm_at "hp"; intro v H1 hv hB fr))
local macro_rules | `(tactic| tm_at "call") => `(tactic| (apply plain_step; tm_at "hp"; intro v H1 t hd he hB fr))
local macro_rules | `(tactic| tm_at "call") => `(tactic| (apply entry_step; tm_at "hp"; tm_at "ix"; tm_at "ix"; intro v H1 t hd he hB fr))
local macro_rules | `(tactic| tm_at "call") => `(tactic| (apply kinds_step; intro p H1 np hp fr))
local macro_rules | `(tactic| tm_at "call") => `(tactic| (apply kind_step; tm_at "hp"; intro v H1 hv hB fr))
local macro_rules | `(tactic| tm_at "call") => `(tactic| (apply marks_step; intro m))
local macro_rules | `(tactic| tm_at "pre") => `(tactic| (apply strInt_step; tm_at "sc"; intro s hs))
local macro_rules | `(tactic| tm_at "pre") => `(tactic| (apply addS_step; tm_at "sc"; intro s hs))

local macro_rules | `(tactic| tm_at "lk") => `(tactic| (first | with_reducible exact lookup_eq | ((with_reducible apply lookup_ne); (focus (decide +kernel)); tm_at "lk") | assumption | rfl | fail "no way"))
local macro_rules | `(tactic| tm_at "pf") => `(tactic| (first | with_reducible exact putF_nil | with_reducible exact putF_eq | ((with_reducible apply putF_ne); (focus (decide +kernel)); tm_at "pf") | fail "no way"))
local macro_rules | `(tactic| tm_at "fl") => `(tactic| (first | assumption | focus (simp only [List.length_cons, List.length_nil]; omega) | focus (simp only [List.length_cons, List.length_nil]; done) | focus (decide) | focus (simp; done) | focus (simp; omega) | fail "no way"))
local macro_rules | `(tactic| tm_at "pre") => `(tactic| (apply fld_step; tm_at "hp"; assumption; assumption; tm_at "lk"))
local macro_rules | `(tactic| tm_at "pre") => `(tactic| (apply putf_step; tm_at "hp"; assumption; assumption; tm_at "fl"; tm_at "pf"; intro H1 hp fr))
local macro_rules | `(tactic| tm_at "pre") => `(tactic| (apply aug_step; tm_at "hp"; assumption; assumption; tm_at "lk"))
local macro_rules | `(tactic| tm_at "pre") => `(tactic| (apply put2_step; tm_at "hp"; tm_at "fl"; tm_at "pf"; intro H1 hp fr))
local macro_rules | `(tactic| tm_at "pre") => `(tactic| (apply dget_step; tm_at "hp"; tm_at "lk"))
local macro_rules | `(tactic| tm_at "pre") => `(tactic| (apply dput_step; tm_at "hp"; (focus (omega)); intro H1 hp fr))
local macro_rules | `(tactic| tm_at "pre") => `(tactic| (apply mth_step; tm_at "hp"; tm_at "lk"))
local macro_rules | `(tactic| tm_at "pre") => `(tactic| (apply lenD_step; tm_at "hp"))
local macro_rules | `(tactic| tm_at "pre") => `(tactic| (apply addI_step))
local macro_rules | `(tactic| tm_at "pre") => `(tactic| (apply newD_step; intro dn H1 nd hp fr))
local macro_rules | `(tactic| tm_at "fr2") => `(tactic| (first | assumption | (apply Fr.appMb; assumption; (focus (simp; done)); tm_at "fr2") | (apply Fr.app0b; tm_at "f0"; tm_at "fr2") | (apply Fr.appNb; assumption; tm_at "free"; tm_at "fr2") | fail "no way"))
local macro_rules | `(tactic| tm_at "ne") => `(tactic| (apply ne_role; assumption; assumption; (focus (decide))))
local macro_rules | `(tactic| tm_at "pre") => `(tactic| (apply dnotin_step; tm_at "hp"))
local macro_rules | `(tactic| tm_at "pre") => `(tactic| (apply din_step; tm_at "hp"))

local macro_rules | `(tactic| tm_at "nda") => `(tactic| (first | assumption | (apply NdA.of0; tm_at "f0"; tm_at "nda") | fail "no way"))
local macro_rules | `(tactic| tm_at "pre") => `(tactic| (apply nd_step; tm_at "nda"; tm_at "sc"; tm_at "sc"; intro xn hxn hnd hrow))
@[irreducible] def spBuilt (K : PySem.W.Frag) (CT C : Addr) (step : Int) (tlf : Addr → Nat → List (Str × V)) : Sp := fun vs H Q _ => ∃ (ρ : Role) (s s2 : Nat) (R b B D N Lo : Addr) (os : List Int) (xs : List Nd), vs = [.ref b, .ref B, .ref N, .ref Lo, .int step] ∧ Box H b ∧ ρ b = none ∧ BkA K ρ s step CT C (tlf R 0) H B D [] ∧ NdA K ρ s2 xs.length H N xs ∧ s ≠ s2 ∧ H Lo = some (.lst (os.map V.int)) ∧ ρ Lo = none ∧ Lo ≠ b ∧ os.Perm (idx xs.length) ∧ xs.length ≤ 1400 ∧
  ∀ Ta H' ρ' tb ys, H Ta = none → TabS K ρ' s step CT C (tlf R ys.length) H' B D ys Ta tb xs → Fro ρ s b H ρ' H' → Q (.ref Ta) H'
theorem len_built {CT C : Addr} {step : Int} {tlf : Addr → Nat → List (Str × V)} : ∀ vs H Q E, spBuilt K CT C step tlf vs H Q E → vs.length = 5 := fun vs H Q E h => by
  unfold spBuilt at h
  obtain ⟨ρ, s, s2, R, b, B, dD, N, Lo, os, xs, rfl, _⟩ := h
  rfl
theorem os_at {os : List Int} {j : Nat} {u : V} (h : (os.map V.int)[j]? = some u) : ∃ a, os[j]? = some a ∧ u = .int a := by
  rw [List.getElem?_map] at h
  cases e : os[j]? with
  | none => rw [e] at h; cases h
  | some a => rw [e] at h; exact ⟨a, rfl, (Option.some.inj h).symm⟩
theorem take_next {os : List Int} {j : Nat} {a : Int} (h : os[j]? = some a) : os.take (j + 1) = os.take j ++ [a] := by rw [List.take_add_one, h]; rfl
theorem nodup_next {os : List Int} {j : Nat} {a : Int} (n : os.Nodup) (h : os[j]? = some a) : a ∉ os.take j := fun m => by
  obtain ⟨i, hi, e⟩ := List.getElem_of_mem m
  have lj := (List.getElem?_eq_some_iff.mp h).1
  have li : i < j := by simp at hi; omega
  rw [List.getElem_take] at e
  have := List.pairwise_iff_getElem.mp n i j (by omega) lj li
  rw [(List.getElem?_eq_some_iff.mp h).2] at this
  exact this e
abbrev s_built : Stmt := top 38
theorem sc_built : FnScope ["_law_box_here", "_law_bank", "_law_nodes_here", "_law_order_here", "_law_step", "_law_table", "_law_made", "_law_k", "_law_value", "_law_entry_here", "_law_way", "_law_at"] ["_law_box_here", "_law_bank", "_law_nodes_here", "_law_order_here", "_law_step"] (defScope s_built) := ⟨rfl, rfl, rfl, by decide +kernel, rfl, by decide +kernel, by decide +kernel⟩

theorem body_built {C CT : Addr} {step : Int} {tlf : Addr → Nat → List (Str × V)} (T : Bl mg) (G_take : CTake P w K mg base) (G_same : Cal P w K mg base 7 "_law_same" ["_law_told", "_law_due"] (spSm K 7)) (G_bare : Cal P w K mg base 3 "_law_bare" ["_law_entry_here"] (spBare K)) (G_sent : Cal P w K mg base 3 "_law_sent" ["_law_entries", "_law_table"] (spSent K))
    (G_target : Cal P w K mg base 2 "_law_target" ["_law_entry_here"] (spTgt K)) (G_moved : Cal P w K mg base 2 "_law_moved" ["_law_entry_here", "_law_table"] (spMov K))
    (M_make : CalM P w K mg base 4 C "make" ["self", "kind", "tag", "slots"] (spMake K CT C step tlf)) (M_set_slot : CalM P w K mg base 2 C "set_slot" ["self", "value", "index", "entry"] (spSetSlot K CT C step)) (M_change : CalM P w K mg base 2 C "change" ["self", "value", "tag", "slots"] (spChange K CT C step)) :
    BodyOk P w K mg base "_law_built" s_built ["_law_box_here", "_law_bank", "_law_nodes_here", "_law_order_here", "_law_step", "_law_table", "_law_made", "_law_k", "_law_value", "_law_entry_here", "_law_way", "_law_at"] 7 (spBuilt K CT C step tlf) := by
  intro f cdv A outer s H vs Q E hr h
  unfold spBuilt at h
  · obtain ⟨ρ, sd, s2, R, b, B, dD, N, Lo, os, xs, rfl, hB0, rb, hb, hN, ns, hLo, rLo, nLb, po, lx, q⟩ := h
    have hN0 := hN.at_
    have osn : os.Nodup := po.nodup_iff.mpr (by
      unfold idx
      exact List.pairwise_map.mpr (List.Pairwise.imp (fun {a b : Nat} (h : a ≠ b) (e : (a : Int) = (b : Int)) => h (by omega)) List.nodup_range))
    have osi : ∀ a ∈ os, a ∈ idx xs.length := fun a m => po.mem_iff.mp m
    have lo : os.length = xs.length := by rw [po.length_eq, idx_len]
    refine ⟨_, (pss_cons (ps_set (i := 5) sc_built.nd rfl (Or.inl rfl) (pe_op opRep (pe_lst (pa_cons (pe_un un_neg pe_int) pa_nil)) (pe_callB (cLen K) (by rfl) T.z_len (by decide +kernel) (pa_cons (pv 2) pa_nil))))
    (pss_cons (ps_set (i := 6) sc_built.nd rfl (Or.inl rfl) pe_int)
    (pss_cons (ps_for PassesOwn.never rfl (pi_list (pv 3)) (pg_name (i := 7) sc_built.nd rfl (Or.inl rfl))
      (pss_cut (ps_if (PW.pt (pw_and (pt_cmpR op_lt (pv 7) pe_int (nomark _)) (pw_and (pt_cmpR op_gt (pv 6) pe_int (nomark _)) (pw_and1 (pt_cmpR op_eq (pe_cal G_take (hr.mono (by omega)) (by rfl) (pa_cons (pv 0) (pa_cons pe_int pa_nil))) pe_int (nomark _))))))
        (pss_cons (ps_set (i := 8) sc_built.nd rfl (Or.inl rfl) (pe_mcalx (pv 1) M_make (hr.mono (by omega)) (pa_cons pe_str (pa_cons pe_non (pa_cons (pe_lst (pa_cons (pe_tup (pa_cons pe_str (pa_cons (pe_op op_sub (pe_op op_mul (pv 4) (pv 6)) pe_int) pa_nil))) pa_nil)) pa_nil)))))
        (pss_cons (ps_if (pt_not (pt_val (pe_cal G_same (hr.mono (by omega)) (by rfl) (pa_cons (pv 8) (pa_cons (pe_tup (pa_cons pe_str (pa_cons (pe_op op_sub (pe_op op_add (pe_op op_mul (pv 4) (pv 6)) (pv 4)) pe_int) pa_nil))) pa_nil)))))
          (pss_one (ps_ret (pe_lst pa_nil)))
          pss_nil)
        (pss_one (ps_set (i := 6) sc_built.nd rfl (Or.inl rfl) (pe_op op_add (pv 6) pe_int)))))
        pss_nil)
      (pss_cons (ps_set (i := 8) sc_built.nd rfl (Or.inl rfl) (pe_mcalx (pv 1) M_make (hr.mono (by omega)) (pa_cons (pe_ix (ixL K) (pe_ix (ixL K) (pv 2) (pv 7) (fun _ _ => rfl)) pe_int (fun _ _ => rfl)) (pa_cons (pe_ix (ixL K) (pe_ix (ixL K) (pv 2) (pv 7) (fun _ _ => rfl)) pe_int (fun _ _ => rfl)) (pa_cons (pe_lc (own := [("_law_entry_here", 9)]) (g := gName 9) (by rfl) sc_built.nd (pi_list (pe_ix (ixL K) (pe_ix (ixL K) (pv 2) (pv 7) (fun _ _ => rfl)) pe_int (fun _ _ => rfl))) (blkOk_by (own := [("_law_entry_here", 9)]) (N := [("_law_box_here" : Str), ("_law_bank" : Str), ("_law_nodes_here" : Str), ("_law_order_here" : Str), ("_law_step" : Str), ("_law_table" : Str), ("_law_made" : Str), ("_law_k" : Str), ("_law_value" : Str), ("_law_entry_here" : Str), ("_law_way" : Str), ("_law_at" : Str)]) (sc := defScope s_built) (by decide +kernel)) (fun _ _ _ _ _ => pg_name (i := 9) sc_built.nd rfl (Or.inl rfl)) (fun _ _ _ _ _ => pts_nil) (fun _ _ _ _ _ => (pe_cal G_bare (hr.mono (by omega)) (by rfl) (pa_cons (pv 9) pa_nil)))) pa_nil)))))
      (pss_cons (ps_if (pt_not (pt_val (pe_cal G_same (hr.mono (by omega)) (by rfl) (pa_cons (pv 8) (pa_cons (pe_tup (pa_cons pe_str (pa_cons (pe_op op_sub (pe_op op_add (pe_op op_mul (pv 4) (pv 6)) (pv 4)) pe_int) pa_nil))) pa_nil)))))
        (pss_one (ps_ret (pe_lst pa_nil)))
        pss_nil)
      (pss_cons (ps_asg (pe_ix (ixT K) (pv 8) pe_int (fun _ _ => rfl)) (pg_sub (pv 5) (pv 7) setL))
      (pss_one (ps_set (i := 6) sc_built.nd rfl (Or.inl rfl) (pe_op op_add (pv 6) pe_int))))))))
    (pss_cons (ps_set (i := 10) sc_built.nd rfl (Or.inl rfl) (pe_cal G_take (hr.mono (by omega)) (by rfl) (pa_cons (pv 0) (pa_cons pe_int pa_nil))))
    (pss_cons (ps_for PassesOwn.never rfl (pi_list (pv 3)) (pg_name (i := 7) sc_built.nd rfl (Or.inl rfl))
      (pss_one (ps_if (pt_cmpR op_eq (pe_op op_mod (pe_callTy call_int1 (by rfl) T.z_int (by decide +kernel) (pa_cons (pe_op op_add (pv 7) (pv 10)) pa_nil)) pe_int) pe_int (nomark _))
        (pss_one (ps_expr (pe_mcalx (pv 1) M_change (hr.mono (by omega)) (pa_cons (pe_tup (pa_cons pe_str (pa_cons (pe_ix (ixL K) (pv 5) (pv 7) (fun _ _ => rfl)) pa_nil))) (pa_cons (pe_ix (ixL K) (pe_ix (ixL K) (pv 2) (pv 7) (fun _ _ => rfl)) pe_int (fun _ _ => rfl)) (pa_cons (pe_cal G_sent (hr.mono (by omega)) (by rfl) (pa_cons (pe_ix (ixL K) (pe_ix (ixL K) (pv 2) (pv 7) (fun _ _ => rfl)) pe_int (fun _ _ => rfl)) (pa_cons (pv 5) pa_nil))) pa_nil))))))
        (pss_one (ps_for PassesOwn.never rfl (pi_range1 (by rfl) T.z_range (pa_cons (pe_callB (cLen K) (by rfl) T.z_len (by decide +kernel) (pa_cons (pe_ix (ixL K) (pe_ix (ixL K) (pv 2) (pv 7) (fun _ _ => rfl)) pe_int (fun _ _ => rfl)) pa_nil)) pa_nil)) (pg_name (i := 11) sc_built.nd rfl (Or.inl rfl))
          (pss_one (ps_if (pt_cmpR op_ge (pe_cal G_target (hr.mono (by omega)) (by rfl) (pa_cons (pe_ix (ixL K) (pe_ix (ixL K) (pe_ix (ixL K) (pv 2) (pv 7) (fun _ _ => rfl)) pe_int (fun _ _ => rfl)) (pv 11) (fun _ _ => rfl)) pa_nil)) pe_int (nomark _))
            (pss_one (ps_expr (pe_mcalx (pv 1) M_set_slot (hr.mono (by omega)) (pa_cons (pe_tup (pa_cons pe_str (pa_cons (pe_ix (ixL K) (pv 5) (pv 7) (fun _ _ => rfl)) pa_nil))) (pa_cons (pv 11) (pa_cons (pe_cal G_moved (hr.mono (by omega)) (by rfl) (pa_cons (pe_ix (ixL K) (pe_ix (ixL K) (pe_ix (ixL K) (pv 2) (pv 7) (fun _ _ => rfl)) pe_int (fun _ _ => rfl)) (pv 11) (fun _ _ => rfl)) (pa_cons (pv 5) pa_nil))) pa_nil))))))
            pss_nil)))))))
    (pss_one (ps_ret (pv 5)))))))), ?_⟩
    tm_at "goo"
    have F1 : Fr [] H H1 := (Fr.new np).tr fr
    have nrp0 : H rp = none := updFree nrp
    have ex1 : Ext H ρ (role1 ρ rp (sd, 7, 0)) := role1_ext nrp0
    have nLr : Lo ≠ rp := ne_of_none2 nrp0 hLo
    have nbr : rp ≠ b := hB0.ne nrp0
    have A1 : BdA K (role1 ρ rp (sd, 7, 0)) sd s2 step CT C tlf R b B dD N Lo rp os xs H1 (List.replicate xs.length (-1)) [] := ⟨(hb.ext ex1).of0 F1, (hN.ext ex1).fr0 F1, by simpa using hrp, role1_at, F1.at0 hLo, by rw [role1_ne nLr]; exact rLo, hB0.fr0 F1, by rw [role1_ne nbr.symm]; exact rb, by simp, ns⟩
    have O1 : Fro ρ sd b H (role1 ρ rp (sd, 7, 0)) H1 := Fro.refl.step ex1 F1 (fun _ m => nomatch m) (fun _ m => nomatch m)
    generalize role1 ρ rp (sd, 7, 0) = ρ1 at *
    clear F1 fr hrp nrp np
    refine ⟨⟨_, .of A1.lo⟩, ?_⟩
    refine for_list (xs := os.map V.int) (B1Mid K ρ H sd s2 step CT C tlf R b B dD N Lo rp os xs) (B1Mid.of (x := none) (y := none) rfl A1 O1 (Nat.zero_le _) (by rw [List.take_zero]; exact BRel.nil) (by rw [List.take_zero]; exact BInj.nil)) (fun j σ' H' _ hP => ?_) (fun j u σ' H' hu hP => ?_) (fun σ' H' hP => ?_)
    · unfold B1Mid at hP
      obtain ⟨x, y, ρ', tb, ys, rfl, A, _⟩ := hP
      exact .of A.lo
    · unfold B1Mid at hP
      obtain ⟨x, y, ρ', tb, ys, rfl, A, O, ly, rel, inj⟩ := hP
      obtain ⟨a, ea, rfl⟩ := os_at hu
      obtain ⟨a0, a1⟩ := idx_mem.mp (osi a (List.mem_of_getElem? ea))
      obtain ⟨k, hk⟩ : ∃ k : Nat, (k : Int) = a := ⟨a.toNat, by omega⟩
      subst hk
      have nk := nodup_next osn ea
      have ek := take_next ea
      have lj : j < os.length := (List.getElem?_eq_some_iff.mp ea).1
      have kx : k < xs.length := by omega
      have xk : xs[k]? = some xs[k] := List.getElem?_eq_getElem kx
      generalize xs[k] = xk0 at xk
      have sub : ∀ a ∈ os.take j, a ∈ idx xs.length := fun a m => osi a (List.mem_of_mem_take m)
      have km : (tlf R ys.length).lookup ("make" : Str) = none := A.bk.tll.nom _ (by decide +kernel)
      obtain ⟨dx, gr, hBk⟩ := A.bk.at_
      have bx := A.bx
      have hN' := A.nd
      have hN0' := A.nd.at_
      have hTa := A.ta
      refine cut_step (B3Mid K ρ H sd s2 step CT C tlf R b B dD N Lo rp os xs j k) ?_ fun σ' H' hP => ?_
      · tm_at "goo"
        · have A2 := A.box fr hB nLb
          have O2 := O.box fr hB
          clear fr
          obtain ⟨dx1, gr1, hBk1⟩ := A2.bk.at_
          tm_at "goo"
          rename_i tq ntq
          have F2 := (Fr.new (o := .tup [.str (Str.ofString "ref"), .int (step * ys.length - 1)]) ntq).tr (Fr.new (o := .lst [.ref tq]) np)
          have A3 := A2.of0 F2
          have O3 := O2.of0 F2
          have lys : ys.length < 3000 := by omega
          refine make_step (R := R) (ts := [.tup [.str (Str.ofString "ref"), .int (step * ys.length - 1)]]) A3.bk lys upd_same (.cons (Den.tups ((Fr.new np).at0 upd_same) (.cons (.str _) (.cons (.int _) .nil))) .nil) (fun t m => by rw [List.mem_singleton.mp m]; tm_at "dep") .non .non (by simp) fun r6 H6 ρ6 x6 l6 nr6 hr6 hb6 ex6 fr6 => ?_
          have A4 := A3.bank (ys' := ys ++ [_]) (by rw [List.length_append]; exact hb6) ex6 fr6 A3.twoBD
          have O4 := O3.step ex6 fr6 (fun a m => .inr (let ⟨_, i, j, e, _⟩ := A3.twoBD a m; ⟨i, j, e⟩)) (fun a m => by
            obtain ⟨_, _, hB⟩ := hb6.at_
            obtain ⟨_, hD, _⟩ := hb6.dk
            simp only [List.mem_cons, List.not_mem_nil, or_false] at m
            rcases m with rfl | rfl
            · exact some_ne hB
            · exact some_ne hD)
          clear A3 O3 F2 A2 O2
          tm_at "goo"
          have eg : step * (ys.length : Int) + step - 1 = gT step ys.length := by unfold gT; omega
          refine sm_step (Sm.of_den (t := .tup [.str (Str.ofString "ref"), .int (gT step ys.length)]) (Den.tups (Fr.at0 (Fr.new np) hr6) (.cons (.str _) (.cons (.int _) .nil))) (Den.tups upd_same (.cons (.str _) (.cons (by rw [← eg]; exact Den.int _) .nil))) (by tm_at "dep")) ?_
          have A5 := A4.of0 (Fr.new (o := .tup [.str (Str.ofString "ref"), .int (step * ys.length + step - 1)]) np)
          have O5 := O4.of0 (Fr.new (o := .tup [.str (Str.ofString "ref"), .int (step * ys.length + step - 1)]) np)
          tm_at "goo"
          exact B3Mid.of (by rw [List.length_append]; rfl) A5 O5 (by simp; omega) rel.extra inj
        · exact B3Mid.of rfl (A.box fr hB nLb) (O.box fr hB) (by omega) rel inj
        · exact B3Mid.of rfl A O (by omega) rel inj
        · exact B3Mid.of rfl A O (by omega) rel inj
      · unfold B3Mid at hP
        clear km hBk bx hN' hN0' hTa A O rel inj ly
        obtain ⟨x, ρ', tb, ys, rfl, A, O, ly, rel, inj⟩ := hP
        have km : (tlf R ys.length).lookup ("make" : Str) = none := A.bk.tll.nom _ (by decide +kernel)
        obtain ⟨dx, gr, hBk⟩ := A.bk.at_
        have hN' := A.nd
        have hN0' := A.nd.at_
        have hTa := A.ta
        tm_at "goo"
        rename_i x1 e1 d1 r1 x2 e2 d2 r2
        rw [Int.toNat_natCast, xk] at e1 e2 hxn
        have q1 := Option.some.inj e1
        have q2 := Option.some.inj e2
        have q3 := Option.some.inj hxn
        subst q1 q2 q3
        obtain ⟨dxs, eok, dtv, dtp, lrow⟩ := A.nd.ok k xk0 xk
        clear e1 d1 r1 e2 d2 r2 hxn hnd
        refine ⟨⟨_, .of hrow⟩, ?_⟩
        refine lcL (fun _ => true) (fun H i y => ∃ t, Den K H y t ∧ xk0.ts[i]?.map bareT = some t) (Cg.nil _) stab_den (xs := xk0.rs) (.of hrow) (by simp) (by omega) (fun i x H hi hS f => tyes_ok trivial (fun _ h => nomatch h)) (fun i v H2 hi _ hS f R kk => ?_) (fun gl H2 gs ngl hgl m _ f2 => ?_)
        · obtain ⟨t, et, dt⟩ := dxs.get hi
          tm_at "goo"
          exact bare_step (dt.fr f) (eok t (List.mem_of_getElem? et)) fun v' H3 f3 d3 => kk _ _ trivial f3 ⟨_, d3, by rw [et]; rfl⟩
        · rw [keptN_all] at m
          have ma := m.all
          have dgs : Dens K H2 gs (xk0.ts.map bareT) := ⟨by rw [List.length_map, ma.1, dxs.1], fun i y t a b => by
            obtain ⟨t', d', e'⟩ := ma.2 i y a
            rw [List.getElem?_map, e'] at b
            cases b
            exact d'⟩
          have A3 := A.of0 f2
          have O3 := O.of0 f2
          have lys : ys.length < 3000 := by omega
          have lgs : gs.length ≤ 200 := by rw [ma.1]; exact lrow
          tm_at "goo"
          refine make_step (R := R) A3.bk lys hgl dgs (fun t m => by obtain ⟨u, mu, rfl⟩ := List.mem_map.mp m; exact bareT_dep (eok u mu)) (dtv.fr f2) dtp lgs fun r6 H6 ρ6 x6 l6 nr6 hr6 hb6 ex6 fr6 => ?_
          have A4 := A3.bank (ys' := ys ++ [_]) (by rw [List.length_append]; exact hb6) ex6 fr6 A3.twoBD
          have O4 := O3.step ex6 fr6 (fun a m => .inr (let ⟨_, i, j, e, _⟩ := A3.twoBD a m; ⟨i, j, e⟩)) (fun a m => by
            obtain ⟨_, _, hB⟩ := hb6.at_
            obtain ⟨_, hD, _⟩ := hb6.dk
            simp only [List.mem_cons, List.not_mem_nil, or_false] at m
            rcases m with rfl | rfl
            · exact some_ne hB
            · exact some_ne hD)
          clear A3 O3 f2
          tm_at "goo"
          have eg : step * (ys.length : Int) + step - 1 = gT step ys.length := by unfold gT; omega
          refine sm_step (Sm.of_den (t := .tup [.str (Str.ofString "ref"), .int (gT step ys.length)]) (Den.tups (Fr.at0 (Fr.new np) hr6) (.cons (.str _) (.cons (.int _) .nil))) (Den.tups upd_same (.cons (.str _) (.cons (by rw [← eg]; exact Den.int _) .nil))) (by tm_at "dep")) ?_
          have F5 := Fr.new (o := .tup [.str (Str.ofString "ref"), .int (step * ys.length + step - 1)]) np
          have A5 := A4.of0 F5
          have O5 := O4.of0 F5
          have hr5 := F5.at0 hr6
          have hTa5 := A5.ta
          have ltb := A5.len
          clear F5
          tm_at "goo"
          have A6 := A5.put (tb' := tb.set k (gT step ys.length)) fr (by rw [hp, Int.toNat_natCast, List.map_set]) (by rw [List.length_set]; exact ltb)
          have O6 := O5.step Ext.refl fr (fun a m => .inr ⟨7, 0, by rw [List.mem_singleton.mp m]; exact A5.rt⟩) (fun a m => by rw [List.mem_singleton.mp m]; exact some_ne hp)
          have ltk : k < tb.length := by omega
          exact B1Mid.of (by rw [List.length_append]; rfl) A6 O6 (by simp; omega) (by rw [ek]; exact rel.add xk nk ltk ⟨rfl, rfl, rfl⟩) (by rw [ek]; exact inj.add rel A.bk.st sub ltk nk)
    · unfold B1Mid at hP
      obtain ⟨x8, y8, ρ', tb, ys, rfl, A, O, ly, rel, inj⟩ := hP
      have et : os.take (os.map V.int).length = os := by rw [List.length_map]; exact List.take_length
      rw [et] at rel inj
      have bx := A.bx
      tm_at "goo"
      have A2 := A.box fr hB nLb
      have O2 := O.box fr hB
      clear fr A O bx
      generalize ys.length = m0 at *
      refine ⟨⟨_, .of A2.lo⟩, ?_⟩
      refine for_list (xs := os.map V.int) (B2Mid K ρ H sd s2 step CT C tlf R b B dD N Lo rp os xs tb (fun x y => [some (.ref b), some (.ref B), some (.ref N), some (.ref Lo), some (.int step), some (.ref rp), some (.int m0), x, y8, none, some (.int r), y]) (ux2 os tb)) (B2Mid.of (x := x8) (y := none) rfl A2 O2 (rel.same fun j z _ _ => if_neg (by simp))) (fun j σ' H' _ hP => ?_) (fun j u σ' H' hu hP => ?_) (fun σ' H' hP => ?_)
      · unfold B2Mid at hP
        obtain ⟨x, y, ρ', ys, rfl, A, _⟩ := hP
        exact .of A.lo
      · clear rel A2 O2
        unfold B2Mid at hP
        obtain ⟨x, y, ρ', ys, rfl, A, O, rel⟩ := hP
        obtain ⟨a, ea, rfl⟩ := os_at hu
        obtain ⟨a0, a1⟩ := idx_mem.mp (osi a (List.mem_of_getElem? ea))
        obtain ⟨k, hk⟩ : ∃ k : Nat, (k : Int) = a := ⟨a.toNat, by omega⟩
        subst hk
        have nk := nodup_next osn ea
        have ek := take_next ea
        have mk := List.mem_of_getElem? ea
        have kx : k < xs.length := by omega
        have xk : xs[k]? = some xs[k] := List.getElem?_eq_getElem kx
        generalize xs[k] = xk0 at xk
        obtain ⟨p0, y0, etb, ey, r1, r2, r3⟩ := rel k xk0 xk mk
        have r3' : y0.us = xk0.ts.map bareT := by rw [r3]; exact if_neg nk
        have lp := (List.getElem?_eq_some_iff.mp ey).1
        have km1 : (tlf R ys.length).lookup ("change" : Str) = none := A.bk.tll.nom _ (by decide +kernel)
        have km2 : (tlf R ys.length).lookup ("set_slot" : Str) = none := A.bk.tll.nom _ (by decide +kernel)
        obtain ⟨dx, gr, hBk⟩ := A.bk.at_
        have hN' := A.nd
        have hN0' := A.nd.at_
        have hTa := A.ta
        have ltb := A.len
        have kn : (xs[((k : Nat) : Int).toNat]? = some xk0) := by rw [Int.toNat_natCast]; exact xk
        have kt : (tb[((k : Nat) : Int).toNat]? = some (gT step p0)) := by rw [Int.toNat_natCast]; exact etb
        have off : ∀ (i : Nat) (z : Nd), i ≠ k → ux2 os tb (j + 1) i z = ux2 os tb j i z := fun i z n => by
          unfold ux2
          rw [ek]
          by_cases q : (i : Int) ∈ os.take j
          · rw [if_pos (List.mem_append_left _ q), if_pos q]
          · rw [if_neg (fun m => (List.mem_append.mp m).elim q fun m => n (by have := List.mem_singleton.mp m; omega)), if_neg q]
        have at1 : ux2 os tb (j + 1) k xk0 = xk0.ts.map (movT (gF tb)) := by
          unfold ux2
          rw [ek, if_pos (by simp)]
        obtain ⟨dxs, eok, dtv, dtp, lrow⟩ := A.nd.ok k xk0 xk
        have lts := dxs.1
        have owTh : ∀ a ∈ [B, y0.th], a = b ∨ ∃ i j, ρ' a = some (sd, i, j) := fun a m => .inr (let ⟨_, i, j, e, _⟩ := A.twoTh ey a m; ⟨i, j, e⟩)
        tm_at "goo"
        · rename_i x2 e2 d2 w2
          have q2 := Option.some.inj (kn.symm.trans e2)
          have q3 := Option.some.inj (kn.symm.trans hxn)
          have q4 := Option.some.inj (kt.symm.trans hn')
          subst q2 q3 q4
          have Fp := Fr.new (o := .tup [.str (Str.ofString "ref"), .int (gT step p0)]) np
          refine sent_step (gs := tb) (.of hrow) (.of (Fp.at0 hTa)) (dxs.fr Fp) (by rw [ltb]; exact eok) (by omega) fun hd H3 hv nhd hhd dhv f3 => ?_
          have hp3 := f3.at0 (upd_same (H := H') (a := p) (o := .tup [.str (Str.ofString "ref"), .int (gT step p0)]))
          have A3 := A.of0 (Fp.tr f3)
          have O3 := O.of0 (Fp.tr f3)
          have dtv3 := (dtv.fr Fp).fr f3
          have lhv : hv.length ≤ 200 := by have := dhv.1; simp at this; omega
          clear Fp f3
          tm_at "goo"
          refine change_step A3.bk hp3 ey hhd dhv (fun t m => by obtain ⟨u, mu, rfl⟩ := List.mem_map.mp m; exact movT_dep (eok u mu)) dtv3 dtp lhv fun H4 ρ4 l4 hb4 ex4 f4 => ?_
          have A4 := A3.bank (ys' := ys.set p0 _) (by rw [List.length_set]; exact hb4) ex4 f4 (A3.twoTh ey)
          have O4 := O3.step ex4 f4 owTh (fun a m => by
            obtain ⟨_, _, hB⟩ := hb4.at_
            obtain ⟨⟨_, hT⟩, _⟩ := hb4.th p0 _ (List.getElem?_set_self lp)
            simp only [List.mem_cons, List.not_mem_nil, or_false] at m
            rcases m with rfl | rfl
            · exact some_ne hB
            · exact some_ne hT)
          tm_at "goo"
          exact B2Mid.of rfl A4 O4 (rel.set inj xk mk etb lp ⟨r1, rfl, at1.symm⟩ off)
        · have q3 := Option.some.inj (kn.symm.trans hxn)
          subst q3
          refine ⟨by omega, ?_⟩
          refine forR (B2Mid K ρ H sd s2 step CT C tlf R b B dD N Lo rp os xs tb (fun _ y => [some (.ref b), some (.ref B), some (.ref N), some (.ref Lo), some (.int step), some (.ref rp), some (.int m0), some (.int k), y8, none, some (.int r), y]) (ux3 os tb j k)) (B2Mid.of (x := none) rfl A O (rel.same fun i z hz _ => ?_)) (fun i σ' H' hi hP => ?_) (fun σ' H' hP => ?_)
          · unfold ux3
            by_cases q : i = k
            · subst q
              rw [if_pos rfl, mixT_zero]
              exact (if_neg nk).symm
            · rw [if_neg q]
          · clear hBk hN' hN0' hTa hnd hrow
            unfold B2Mid at hP
            obtain ⟨x3, y3, ρ3, ys3, rfl, A3, O3, rel3⟩ := hP
            have hi' : i < xk0.rs.length := by omega
            rw [show (0 : Int) + (i : Int) = i from Int.zero_add _]
            obtain ⟨dxs3, eok3, _, _, lrow3⟩ := A3.nd.ok k xk0 xk
            obtain ⟨p3, y4, etb3, ey3, s1, s2', s3⟩ := rel3 k xk0 xk mk
            have s3' : y4.us = mixT (movT (gF tb)) bareT i xk0.ts := by rw [s3]; exact if_pos rfl
            have lp3 := (List.getElem?_eq_some_iff.mp ey3).1
            have kt3 : (tb[((k : Nat) : Int).toNat]? = some (gT step p3)) := by rw [Int.toNat_natCast]; exact etb3
            have km3 : (tlf R ys3.length).lookup ("set_slot" : Str) = none := A3.bk.tll.nom _ (by decide +kernel)
            obtain ⟨dx3, gr3, hBk⟩ := A3.bk.at_
            have hN' := A3.nd
            have hN0' := A3.nd.at_
            have hTa := A3.ta
            have off3 : ∀ (i' : Nat) (z : Nd), i' ≠ k → ux3 os tb j k (i + 1) i' z = ux3 os tb j k i i' z := fun i' z n => by
              unfold ux3
              rw [if_neg n, if_neg n]
            tm_at "goo"
            have q3 := Option.some.inj (kn.symm.trans hxn)
            subst q3
            have hi2 : (i : Int) < xk0.rs.length := by omega
            tm_at "goo"
            have hv0 := hv
            rw [Int.toNat_natCast] at hv0
            obtain ⟨t, et', dt⟩ := dxs3.get hv0
            have ot := eok3 t (List.mem_of_getElem? et')
            refine tgt_step dt ot.shape ?_
            tm_at "goo"
            · have q4 := Option.some.inj (kn.symm.trans hxn)
              subst q4
              have q5 := Option.some.inj (kt3.symm.trans hn')
              subst q5
              tm_at "goo"
              rename_i v2 hv2
              have ev : v2 = v := Option.some.inj (hv2.symm.trans hv)
              subst ev
              have Fp := Fr.new (o := .tup [.str (Str.ofString "ref"), .int (gT step p3)]) np
              refine mov_step (gs := tb) (.of (Fp.at0 hTa)) (dt.fr Fp) (by rw [ltb]; exact ot) fun v' H4 f4 d4 => ?_
              have hp4 := f4.at0 (upd_same (H := H') (a := p) (o := .tup [.str (Str.ofString "ref"), .int (gT step p3)]))
              have A4 := A3.of0 (Fp.tr f4)
              have O4 := O3.of0 (Fp.tr f4)
              have l4 : y4.ss.length = xk0.ts.length := by rw [(A3.bk.ok p3 y4 ey3).1.1, s3', mixT_len]
              have i4 : (i : Int) < y4.ss.length := by rw [l4, ← lts]; exact hi2
              clear Fp f4
              tm_at "goo"
              refine setslot_step A4.bk hp4 ey3 (by omega) i4 d4 (movT_dep ot) fun H5 hb5 f5 => ?_
              have A5 := A4.bank (ys' := ys3.set p3 _) (by rw [List.length_set]; exact hb5) Ext.refl f5 (A4.oneSl ey3)
              have O5 := O4.step Ext.refl f5 (fun a m => .inr (let ⟨_, i, j, e, _⟩ := A4.oneSl ey3 a m; ⟨i, j, e⟩)) (fun a m => by
                rw [List.mem_singleton.mp m]
                exact some_ne (hb5.sl p3 _ (List.getElem?_set_self lp3)).1)
              tm_at "goo"
              refine B2Mid.of (x := none) rfl A5 O5 (rel3.set inj xk mk etb3 lp3 ⟨s1, s2', ?_⟩ off3)
              show y4.us.set ((i : Int)).toNat _ = ux3 os tb j k (i + 1) k xk0
              rw [Int.toNat_natCast, s3', mixT_set et']
              exact (if_pos rfl).symm
            · have c0 : ¬ (0 ≤ tgtV t) := by assumption
              have en := tgtV_neg ot (by omega)
              refine B2Mid.of (x := none) rfl A3 O3 (rel3.same fun i' z hz _ => ?_)
              unfold ux3
              by_cases q : i' = k
              · subst q
                rw [xk] at hz; cases hz
                rw [if_pos rfl, if_pos rfl]
                exact mixT_stay et' (by rw [bareT_none en, ot.shape.mov_id en])
              · rw [if_neg q, if_neg q]
          · unfold B2Mid at hP
            obtain ⟨x3, y3, ρ3, ys3, rfl, A3, O3, rel3⟩ := hP
            refine B2Mid.of rfl A3 O3 (rel3.same fun i z hz _ => ?_)
            unfold ux3
            by_cases q : i = k
            · subst q
              rw [if_pos rfl, mixT_all]
              · rw [xk] at hz; cases hz
                exact at1
              · rw [xk] at hz; cases hz
                simp; omega
            · rw [if_neg q]
              exact off i z q
      · unfold B2Mid at hP
        obtain ⟨x, y, ρ', ys, rfl, A, O, rel⟩ := hP
        tm_at "goo"
        exact q rp H' ρ' tb ys nrp0 (A.tab po (rel.same fun j z _ m => by unfold ux2; rw [et, if_pos m]) inj) O
end
end M14
set_option Elab.async false
set_option linter.all false
set_option maxRecDepth 100000
set_option maxHeartbeats 4000000
namespace M14
open PySem PySem.Spec PyProof.Rows L2

/-! ### the three memories side by side -/
def clsF (CS CH : Addr) (i : Nat) : Addr := if i = 2 then CH else CS
def stpF (i : Nat) : Int := if i = 2 then 2 else 1
def tlF (i : Nat) : Addr → Nat → List (Str × V) := if i = 2 then hTl else fun _ _ => []
/-- the script's list: it stands, owned by none, or is written -/
def Scr (K : PySem.W.Frag) (ρ : Role) (H : Hp) (a : Addr) (xs : List V) : Prop := (∃ o, H a = some o ∧ ρ a = none ∧ ∀ H' : Hp, H' a = some o → SqL K H' a xs) ∨ ∀ H', SqL K H' a xs
theorem Scr.sq {K : PySem.W.Frag} {ρ : Role} {H : Hp} {a : Addr} {xs : List V} (h : Scr K ρ H a xs) : SqL K H a xs := by
  rcases h with ⟨o, e, _, q⟩ | q
  · exact q H e
  · exact q H
theorem Scr.of {K : PySem.W.Frag} {H : Hp} {a : Addr} {xs : List V} (h : SqL K H a xs) : Scr K (fun _ => none) H a xs := by
  rcases h with (h | ⟨o, h⟩) | h
  · exact .inl ⟨_, h, rfl, fun H' e => .inl (.inl e)⟩
  · exact .inl ⟨_, h, rfl, fun H' e => .inl (.inr ⟨_, e⟩)⟩
  · exact .inr fun H' => .inr h
section
variable {K : PySem.W.Frag} {ρ ρ' : Role} {H H' : Hp} {M : List Addr}
/-- what may change: new, or owned -/
def Own (ρ : Role) (H : Hp) (M : List Addr) (i : Nat) : Prop := ∀ x ∈ M, H x = none ∨ ∃ j k, ρ x = some (i, j, k)
theorem stays {i : Nat} {a : Addr} {o : HO} (ow : Own ρ H M i) (e : Ext H ρ ρ') (f : Fr M H H') (h : H a = some o) (r : ρ a = none) : H' a = some o ∧ ρ' a = none := by
  refine ⟨f.kp _ _ h fun m => ?_, by rw [e a (some_ne h)]; exact r⟩
  rcases ow a m with z | ⟨j, k, z⟩
  · rw [h] at z; cases z
  · rw [r] at z; cases z
theorem Scr.move {i : Nat} {a : Addr} {xs : List V} (h : Scr K ρ H a xs) (ow : Own ρ H M i) (e : Ext H ρ ρ') (f : Fr M H H') : Scr K ρ' H' a xs := by
  rcases h with ⟨o, ha, r, q⟩ | q
  · obtain ⟨h1, h2⟩ := stays ow e f ha r
    exact .inl ⟨o, h1, h2, q⟩
  · exact .inr q
end
section
variable {K : PySem.W.Frag} {ρ : Role} {H H' : Hp}
/-- an empty bank -/
theorem BkA.new {s : Nat} {step : Int} {CT C x D dx : Addr} {gr : Int} {tl : List (Str × V)} (hx : H' x = some (.ins C dx (bkF D gr tl))) (hD : H' D = some (.dK [])) (t : TlOk tl) (st : step = 1 ∨ step = 2) : BkA K (role1 (role1 ρ x (s, 0, 0)) D (s, 1, 0)) s step CT C tl H' x D [] := by
  have n : x ≠ D := fun e => by rw [e, hD] at hx; cases hx
  exact ⟨⟨_, _, hx⟩, by rw [role1_ne n]; exact role1_at, ⟨[], hD, rfl, fun i y e => by simp at e, fun z _ => rfl⟩, role1_at, fun i y e => by simp at e, fun i y e => by simp at e, fun i y e => by simp at e, by simp, t, st⟩
theorem NdA.new {s : Nat} {n : Int} {N : Addr} (hN : H' N = some (.lst [])) : NdA K (role1 ρ N (s, 2, 0)) s n H' N [] :=
  ⟨by simpa using hN, role1_at, fun i y e => by simp at e, fun i y e => by simp at e, fun i y e => by simp at e, by simp⟩
def pick3 (x y z : Addr) : Nat → Addr
  | 0 => x
  | 1 => y
  | _ => z
theorem NdA.nil {s : Nat} {n : Int} {N : Addr} (hN : H' N = some (.lst [])) (r : ρ N = some (s, 2, 0)) : NdA K ρ s n H' N [] :=
  ⟨by simpa using hN, r, fun i y e => by simp at e, fun i y e => by simp at e, fun i y e => by simp at e, by simp⟩
end
end M14
set_option Elab.async false
set_option linter.all false
set_option maxRecDepth 100000
set_option maxHeartbeats 4000000
namespace M14
open PySem PySem.Spec PyProof.Rows L2

/-- whichever of the readings holds -/
theorem pe_any {X : Cx} {e : Expr} {t : Nat → TE} (h : ∀ i, PE X e (t i)) : PE X e (fun σ H Q => ∃ i, t i σ H Q) := by
  constructor
  intro pins s σ H Q I h1
  obtain ⟨i, h1⟩ := h1
  exact (h i).run pins s σ H Q I h1
/-- what a kind of bank offers -/
structure BankG (P : Program) (w : World) (K : PySem.W.Frag) (mg : Str → Option Value) (base : Heap) (C CT : Addr) (step : Int) (tlf : Addr → Nat → List (Str × V)) : Prop where
  make : CalM P w K mg base 4 C "make" ["self", "kind", "tag", "slots"] (spMake K CT C step tlf)
  set_slot : CalM P w K mg base 2 C "set_slot" ["self", "value", "index", "entry"] (spSetSlot K CT C step)
  change : CalM P w K mg base 2 C "change" ["self", "value", "tag", "slots"] (spChange K CT C step)
  reach : CalM P w K mg base 3 C "reach" ["self", "entries"] (spReach K CT C)
  graph : CalM P w K mg base 4 C "graph" ["self", "entries"] (spGraph K CT C)
theorem banksG_of {P : Program} {w : World} {K : PySem.W.Frag} {mg : Str → Option Value} {base : Heap} {CS CH CT : Addr} (b1 : BankG P w K mg base CS CT 1 fun _ _ => []) (b2 : BankG P w K mg base CH CT 2 hTl) (i : Nat) : BankG P w K mg base (clsF CS CH i) CT (stpF i) (tlF i) := by
  unfold clsF stpF tlF
  by_cases e : i = 2
  · rw [if_pos e, if_pos e, if_pos e]; exact b2
  · rw [if_neg e, if_neg e, if_neg e]; exact b1
section
variable {P : Program} {w : World} {K : PySem.W.Frag} {mg : Str → Option Value} {base : Heap}
@[irreducible] def spAsked3 (K : PySem.W.Frag) (CT CS CH : Addr) : Sp := fun vs H Q E => ∃ i : Nat, spAsked K CT (clsF CS CH i) vs H Q E
@[irreducible] def spBuilt3 (K : PySem.W.Frag) (CT CS CH : Addr) : Sp := fun vs H Q E => ∃ i : Nat, spBuilt K CT (clsF CS CH i) (stpF i) (tlF i) vs H Q E
theorem ok_asked3 {CT CS CH : Addr} (T : Bl mg) (BG : ∀ i, BankG P w K mg base (clsF CS CH i) CT (stpF i) (tlF i)) (G_same : Cal P w K mg base 7 "_law_same" ["_law_told", "_law_due"] (spSm K 7)) (G_walk : Cal P w K mg base 3 "_law_walk" ["_law_entries", "_law_nodes_here"] (spWalk K)) (G_graph : Cal P w K mg base 4 "_law_graph" ["_law_entries", "_law_nodes_here", "_law_found"] (spLGraph K)) (G_sent : Cal P w K mg base 3 "_law_sent" ["_law_entries", "_law_table"] (spSent K))
    (D : Def1 K mg "_law_asked" s_asked) : Cal P w K mg base 8 "_law_asked" ["_law_bank", "_law_nodes_here", "_law_table", "_law_entries"] (spAsked3 K CT CS CH) := by
  refine D.cal sc_asked (fun _ _ _ _ _ _ us hl => match us, hl with | [_, _, _, _], _ => rfl) (fun vs H Q E h => ?_) (fun f cdv A outer s H vs Q E hr h => ?_) <;> unfold spAsked3 at h
  · obtain ⟨i, h⟩ := h
    unfold spAsked at h
    obtain ⟨ρ, ρ2, sd, s2, step, tl, B, dD, N, Ta, e, ys, tb, xs, ev, es, rfl, _⟩ := h
    rfl
  · obtain ⟨i, h⟩ := h
    exact body_asked T G_same G_walk G_graph G_sent (BG i).reach (BG i).graph f cdv A outer s H vs Q E hr h
theorem ok_built3 {CT CS CH : Addr} (T : Bl mg) (BG : ∀ i, BankG P w K mg base (clsF CS CH i) CT (stpF i) (tlF i)) (G_take : CTake P w K mg base) (G_same : Cal P w K mg base 7 "_law_same" ["_law_told", "_law_due"] (spSm K 7)) (G_bare : Cal P w K mg base 3 "_law_bare" ["_law_entry_here"] (spBare K)) (G_sent : Cal P w K mg base 3 "_law_sent" ["_law_entries", "_law_table"] (spSent K))
    (G_target : Cal P w K mg base 2 "_law_target" ["_law_entry_here"] (spTgt K)) (G_moved : Cal P w K mg base 2 "_law_moved" ["_law_entry_here", "_law_table"] (spMov K)) (D : Def1 K mg "_law_built" s_built) : Cal P w K mg base 8 "_law_built" ["_law_box_here", "_law_bank", "_law_nodes_here", "_law_order_here", "_law_step"] (spBuilt3 K CT CS CH) := by
  refine D.cal sc_built (fun _ _ _ _ _ _ us hl => match us, hl with | [_, _, _, _, _], _ => rfl) (fun vs H Q E h => ?_) (fun f cdv A outer s H vs Q E hr h => ?_) <;> unfold spBuilt3 at h
  · obtain ⟨i, h⟩ := h
    exact len_built _ _ _ _ h
  · obtain ⟨i, h⟩ := h
    exact body_built T G_take G_same G_bare G_sent G_target G_moved (BG i).make (BG i).set_slot (BG i).change f cdv A outer s H vs Q E hr h
theorem asked3_step {CT CS CH : Addr} {i : Nat} {ρ ρ2 : Role} {s s2 : Nat} {step : Int} {tl : List (Str × V)} {B D N Ta e : Addr} {ys : List Th} {tb : List Int} {xs : List Nd} {ev : List V} {es : List T} {H : Hp} {Q : VK} {E : XK} (h1 : TabS K ρ s step CT (clsF CS CH i) tl H B D ys Ta tb xs) (h2 : NdA K ρ2 s2 xs.length H N xs) (h3 : H e = some (.lst ev)) (h4 : Dens K H ev es) (h5 : ∀ t ∈ es, EntOk xs.length t) (h6 : es.length ≤ 1000) (q : ∀ H', Fr [] H H' → Q (.bl true) H') : spAsked3 K CT CS CH ([.ref B, .ref N, .ref Ta, .ref e] ++ []) H Q E := by
  unfold spAsked3; exact ⟨i, asked_step h1 h2 h3 h4 h5 h6 q⟩
theorem built3_step {CT CS CH : Addr} {i : Nat} {ρ : Role} {s s2 : Nat} {R b B D N Lo : Addr} {os : List Int} {xs : List Nd} {H : Hp} {Q : VK} {E : XK} (h1 : Box H b) (h2 : ρ b = none) (h3 : BkA K ρ s (stpF i) CT (clsF CS CH i) (tlF i R 0) H B D []) (h4 : NdA K ρ s2 xs.length H N xs) (h5 : s ≠ s2) (h6 : H Lo = some (.lst (os.map V.int))) (h7 : ρ Lo = none) (h8 : Lo ≠ b) (h9 : os.Perm (idx xs.length)) (h10 : xs.length ≤ 1400)
    (q : ∀ Ta H' ρ' tb ys, H Ta = none → TabS K ρ' s (stpF i) CT (clsF CS CH i) (tlF i R ys.length) H' B D ys Ta tb xs → Fro ρ s b H ρ' H' → Q (.ref Ta) H') : spBuilt3 K CT CS CH ([.ref b, .ref B, .ref N, .ref Lo, .int (stpF i)] ++ []) H Q E := by
  unfold spBuilt3 spBuilt; exact ⟨i, ρ, s, s2, R, b, B, D, N, Lo, os, xs, rfl, h1, h2, h3, h4, h5, h6, h7, h8, h9, h10, q⟩
end
section
variable {K : PySem.W.Frag} {ρ ρ' : Role} {s : Nat} {step : Int} {CT C B D Ta : Addr} {tl : List (Str × V)} {ys : List Th} {tb : List Int} {xs : List Nd} {H H' : Hp} {M : List Addr}
theorem TabS.frM (h : TabS K ρ s step CT C tl H B D ys Ta tb xs) (f : Fr M H H') (aw : Away ρ s M) : TabS K ρ s step CT C tl H' B D ys Ta tb xs := ⟨h.bk.frM f aw, f.kp _ _ h.ta fun m => aw _ m _ _ h.rt, h.rt, h.len, h.nd, h.rel⟩
theorem TabS.of0 (h : TabS K ρ s step CT C tl H B D ys Ta tb xs) (f : Fr [] H H') : TabS K ρ s step CT C tl H' B D ys Ta tb xs := h.frM f .nil
theorem TabS.ext (h : TabS K ρ s step CT C tl H B D ys Ta tb xs) (e : Ext H ρ ρ') : TabS K ρ' s step CT C tl H B D ys Ta tb xs := ⟨h.bk.ext e, h.ta, by rw [e _ (some_ne h.ta)]; exact h.rt, h.len, h.nd, h.rel⟩
/-- what another side does -/
theorem other {p : Role → Hp → Prop} {s i : Nat} (ne : s ≠ i) (ow : Own ρ H M i) (e : Ext H ρ ρ') (f : Fr M H H') (h : p ρ H) (pe : ∀ {ρ'}, p ρ H → Ext H ρ ρ' → p ρ' H) (pf : ∀ {M ρ H'}, p ρ H → Fr M H H' → Away ρ s M → p ρ H') : p ρ' H' := by
  have f2 : Fr (M.filter fun x => (H x).isSome) H H' := f.to (fun x m => by
    cases z : H x with
    | none => exact .inr rfl
    | some o => exact .inl (List.mem_filter.mpr ⟨m, by rw [z]; rfl⟩)) fun a m => f.nt a (List.mem_filter.mp m).1
  refine pf (pe h e) f2 fun a m j k z => ?_
  obtain ⟨m, al⟩ := List.mem_filter.mp m
  rcases ow a m with q | ⟨j', k', q⟩
  · rw [q] at al; cases al
  · have al' : H a ≠ none := fun q => by rw [q] at al; cases al
    rw [e a al', q] at z
    injection z with z
    injection z with z _
    exact ne z.symm
theorem TabS.move {i : Nat} (h : TabS K ρ s step CT C tl H B D ys Ta tb xs) (n : s ≠ i) (ow : Own ρ H M i) (e : Ext H ρ ρ') (f : Fr M H H') : TabS K ρ' s step CT C tl H' B D ys Ta tb xs :=
  other (p := fun ρ H => TabS K ρ s step CT C tl H B D ys Ta tb xs) n ow e f h (fun h e => h.ext e) fun h f a => h.frM f a
theorem BkA.move {i : Nat} (h : BkA K ρ s step CT C tl H B D ys) (n : s ≠ i) (ow : Own ρ H M i) (e : Ext H ρ ρ') (f : Fr M H H') : BkA K ρ' s step CT C tl H' B D ys :=
  other (p := fun ρ H => BkA K ρ s step CT C tl H B D ys) n ow e f h (fun h e => h.ext e) fun h f a => h.frM f a
theorem NdA.move {i : Nat} {n : Int} {N : Addr} (h : NdA K ρ s n H N xs) (ne : s ≠ i) (ow : Own ρ H M i) (e : Ext H ρ ρ') (f : Fr M H H') : NdA K ρ' s n H' N xs :=
  other (p := fun ρ H => NdA K ρ s n H N xs) ne ow e f h (fun h e => h.ext e) fun h f a => h.frM f a
end
end M14
set_option Elab.async false
set_option linter.all false
set_option maxRecDepth 100000
set_option maxHeartbeats 4000000
namespace M14
open PySem PySem.Spec PyProof.Rows L2

/-- the three banks and their tables -/
def Trio (K : PySem.W.Frag) (ρ : Role) (CT CS CH : Addr) (B D Ta : Nat → Addr) (xs : List Nd) (H : Hp) : Prop := ∀ i, i < 3 → ∃ (R : Addr) (ys : List Th) (tb : List Int), TabS K ρ i (stpF i) CT (clsF CS CH i) (tlF i R ys.length) H (B i) (D i) ys (Ta i) tb xs
section
variable {K : PySem.W.Frag} {ρ ρ' : Role} {CT CS CH : Addr} {B D Ta : Nat → Addr} {xs : List Nd} {H H' : Hp} {M : List Addr}
theorem Trio.of0 (h : Trio K ρ CT CS CH B D Ta xs H) (f : Fr [] H H') : Trio K ρ CT CS CH B D Ta xs H' := fun i hi => let ⟨R, ys, tb, t⟩ := h i hi; ⟨R, ys, tb, t.of0 f⟩
theorem Trio.ext (h : Trio K ρ CT CS CH B D Ta xs H) (e : Ext H ρ ρ') : Trio K ρ' CT CS CH B D Ta xs H := fun i hi => let ⟨R, ys, tb, t⟩ := h i hi; ⟨R, ys, tb, t.ext e⟩
theorem Trio.frM (h : Trio K ρ CT CS CH B D Ta xs H) (f : Fr M H H') (aw : ∀ i, i < 3 → Away ρ i M) : Trio K ρ CT CS CH B D Ta xs H' := fun i hi => let ⟨R, ys, tb, t⟩ := h i hi; ⟨R, ys, tb, t.frM f (aw i hi)⟩
end
section
variable {P : Program} {w : World} {K : PySem.W.Frag} {mg : Str → Option Value} {base : Heap}
set_option hygiene false
local macro_rules | `(tactic| tm_at "sc") => `(tactic| (first | omega | (simp only [List.length_cons, List.length_nil, List.length_map, List.length_set, List.length_append]; omega) | (simp only [List.length_map] at h1 ⊢; omega) | (simp only [List.length_map] at c ⊢; omega) | with_reducible assumption | exact And.intro (by omega) (by omega) | exact Or.inl (And.intro (by omega) (by omega)) | exact Or.inr (And.intro (by omega) (by omega)) | decide +kernel | exact len1000 (by simp) | rfl | fail "no way"))
local macro_rules | `(tactic| tm_at "sc1") => `(tactic| (focus (simp; done)))
local macro_rules | `(tactic| tm_at "ne") => `(tactic| (first | assumption | exact Ne.symm (by assumption) | (apply Box.ne2; assumption; tm_at "hp") | (apply Ne.symm; apply Box.ne2; assumption; tm_at "hp") | (apply ne_of_none2; assumption; tm_at "hp") | (apply Ne.symm; apply ne_of_none2; assumption; tm_at "hp") | fail "no way"))
local macro_rules | `(tactic| tm_at "f0") => `(tactic| (first | assumption | (apply Fr.new; assumption) | fail "no way"))
local macro_rules | `(tactic| tm_at "hp") => `(tactic| (first | assumption | exact upd_same | (apply SqL.of; first | assumption | exact upd_same) | (apply Fr.at0; tm_at "f0"; tm_at "hp") | (apply Fr.at1n; assumption; tm_at "ne"; tm_at "hp") | (apply sqFr0; tm_at "f0"; tm_at "hp") | (apply sqFr1; assumption; tm_at "ne"; tm_at "hp") | (apply Box.fr0; tm_at "f0"; tm_at "hp") | (apply Box.fr1; assumption; tm_at "ne"; tm_at "hp") | (apply Den.fr; tm_at "f0"; tm_at "hp") | (apply Dens.fr; tm_at "f0"; tm_at "hp") | fail "no way"))
local macro_rules | `(tactic| tm_at "free0") => `(tactic| (first | assumption | (apply updFree; assumption) | (apply updFree; apply updFree; assumption) | (apply updFree; apply updFree; apply updFree; assumption) | (apply updFree; apply updFree; apply updFree; apply updFree; assumption) | fail "no way"))
local macro_rules | `(tactic| tm_at "free") => `(tactic| (first | tm_at "free0" | (apply Fr.free; assumption; tm_at "free0") | (apply Box.free; assumption; tm_at "fr"; tm_at "free0") | (apply Fr.free; assumption; apply Fr.free; assumption; tm_at "free0") | fail "no way"))
local macro_rules | `(tactic| tm_at "fr") => `(tactic| (first | assumption | exact Fr.refl0 _ | exact Fr.refl (Box.nt (by assumption)) | (refine Fr.comp0 ?_ (by tm_at "f0"); tm_at "fr") | (refine Fr.comp ?_ (by assumption); tm_at "fr") | (refine Fr.compN ?_ (by assumption) (by tm_at "free"); tm_at "fr") | fail "no way"))
local macro_rules | `(tactic| tm_at "call") => `(tactic| fail "no call")
local macro_rules | `(tactic| tm_at "call") => `(tactic| (apply take_step; tm_at "hp"; tm_at "sc"; tm_at "sc"; intro r H1 h0 h1 hB fr))
local macro_rules | `(tactic| tm_at "ty") => `(tactic| (first | assumption | exact .base .non | exact .base (.bl _) | exact .base (.int _) | exact .base (.str _) | (apply TyX.base; apply TyOf.lst; tm_at "hp") | (apply TyX.base; apply TyOf.tup; tm_at "hp") | fail "no way"))
local macro_rules | `(tactic| tm_at "pre") => `(tactic| fail "none")
local macro_rules | `(tactic| tm_at "go1") => `(tactic| (first | tm_at "pre" | refine ⟨_, rfl, ?_⟩ | refine ⟨_, _, rfl, rfl, ?_⟩ | (apply set_step; tm_at "hp"; tm_at "sc"; tm_at "sc"; intro H1 hp fr) | (with_reducible refine iteDI ?_ ?_ <;> intro c) | (with_reducible refine iteDS ?_ ?_ <;> intro c) | (with_reducible refine iteD ?_ ?_ <;> intro c) | (with_reducible refine iteEM ?_ ?_ <;> intro c) | (with_reducible refine iteE ?_ ?_ <;> intro c) | with_reducible refine iteN ?_ | with_reducible refine iteF ?_ | with_reducible refine iteT ?_ | (refine fun (p : Addr) (np : _ = (none : Option HO)) => ?_; fail_if_success (refine ⟨fun (_ _ : Nat) (_ : Hp) => True, ?_⟩)) | (apply isi_tt; tm_at "ty"; focus (decide +kernel)) | (apply isi_ff; tm_at "ty"; focus (decide +kernel)) | (apply sl_step; tm_at "hp"; intro qq H1 ms nq hq fr) | (apply sum_step; tm_at "hp"; intro i) | (apply tru_step; tm_at "hp") | (apply len_step; tm_at "hp") | (apply lenq_step; assumption) | (apply ixq_step; assumption; tm_at "sc"; tm_at "sc"; intro v hv) | (apply lst_step; tm_at "hp") | (apply tupl_step; tm_at "hp") | (apply ixr_step; tm_at "hp"; exact rfl) | (apply ix0_step; tm_at "hp") | (apply ix1_step; tm_at "hp") | (apply ix2_step; tm_at "hp") | (apply ixi_step; tm_at "hp"; tm_at "sc"; tm_at "sc"; intro n hn hn') | (apply ixl_step; tm_at "hp"; tm_at "sc"; tm_at "sc"; intro v hv) | (apply ixt_step; tm_at "hp"; tm_at "sc"; tm_at "sc"; intro v hm hv) | (apply in_step; tm_at "hp"; rfl; rfl) | (apply cat_step; tm_at "hp"; tm_at "hp"; tm_at "sc") | (apply catT_step; tm_at "hp"; tm_at "hp"; tm_at "sc1") | (apply tyL_and; tm_at "hp") | (apply app_step; tm_at "hp"; tm_at "sc"; intro H1 hp fr) | tm_at "call" | refine ⟨⟨_, rfl⟩, ?_⟩ | (apply ixs_step; tm_at "sc"; tm_at "sc"; tm_at "sc"; intro ch) | refine .inl ⟨_, rfl, ?_⟩ | refine .inr ⟨_, rfl, ?_⟩ | (apply And.intro; tm_at "sc") | (with_reducible refine wayB ?_ ?_ <;> intro c) | fail "no way"))
local macro_rules | `(tactic| tm_at "go") => `(tactic| (repeat tm_at "go1"))
local macro_rules | `(tactic| tm_at "goo") => `(tactic| (repeat' tm_at "go1"))
local macro_rules | `(tactic| tm_at "den") => `(tactic| (first | assumption | exact Den.str _ | exact Den.int _ | exact Den.bl _ | exact Den.non | (apply Den.tups; tm_at "hp"; tm_at "dens") | (apply Den.fr; tm_at "f0"; tm_at "den") | fail "no way"))
local macro_rules | `(tactic| tm_at "dens") => `(tactic| (first | assumption | exact Dens.nil | (apply Dens.cons; tm_at "den"; tm_at "dens") | (apply Dens.fr; tm_at "f0"; tm_at "dens") | fail "no way"))
local macro_rules | `(tactic| tm_at "ix") => `(tactic| (apply Ix.mk; tm_at "hp"; tm_at "ne"; assumption; assumption))
local macro_rules | `(tactic| tm_at "dep") => `(tactic| (first | assumption | exact Dep.int | exact Dep.str | exact Dep.bl | exact Dep.non | (apply Dep.tup; tm_at "dlen"; tm_at "deps") | (apply Dep.mono; assumption; decide) | fail "no way"))
local macro_rules | `(tactic| tm_at "deps") => `(tactic| (first | assumption | exact memN | (apply memC; tm_at "dep"; tm_at "deps") | fail "no way"))
local macro_rules | `(tactic| tm_at "dlen") => `(tactic| (first | assumption | (focus (simp; done)) | omega | fail "no way"))
local macro_rules | `(tactic| tm_at "pre") => `(tactic| (apply rep_step; tm_at "hp"; tm_at "sc"; tm_at "sc"; intro rp H1 nrp hrp fr))

local macro_rules | `(tactic| tm_at "call") => `(tactic| (apply word_step; tm_at "hp"; intro v H1 hv hB fr))
local macro_rules | `(tactic| tm_at "call") => `(tactic| (apply name_step; tm_at "hp"; intro v H1 hv hB fr))
local macro_rules | `(tactic| tm_at "call") => `(tactic| (apply plain_step; tm_at "hp"; intro v H1 t hd he hB fr))
local macro_rules | `(tactic| tm_at "call") => `(tactic| (apply entry_step; tm_at "hp"; tm_at "ix"; tm_at "ix"; intro v H1 t hd he hB fr))
local macro_rules | `(tactic| tm_at "call") => `(tactic| (apply kinds_step; intro p H1 np hp fr))
local macro_rules | `(tactic| tm_at "call") => `(tactic| (apply kind_step; tm_at "hp"; intro v H1 hv hB fr))
local macro_rules | `(tactic| tm_at "call") => `(tactic| (apply marks_step; intro m))
local macro_rules | `(tactic| tm_at "pre") => `(tactic| (apply strInt_step; tm_at "sc"; intro s hs))
local macro_rules | `(tactic| tm_at "pre") => `(tactic| (apply addS_step; tm_at "sc"; intro s hs))

local macro_rules | `(tactic| tm_at "lk") => `(tactic| (first | with_reducible exact lookup_eq | ((with_reducible apply lookup_ne); (focus (decide +kernel)); tm_at "lk") | assumption | rfl | fail "no way"))
local macro_rules | `(tactic| tm_at "pf") => `(tactic| (first | with_reducible exact putF_nil | with_reducible exact putF_eq | ((with_reducible apply putF_ne); (focus (decide +kernel)); tm_at "pf") | fail "no way"))
local macro_rules | `(tactic| tm_at "fl") => `(tactic| (first | assumption | focus (simp only [List.length_cons, List.length_nil]; omega) | focus (simp only [List.length_cons, List.length_nil]; done) | focus (decide) | focus (simp; done) | focus (simp; omega) | fail "no way"))
local macro_rules | `(tactic| tm_at "pre") => `(tactic| (apply fld_step; tm_at "hp"; assumption; assumption; tm_at "lk"))
local macro_rules | `(tactic| tm_at "pre") => `(tactic| (apply putf_step; tm_at "hp"; assumption; assumption; tm_at "fl"; tm_at "pf"; intro H1 hp fr))
local macro_rules | `(tactic| tm_at "pre") => `(tactic| (apply aug_step; tm_at "hp"; assumption; assumption; tm_at "lk"))
local macro_rules | `(tactic| tm_at "pre") => `(tactic| (apply put2_step; tm_at "hp"; tm_at "fl"; tm_at "pf"; intro H1 hp fr))
local macro_rules | `(tactic| tm_at "pre") => `(tactic| (apply dget_step; tm_at "hp"; tm_at "lk"))
local macro_rules | `(tactic| tm_at "pre") => `(tactic| (apply dput_step; tm_at "hp"; (focus (omega)); intro H1 hp fr))
local macro_rules | `(tactic| tm_at "pre") => `(tactic| (apply mth_step; tm_at "hp"; tm_at "lk"))
local macro_rules | `(tactic| tm_at "pre") => `(tactic| (apply lenD_step; tm_at "hp"))
local macro_rules | `(tactic| tm_at "pre") => `(tactic| (apply addI_step))
local macro_rules | `(tactic| tm_at "pre") => `(tactic| (apply newD_step; intro dn H1 nd hp fr))
local macro_rules | `(tactic| tm_at "fr2") => `(tactic| (first | assumption | (apply Fr.appMb; assumption; (focus (simp; done)); tm_at "fr2") | (apply Fr.app0b; tm_at "f0"; tm_at "fr2") | (apply Fr.appNb; assumption; tm_at "free"; tm_at "fr2") | fail "no way"))
local macro_rules | `(tactic| tm_at "ne") => `(tactic| (apply ne_role; assumption; assumption; (focus (decide))))
local macro_rules | `(tactic| tm_at "pre") => `(tactic| (apply dnotin_step; tm_at "hp"))
local macro_rules | `(tactic| tm_at "pre") => `(tactic| (apply din_step; tm_at "hp"))

abbrev l3 (f : Nat → Addr) : List V := (List.range 3).map fun i => V.ref (f i)
@[irreducible] def spAll (K : PySem.W.Frag) (CT CS CH : Addr) : Sp := fun vs H Q _ => ∃ (ρ : Role) (B D Ta : Nat → Addr) (Lb Lt N e : Addr) (m : Nat) (xs : List Nd) (ev : List V) (es : List T),
  vs = [.ref Lb, .ref Lt, .ref N, .ref e, .int m] ∧ H Lb = some (.lst (l3 B)) ∧ H Lt = some (.lst (l3 Ta)) ∧ Trio K ρ CT CS CH B D Ta xs H ∧ NdA K ρ 3 xs.length H N xs ∧ H e = some (.lst ev) ∧ Dens K H ev es ∧ (∀ t ∈ es, EntOk xs.length t) ∧ es.length ≤ 1000 ∧ m ≤ 6 ∧ m ≤ xs.length ∧ ∀ H', Fr [] H H' → Q (.bl true) H'
theorem all_step {CT CS CH : Addr} {ρ : Role} {B D Ta : Nat → Addr} {Lb Lt N e : Addr} {m : Nat} {xs : List Nd} {ev : List V} {es : List T} {H : Hp} {Q : VK} {E : XK} (h1 : H Lb = some (.lst (l3 B))) (h2 : H Lt = some (.lst (l3 Ta))) (h3 : Trio K ρ CT CS CH B D Ta xs H) (h4 : NdA K ρ 3 xs.length H N xs) (h5 : H e = some (.lst ev)) (h6 : Dens K H ev es) (h7 : ∀ t ∈ es, EntOk xs.length t) (h8 : es.length ≤ 1000) (h9 : m ≤ 6) (h10 : m ≤ xs.length) (q : ∀ H', Fr [] H H' → Q (.bl true) H') :
    spAll K CT CS CH ([.ref Lb, .ref Lt, .ref N, .ref e, .int m] ++ []) H Q E := by
  unfold spAll; exact ⟨ρ, B, D, Ta, Lb, Lt, N, e, m, xs, ev, es, rfl, h1, h2, h3, h4, h5, h6, h7, h8, h9, h10, q⟩
@[irreducible] def AllMid (H : Hp) (σ : Option V → Option V → L2.St) (_ : Nat) (σ' : L2.St) (H' : Hp) : Prop := (∃ x y, σ' = σ x y) ∧ Fr [] H H'
theorem AllMid.of {H : Hp} {σ : Option V → Option V → L2.St} {i : Nat} {σ' : L2.St} {H' : Hp} {x y : Option V} (e : σ' = σ x y) (f : Fr [] H H') : AllMid H σ i σ' H' := by unfold AllMid; exact ⟨⟨x, y, e⟩, f⟩
theorem l3_at {f : Nat → Addr} {i : Nat} {v : V} (hi : i < 3) (h : (l3 f)[((i : Nat) : Int).toNat]? = some v) : v = .ref (f i) := by
  rw [Int.toNat_natCast, List.getElem?_map, List.getElem?_range hi] at h
  exact (Option.some.inj h).symm
theorem l3_len {f : Nat → Addr} {i : Nat} (hi : i < 3) : (i : Int) < (l3 f).length := by simp; omega
abbrev s_all : Stmt := top 40
theorem sc_all : FnScope ["_law_banks", "_law_tables", "_law_nodes_here", "_law_entries", "_law_singles", "_law_side", "_law_k"] ["_law_banks", "_law_tables", "_law_nodes_here", "_law_entries", "_law_singles"] (defScope s_all) := ⟨rfl, rfl, rfl, by decide +kernel, rfl, by decide +kernel, by decide +kernel⟩

theorem ok_all {CT CS CH : Addr} (T : Bl mg) (G_asked : Cal P w K mg base 8 "_law_asked" ["_law_bank", "_law_nodes_here", "_law_table", "_law_entries"] (spAsked3 K CT CS CH)) (D : Def1 K mg "_law_all" s_all) : Cal P w K mg base 9 "_law_all" ["_law_banks", "_law_tables", "_law_nodes_here", "_law_entries", "_law_singles"] (spAll K CT CS CH) := by
  refine D.cal sc_all (fun _ _ _ _ _ _ us hl => match us, hl with | [_, _, _, _, _], _ => rfl) (fun vs H Q E h => ?_) (fun f cdv A outer s H vs Q E hr h => ?_) <;> unfold spAll at h
  · obtain ⟨ρ, B, dD, Ta, Lb, Lt, N, e, m, xs, ev, es, rfl, _⟩ := h
    rfl
  · obtain ⟨ρ, B, dD, Ta, Lb, Lt, N, e, m, xs, ev, es, rfl, hb, ht, hT, hN, he, de, oe, le, m1, m2, q⟩ := h
    refine ⟨_, (pss_cons (ps_for PassesOwn.never rfl (pi_range1 (by rfl) T.z_range (pa_cons pe_int pa_nil)) (pg_name (i := 5) sc_all.nd rfl (Or.inl rfl))
      (pss_cons (ps_if (pt_not (pt_val (pe_cal G_asked (hr.mono (by omega)) (by rfl) (pa_cons (pe_ix (ixL K) (pv 0) (pv 5) (fun _ _ => rfl)) (pa_cons (pv 2) (pa_cons (pe_ix (ixL K) (pv 1) (pv 5) (fun _ _ => rfl)) (pa_cons (pv 3) pa_nil)))))))
        (pss_one (ps_ret pe_bl))
        pss_nil)
      (pss_cons (ps_if (pt_not (pt_val (pe_cal G_asked (hr.mono (by omega)) (by rfl) (pa_cons (pe_ix (ixL K) (pv 0) (pv 5) (fun _ _ => rfl)) (pa_cons (pv 2) (pa_cons (pe_ix (ixL K) (pv 1) (pv 5) (fun _ _ => rfl)) (pa_cons (pe_lst pa_nil) pa_nil)))))))
        (pss_one (ps_ret pe_bl))
        pss_nil)
      (pss_one (ps_for PassesOwn.never rfl (pi_range1 (by rfl) T.z_range (pa_cons (pv 4) pa_nil)) (pg_name (i := 6) sc_all.nd rfl (Or.inl rfl))
        (pss_one (ps_if (pt_not (pt_val (pe_cal G_asked (hr.mono (by omega)) (by rfl) (pa_cons (pe_ix (ixL K) (pv 0) (pv 5) (fun _ _ => rfl)) (pa_cons (pv 2) (pa_cons (pe_ix (ixL K) (pv 1) (pv 5) (fun _ _ => rfl)) (pa_cons (pe_lst (pa_cons (pe_tup (pa_cons pe_str (pa_cons (pv 6) pa_nil))) pa_nil)) pa_nil)))))))
          (pss_one (ps_ret pe_bl))
          pss_nil)))))))
    (pss_one (ps_ret pe_bl))), ?_⟩
    tm_at "goo"
    refine forR (AllMid H fun x y => [some (.ref Lb), some (.ref Lt), some (.ref N), some (.ref e), some (.int m), x, y]) (AllMid.of (x := none) (y := none) rfl (.refl0 _)) (fun i σ' H' hi hP => ?_) (fun σ' H' hP => ?_)
    · unfold AllMid at hP
      obtain ⟨⟨x, y, rfl⟩, f⟩ := hP
      have hi : i < 3 := hi
      rw [show (0 : Int) + (i : Int) = i from Int.zero_add _]
      have hb1 := f.at0 hb
      have ht1 := f.at0 ht
      have lb := l3_len (f := B) hi
      have lt := l3_len (f := Ta) hi
      obtain ⟨R, ys, tb, hS⟩ := hT i hi
      tm_at "goo"
      rename_i u hu
      obtain rfl := l3_at hi hu
      obtain rfl := l3_at hi hv
      refine asked3_step (hS.of0 f) (hN.fr0 f) (f.at0 he) (de.fr f) oe le fun H2 f2 => ?_
      have f02 := f.tr f2
      have hb2 := f02.at0 hb
      have ht2 := f02.at0 ht
      clear hb1 ht1 hu hv f2
      tm_at "goo"
      rename_i u hu
      obtain rfl := l3_at hi hu
      obtain rfl := l3_at hi hv
      have F3 := f02.tr (Fr.new (o := .lst []) np)
      refine asked3_step (es := []) (ev := []) (hS.of0 F3) (hN.fr0 F3) upd_same .nil (fun _ z => nomatch z) (by simp) fun H4 f4 => ?_
      have F4 := F3.tr f4
      clear F3 f4 hb2 ht2 hu hv
      tm_at "goo"
      refine forR (AllMid H fun x y => [some (.ref Lb), some (.ref Lt), some (.ref N), some (.ref e), some (.int m), some (.int i), y]) (AllMid.of (x := none) (y := y) rfl F4) (fun k σ' H' hk hP => ?_) (fun σ' H' hP => ?_)
      · unfold AllMid at hP
        obtain ⟨⟨x, y, rfl⟩, f⟩ := hP
        rw [show (0 : Int) + (k : Int) = k from Int.zero_add _]
        have hb1 := f.at0 hb
        have ht1 := f.at0 ht
        tm_at "goo"
        rename_i u hu tq ntq
        obtain rfl := l3_at hi hu
        obtain rfl := l3_at hi hv
        have F5 := f.tr ((Fr.new (o := .tup [.str (Str.ofString "ref"), .int k]) ntq).tr (Fr.new (o := .lst [.ref tq]) np))
        refine asked3_step (es := [.tup [.str (Str.ofString "ref"), .int k]]) (ev := [.ref tq]) (hS.of0 F5) (hN.fr0 F5) upd_same (.cons (Den.tups ((Fr.new np).at0 upd_same) (.cons (.str _) (.cons (.int _) .nil))) .nil) (fun t z => ?_) (by simp) fun H6 f6 => ?_
        · rw [List.mem_singleton.mp z]
          exact .inl (entI_r ⟨by omega, by omega⟩)
        · have F6 := F5.tr f6
          clear f6 F5
          tm_at "goo"
          exact AllMid.of (x := none) rfl F6
      · unfold AllMid at hP
        obtain ⟨⟨x, y, rfl⟩, f⟩ := hP
        exact AllMid.of rfl f
    · unfold AllMid at hP
      obtain ⟨⟨x, y, rfl⟩, f⟩ := hP
      tm_at "goo"
      exact q _ f
end
end M14
set_option Elab.async false
set_option linter.all false
set_option maxRecDepth 100000
set_option maxHeartbeats 4000000
namespace M14
open PySem PySem.Spec PyProof.Rows L2

section
variable {K : PySem.W.Frag} {ρ : Role} {s : Nat} {step : Int} {CT C B D Ta : Addr} {tl : List (Str × V)} {ys : List Th} {tb : List Int} {xs : List Nd} {H H' : Hp}
/-- one slot set on both sides -/
theorem TabS.set {k i p : Nat} {x : Nd} {y : Th} {v v' : V} {t : T} (h : TabS K ρ s step CT C tl H B D ys Ta tb xs) (hx : xs[k]? = some x) (ep : tb[k]? = some (gT step p)) (ey : ys[p]? = some y)
    (hb : BkA K ρ s step CT C tl H' B D (ys.set p { y with ss := y.ss.set i v', us := y.us.set i (movT (gF tb) t) })) (f : Fr [y.sl] H H') : TabS K ρ s step CT C tl H' B D (ys.set p { y with ss := y.ss.set i v', us := y.us.set i (movT (gF tb) t) }) Ta tb (xs.set k { x with rs := x.rs.set i v, ts := x.ts.set i t }) := by
  have n : Ta ≠ y.sl := ne_role h.rt (h.bk.sl p y ey).2 (by decide)
  have lx := (List.getElem?_eq_some_iff.mp hx).1
  have ly := (List.getElem?_eq_some_iff.mp ey).1
  refine ⟨hb, f.at1n n h.ta, h.rt, by rw [List.length_set]; exact h.len, h.nd, fun j z hz => ?_⟩
  by_cases q : k = j
  · subst q
    rw [List.getElem?_set_self lx] at hz
    cases hz
    obtain ⟨p2, y2, e1, e2, r1, r2, r3⟩ := h.rel k x hx
    have := gT_inj h.bk.st (Option.some.inj (e1.symm.trans ep))
    have : p2 = p := by omega
    subst this
    rw [ey] at e2; cases e2
    refine ⟨p2, _, ep, List.getElem?_set_self ly, r1, r2, ?_⟩
    show y.us.set i _ = (x.ts.set i t).map _
    rw [r3, List.map_set]
  · rw [List.getElem?_set_ne q] at hz
    obtain ⟨p2, y2, e1, e2, r⟩ := h.rel j z hz
    have lj := (List.getElem?_eq_some_iff.mp e1).1
    have np : p ≠ p2 := fun ee => q (by
      subst ee
      have lk := (List.getElem?_eq_some_iff.mp ep).1
      have := gF_inj h.nd (k : Int) (idx_mem.mpr ⟨by omega, by omega⟩) (j : Int) (idx_mem.mpr ⟨by omega, by omega⟩) (by rw [gF_at e1, gF_at ep])
      omega)
    exact ⟨p2, y2, e1, by rw [List.getElem?_set_ne np]; exact e2, r⟩
end
theorem Fr.plus {M N : List Addr} {H H1 H2 : Hp} (a : Fr M H H1) (b : Fr N H1 H2) : Fr (M ++ N) H H2 := (a.to (fun x m => .inl (List.mem_append_left _ m)) fun x m zs e => (by
  rcases List.mem_append.mp m with m | m
  · exact a.nt x m zs e
  · exact b.nt x m zs (a.tup e))).app b fun x m => .inl (List.mem_append_right _ m)
def Holds (xs : List Nd) (h : Int) : Prop := 0 ≤ h ∧ ∃ x, xs[h.toNat]? = some x ∧ freeL x.kd x.rs.length ≠ []
def hasF (xs : List Nd) (i : Nat) : Bool := match xs[i]? with
  | some x => !(freeL x.kd x.rs.length).isEmpty
  | none => false
theorem hasF_at {xs : List Nd} {x : Nd} {i : Nat} (h : xs[i]? = some x) : hasF xs i = !(freeL x.kd x.rs.length).isEmpty := by unfold hasF; rw [h]
theorem hasF_inv {xs : List Nd} {i : Nat} (h : hasF xs i = true) : Holds xs (0 + (i : Int)) := by
  unfold hasF at h
  cases e : xs[i]? with
  | none => rw [e] at h; cases h
  | some x =>
    rw [e] at h
    refine ⟨by omega, x, by rw [show (0 + (i : Int)).toNat = i by omega]; exact e, fun z => ?_⟩
    have h : (!(freeL x.kd x.rs.length).isEmpty) = true := h
    rw [z] at h
    cases h
theorem int_at {n i : Nat} {x : V} (h : (((List.range n).map fun i : Nat => (0 : Int) + (i : Int)).map V.int)[i]? = some x) : x = .int (0 + (i : Int)) ∧ i < n := by
  have hi := (List.getElem?_eq_some_iff.mp h).1
  have hi' : i < n := by simpa using hi
  rw [List.getElem?_map, List.getElem?_map, List.getElem?_range hi'] at h
  exact ⟨(Option.some.inj h).symm, hi'⟩
/-- while the banks follow: the first i have -/
@[irreducible] def StMid (K : PySem.W.Frag) (ρ : Role) (CT CS CH : Addr) (B D Ta : Nat → Addr) (N : Addr) (xs xs' : List Nd) (H1 : Hp) (σ : Option V → Option V → L2.St) (i : Nat) (σ' : L2.St) (H' : Hp) : Prop :=
  ∃ (x y : Option V) (M : List Addr), σ' = σ x y ∧ (∀ j, j < 3 → ∃ (R : Addr) (ys : List Th) (tb : List Int), TabS K ρ j (stpF j) CT (clsF CS CH j) (tlF j R ys.length) H' (B j) (D j) ys (Ta j) tb (if j < i then xs' else xs)) ∧ NdA K ρ 3 xs'.length H' N xs' ∧ Fr M H1 H' ∧ ∀ a ∈ M, ∃ r, ρ a = some r
theorem StMid.of {K : PySem.W.Frag} {ρ : Role} {CT CS CH : Addr} {B D Ta : Nat → Addr} {N : Addr} {xs xs' : List Nd} {H1 : Hp} {σ : Option V → Option V → L2.St} {i : Nat} {σ' : L2.St} {H' : Hp} {x y : Option V} {M : List Addr} (e : σ' = σ x y)
    (h1 : ∀ j, j < 3 → ∃ (R : Addr) (ys : List Th) (tb : List Int), TabS K ρ j (stpF j) CT (clsF CS CH j) (tlF j R ys.length) H' (B j) (D j) ys (Ta j) tb (if j < i then xs' else xs)) (h2 : NdA K ρ 3 xs'.length H' N xs') (h3 : Fr M H1 H') (h4 : ∀ a ∈ M, ∃ r, ρ a = some r) : StMid K ρ CT CS CH B D Ta N xs xs' H1 σ i σ' H' := by
  unfold StMid; exact ⟨x, y, M, e, h1, h2, h3, h4⟩
section
variable {P : Program} {w : World} {K : PySem.W.Frag} {mg : Str → Option Value} {base : Heap}
set_option hygiene false
local macro_rules | `(tactic| tm_at "sc") => `(tactic| (first | omega | (simp only [List.length_cons, List.length_nil, List.length_map, List.length_set, List.length_append]; omega) | (simp only [List.length_map] at h1 ⊢; omega) | (simp only [List.length_map] at c ⊢; omega) | with_reducible assumption | exact And.intro (by omega) (by omega) | exact Or.inl (And.intro (by omega) (by omega)) | exact Or.inr (And.intro (by omega) (by omega)) | decide +kernel | exact len1000 (by simp) | rfl | fail "no way"))
local macro_rules | `(tactic| tm_at "sc1") => `(tactic| (focus (simp; done)))
local macro_rules | `(tactic| tm_at "ne") => `(tactic| (first | assumption | exact Ne.symm (by assumption) | (apply Box.ne2; assumption; tm_at "hp") | (apply Ne.symm; apply Box.ne2; assumption; tm_at "hp") | (apply ne_of_none2; assumption; tm_at "hp") | (apply Ne.symm; apply ne_of_none2; assumption; tm_at "hp") | fail "no way"))
local macro_rules | `(tactic| tm_at "f0") => `(tactic| (first | assumption | (apply Fr.new; assumption) | fail "no way"))
local macro_rules | `(tactic| tm_at "hp") => `(tactic| (first | assumption | exact upd_same | (apply SqL.of; first | assumption | exact upd_same) | (apply Fr.at0; tm_at "f0"; tm_at "hp") | (apply Fr.at1n; assumption; tm_at "ne"; tm_at "hp") | (apply sqFr0; tm_at "f0"; tm_at "hp") | (apply sqFr1; assumption; tm_at "ne"; tm_at "hp") | (apply Box.fr0; tm_at "f0"; tm_at "hp") | (apply Box.fr1; assumption; tm_at "ne"; tm_at "hp") | (apply Den.fr; tm_at "f0"; tm_at "hp") | (apply Dens.fr; tm_at "f0"; tm_at "hp") | fail "no way"))
local macro_rules | `(tactic| tm_at "free0") => `(tactic| (first | assumption | (apply updFree; assumption) | (apply updFree; apply updFree; assumption) | (apply updFree; apply updFree; apply updFree; assumption) | (apply updFree; apply updFree; apply updFree; apply updFree; assumption) | fail "no way"))
local macro_rules | `(tactic| tm_at "free") => `(tactic| (first | tm_at "free0" | (apply Fr.free; assumption; tm_at "free0") | (apply Box.free; assumption; tm_at "fr"; tm_at "free0") | (apply Fr.free; assumption; apply Fr.free; assumption; tm_at "free0") | fail "no way"))
local macro_rules | `(tactic| tm_at "fr") => `(tactic| (first | assumption | exact Fr.refl0 _ | exact Fr.refl (Box.nt (by assumption)) | (refine Fr.comp0 ?_ (by tm_at "f0"); tm_at "fr") | (refine Fr.comp ?_ (by assumption); tm_at "fr") | (refine Fr.compN ?_ (by assumption) (by tm_at "free"); tm_at "fr") | fail "no way"))
local macro_rules | `(tactic| tm_at "call") => `(tactic| fail "no call")
local macro_rules | `(tactic| tm_at "call") => `(tactic| (apply take_step; tm_at "hp"; tm_at "sc"; tm_at "sc"; intro r H1 h0 h1 hB fr))
local macro_rules | `(tactic| tm_at "ty") => `(tactic| (first | assumption | exact .base .non | exact .base (.bl _) | exact .base (.int _) | exact .base (.str _) | (apply TyX.base; apply TyOf.lst; tm_at "hp") | (apply TyX.base; apply TyOf.tup; tm_at "hp") | fail "no way"))
local macro_rules | `(tactic| tm_at "pre") => `(tactic| fail "none")
local macro_rules | `(tactic| tm_at "go1") => `(tactic| (first | tm_at "pre" | refine ⟨_, rfl, ?_⟩ | refine ⟨_, _, rfl, rfl, ?_⟩ | (apply set_step; tm_at "hp"; tm_at "sc"; tm_at "sc"; intro H1 hp fr) | (with_reducible refine iteDI ?_ ?_ <;> intro c) | (with_reducible refine iteDS ?_ ?_ <;> intro c) | (with_reducible refine iteD ?_ ?_ <;> intro c) | (with_reducible refine iteEM ?_ ?_ <;> intro c) | (with_reducible refine iteE ?_ ?_ <;> intro c) | with_reducible refine iteN ?_ | with_reducible refine iteF ?_ | with_reducible refine iteT ?_ | (refine fun (p : Addr) (np : _ = (none : Option HO)) => ?_; fail_if_success (refine ⟨fun (_ _ : Nat) (_ : Hp) => True, ?_⟩)) | (apply isi_tt; tm_at "ty"; focus (decide +kernel)) | (apply isi_ff; tm_at "ty"; focus (decide +kernel)) | (apply sl_step; tm_at "hp"; intro qq H1 ms nq hq fr) | (apply sum_step; tm_at "hp"; intro i) | (apply tru_step; tm_at "hp") | (apply len_step; tm_at "hp") | (apply lenq_step; assumption) | (apply ixq_step; assumption; tm_at "sc"; tm_at "sc"; intro v hv) | (apply lst_step; tm_at "hp") | (apply tupl_step; tm_at "hp") | (apply ixr_step; tm_at "hp"; exact rfl) | (apply ix0_step; tm_at "hp") | (apply ix1_step; tm_at "hp") | (apply ix2_step; tm_at "hp") | (apply ixi_step; tm_at "hp"; tm_at "sc"; tm_at "sc"; intro n hn hn') | (apply ixl_step; tm_at "hp"; tm_at "sc"; tm_at "sc"; intro v hv) | (apply ixt_step; tm_at "hp"; tm_at "sc"; tm_at "sc"; intro v hm hv) | (apply in_step; tm_at "hp"; rfl; rfl) | (apply cat_step; tm_at "hp"; tm_at "hp"; tm_at "sc") | (apply catT_step; tm_at "hp"; tm_at "hp"; tm_at "sc1") | (apply tyL_and; tm_at "hp") | (apply app_step; tm_at "hp"; tm_at "sc"; intro H1 hp fr) | tm_at "call" | refine ⟨⟨_, rfl⟩, ?_⟩ | (apply ixs_step; tm_at "sc"; tm_at "sc"; tm_at "sc"; intro ch) | refine .inl ⟨_, rfl, ?_⟩ | refine .inr ⟨_, rfl, ?_⟩ | (apply And.intro; tm_at "sc") | (with_reducible refine wayB ?_ ?_ <;> intro c) | fail "no way"))
local macro_rules | `(tactic| tm_at "go") => `(tactic| (repeat tm_at "go1"))
local macro_rules | `(tactic| tm_at "goo") => `(tactic| (repeat' tm_at "go1"))
local macro_rules | `(tactic| tm_at "den") => `(tactic| (first | assumption | exact Den.str _ | exact Den.int _ | exact Den.bl _ | exact Den.non | (apply Den.tups; tm_at "hp"; tm_at "dens") | (apply Den.fr; tm_at "f0"; tm_at "den") | fail "no way"))
local macro_rules | `(tactic| tm_at "dens") => `(tactic| (first | assumption | exact Dens.nil | (apply Dens.cons; tm_at "den"; tm_at "dens") | (apply Dens.fr; tm_at "f0"; tm_at "dens") | fail "no way"))
local macro_rules | `(tactic| tm_at "ix") => `(tactic| (apply Ix.mk; tm_at "hp"; tm_at "ne"; assumption; assumption))
local macro_rules | `(tactic| tm_at "dep") => `(tactic| (first | assumption | exact Dep.int | exact Dep.str | exact Dep.bl | exact Dep.non | (apply Dep.tup; tm_at "dlen"; tm_at "deps") | (apply Dep.mono; assumption; decide) | fail "no way"))
local macro_rules | `(tactic| tm_at "deps") => `(tactic| (first | assumption | exact memN | (apply memC; tm_at "dep"; tm_at "deps") | fail "no way"))
local macro_rules | `(tactic| tm_at "dlen") => `(tactic| (first | assumption | (focus (simp; done)) | omega | fail "no way"))
local macro_rules | `(tactic| tm_at "pre") => `(tactic| (apply rep_step; tm_at "hp"; tm_at "sc"; tm_at "sc"; intro rp H1 nrp hrp fr))

local macro_rules | `(tactic| tm_at "call") => `(tactic| (apply word_step; tm_at "hp"; intro v H1 hv hB fr))
local macro_rules | `(tactic| tm_at "call") => `(tactic| (apply name_step; tm_at "hp"; intro v H1 hv hB fr))
local macro_rules | `(tactic| tm_at "call") => `(tactic| (apply plain_step; tm_at "hp"; intro v H1 t hd he hB fr))
local macro_rules | `(tactic| tm_at "call") => `(tactic| (apply entry_step; tm_at "hp"; tm_at "ix"; tm_at "ix"; intro v H1 t hd he hB fr))
local macro_rules | `(tactic| tm_at "call") => `(tactic| (apply kinds_step; intro p H1 np hp fr))
local macro_rules | `(tactic| tm_at "call") => `(tactic| (apply kind_step; tm_at "hp"; intro v H1 hv hB fr))
local macro_rules | `(tactic| tm_at "call") => `(tactic| (apply marks_step; intro m))
local macro_rules | `(tactic| tm_at "pre") => `(tactic| (apply strInt_step; tm_at "sc"; intro s hs))
local macro_rules | `(tactic| tm_at "pre") => `(tactic| (apply addS_step; tm_at "sc"; intro s hs))

local macro_rules | `(tactic| tm_at "lk") => `(tactic| (first | with_reducible exact lookup_eq | ((with_reducible apply lookup_ne); (focus (decide +kernel)); tm_at "lk") | assumption | rfl | fail "no way"))
local macro_rules | `(tactic| tm_at "pf") => `(tactic| (first | with_reducible exact putF_nil | with_reducible exact putF_eq | ((with_reducible apply putF_ne); (focus (decide +kernel)); tm_at "pf") | fail "no way"))
local macro_rules | `(tactic| tm_at "fl") => `(tactic| (first | assumption | focus (simp only [List.length_cons, List.length_nil]; omega) | focus (simp only [List.length_cons, List.length_nil]; done) | focus (decide) | focus (simp; done) | focus (simp; omega) | fail "no way"))
local macro_rules | `(tactic| tm_at "pre") => `(tactic| (apply fld_step; tm_at "hp"; assumption; assumption; tm_at "lk"))
local macro_rules | `(tactic| tm_at "pre") => `(tactic| (apply putf_step; tm_at "hp"; assumption; assumption; tm_at "fl"; tm_at "pf"; intro H1 hp fr))
local macro_rules | `(tactic| tm_at "pre") => `(tactic| (apply aug_step; tm_at "hp"; assumption; assumption; tm_at "lk"))
local macro_rules | `(tactic| tm_at "pre") => `(tactic| (apply put2_step; tm_at "hp"; tm_at "fl"; tm_at "pf"; intro H1 hp fr))
local macro_rules | `(tactic| tm_at "pre") => `(tactic| (apply dget_step; tm_at "hp"; tm_at "lk"))
local macro_rules | `(tactic| tm_at "pre") => `(tactic| (apply dput_step; tm_at "hp"; (focus (omega)); intro H1 hp fr))
local macro_rules | `(tactic| tm_at "pre") => `(tactic| (apply mth_step; tm_at "hp"; tm_at "lk"))
local macro_rules | `(tactic| tm_at "pre") => `(tactic| (apply lenD_step; tm_at "hp"))
local macro_rules | `(tactic| tm_at "pre") => `(tactic| (apply addI_step))
local macro_rules | `(tactic| tm_at "pre") => `(tactic| (apply newD_step; intro dn H1 nd hp fr))
local macro_rules | `(tactic| tm_at "fr2") => `(tactic| (first | assumption | (apply Fr.appMb; assumption; (focus (simp; done)); tm_at "fr2") | (apply Fr.app0b; tm_at "f0"; tm_at "fr2") | (apply Fr.appNb; assumption; tm_at "free"; tm_at "fr2") | fail "no way"))
local macro_rules | `(tactic| tm_at "ne") => `(tactic| (apply ne_role; assumption; assumption; (focus (decide))))
local macro_rules | `(tactic| tm_at "pre") => `(tactic| (apply dnotin_step; tm_at "hp"))
local macro_rules | `(tactic| tm_at "pre") => `(tactic| (apply din_step; tm_at "hp"))

local macro_rules | `(tactic| tm_at "nda") => `(tactic| (first | assumption | (apply NdA.of0; tm_at "f0"; tm_at "nda") | (apply NdA.of1; assumption; assumption; tm_at "nda") | fail "no way"))
local macro_rules | `(tactic| tm_at "pre") => `(tactic| (apply nd_step; tm_at "nda"; tm_at "sc"; tm_at "sc"; intro xn hxn hnd hrow))
@[irreducible] def spSet3 (K : PySem.W.Frag) (CT CS CH : Addr) : Sp := fun vs H Q _ => ∃ (ρ : Role) (B D Ta : Nat → Addr) (b Lb Lt N Lp Lr : Addr) (m : Nat) (xs : List Nd) (er : List Int),
  vs = [.ref b, .ref Lb, .ref Lt, .ref N, .ref Lp, .ref Lr] ∧ Box H b ∧ ρ b = none ∧ H Lb = some (.lst (l3 B)) ∧ ρ Lb = none ∧ Lb ≠ b ∧ H Lt = some (.lst (l3 Ta)) ∧ ρ Lt = none ∧ Lt ≠ b ∧ Trio K ρ CT CS CH B D Ta xs H ∧ NdA K ρ 3 xs.length H N xs ∧
  H Lp = some (.lst (((List.range m).map fun i : Nat => (0 : Int) + (i : Int)).map V.int)) ∧ Lp ≠ b ∧ m ≤ 30 ∧ m ≤ xs.length ∧ H Lr = some (.lst (er.map V.int)) ∧ Lr ≠ b ∧ er.length ≤ 1000 ∧ (∀ e ∈ er, 0 ≤ e ∧ e < (m : Int)) ∧
  ∀ H' xs' M, Trio K ρ CT CS CH B D Ta xs' H' → NdA K ρ 3 xs'.length H' N xs' → xs'.length = xs.length → Fr M H H' → (∀ a ∈ M, a = b ∨ ∃ r, ρ a = some r) → Q .non H'
theorem set3_step {CT CS CH : Addr} {ρ : Role} {B D Ta : Nat → Addr} {b Lb Lt N Lp Lr : Addr} {m : Nat} {xs : List Nd} {er : List Int} {H : Hp} {Q : VK} {E : XK} (h1 : Box H b) (h2 : ρ b = none) (h3 : H Lb = some (.lst (l3 B))) (h4 : ρ Lb = none) (h5 : Lb ≠ b) (h6 : H Lt = some (.lst (l3 Ta))) (h7 : ρ Lt = none) (h8 : Lt ≠ b) (h9 : Trio K ρ CT CS CH B D Ta xs H) (h10 : NdA K ρ 3 xs.length H N xs)
    (h11 : H Lp = some (.lst (((List.range m).map fun i : Nat => (0 : Int) + (i : Int)).map V.int))) (h12 : Lp ≠ b) (h13 : m ≤ 30) (h14 : m ≤ xs.length) (h15 : H Lr = some (.lst (er.map V.int))) (h16 : Lr ≠ b) (h17 : er.length ≤ 1000) (h18 : ∀ e ∈ er, 0 ≤ e ∧ e < (m : Int))
    (q : ∀ H' xs' M, Trio K ρ CT CS CH B D Ta xs' H' → NdA K ρ 3 xs'.length H' N xs' → xs'.length = xs.length → Fr M H H' → (∀ a ∈ M, a = b ∨ ∃ r, ρ a = some r) → Q .non H') : spSet3 K CT CS CH ([.ref b, .ref Lb, .ref Lt, .ref N, .ref Lp, .ref Lr] ++ []) H Q E := by
  unfold spSet3; exact ⟨ρ, B, D, Ta, b, Lb, Lt, N, Lp, Lr, m, xs, er, rfl, h1, h2, h3, h4, h5, h6, h7, h8, h9, h10, h11, h12, h13, h14, h15, h16, h17, h18, q⟩
abbrev s_set : Stmt := top 41
theorem sc_set : FnScope ["_law_box_here", "_law_banks", "_law_tables", "_law_nodes_here", "_law_pool", "_law_errors", "_law_holders", "_law_k", "_law_node", "_law_places", "_law_at", "_law_entry_here", "_law_row", "_law_side", "_law_table"] ["_law_box_here", "_law_banks", "_law_tables", "_law_nodes_here", "_law_pool", "_law_errors"] (defScope s_set) := ⟨rfl, rfl, rfl, by decide +kernel, rfl, by decide +kernel, by decide +kernel⟩

theorem ok_set3 {CT CS CH : Addr} (T : Bl mg) (BG : ∀ i, BankG P w K mg base (clsF CS CH i) CT (stpF i) (tlF i)) (G_take : CTake P w K mg base) (G_free : Cal P w K mg base 1 "_law_free" ["_law_node"] (spFree K))
    (G_entry : CEntry P w K mg base) (G_marks : Cal P w K mg base 1 "_law_marks" ["_law_kind_here"] spMarks) (G_moved : Cal P w K mg base 2 "_law_moved" ["_law_entry_here", "_law_table"] (spMov K))
    (D : Def1 K mg "_law_set" s_set) : Cal P w K mg base 7 "_law_set" ["_law_box_here", "_law_banks", "_law_tables", "_law_nodes_here", "_law_pool", "_law_errors"] (spSet3 K CT CS CH) := by
  refine D.cal sc_set (fun _ _ _ _ _ _ us hl => match us, hl with | [_, _, _, _, _, _], _ => rfl) (fun vs H Q E h => ?_) (fun f cdv A outer s H vs Q E hr h => ?_) <;> unfold spSet3 at h
  · obtain ⟨ρ, B, dD, Ta, b, Lb, Lt, N, Lp, Lr, m, xs, er, rfl, _⟩ := h
    rfl
  · obtain ⟨ρ, B, dD, Ta, b, Lb, Lt, N, Lp, Lr, m0, xs, er, rfl, hB0, rb, hLb, rLb, nLb, hLt, rLt, nLt, hT, hN, hLp, nLp, m30, mx, hLr, nLr, ler, ier, q⟩ := h
    have M_set_slot := fun i => (BG i).set_slot
    have hN0 := hN.at_
    have rN := hN.rN
    have nNb : N ≠ b := fun e => by rw [e, rb] at rN; cases rN
    refine ⟨_, (pss_cons (ps_setLc (i := 6) (own := [("_law_k", 7)]) (g := gName 7) (by rfl) sc_set.nd rfl rfl (sw_true rfl rfl rfl (by decide +kernel)) (pi_list (pv 4)) (blkOk_by (own := [("_law_k", 7)]) (N := [("_law_box_here" : Str), ("_law_banks" : Str), ("_law_tables" : Str), ("_law_nodes_here" : Str), ("_law_pool" : Str), ("_law_errors" : Str), ("_law_holders" : Str), ("_law_k" : Str), ("_law_node" : Str), ("_law_places" : Str), ("_law_at" : Str), ("_law_entry_here" : Str), ("_law_row" : Str), ("_law_side" : Str), ("_law_table" : Str)]) (sc := defScope s_set) (by decide +kernel)) (fun _ _ _ _ _ => pg_name (i := 7) sc_set.nd rfl (Or.inl rfl)) (fun _ _ _ _ _ => (pts_one (ptTru K (pe_cal G_free (hr.mono (by omega)) (by rfl) (pa_cons (pe_ix (ixL K) (pv 3) (pv 7) (fun _ _ => rfl)) pa_nil))))) (fun _ _ _ _ _ => (pv 7)))
    (pss_cons (ps_if (pt_not (ptTru K (pv 6)))
      (pss_one (ps_ret pe_non))
      pss_nil)
    (pss_cons (ps_set (i := 8) sc_set.nd rfl (Or.inl rfl) (pe_ix (ixL K) (pv 6) (pe_cal G_take (hr.mono (by omega)) (by rfl) (pa_cons (pv 0) (pa_cons (pe_callB (cLen K) (by rfl) T.z_len (by decide +kernel) (pa_cons (pv 6) pa_nil)) pa_nil))) (fun _ _ => rfl)))
    (pss_cons (ps_set (i := 9) sc_set.nd rfl (Or.inl rfl) (pe_cal G_free (hr.mono (by omega)) (by rfl) (pa_cons (pe_ix (ixL K) (pv 3) (pv 8) (fun _ _ => rfl)) pa_nil)))
    (pss_cons (ps_set (i := 10) sc_set.nd rfl (Or.inl rfl) (pe_ix (ixL K) (pv 9) (pe_cal G_take (hr.mono (by omega)) (by rfl) (pa_cons (pv 0) (pa_cons (pe_callB (cLen K) (by rfl) T.z_len (by decide +kernel) (pa_cons (pv 9) pa_nil)) pa_nil))) (fun _ _ => rfl)))
    (pss_cons (ps_set (i := 11) sc_set.nd rfl (Or.inl rfl) (pe_cal G_entry (hr.mono (by omega)) (by rfl) (pa_cons (pv 0) (pa_cons (pv 4) (pa_cons (pv 5) (pa_cons (pe_cal G_marks (hr.mono (by omega)) (by rfl) (pa_cons (pe_ix (ixL K) (pe_ix (ixL K) (pv 3) (pv 8) (fun _ _ => rfl)) pe_int (fun _ _ => rfl)) pa_nil)) pa_nil))))))
    (pss_cons (ps_set (i := 12) sc_set.nd rfl (Or.inl rfl) (pe_ix (ixL K) (pe_ix (ixL K) (pv 3) (pv 8) (fun _ _ => rfl)) pe_int (fun _ _ => rfl)))
    (pss_cons (ps_asg (pv 11) (pg_sub (pv 12) (pv 10) setL))
    (pss_cons (ps_for PassesOwn.never rfl (pi_range1 (by rfl) T.z_range (pa_cons pe_int pa_nil)) (pg_name (i := 13) sc_set.nd rfl (Or.inl rfl))
      (pss_cons (ps_set (i := 14) sc_set.nd rfl (Or.inl rfl) (pe_ix (ixL K) (pv 2) (pv 13) (fun _ _ => rfl)))
      (pss_one (ps_expr (pe_any fun i => pe_mcalx (pe_ix (ixL K) (pv 1) (pv 13) (fun _ _ => rfl)) (M_set_slot i) (hr.mono (by omega)) (pa_cons (pe_tup (pa_cons pe_str (pa_cons (pe_ix (ixL K) (pv 14) (pv 8) (fun _ _ => rfl)) pa_nil))) (pa_cons (pv 10) (pa_cons (pe_cal G_moved (hr.mono (by omega)) (by rfl) (pa_cons (pv 11) (pa_cons (pv 14) pa_nil))) pa_nil))))))))
    (pss_one (ps_ret pe_non))))))))))), ?_⟩
    tm_at "goo"
    refine ⟨⟨_, .of hLp⟩, ?_⟩
    refine lcL (hasF xs) (fun _ i y => y = .int (0 + (i : Int))) (Cg.nil _) stab_v (.of hLp) (by simp) (by simp; omega) (fun i x H2 hi hS f R kk => ?_) (fun i x H2 hi _ hS f R kk => ?_) (fun hl H2 hv nhl hhl m2 _ fr => ?_)
    · obtain ⟨rfl, hi'⟩ := int_at hi
      have hN2 := hN.fr0 f
      rw [show (0 : Int) + (i : Int) = i from Int.zero_add _]
      tm_at "goo"
      rw [Int.toNat_natCast] at hxn
      refine free_step hnd hrow (hN.ok _ _ hxn).2.2.2.2 fun fl H3 nfl hfl f3 => ?_
      tm_at "goo"
      rw [hasF_at hxn] at kk
      have := kk _ trivial f3
      simpa using this
    · obtain ⟨rfl, hi'⟩ := int_at hi
      tm_at "goo"
      exact kk _ _ trivial (by tm_at "fr") rfl
    · rw [m2.ints] at hhl
      have ll : (((List.range m0).map fun i : Nat => (0 : Int) + (i : Int)).map V.int).length = m0 := by simp
      rw [ll] at hhl
      have la1 : ((keptN (hasF xs) m0).map fun i : Nat => (0 : Int) + (i : Int)).length ≤ 1000 := by
        rw [List.length_map]; exact Nat.le_trans (keptN_le _ _) (by omega)
      have lam : ∀ z ∈ (keptN (hasF xs) m0).map fun i : Nat => (0 : Int) + (i : Int), Holds xs z := fun z hz => by
        obtain ⟨j, hj, rfl⟩ := List.mem_map.mp hz
        exact hasF_inv (kept_in hj).2
      generalize (keptN (hasF xs) m0).map (fun i : Nat => (0 : Int) + (i : Int)) = hs at *
      have nhb : hl ≠ b := hB0.ne nhl
      have F0 : Fr [] H H2 := fr
      clear fr
      tm_at "goo"
      · obtain ⟨n0, x, ex, fx⟩ := lam n hn
        have n1 : n < xs.length := by
          have := (List.getElem?_eq_some_iff.mp ex).1
          omega
        have F1 : Fr [b] H H1 := by tm_at "fr"
        have hN1 := hN.fr1 F1 rb
        have hN10 := hN1.at_
        have hLb1 := F1.at1n nLb hLb
        have hLt1 := F1.at1n nLt hLt
        have hLp1 := F1.at1n nLp hLp
        have hLr1 := F1.at1n nLr hLr
        clear F0 fr hhl
        obtain ⟨z, hz⟩ : ∃ z : Nat, (z : Int) = n := ⟨n.toNat, by omega⟩
        subst hz
        simp only [Int.toNat_natCast] at ex
        have kn : xs[((z : Nat) : Int).toNat]? = some x := by rw [Int.toNat_natCast]; exact ex
        tm_at "goo"
        have q1 := Option.some.inj (kn.symm.trans hxn)
        subst q1
        obtain ⟨rd, ro, rv, rt', lrow⟩ := hN1.ok _ x ex
        have rrow := (hN1.row _ x ex).2
        have nrb : x.row ≠ b := fun e => by rw [e, rb] at rrow; cases rrow
        have nNr : N ≠ x.row := ne_role rN rrow (by decide)
        refine free_step hnd hrow lrow fun fl H3 nfl hfl frf => ?_
        have lf : 0 < (freeL x.kd x.rs.length).length := List.length_pos_iff.mpr fx
        have lf1 : (freeL x.kd x.rs.length).length ≤ 1000 := Nat.le_trans freeL_len (by omega)
        have fin : ∀ e ∈ freeL x.kd x.rs.length, 0 ≤ e ∧ e < x.rs.length := fun e m => freeL_lt m
        generalize freeL x.kd x.rs.length = fs at *
        have nfb : fl ≠ b := hB.ne nfl
        clear hxn hnd
        tm_at "goo"
        have q2 := Option.some.inj (kn.symm.trans hxn)
        subst q2
        obtain ⟨i0, i1⟩ := fin n hn
        have F3 : Fr [b] H H1 := (F1.tr frf).trans fr
        have hLp3 := F3.at1n nLp hLp
        have hLr3 := F3.at1n nLr hLr
        have rowr := (hN.row _ x ex).1
        clear hLp1 hLr1 hLb1 hLt1 F1 frf fr hfl
        refine entry_step (n := m0) hB (pool_ix hLp3 nLp (by omega)) ⟨.of hLr3, nLr, by omega, ier⟩ fun v H4 t hd he hB fr => ?_
        have F4 : Fr [b] H H4 := F3.trans fr
        have hN4 := hN.fr1 F4 rb
        have hN40 := hN4.at_
        clear F3 fr hrow hnd hLp3 hLr3 hN1 hN10
        tm_at "goo"
        have q3 := Option.some.inj (kn.symm.trans hxn)
        subst q3
        have hR4 : H4 x.row = some (.lst x.rs) := hrow
        refine set_step hR4 i0 i1 fun H5 hR5 f5 => ?_
        have hN5 : NdA K ρ 3 xs.length H5 N _ := hN4.set ex f5 hR5 (hd.fr f5) (he.mono (by omega))
        have hT5 : Trio K ρ CT CS CH B dD Ta xs H5 := (hT.frM F4 fun _ _ => .one rb).frM f5 fun i hi a ma i' j' e => by
          rw [List.mem_singleton.mp ma, rrow] at e
          injection e with e
          injection e with e _
          omega
        have hd5 := hd.fr f5
        have nLbr : Lb ≠ x.row := fun e => by rw [e, rrow] at rLb; cases rLb
        have nLtr : Lt ≠ x.row := fun e => by rw [e, rrow] at rLt; cases rLt
        have hLb5 := f5.at1n nLbr (F4.at1n nLb hLb)
        have hLt5 := f5.at1n nLtr (F4.at1n nLt hLt)
        have f5' := f5
        clear f5 hxn
        tm_at "goo"
        have ln : ∀ x', (xs.set z x').length = xs.length := fun x' => List.length_set
        obtain ⟨xs', hxs'⟩ : ∃ xs', xs' = xs.set z { x with rs := x.rs.set n.toNat v, ts := x.ts.set n.toNat t } := ⟨_, rfl⟩
        have ln' : xs'.length = xs.length := by rw [hxs']; exact ln _
        have hN5' : NdA K ρ 3 xs'.length H5 N xs' := by rw [ln', hxs']; exact hN5
        clear hN5
        refine forR (StMid K ρ CT CS CH B dD Ta N xs xs' H5 (fun x1 y1 => [some (.ref b), some (.ref Lb), some (.ref Lt), some (.ref N), some (.ref Lp), some (.ref Lr), some (.ref hl), none, some (.int z), some (.ref fl), some (.int n), some v, some (.ref x.row), x1, y1])) (StMid.of (x := none) (y := none) (M := []) rfl (fun j hj => hT5 j hj) hN5' (.refl0 _) (fun _ m => nomatch m)) (fun i σ' H' hi hP => ?_) (fun σ' H' hP => ?_)
        · unfold StMid at hP
          obtain ⟨x1, y1, M, rfl, hTj, hN', fM, aM⟩ := hP
          have hi : i < 3 := hi
          have nM : ∀ {a : Addr}, ρ a = none → a ∉ M := fun r m => by
            obtain ⟨_, e⟩ := aM _ m
            rw [r] at e; cases e
          have hLb6 := fM.kp _ _ hLb5 (nM rLb)
          have hLt6 := fM.kp _ _ hLt5 (nM rLt)
          have hd6 := hd5.fr fM
          have li := l3_len (f := B) hi
          have lj := l3_len (f := Ta) hi
          rw [show (0 : Int) + (i : Int) = i from Int.zero_add _]
          obtain ⟨R, ys, tb, hS0⟩ := hTj i hi
          have hS : TabS K ρ i (stpF i) CT (clsF CS CH i) (tlF i R ys.length) H' (B i) (dD i) ys (Ta i) tb xs := by
            rw [if_neg (Nat.lt_irrefl i)] at hS0; exact hS0
          obtain ⟨p0, y0, ep, ey, r1, r2, r3⟩ := hS.rel z x ex
          tm_at "goo"
          obtain rfl := l3_at hi hv
          have hTa := hS.ta
          have ltb := hS.len
          have kt : (tb[((z : Nat) : Int).toNat]? = some (gT (stpF i) p0)) := by rw [Int.toNat_natCast]; exact ep
          have km : (tlF i R ys.length).lookup ("set_slot" : Str) = none := hS.bk.tll.nom _ (by decide +kernel)
          obtain ⟨dx, gr, hBk⟩ := hS.bk.at_
          clear hv
          refine ⟨i, ?_⟩
          tm_at "goo"
          obtain rfl := l3_at hi hv
          clear hv
          tm_at "goo"
          have q6 := Option.some.inj (kt.symm.trans hn')
          subst q6
          have Fp := Fr.new (o := .tup [.str (Str.ofString "ref"), .int (gT (stpF i) p0)]) np
          refine mov_step (gs := tb) (.of (Fp.at0 hTa)) (hd6.fr Fp) (by rw [ltb]; exact he.mono (by omega)) fun v' H7 f7 d7 => ?_
          have hp7 := f7.at0 (upd_same (H := H') (a := p) (o := .tup [.str (Str.ofString "ref"), .int (gT (stpF i) p0)]))
          have F7 := Fp.tr f7
          have hS7 := hS.of0 F7
          have lss : y0.ss.length = x.rs.length := by rw [(hS.bk.ok p0 y0 ey).1.1, r3, List.length_map, rd.1]
          clear Fp f7
          tm_at "goo"
          refine setslot_step hS7.bk hp7 ey i0 (by omega) d7 (movT_dep he) fun H8 hb8 f8 => ?_
          have lys : (ys.set p0 { y0 with ss := y0.ss.set n.toNat v', us := y0.us.set n.toNat (movT (gF tb) t) }).length = ys.length := List.length_set
          have hS8 := hS7.set (v := v) ex ep ey hb8 f8
          rw [← hxs'] at hS8
          have rsl := (hS.bk.sl p0 y0 ey).2
          have aw : ∀ j, j ≠ i → Away ρ j [y0.sl] := fun j ne a ma i' j' e => by
            rw [List.mem_singleton.mp ma, rsl] at e
            injection e with e
            injection e with e _
            exact ne e.symm
          tm_at "goo"
          refine StMid.of rfl (fun j hj => ?_) ((hN'.fr0 F7).frM f8 (aw 3 (by omega))) ((fM.app0 F7).plus f8) (fun a m => ?_)
          · by_cases e : j = i
            · subst e
              rw [if_pos (by omega)]
              exact ⟨R, _, tb, by rw [lys]; exact hS8⟩
            · obtain ⟨R', ys', tb', h'⟩ := hTj j hj
              refine ⟨R', ys', tb', ?_⟩
              have ee : (if j < i + 1 then xs' else xs) = (if j < i then xs' else xs) := by
                by_cases l : j < i
                · rw [if_pos l, if_pos (by omega)]
                · rw [if_neg l, if_neg (by omega)]
              rw [ee]
              exact (h'.of0 F7).frM f8 (aw j e)
          · rcases List.mem_append.mp m with m | m
            · exact aM a m
            · exact ⟨_, by rw [List.mem_singleton.mp m]; exact rsl⟩
        · unfold StMid at hP
          obtain ⟨x1, y1, M, rfl, hTj, hN', fM, aM⟩ := hP
          tm_at "goo"
          refine q H' xs' (b :: x.row :: M) (fun j hj => by have := hTj j hj; rw [if_pos (by exact hj)] at this; exact this) hN' ln' ((F4.plus f5').plus fM) (fun a m => ?_)
          rcases List.mem_cons.mp m with rfl | m
          · exact .inl rfl
          · rcases List.mem_cons.mp m with rfl | m
            · exact .inr ⟨_, rrow⟩
            · exact .inr (aM a m)
      · exact q H2 xs [] (hT.of0 F0) (hN.fr0 F0) rfl F0 (fun _ m => nomatch m)
end
end M14
set_option Elab.async false
set_option linter.all false
set_option maxRecDepth 100000
set_option maxHeartbeats 4000000
namespace M14
open PySem PySem.Spec PyProof.Rows L2

/-- what the law keeps besides the banks -/
structure LP (K : PySem.W.Frag) (ρ : Role) (N Lp Lr Le a : Addr) (ns : List V) (m : Nat) (xs : List Nd) (er : List Int) (ev : List V) (es : List T) (H : Hp) : Prop where
  nd : NdA K ρ 3 xs.length H N xs
  hp : H Lp = some (.lst (((List.range m).map fun i : Nat => (0 : Int) + (i : Int)).map V.int))
  rp : ρ Lp = none
  hr : H Lr = some (.lst (er.map V.int))
  rr : ρ Lr = none
  he : H Le = some (.lst ev)
  re : ρ Le = none
  de : Dens K H ev es
  sc : Scr K ρ H a ns
theorem Scr.fr1 {K : PySem.W.Frag} {ρ : Role} {H H' : Hp} {a p : Addr} {xs : List V} (h : Scr K ρ H a xs) (f : Fr [p] H H') (n : a ≠ p ∨ ∀ H', SqL K H' a xs) : Scr K ρ H' a xs := by
  rcases n with n | q
  · rcases h with ⟨o, ha, r, q⟩ | q
    · exact .inl ⟨o, f.at1n n ha, r, q⟩
    · exact .inr q
  · exact .inr q
theorem Scr.ne {K : PySem.W.Frag} {ρ : Role} {H : Hp} {a p : Addr} {xs : List V} (h : Scr K ρ H a xs) (n : H p = none) : a ≠ p ∨ ∀ H', SqL K H' a xs := by
  rcases h with ⟨o, ha, r, q⟩ | q
  · exact .inl (ne_of_none2 n ha)
  · exact .inr q
section
variable {K : PySem.W.Frag} {ρ ρ' : Role} {N Lp Lr Le a : Addr} {ns : List V} {m : Nat} {xs xs' : List Nd} {er : List Int} {ev : List V} {es : List T} {H H' : Hp} {M : List Addr}
theorem LP.move {i : Nat} (h : LP K ρ N Lp Lr Le a ns m xs er ev es H) (n : i ≠ 3) (ow : Own ρ H M i) (e : Ext H ρ ρ') (f : Fr M H H') : LP K ρ' N Lp Lr Le a ns m xs er ev es H' := by
  obtain ⟨a1, a2⟩ := stays ow e f h.hp h.rp
  obtain ⟨b1, b2⟩ := stays ow e f h.hr h.rr
  obtain ⟨c1, c2⟩ := stays ow e f h.he h.re
  exact ⟨h.nd.move (Ne.symm n) ow e f, a1, a2, b1, b2, c1, c2, h.de.fr f, h.sc.move ow e f⟩
theorem LP.of0 (h : LP K ρ N Lp Lr Le a ns m xs er ev es H) (f : Fr [] H H') : LP K ρ N Lp Lr Le a ns m xs er ev es H' := h.move (i := 7) (M := []) (by decide) (fun _ m => nomatch m) Ext.refl f
theorem LP.ext (h : LP K ρ N Lp Lr Le a ns m xs er ev es H) (e : Ext H ρ ρ') : LP K ρ' N Lp Lr Le a ns m xs er ev es H := h.move (i := 7) (M := []) (by decide) (fun _ m => nomatch m) e (.refl0 _)
/-- something of no role has changed -/
theorem LP.fr1 {p : Addr} (h : LP K ρ N Lp Lr Le a ns m xs er ev es H) (f : Fr [p] H H') (r : ρ p = none) (n1 : Lp ≠ p) (n2 : Lr ≠ p) (n3 : Le ≠ p) (n4 : a ≠ p ∨ ∀ H', SqL K H' a ns) : LP K ρ N Lp Lr Le a ns m xs er ev es H' :=
  ⟨h.nd.fr1 f r, f.at1n n1 h.hp, h.rp, f.at1n n2 h.hr, h.rr, f.at1n n3 h.he, h.re, h.de.fr f, h.sc.fr1 f n4⟩
/-- what has roles has changed, and the nodes are others -/
theorem LP.nodes (h : LP K ρ N Lp Lr Le a ns m xs er ev es H) (nd : NdA K ρ 3 xs'.length H' N xs') (f : Fr M H H') (aw : ∀ x ∈ M, H x = none ∨ ∃ r, ρ x = some r) : LP K ρ N Lp Lr Le a ns m xs' er ev es H' := by
  have k : ∀ {x : Addr} {o : HO}, H x = some o → ρ x = none → H' x = some o := fun hx r => f.kp _ _ hx fun m => by
    rcases aw _ m with q | ⟨_, q⟩
    · rw [hx] at q; cases q
    · rw [r] at q; cases q
  refine ⟨nd, k h.hp h.rp, h.rp, k h.hr h.rr, h.rr, k h.he h.re, h.re, h.de.fr f, ?_⟩
  rcases h.sc with ⟨o, ha, r, q⟩ | q
  · exact .inl ⟨o, k ha r, r, q⟩
  · exact .inr q
end
/-- while the banks are built: the first i stand -/
structure W4 (K : PySem.W.Frag) (ρ : Role) (CT CS CH : Addr) (B D Ta : Nat → Addr) (R : Addr) (N Lp Lr Le Lb Ts Lt a : Addr) (ns : List V) (m : Nat) (xs : List Nd) (er : List Int) (ev : List V) (es : List T) (i : Nat) (H : Hp) : Prop where
  lp : LP K ρ N Lp Lr Le a ns m xs er ev es H
  lb : H Lb = some (.lst (l3 B))
  rb : ρ Lb = none
  ts : H Ts = some (.tup ((List.range 3).map fun i => V.int (stpF i)))
  lt : H Lt = some (.lst ((List.range i).map fun j => V.ref (Ta j)))
  rt : ρ Lt = none
  old : ∀ j, j < i → ∃ (R : Addr) (ys : List Th) (tb : List Int), TabS K ρ j (stpF j) CT (clsF CS CH j) (tlF j R ys.length) H (B j) (D j) ys (Ta j) tb xs
  new : ∀ j, j < 3 → i ≤ j → BkA K ρ j (stpF j) CT (clsF CS CH j) (tlF j R 0) H (B j) (D j) []
section
variable {K : PySem.W.Frag} {ρ ρ' : Role} {CT CS CH : Addr} {B D Ta : Nat → Addr} {R N Lp Lr Le Lb Ts Lt a : Addr} {ns : List V} {m i : Nat} {xs : List Nd} {er : List Int} {ev : List V} {es : List T} {H H' : Hp} {M : List Addr}
/-- side i follows -/
theorem W4.side {H2 : Hp} {T1 : Addr} (h : W4 K ρ CT CS CH B D Ta R N Lp Lr Le Lb Ts Lt a ns m xs er ev es i H) (hi : i < 3) (ow : Own ρ H M i) (e : Ext H ρ ρ') (f : Fr M H H') (f2 : Fr [Lt] H' H2) (n1 : Lp ≠ Lt) (n2 : Lr ≠ Lt) (n3 : Le ≠ Lt) (n4 : a ≠ Lt ∨ ∀ H', SqL K H' a ns) (n5 : Lb ≠ Lt)
    (ht : H2 Lt = some (.lst (((List.range i).map fun j => V.ref (Ta j)) ++ [.ref T1]))) (new : ∃ (R : Addr) (ys : List Th) (tb : List Int), TabS K ρ' i (stpF i) CT (clsF CS CH i) (tlF i R ys.length) H' (B i) (D i) ys T1 tb xs) :
    W4 K ρ' CT CS CH B D (fun j => if j = i then T1 else Ta j) R N Lp Lr Le Lb Ts Lt a ns m xs er ev es (i + 1) H2 := by
  obtain ⟨a1, a2⟩ := stays ow e f h.lb h.rb
  obtain ⟨b1, b2⟩ := stays ow e f h.lt h.rt
  refine ⟨(h.lp.move (by omega) ow e f).fr1 f2 b2 n1 n2 n3 n4, f2.at1n n5 a1, a2, f2.tup (f.tup h.ts), ?_, b2, fun j hj => ?_, fun j hj l => ?_⟩
  · rw [ht, List.range_succ, List.map_append]
    congr 3
    · refine List.map_congr_left fun j mj => ?_
      have := List.mem_range.mp mj
      rw [if_neg (by omega)]
    · simp
  · by_cases q : j = i
    · subst q
      rw [if_pos rfl]
      obtain ⟨R, ys, tb, t⟩ := new
      exact ⟨R, ys, tb, t.frM f2 (.one b2)⟩
    · rw [if_neg q]
      obtain ⟨R, ys, tb, t⟩ := h.old j (by omega)
      exact ⟨R, ys, tb, (t.move q ow e f).frM f2 (.one b2)⟩
  · exact ((h.new j hj (by omega)).move (by omega) ow e f).frM f2 (.one b2)
/-- one side's table is made -/
theorem W4.turn {ρ4 : Role} {H3 H4 : Hp} {b Lo : Addr} (nb : H b = none) (nLo : H Lo = none) (F : Fr [] H H3) (fo : Fro (hide ρ [b, Lo]) i b H3 ρ4 H4) : ∃ M, Own ρ H M i ∧ Ext H ρ ρ4 ∧ Fr M H H4 := by
  obtain ⟨M, f, ow⟩ := fo.fr
  refine ⟨M, fun x m => ?_, extT (hide_ext fun x mx => ?_) fo.ex (alive F fun _ m => nomatch m), F.plus f⟩
  · rcases ow x m with e | ⟨j, k, e⟩
    · subst e; exact .inl nb
    · refine .inr ⟨j, k, ?_⟩
      unfold hide at e
      split at e
      · cases e
      · exact e
  · simp only [List.mem_cons, List.not_mem_nil, or_false] at mx
    rcases mx with rfl | rfl <;> assumption
/-- the beginning -/
theorem W4.start {H5 H7 H9 Hf : Hp} {x0 x1 x2 D0 D1 D2 dx0 dx1 dx2 : Addr} (L : LP K ρ N Lp Lr Le a ns m xs er ev es H)
    (nx0 : H x0 = none) (nD0 : H D0 = none) (hB0 : H5 x0 = some (.ins CS dx0 (bkF D0 0 []))) (hD0 : H5 D0 = some (.dK [])) (F35 : Fr [] H H5)
    (nx1 : H5 x1 = none) (nD1 : H5 D1 = none) (hB1 : H7 x1 = some (.ins CS dx1 (bkF D1 0 []))) (hD1 : H7 D1 = some (.dK [])) (F57 : Fr [] H5 H7)
    (nx2 : H7 x2 = none) (nD2 : H7 D2 = none) (hB2 : H9 x2 = some (.ins CH dx2 (bkF D2 0 (hTl R 0)))) (hD2 : H9 D2 = some (.dK [])) (F79 : Fr [] H7 H9)
    (f9 : Fr [] H9 Hf) (gb : H9 Lb = none) (gt : H9 Lt = none) (lb : Hf Lb = some (.lst [.ref x0, .ref x1, .ref x2])) (lt : Hf Lt = some (.lst [])) (ts : Hf Ts = some (.tup [.int 1, .int 1, .int 2])) :
    ∃ ρ', W4 K ρ' CT CS CH (pick3 x0 x1 x2) (pick3 D0 D1 D2) (pick3 x0 x1 x2) R N Lp Lr Le Lb Ts Lt a ns m xs er ev es 0 Hf := by
  have e1 : Ext H ρ (role1 (role1 ρ x0 (0, 0, 0)) D0 (0, 1, 0)) := ext_trans (role1_ext nx0) (role1_ext nD0)
  have c0 : BkA K (role1 (role1 ρ x0 (0, 0, 0)) D0 (0, 1, 0)) 0 1 CT CS [] H5 x0 D0 [] := BkA.new hB0 hD0 ⟨by simp, fun m _ => rfl⟩ (.inl rfl)
  generalize role1 (role1 ρ x0 (0, 0, 0)) D0 (0, 1, 0) = ρ1 at *
  have L5 := (L.ext e1).of0 F35
  have e2 : Ext H5 ρ1 (role1 (role1 ρ1 x1 (1, 0, 0)) D1 (1, 1, 0)) := ext_trans (role1_ext nx1) (role1_ext nD1)
  have c1 : BkA K (role1 (role1 ρ1 x1 (1, 0, 0)) D1 (1, 1, 0)) 1 1 CT CS [] H7 x1 D1 [] := BkA.new hB1 hD1 ⟨by simp, fun m _ => rfl⟩ (.inl rfl)
  generalize role1 (role1 ρ1 x1 (1, 0, 0)) D1 (1, 1, 0) = ρ2 at *
  have c0 := (c0.ext e2).of0 F57
  have L7 := (L5.ext e2).of0 F57
  have e3 : Ext H7 ρ2 (role1 (role1 ρ2 x2 (2, 0, 0)) D2 (2, 1, 0)) := ext_trans (role1_ext nx2) (role1_ext nD2)
  have c2 : BkA K (role1 (role1 ρ2 x2 (2, 0, 0)) D2 (2, 1, 0)) 2 2 CT CH (hTl R 0) H9 x2 D2 [] := BkA.new hB2 hD2 (hTl_ok R 0) (.inr rfl)
  generalize role1 (role1 ρ2 x2 (2, 0, 0)) D2 (2, 1, 0) = ρ3 at *
  have c0 := (c0.ext e3).of0 F79
  have c1 := (c1.ext e3).of0 F79
  have L9 := (L7.ext e3).of0 F79
  have e4 : Ext H9 ρ3 (hide ρ3 [Lb, Lt]) := hide_ext fun x mx => by
    simp only [List.mem_cons, List.not_mem_nil, or_false] at mx
    rcases mx with rfl | rfl <;> assumption
  refine ⟨hide ρ3 [Lb, Lt], (L9.ext e4).of0 f9, lb, hide_at (by simp), ts, lt, hide_at (by simp), fun j hj => absurd hj (by omega), fun j hj _ => ?_⟩
  match j, hj with
  | 0, _ => exact (c0.ext e4).of0 f9
  | 1, _ => exact (c1.ext e4).of0 f9
  | 2, _ => exact (c2.ext e4).of0 f9
end
/-- the banks stand -/
structure W5 (K : PySem.W.Frag) (ρ : Role) (CT CS CH : Addr) (B D Ta : Nat → Addr) (N Lp Lr Le Lb Lt a : Addr) (ns : List V) (m : Nat) (xs : List Nd) (er : List Int) (ev : List V) (es : List T) (H : Hp) : Prop where
  lp : LP K ρ N Lp Lr Le a ns m xs er ev es H
  lb : H Lb = some (.lst (l3 B))
  rb : ρ Lb = none
  lt : H Lt = some (.lst (l3 Ta))
  rt : ρ Lt = none
  tr : Trio K ρ CT CS CH B D Ta xs H
section
variable {K : PySem.W.Frag} {ρ ρ' : Role} {CT CS CH : Addr} {B D Ta : Nat → Addr} {R N Lp Lr Le Lb Ts Lt a b : Addr} {ns : List V} {m i : Nat} {xs xs' : List Nd} {er : List Int} {ev : List V} {es : List T} {H H' H2 : Hp} {M : List Addr}
theorem W4.five (h : W4 K ρ CT CS CH B D Ta R N Lp Lr Le Lb Ts Lt a ns m xs er ev es 3 H) : W5 K ρ CT CS CH B D Ta N Lp Lr Le Lb Lt a ns m xs er ev es H := ⟨h.lp, h.lb, h.rb, h.lt, h.rt, h.old⟩
theorem W5.of0 (h : W5 K ρ CT CS CH B D Ta N Lp Lr Le Lb Lt a ns m xs er ev es H) (f : Fr [] H H') : W5 K ρ CT CS CH B D Ta N Lp Lr Le Lb Lt a ns m xs er ev es H' := ⟨h.lp.of0 f, f.at0 h.lb, h.rb, f.at0 h.lt, h.rt, h.tr.of0 f⟩
theorem W5.ext (h : W5 K ρ CT CS CH B D Ta N Lp Lr Le Lb Lt a ns m xs er ev es H) (e : Ext H ρ ρ') : W5 K ρ' CT CS CH B D Ta N Lp Lr Le Lb Lt a ns m xs er ev es H := ⟨h.lp.ext e, h.lb, by rw [e _ (some_ne h.lb)]; exact h.rb, h.lt, by rw [e _ (some_ne h.lt)]; exact h.rt, h.tr.ext e⟩
theorem W5.turn (h : W5 K ρ CT CS CH B D Ta N Lp Lr Le Lb Lt a ns m xs er ev es H) (nb : H b = none) (f2 : Fr [] H H2) (F : Fr M H2 H') (aw : ∀ a ∈ M, a = b ∨ ∃ r, ρ a = some r) (tr : Trio K ρ CT CS CH B D Ta xs' H') (nd : NdA K ρ 3 xs'.length H' N xs') : W5 K ρ CT CS CH B D Ta N Lp Lr Le Lb Lt a ns m xs' er ev es H' := by
  have aw2 : ∀ x ∈ M, H x = none ∨ ∃ r, ρ x = some r := fun x m => by
    rcases aw x m with e | e
    · exact .inl (e ▸ nb)
    · exact .inr e
  have k : ∀ {x : Addr} {o : HO}, H x = some o → ρ x = none → H' x = some o := fun hx r => (f2.plus F).kp _ _ hx fun m => by
    rcases aw2 _ m with q | ⟨_, q⟩
    · rw [hx] at q; cases q
    · rw [r] at q; cases q
  exact ⟨h.lp.nodes nd (f2.plus F) aw2, k h.lb h.rb, h.rb, k h.lt h.rt, h.rt, tr⟩
end
@[irreducible] def W5Mid (K : PySem.W.Frag) (CT CS CH : Addr) (B D Ta : Nat → Addr) (N Lp Lr Le Lb Lt a : Addr) (ns : List V) (m n : Nat) (er : List Int) (ev : List V) (es : List T) (σ : Option V → L2.St) (_ : Nat) (σ' : L2.St) (H' : Hp) : Prop := ∃ (x : Option V) (ρ : Role) (xs : List Nd), σ' = σ x ∧ xs.length = n ∧ W5 K ρ CT CS CH B D Ta N Lp Lr Le Lb Lt a ns m xs er ev es H'
theorem W5Mid.of {K : PySem.W.Frag} {CT CS CH : Addr} {B D Ta : Nat → Addr} {N Lp Lr Le Lb Lt a : Addr} {ns : List V} {m n : Nat} {er : List Int} {ev : List V} {es : List T} {σ : Option V → L2.St} {i : Nat} {σ' : L2.St} {H' : Hp} {x : Option V} {ρ : Role} {xs : List Nd} (e : σ' = σ x) (l : xs.length = n) (h : W5 K ρ CT CS CH B D Ta N Lp Lr Le Lb Lt a ns m xs er ev es H') : W5Mid K CT CS CH B D Ta N Lp Lr Le Lb Lt a ns m n er ev es σ i σ' H' := by
  unfold W5Mid; exact ⟨x, ρ, xs, e, l, h⟩
theorem singles (m t : Nat) : ∃ g : Nat, (if (6 : Int) < (m : Int) then (6 : Int) else (m : Int)) * (if decide (V.int (t : Int) = V.int 0) = true then (1 : Int) else 0) = (g : Int) ∧ g ≤ 6 ∧ g ≤ m := by
  by_cases h : V.int (t : Int) = V.int 0
  · refine ⟨min 6 m, ?_, by omega, by omega⟩
    rw [show (if decide (V.int (t : Int) = V.int 0) = true then (1 : Int) else 0) = 1 from if_pos (decide_eq_true h), Int.mul_one]
    split <;> omega
  · refine ⟨0, ?_, by omega, by omega⟩
    rw [show (if decide (V.int (t : Int) = V.int 0) = true then (1 : Int) else 0) = 0 from if_neg (by rw [decide_eq_false h]; decide), Int.mul_zero]
    rfl
theorem tp3 {i : Nat} (hi : i < 3) : (i : Int) < (((List.range 3).map fun i => V.int (stpF i)).length : Nat) := by simp; omega
theorem tp3_at {i : Nat} {v : V} (hi : i < 3) (h : ((List.range 3).map fun i => V.int (stpF i))[((i : Nat) : Int).toNat]? = some v) : v = .int (stpF i) := by
  rw [Int.toNat_natCast, List.getElem?_map, List.getElem?_range hi] at h
  exact (Option.some.inj h).symm
@[irreducible] def W4Mid (K : PySem.W.Frag) (CT CS CH : Addr) (B D : Nat → Addr) (R N Lp Lr Le Lb Ts Lt a : Addr) (ns : List V) (m : Nat) (xs : List Nd) (er : List Int) (ev : List V) (es : List T) (σ : Option V → Option V → Option V → L2.St) (i : Nat) (σ' : L2.St) (H' : Hp) : Prop := ∃ (x y z : Option V) (ρ : Role) (Ta : Nat → Addr), σ' = σ x y z ∧ W4 K ρ CT CS CH B D Ta R N Lp Lr Le Lb Ts Lt a ns m xs er ev es i H'
theorem W4Mid.of {K : PySem.W.Frag} {CT CS CH : Addr} {B D : Nat → Addr} {R N Lp Lr Le Lb Ts Lt a : Addr} {ns : List V} {m : Nat} {xs : List Nd} {er : List Int} {ev : List V} {es : List T} {σ : Option V → Option V → Option V → L2.St} {i : Nat} {σ' : L2.St} {H' : Hp} {x y z : Option V} {ρ : Role} {Ta : Nat → Addr} (e : σ' = σ x y z) (h : W4 K ρ CT CS CH B D Ta R N Lp Lr Le Lb Ts Lt a ns m xs er ev es i H') : W4Mid K CT CS CH B D R N Lp Lr Le Lb Ts Lt a ns m xs er ev es σ i σ' H' := by
  unfold W4Mid; exact ⟨x, y, z, ρ, Ta, e, h⟩
@[irreducible] def W1Mid (a b0 : Addr) (H : Hp) (σ' : L2.St) (H' : Hp) : Prop := ∃ m : Nat, σ' = [some (.ref a), some (.ref b0), some (.int m), none, none, none, none, none, none, none, none, none, none, none, none, none, none, none] ∧ 1 ≤ m ∧ m ≤ 30 ∧ Box H' b0 ∧ Fr [] H H'
theorem W1Mid.of {a b0 : Addr} {H : Hp} {σ' : L2.St} {H' : Hp} {m : Nat} (e : σ' = [some (.ref a), some (.ref b0), some (.int m), none, none, none, none, none, none, none, none, none, none, none, none, none, none, none]) (h1 : 1 ≤ m) (h2 : m ≤ 30) (h3 : Box H' b0) (h4 : Fr [] H H') : W1Mid a b0 H σ' H' := by unfold W1Mid; exact ⟨m, e, h1, h2, h3, h4⟩
@[irreducible] def W2Mid (a b0 : Addr) (m : Nat) (H : Hp) (σ' : L2.St) (H' : Hp) : Prop := ∃ (u : Int) (t : Nat), σ' = [some (.ref a), some (.ref b0), some (.int m), some (.int u), some (.int t), none, none, none, none, none, none, none, none, none, none, none, none, none] ∧ 0 ≤ u ∧ u ≤ 3 ∧ t ≤ 1150 ∧ Box H' b0 ∧ Fr [] H H'
theorem W2Mid.of {a b0 : Addr} {m : Nat} {H : Hp} {σ' : L2.St} {H' : Hp} {u : Int} {t : Nat} (e : σ' = [some (.ref a), some (.ref b0), some (.int m), some (.int u), some (.int t), none, none, none, none, none, none, none, none, none, none, none, none, none]) (h1 : 0 ≤ u) (h2 : u ≤ 3) (h5 : t ≤ 1150) (h3 : Box H' b0) (h4 : Fr [] H H') : W2Mid a b0 m H σ' H' := by unfold W2Mid; exact ⟨u, t, e, h1, h2, h5, h3, h4⟩
@[irreducible] def W3Mid (K : PySem.W.Frag) (ρ : Role) (a b0 : Addr) (m : Nat) (u : Int) (t : Nat) (N Lp Lr Le : Addr) (ns : List V) (xs : List Nd) (er : List Int) (σ' : L2.St) (H' : Hp) : Prop := ∃ (ev : List V) (es : List T), σ' = [some (.ref a), some (.ref b0), some (.int m), some (.int u), some (.int t), some (.ref N), some (.ref Lp), none, some (.ref Lr), some (.ref Le), none, none, none, none, none, none, none, none] ∧ LP K ρ N Lp Lr Le a ns m xs er ev es H' ∧ (∀ t ∈ es, EntOk xs.length t) ∧ es.length ≤ 10
theorem W3Mid.of {K : PySem.W.Frag} {ρ : Role} {a b0 : Addr} {m : Nat} {u : Int} {t : Nat} {N Lp Lr Le : Addr} {ns : List V} {xs : List Nd} {er : List Int} {σ' : L2.St} {H' : Hp} {ev : List V} {es : List T} (e : σ' = [some (.ref a), some (.ref b0), some (.int m), some (.int u), some (.int t), some (.ref N), some (.ref Lp), none, some (.ref Lr), some (.ref Le), none, none, none, none, none, none, none, none]) (h1 : LP K ρ N Lp Lr Le a ns m xs er ev es H') (h2 : ∀ t ∈ es, EntOk xs.length t) (h3 : es.length ≤ 10) : W3Mid K ρ a b0 m u t N Lp Lr Le ns xs er σ' H' := by unfold W3Mid; exact ⟨ev, es, e, h1, h2, h3⟩
section
variable {P : Program} {w : World} {K : PySem.W.Frag} {mg : Str → Option Value} {base : Heap}
set_option hygiene false
local macro_rules | `(tactic| tm_at "sc") => `(tactic| (first | omega | (simp only [List.length_cons, List.length_nil, List.length_map, List.length_set, List.length_append]; omega) | (simp only [List.length_map] at h1 ⊢; omega) | (simp only [List.length_map] at c ⊢; omega) | with_reducible assumption | exact And.intro (by omega) (by omega) | exact Or.inl (And.intro (by omega) (by omega)) | exact Or.inr (And.intro (by omega) (by omega)) | decide +kernel | exact len1000 (by simp) | rfl | fail "no way"))
local macro_rules | `(tactic| tm_at "sc1") => `(tactic| (focus (simp; done)))
local macro_rules | `(tactic| tm_at "ne") => `(tactic| (first | assumption | exact Ne.symm (by assumption) | (apply Box.ne2; assumption; tm_at "hp") | (apply Ne.symm; apply Box.ne2; assumption; tm_at "hp") | (apply ne_of_none2; assumption; tm_at "hp") | (apply Ne.symm; apply ne_of_none2; assumption; tm_at "hp") | fail "no way"))
local macro_rules | `(tactic| tm_at "f0") => `(tactic| (first | assumption | (apply Fr.new; assumption) | fail "no way"))
local macro_rules | `(tactic| tm_at "hp") => `(tactic| (first | assumption | exact upd_same | (apply SqL.of; first | assumption | exact upd_same) | (apply Fr.at0; tm_at "f0"; tm_at "hp") | (apply Fr.at1n; assumption; tm_at "ne"; tm_at "hp") | (apply sqFr0; tm_at "f0"; tm_at "hp") | (apply sqFr1; assumption; tm_at "ne"; tm_at "hp") | (apply Box.fr0; tm_at "f0"; tm_at "hp") | (apply Box.fr1; assumption; tm_at "ne"; tm_at "hp") | (apply Den.fr; tm_at "f0"; tm_at "hp") | (apply Dens.fr; tm_at "f0"; tm_at "hp") | fail "no way"))
local macro_rules | `(tactic| tm_at "free0") => `(tactic| (first | assumption | (apply updFree; assumption) | (apply updFree; apply updFree; assumption) | (apply updFree; apply updFree; apply updFree; assumption) | (apply updFree; apply updFree; apply updFree; apply updFree; assumption) | fail "no way"))
local macro_rules | `(tactic| tm_at "free") => `(tactic| (first | tm_at "free0" | (apply Fr.free; assumption; tm_at "free0") | (apply Box.free; assumption; tm_at "fr"; tm_at "free0") | (apply Fr.free; assumption; apply Fr.free; assumption; tm_at "free0") | fail "no way"))
local macro_rules | `(tactic| tm_at "fr") => `(tactic| (first | assumption | exact Fr.refl0 _ | exact Fr.refl (Box.nt (by assumption)) | (refine Fr.comp0 ?_ (by tm_at "f0"); tm_at "fr") | (refine Fr.comp ?_ (by assumption); tm_at "fr") | (refine Fr.compN ?_ (by assumption) (by tm_at "free"); tm_at "fr") | fail "no way"))
local macro_rules | `(tactic| tm_at "call") => `(tactic| fail "no call")
local macro_rules | `(tactic| tm_at "call") => `(tactic| (apply take_step; tm_at "hp"; tm_at "sc"; tm_at "sc"; intro r H1 h0 h1 hB fr))
local macro_rules | `(tactic| tm_at "ty") => `(tactic| (first | assumption | exact .base .non | exact .base (.bl _) | exact .base (.int _) | exact .base (.str _) | (apply TyX.base; apply TyOf.lst; tm_at "hp") | (apply TyX.base; apply TyOf.tup; tm_at "hp") | fail "no way"))
local macro_rules | `(tactic| tm_at "pre") => `(tactic| fail "none")
local macro_rules | `(tactic| tm_at "go1") => `(tactic| (first | tm_at "pre" | refine ⟨_, rfl, ?_⟩ | refine ⟨_, _, rfl, rfl, ?_⟩ | (apply set_step; tm_at "hp"; tm_at "sc"; tm_at "sc"; intro H1 hp fr) | (with_reducible refine iteDI ?_ ?_ <;> intro c) | (with_reducible refine iteDS ?_ ?_ <;> intro c) | (with_reducible refine iteD ?_ ?_ <;> intro c) | (with_reducible refine iteEM ?_ ?_ <;> intro c) | (with_reducible refine iteE ?_ ?_ <;> intro c) | with_reducible refine iteN ?_ | with_reducible refine iteF ?_ | with_reducible refine iteT ?_ | (refine fun (p : Addr) (np : _ = (none : Option HO)) => ?_; fail_if_success (refine ⟨fun (_ _ : Nat) (_ : Hp) => True, ?_⟩)) | (apply isi_tt; tm_at "ty"; focus (decide +kernel)) | (apply isi_ff; tm_at "ty"; focus (decide +kernel)) | (apply sl_step; tm_at "hp"; intro qq H1 ms nq hq fr) | (apply sum_step; tm_at "hp"; intro i) | (apply tru_step; tm_at "hp") | (apply len_step; tm_at "hp") | (apply lenq_step; assumption) | (apply ixq_step; assumption; tm_at "sc"; tm_at "sc"; intro v hv) | (apply lst_step; tm_at "hp") | (apply tupl_step; tm_at "hp") | (apply ixr_step; tm_at "hp"; exact rfl) | (apply ix0_step; tm_at "hp") | (apply ix1_step; tm_at "hp") | (apply ix2_step; tm_at "hp") | (apply ixi_step; tm_at "hp"; tm_at "sc"; tm_at "sc"; intro n hn hn') | (apply ixl_step; tm_at "hp"; tm_at "sc"; tm_at "sc"; intro v hv) | (apply ixt_step; tm_at "hp"; tm_at "sc"; tm_at "sc"; intro v hm hv) | (apply in_step; tm_at "hp"; rfl; rfl) | (apply cat_step; tm_at "hp"; tm_at "hp"; tm_at "sc") | (apply catT_step; tm_at "hp"; tm_at "hp"; tm_at "sc1") | (apply tyL_and; tm_at "hp") | (apply app_step; tm_at "hp"; tm_at "sc"; intro H1 hp fr) | tm_at "call" | refine ⟨⟨_, rfl⟩, ?_⟩ | (apply ixs_step; tm_at "sc"; tm_at "sc"; tm_at "sc"; intro ch) | refine .inl ⟨_, rfl, ?_⟩ | refine .inr ⟨_, rfl, ?_⟩ | (apply And.intro; tm_at "sc") | (with_reducible refine wayB ?_ ?_ <;> intro c) | fail "no way"))
local macro_rules | `(tactic| tm_at "go") => `(tactic| (repeat tm_at "go1"))
local macro_rules | `(tactic| tm_at "goo") => `(tactic| (repeat' tm_at "go1"))
local macro_rules | `(tactic| tm_at "den") => `(tactic| (first | assumption | exact Den.str _ | exact Den.int _ | exact Den.bl _ | exact Den.non | (apply Den.tups; tm_at "hp"; tm_at "dens") | (apply Den.fr; tm_at "f0"; tm_at "den") | fail "no way"))
local macro_rules | `(tactic| tm_at "dens") => `(tactic| (first | assumption | exact Dens.nil | (apply Dens.cons; tm_at "den"; tm_at "dens") | (apply Dens.fr; tm_at "f0"; tm_at "dens") | fail "no way"))
local macro_rules | `(tactic| tm_at "ix") => `(tactic| (apply Ix.mk; tm_at "hp"; tm_at "ne"; assumption; assumption))
local macro_rules | `(tactic| tm_at "dep") => `(tactic| (first | assumption | exact Dep.int | exact Dep.str | exact Dep.bl | exact Dep.non | (apply Dep.tup; tm_at "dlen"; tm_at "deps") | (apply Dep.mono; assumption; decide) | fail "no way"))
local macro_rules | `(tactic| tm_at "deps") => `(tactic| (first | assumption | exact memN | (apply memC; tm_at "dep"; tm_at "deps") | fail "no way"))
local macro_rules | `(tactic| tm_at "dlen") => `(tactic| (first | assumption | (focus (simp; done)) | omega | fail "no way"))
local macro_rules | `(tactic| tm_at "pre") => `(tactic| (apply rep_step; tm_at "hp"; tm_at "sc"; tm_at "sc"; intro rp H1 nrp hrp fr))

local macro_rules | `(tactic| tm_at "call") => `(tactic| (apply word_step; tm_at "hp"; intro v H1 hv hB fr))
local macro_rules | `(tactic| tm_at "call") => `(tactic| (apply name_step; tm_at "hp"; intro v H1 hv hB fr))
local macro_rules | `(tactic| tm_at "call") => `(tactic| (apply plain_step; tm_at "hp"; intro v H1 t hd he hB fr))
local macro_rules | `(tactic| tm_at "call") => `(tactic| (apply entry_step; tm_at "hp"; tm_at "ix"; tm_at "ix"; intro v H1 t hd he hB fr))
local macro_rules | `(tactic| tm_at "call") => `(tactic| (apply kinds_step; intro p H1 np hp fr))
local macro_rules | `(tactic| tm_at "call") => `(tactic| (apply kind_step; tm_at "hp"; intro v H1 hv hB fr))
local macro_rules | `(tactic| tm_at "call") => `(tactic| (apply marks_step; intro m))
local macro_rules | `(tactic| tm_at "pre") => `(tactic| (apply strInt_step; tm_at "sc"; intro s hs))
local macro_rules | `(tactic| tm_at "pre") => `(tactic| (apply addS_step; tm_at "sc"; intro s hs))

local macro_rules | `(tactic| tm_at "lk") => `(tactic| (first | with_reducible exact lookup_eq | ((with_reducible apply lookup_ne); (focus (decide +kernel)); tm_at "lk") | assumption | rfl | fail "no way"))
local macro_rules | `(tactic| tm_at "pf") => `(tactic| (first | with_reducible exact putF_nil | with_reducible exact putF_eq | ((with_reducible apply putF_ne); (focus (decide +kernel)); tm_at "pf") | fail "no way"))
local macro_rules | `(tactic| tm_at "fl") => `(tactic| (first | assumption | focus (simp only [List.length_cons, List.length_nil]; omega) | focus (simp only [List.length_cons, List.length_nil]; done) | focus (decide) | focus (simp; done) | focus (simp; omega) | fail "no way"))
local macro_rules | `(tactic| tm_at "pre") => `(tactic| (apply fld_step; tm_at "hp"; assumption; assumption; tm_at "lk"))
local macro_rules | `(tactic| tm_at "pre") => `(tactic| (apply putf_step; tm_at "hp"; assumption; assumption; tm_at "fl"; tm_at "pf"; intro H1 hp fr))
local macro_rules | `(tactic| tm_at "pre") => `(tactic| (apply aug_step; tm_at "hp"; assumption; assumption; tm_at "lk"))
local macro_rules | `(tactic| tm_at "pre") => `(tactic| (apply put2_step; tm_at "hp"; tm_at "fl"; tm_at "pf"; intro H1 hp fr))
local macro_rules | `(tactic| tm_at "pre") => `(tactic| (apply dget_step; tm_at "hp"; tm_at "lk"))
local macro_rules | `(tactic| tm_at "pre") => `(tactic| (apply dput_step; tm_at "hp"; (focus (omega)); intro H1 hp fr))
local macro_rules | `(tactic| tm_at "pre") => `(tactic| (apply mth_step; tm_at "hp"; tm_at "lk"))
local macro_rules | `(tactic| tm_at "pre") => `(tactic| (apply lenD_step; tm_at "hp"))
local macro_rules | `(tactic| tm_at "pre") => `(tactic| (apply addI_step))
local macro_rules | `(tactic| tm_at "pre") => `(tactic| (apply newD_step; intro dn H1 nd hp fr))
local macro_rules | `(tactic| tm_at "fr2") => `(tactic| (first | assumption | (apply Fr.appMb; assumption; (focus (simp; done)); tm_at "fr2") | (apply Fr.app0b; tm_at "f0"; tm_at "fr2") | (apply Fr.appNb; assumption; tm_at "free"; tm_at "fr2") | fail "no way"))
local macro_rules | `(tactic| tm_at "ne") => `(tactic| (apply ne_role; assumption; assumption; (focus (decide))))
local macro_rules | `(tactic| tm_at "pre") => `(tactic| (apply dnotin_step; tm_at "hp"))
local macro_rules | `(tactic| tm_at "pre") => `(tactic| (apply din_step; tm_at "hp"))

local macro_rules | `(tactic| tm_at "nda") => `(tactic| (first | assumption | (apply NdA.of0; tm_at "f0"; tm_at "nda") | (apply NdA.of1; assumption; assumption; tm_at "nda") | fail "no way"))
local macro_rules | `(tactic| tm_at "pre") => `(tactic| (apply nd_step; tm_at "nda"; tm_at "sc"; tm_at "sc"; intro xn hxn hnd hrow))
def spLaw (K : PySem.W.Frag) : Sp := fun vs H Q _ => ∃ (a : Addr) (ns : List Int), vs = [.ref a] ∧ SqL K H a (ns.map V.int) ∧ ∀ H', Q (.bl true) H'
abbrev s_law : Stmt := top 42
theorem sc_law : FnScope ["_law_script", "_law_head", "_law_many", "_law_turns", "_law_tall", "_law_nodes_here", "_law_pool", "_law_k", "_law_errors", "_law_entries", "_law_banks", "_law_steps", "_law_tables", "_law_side", "_law_box_here", "_law_table", "_law_singles", "_law_turn"] ["_law_script"] (defScope s_law) := ⟨rfl, rfl, rfl, by decide +kernel, rfl, by decide +kernel, by decide +kernel⟩

theorem fun_law {CT CS CH : Addr} {f : Addr} {fd : FuncData} (T : Bl mg) (G_box : Cal P w K mg base 2 "_law_box" ["_law_script", "_law_k"] (spBox K)) (G_take : CTake P w K mg base) (G_nodes : Cal P w K mg base 8 "_law_nodes" ["_law_script", "_law_many", "_law_tall"] (spNodes K)) (G_entry : CEntry P w K mg base)
    (G_Store : CalC P w K mg base 1 CS "Store" ["self"] (spInit CS)) (G_Heap : CalC P w K mg base 2 CH "Heap" ["self"] (spHInit CH)) (G_order : Cal P w K mg base 2 "_law_order" ["_law_box_here", "_law_many", "_law_tall", "_law_way"] spOrder) (G_built : Cal P w K mg base 8 "_law_built" ["_law_box_here", "_law_bank", "_law_nodes_here", "_law_order_here", "_law_step"] (spBuilt3 K CT CS CH))
    (G_all : Cal P w K mg base 9 "_law_all" ["_law_banks", "_law_tables", "_law_nodes_here", "_law_entries", "_law_singles"] (spAll K CT CS CH)) (G_set : Cal P w K mg base 7 "_law_set" ["_law_box_here", "_law_banks", "_law_tables", "_law_nodes_here", "_law_pool", "_law_errors"] (spSet3 K CT CS CH)) (D : FnP K "law" "law" s_law f fd) : FnOk P w K mg base CX0 10 f fd ["_law_script"] (spLaw K) := by
  refine (fnp_cal D sc_law (fun _ _ _ _ _ _ us hl => match us, hl with | [_], _ => rfl) (fun vs H Q E h => ?_) (fun f cdv A outer s H vs Q E hr h => ?_)).1 <;> unfold spLaw at h
  · obtain ⟨a, ns, rfl, _⟩ := h
    rfl
  · obtain ⟨a, ns, rfl, hs, q⟩ := h
    refine ⟨_, (pss_cons (ps_set (i := 1) sc_law.nd rfl (Or.inr rfl) (pe_cal G_box (hr.mono (by omega)) (by rfl) (pa_cons (pv 0) (pa_cons pe_int pa_nil))))
    (pss_cons (ps_set (i := 2) sc_law.nd rfl (Or.inl rfl) (pe_op op_add pe_int (pe_cal G_take (hr.mono (by omega)) (by rfl) (pa_cons (pv 1) (pa_cons pe_int pa_nil)))))
    (pss_cut (ps_if (pt_cmpR op_eq (pe_cal G_take (hr.mono (by omega)) (by rfl) (pa_cons (pv 1) (pa_cons pe_int pa_nil))) pe_int (nomark _))
      (pss_one (ps_set (i := 2) sc_law.nd rfl (Or.inl rfl) (pe_op op_add pe_int (pe_cal G_take (hr.mono (by omega)) (by rfl) (pa_cons (pv 1) (pa_cons pe_int pa_nil))))))
      pss_nil)
    (pss_cons (ps_set (i := 3) sc_law.nd rfl (Or.inl rfl) (pe_cal G_take (hr.mono (by omega)) (by rfl) (pa_cons (pv 1) (pa_cons pe_int pa_nil))))
    (pss_cons (ps_set (i := 4) sc_law.nd rfl (Or.inl rfl) pe_int)
    (pss_cut (ps_if (pt_cmpR op_eq (pe_cal G_take (hr.mono (by omega)) (by rfl) (pa_cons (pv 1) (pa_cons pe_int pa_nil))) pe_int (nomark _))
      (pss_cons (ps_set (i := 4) sc_law.nd rfl (Or.inl rfl) (pe_op op_add pe_int (pe_cal G_take (hr.mono (by omega)) (by rfl) (pa_cons (pv 1) (pa_cons pe_int pa_nil)))))
      (pss_one (ps_set (i := 3) sc_law.nd rfl (Or.inl rfl) (pe_callB (call_min2 rfl) (by rfl) T.z_min (by decide +kernel) (pa_cons (pv 3) (pa_cons pe_int pa_nil))))))
      pss_nil)
    (pss_cons (ps_set (i := 5) sc_law.nd rfl (Or.inr rfl) (pe_cal G_nodes (hr.mono (by omega)) (by rfl) (pa_cons (pv 0) (pa_cons (pv 2) (pa_cons (pv 4) pa_nil)))))
    (pss_cons (ps_set (i := 6) sc_law.nd rfl (Or.inr rfl) (pe_lc (own := [("_law_k", 7)]) (g := gName 7) (by rfl) sc_law.nd (pi_range1 (by rfl) T.z_range (pa_cons (pv 2) pa_nil)) (blkOk_by (own := [("_law_k", 7)]) (N := [("_law_script" : Str), ("_law_head" : Str), ("_law_many" : Str), ("_law_turns" : Str), ("_law_tall" : Str), ("_law_nodes_here" : Str), ("_law_pool" : Str), ("_law_k" : Str), ("_law_errors" : Str), ("_law_entries" : Str), ("_law_banks" : Str), ("_law_steps" : Str), ("_law_tables" : Str), ("_law_side" : Str), ("_law_box_here" : Str), ("_law_table" : Str), ("_law_singles" : Str), ("_law_turn" : Str)]) (sc := defScope s_law) (by decide +kernel)) (fun _ _ _ _ _ => pg_name (i := 7) sc_law.nd rfl (Or.inl rfl)) (fun _ _ _ _ _ => pts_nil) (fun _ _ _ _ _ => (pv 7))))
    (pss_cons (ps_set (i := 8) sc_law.nd rfl (Or.inr rfl) (pe_lc (own := [("_law_k", 7)]) (g := gName 7) (by rfl) sc_law.nd (pi_list (pv 6)) (blkOk_by (own := [("_law_k", 7)]) (N := [("_law_script" : Str), ("_law_head" : Str), ("_law_many" : Str), ("_law_turns" : Str), ("_law_tall" : Str), ("_law_nodes_here" : Str), ("_law_pool" : Str), ("_law_k" : Str), ("_law_errors" : Str), ("_law_entries" : Str), ("_law_banks" : Str), ("_law_steps" : Str), ("_law_tables" : Str), ("_law_side" : Str), ("_law_box_here" : Str), ("_law_table" : Str), ("_law_singles" : Str), ("_law_turn" : Str)]) (sc := defScope s_law) (by decide +kernel)) (fun _ _ _ _ _ => pg_name (i := 7) sc_law.nd rfl (Or.inl rfl)) (fun _ _ _ _ _ => (pts_one (pt_cmpR op_eq (pe_ix (ixL K) (pe_ix (ixL K) (pv 5) (pv 7) (fun _ _ => rfl)) pe_int (fun _ _ => rfl)) pe_str (nomark _)))) (fun _ _ _ _ _ => (pv 7))))
    (pss_cons (ps_setLc (i := 9) (own := [("_law_k", 7)]) (g := gName 7) (by rfl) sc_law.nd rfl rfl (sw_true rfl rfl rfl (by decide +kernel)) (pi_range1 (by rfl) T.z_range (pa_cons (pe_cal G_take (hr.mono (by omega)) (by rfl) (pa_cons (pv 1) (pa_cons pe_int pa_nil))) pa_nil)) (blkOk_by (own := [("_law_k", 7)]) (N := [("_law_script" : Str), ("_law_head" : Str), ("_law_many" : Str), ("_law_turns" : Str), ("_law_tall" : Str), ("_law_nodes_here" : Str), ("_law_pool" : Str), ("_law_k" : Str), ("_law_errors" : Str), ("_law_entries" : Str), ("_law_banks" : Str), ("_law_steps" : Str), ("_law_tables" : Str), ("_law_side" : Str), ("_law_box_here" : Str), ("_law_table" : Str), ("_law_singles" : Str), ("_law_turn" : Str)]) (sc := defScope s_law) (by decide +kernel)) (fun _ _ _ _ _ => pg_name (i := 7) sc_law.nd rfl (Or.inl rfl)) (fun _ _ _ _ _ => pts_nil) (fun _ _ _ _ _ => (pe_cal G_entry (hr.mono (by omega)) (by rfl) (pa_cons (pv 1) (pa_cons (pv 6) (pa_cons (pv 8) (pa_cons pe_int pa_nil)))))))
    (pss_cut (ps_if (pt_cmpR op_gt (pv 4) pe_int (nomark _))
      (pss_one (ps_expr (pe_bm PySem.F.plainAttrs_list PySem.F.slot_list_append PySem.F.type_list_append mtApp (pv 9) (pa_cons (pe_tup (pa_cons pe_str (pa_cons (pv 2) pa_nil))) pa_nil))))
      pss_nil)
    (pss_cons (ps_set (i := 10) sc_law.nd rfl (Or.inl rfl) (pe_lst (pa_cons (pe_mkx0 G_Store (hr.mono (by omega)) (by rfl)) (pa_cons (pe_mkx0 G_Store (hr.mono (by omega)) (by rfl)) (pa_cons (pe_mkx0 G_Heap (hr.mono (by omega)) (by rfl)) pa_nil)))))
    (pss_cons (ps_set (i := 11) sc_law.nd rfl (Or.inl rfl) (pe_tup (pa_cons pe_int (pa_cons pe_int (pa_cons pe_int pa_nil)))))
    (pss_cons (ps_set (i := 12) sc_law.nd rfl (Or.inl rfl) (pe_lst pa_nil))
    (pss_cons (ps_for PassesOwn.never rfl (pi_range1 (by rfl) T.z_range (pa_cons pe_int pa_nil)) (pg_name (i := 13) sc_law.nd rfl (Or.inl rfl))
      (pss_cons (ps_set (i := 14) sc_law.nd rfl (Or.inl rfl) (pe_cal G_box (hr.mono (by omega)) (by rfl) (pa_cons (pv 0) (pa_cons (pe_op op_add pe_int (pv 13)) pa_nil))))
      (pss_cons (ps_set (i := 15) sc_law.nd rfl (Or.inl rfl) (pe_cal G_built (hr.mono (by omega)) (by rfl) (pa_cons (pv 14) (pa_cons (pe_ix (ixL K) (pv 10) (pv 13) (fun _ _ => rfl)) (pa_cons (pv 5) (pa_cons (pe_cal G_order (hr.mono (by omega)) (by rfl) (pa_cons (pv 14) (pa_cons (pv 2) (pa_cons (pv 4) (pa_cons (pv 13) pa_nil))))) (pa_cons (pe_ix (ixT K) (pv 11) (pv 13) (fun _ _ => rfl)) pa_nil)))))))
      (pss_cons (ps_if (pt_not (ptTru K (pv 15)))
        (pss_one (ps_ret pe_bl))
        pss_nil)
      (pss_one (ps_expr (pe_bm PySem.F.plainAttrs_list PySem.F.slot_list_append PySem.F.type_list_append mtApp (pv 12) (pa_cons (pv 15) pa_nil))))))))
    (pss_cons (ps_set (i := 16) sc_law.nd rfl (Or.inl rfl) (pe_op op_mul (pe_callB (call_min2 rfl) (by rfl) T.z_min (by decide +kernel) (pa_cons (pv 2) (pa_cons pe_int pa_nil))) (pe_callTy call_int1 (by rfl) T.z_int (by decide +kernel) (pa_cons (pe_cmpR op_eq (pv 4) pe_int (nomark _)) pa_nil))))
    (pss_cons (ps_if (pt_not (pt_val (pe_cal G_all (hr.mono (by omega)) (by rfl) (pa_cons (pv 10) (pa_cons (pv 12) (pa_cons (pv 5) (pa_cons (pv 9) (pa_cons (pv 16) pa_nil))))))))
      (pss_one (ps_ret pe_bl))
      pss_nil)
    (pss_cons (ps_for PassesOwn.never rfl (pi_range1 (by rfl) T.z_range (pa_cons (pv 3) pa_nil)) (pg_name (i := 17) sc_law.nd rfl (Or.inl rfl))
      (pss_cons (ps_expr (pe_cal G_set (hr.mono (by omega)) (by rfl) (pa_cons (pe_cal G_box (hr.mono (by omega)) (by rfl) (pa_cons (pv 0) (pa_cons (pe_op op_add pe_int (pv 17)) pa_nil))) (pa_cons (pv 10) (pa_cons (pv 12) (pa_cons (pv 5) (pa_cons (pv 6) (pa_cons (pv 8) pa_nil))))))))
      (pss_one (ps_if (pt_not (pt_val (pe_cal G_all (hr.mono (by omega)) (by rfl) (pa_cons (pv 10) (pa_cons (pv 12) (pa_cons (pv 5) (pa_cons (pv 9) (pa_cons (pv 16) pa_nil))))))))
        (pss_one (ps_ret pe_bl))
        pss_nil))))
    (pss_one (ps_ret pe_bl)))))))))))))))))))), ?_⟩
    tm_at "goo"
    refine box_step hs (by decide) fun b0 H2 nb hb f2 => ?_
    tm_at "goo"
    have F1 : Fr [] H H1 := f2.compN fr nb
    clear f2 fr hb
    obtain ⟨m0, hm0⟩ : ∃ m0 : Nat, (m0 : Int) = 1 + r := ⟨(1 + r).toNat, by omega⟩
    refine cut_step (W1Mid a b0 H) ?_ fun σ' H' hP => ?_
    · tm_at "goo"
      · exact W1Mid.of (m := (10 + r).toNat) (by rw [show (((10 + r).toNat : Nat) : Int) = 10 + r by omega]; rfl) (by omega) (by omega) (by assumption) (by tm_at "fr")
      · exact W1Mid.of (m := m0) (by rw [hm0]; rfl) (by omega) (by omega) (by assumption) (by tm_at "fr")
    · unfold W1Mid at hP
      clear F1 hB hm0
      obtain ⟨m, rfl, m1, m30, hB, F⟩ := hP
      tm_at "goo"
      have F1 : Fr [] H H1 := F.compN fr nb
      clear F fr
      refine cut_step (W2Mid a b0 m H) ?_ fun σ' H' hP => ?_
      · tm_at "goo"
        · rename_i r3 H3 h30 h31 hB3 r2 H4 h20 h21 hB2 f2
          have F4 := (F1.compN f2 nb).compN fr nb
          refine ⟨_, _, rfl, ?_⟩
          exact W2Mid.of (u := if (1 : Int) < r3 then 1 else r3) (t := (1050 + r).toNat) (by rw [show (((1050 + r).toNat : Nat) : Int) = 1050 + r by omega]; rfl) (by split <;> omega) (by split <;> omega) (by omega) hB F4
        · rename_i r3 H3 h30 h31 hB3
          exact W2Mid.of (u := r3) (t := 0) rfl h30 (by omega) (by omega) hB (F1.compN fr nb)
      · unfold W2Mid at hP
        clear F1 hB
        obtain ⟨u, t, rfl, u0, u3, t2, hB, F⟩ := hP
        tm_at "goo"
        refine nodes_step (ρ := fun _ => none) (sqFr0 F hs) m1 m30 t2 fun N H5 ρ1 xs nN hN lx ex1 f5 => ?_
        tm_at "goo"
        refine lcR (fun _ => true) (fun _ i y => y = .int (0 + (i : Int))) (Cg.nil _) stab_v (by omega) (fun i H hi hS f => tyes_ok trivial (fun _ h => nomatch h)) (fun i H2 hi _ hS f R kk => ?_) (fun Lp H6 pv nLp hLp m6 _ f6 => ?_)
        · tm_at "goo"
          exact kk _ _ trivial (by tm_at "fr") rfl
        rw [keptN_all] at m6
        have em : ((m : Int)).toNat = m := by omega
        rw [m6.ints, em] at hLp
        tm_at "goo"
        refine ⟨⟨_, .of hLp⟩, ?_⟩
        refine lcL (isK xs (Str.ofString "instance")) (fun _ i y => y = .int (0 + (i : Int))) (Cg.nil _) stab_v (.of hLp) (by simp) (by simp; omega) (fun i x H2 hi hS f R kk => ?_) (fun i x H2 hi _ hS f R kk => ?_) (fun Lr H7 rv nLr hLr m7 _ f7 => ?_)
        · obtain ⟨rfl, hi'⟩ := int_at hi
          have hN2 := (hN.fr0 f6).fr0 f
          have hN20 := hN2.at_
          tm_at "goo"
          rw [← isK_at hxn]
          exact kk _ trivial (by tm_at "fr")
        · obtain ⟨rfl, hi'⟩ := int_at hi
          tm_at "goo"
          exact kk _ _ trivial (by tm_at "fr") rfl
        rw [m7.ints] at hLr
        have ll : (((List.range m).map fun i : Nat => (0 : Int) + (i : Int)).map V.int).length = m := by simp
        rw [ll] at hLr
        have ler : ((keptN (isK xs (Str.ofString "instance")) m).map fun i : Nat => (0 : Int) + (i : Int)).length ≤ 1000 := by
          rw [List.length_map]; exact Nat.le_trans (keptN_le _ _) (by omega)
        have ier : ∀ e ∈ (keptN (isK xs (Str.ofString "instance")) m).map fun i : Nat => (0 : Int) + (i : Int), 0 ≤ e ∧ e < (m : Int) := fun e me => by
          obtain ⟨i, hi, rfl⟩ := List.mem_map.mp me
          have := (kept_in hi).1
          omega
        generalize (keptN (isK xs (Str.ofString "instance")) m).map (fun i : Nat => (0 : Int) + (i : Int)) = er at *
        have hB7 : Box H7 b0 := ((hB.fr0 f5).fr0 f6).fr0 f7
        have hLp7 := f7.at0 hLp
        have npb : Lp ≠ b0 := (hB.fr0 f5).ne nLp
        have nrb : Lr ≠ b0 := ((hB.fr0 f5).fr0 f6).ne nLr
        have F57 := f6.tr f7
        have rb0 : ρ1 b0 = none := by obtain ⟨o, e⟩ := hB.has; exact ex1 _ (some_ne e)
        have hN7 := (hN.fr0 f6).fr0 f7
        have nLr5 : H5 Lr = none := f6.free nLr
        clear f6 f7
        tm_at "goo"
        have hLp8 := fr.at1n npb hLp7
        have hLr8 := fr.at1n nrb hLr
        have f8 : Fr [b0] H7 H1 := fr
        clear fr
        refine lcR (fun _ => true) (fun H _ y => ∃ t, Den K H y t ∧ EntOk m t) (Cg.box hB) stab_den (by omega) (fun i H hi hS f => tyes_ok hS hS.nt) (fun i H2 hi _ hS f R kk => ?_) (fun Le H9 ev nLe hLe m9 hB9 f9 => ?_)
        · have hLp2 := f.at1n npb hLp8
          have hLr2 := f.at1n nrb hLr8
          tm_at "goo"
          exact entry_step (n := m) hS (pool_ix hLp2 npb (by omega)) ⟨.of hLr2, nrb, by omega, ier⟩ fun v H4 t hd he hB fr => kk _ _ hB fr ⟨_, hd, he⟩
        rw [keptN_all] at m9
        have lev := m9.all.1
        obtain ⟨es, des, oes⟩ := dens_ex (p := fun t => EntOk m t) fun y hy => (let ⟨_, _, q⟩ := m9.mem hy; q)
        have nLe5 : H5 Le = none := F57.free (f8.freeb hB.has.choose_spec nLe)
        have ex2 : Ext H5 ρ1 (hide ρ1 [Lp, Lr, Le]) := hide_ext fun x mx => by
          simp only [List.mem_cons, List.not_mem_nil, or_false] at mx
          rcases mx with rfl | rfl | rfl <;> assumption
        have rb2 : hide ρ1 [Lp, Lr, Le] b0 = none := by
          unfold hide
          split
          · rfl
          · exact rb0
        have F79 : Fr [b0] H7 H9 := f8.trans f9
        have FH9 : Fr [] H H9 := ((F.tr f5).tr F57).compN F79 nb
        have exH : Ext H (fun _ => none) (hide ρ1 [Lp, Lr, Le]) := fun x n => by
          have n1 := alive F (fun _ m => nomatch m) x n
          rw [ex2 x (alive f5 (fun _ m => nomatch m) x n1), ex1 x n1]
        have L0 : LP K (hide ρ1 [Lp, Lr, Le]) N Lp Lr Le a (ns.map V.int) m xs er ev es H9 :=
          ⟨((hN.ext ex2).fr0 F57).fr1 F79 rb2, f9.at1n npb hLp8, hide_at (by simp), f9.at1n nrb hLr8, hide_at (by simp), hLe, hide_at (by simp), des, (Scr.of hs).move (i := 7) (M := []) (fun _ m => nomatch m) exH FH9⟩
        have nLpe : Lp ≠ Le := ne_of_none2 nLe hLp8
        have nLre : Lr ≠ Le := ne_of_none2 nLe hLr8
        have nae := (Scr.of (K := K) hs).ne (F.free (f5.free nLe5))
        clear ex1 ex2 exH FH9 F79 F57 f8 f9 f5 F hN hN7 hLp hLp7 hLp8 hLr hLr8 hLe des m9 m6 m7 hB7 hB nLp nLr nLe nLr5 nLe5 rb0
        generalize hide ρ1 [Lp, Lr, Le] = ρ2 at *
        tm_at "goo"
        refine cut_step (W3Mid K ρ2 a b0 m u t N Lp Lr Le (ns.map V.int) xs er) ?_ fun σ' H' hP => ?_
        · have hLe := L0.he
          have lev2 : ev.length < 10000 := by rw [lev]; omega
          tm_at "goo"
          · have L1 := L0.of0 (Fr.new (o := .tup [.str (Str.ofString "ref"), .int m]) np)
            have hp1 := fr.at1n (ne_of_none2 np hLe).symm (upd_same (H := H9) (a := p) (o := .tup [.str (Str.ofString "ref"), .int m]))
            have L2 : LP K ρ2 N Lp Lr Le a (ns.map V.int) m xs er (ev ++ [.ref p]) (es ++ [.tup [.str (Str.ofString "ref"), .int m]]) H1 :=
              ⟨L1.nd.fr1 fr L1.re, fr.at1n nLpe L1.hp, L1.rp, fr.at1n nLre L1.hr, L1.rr, hp, L1.re, (L1.de.fr fr).snoc (Den.tups hp1 (.cons (.str _) (.cons (.int _) .nil))), L1.sc.fr1 fr nae⟩
            exact W3Mid.of rfl L2 (fun t' mt => by
              rcases List.mem_append.mp mt with mt | mt
              · exact (oes t' mt).mono (by omega)
              · rw [List.mem_singleton.mp mt]
                exact .inl (entI_r ⟨by omega, by omega⟩)) (by have := L0.de.1; simp; omega)
          · exact W3Mid.of rfl L0 (fun t mt => (oes t mt).mono (by omega)) (by have := L0.de.1; omega)
        · unfold W3Mid at hP
          clear nae L0 oes
          obtain ⟨ev, es, rfl, L, oes, les⟩ := hP
          tm_at "goo"
          refine mk_step fun x0 dx0 H4 nx0 hx0 f4 => ?_
          refine init_step hx0 fun D0 H5 nD0 hD0 hB0 f5 => ?_
          refine ⟨rfl, ?_⟩
          refine mk_step fun x1 dx1 H6 nx1 hx1 f6 => ?_
          refine init_step hx1 fun D1 H7 nD1 hD1 hB1 f7 => ?_
          refine ⟨rfl, ?_⟩
          refine mk_step fun x2 dx2 H8 nx2 hx2 f8 => ?_
          refine hinit_step hx2 fun D2 R H9 nD2 hD2 hB2 f9 => ?_
          refine ⟨rfl, ?_⟩
          have F35 := f4.compN f5 nx0
          have F57 := f6.compN f7 nx1
          have F79 := f8.compN f9 nx2
          have mD0 := f4.free nD0
          have mD1 := f6.free nD1
          have mD2 := f8.free nD2
          clear f4 f5 f6 f7 f8 f9
          tm_at "goo"
          rename_i Lb nLb Ts nTs
          have gt : H9 p = none := by tm_at "free"
          have gs : H9 Ts = none := by tm_at "free"
          have L9 := ((L.of0 F35).of0 F57).of0 F79
          have n1 := ne_of_none2 gt L9.hp
          have n2 := ne_of_none2 gt L9.hr
          have n3 := ne_of_none2 gt L9.he
          have n4 := L9.sc.ne gt
          have hb1 : upd (upd H9 Lb (.lst [.ref x0, .ref x1, .ref x2])) Ts (.tup [.int 1, .int 1, .int 2]) Lb = some (.lst [.ref x0, .ref x1, .ref x2]) := (Fr.new nTs).at0 upd_same
          have n5 := ne_of_none2 np hb1
          have hb2 := (Fr.new (o := .lst []) np).at0 hb1
          have ht2 := (Fr.new (o := .lst []) np).at0 (upd_same (H := upd H9 Lb (.lst [.ref x0, .ref x1, .ref x2])) (a := Ts) (o := .tup [.int 1, .int 1, .int 2]))
          have f9 := (Fr.new (o := .lst [.ref x0, .ref x1, .ref x2]) nLb).tr ((Fr.new (o := .tup [.int 1, .int 1, .int 2]) nTs).tr (Fr.new (o := .lst []) np))
          obtain ⟨ρ3, W0⟩ := W4.start (ρ := ρ2) (R := R) (CT := CT) L nx0 mD0 hB0 hD0 F35 nx1 mD1 hB1 hD1 F57 nx2 mD2 hB2 hD2 F79 f9 nLb gt hb2 upd_same ht2
          clear L L9 f9 hb1 hb2 ht2 nx0 mD0 hB0 hD0 F35 nx1 mD1 hB1 hD1 F57 nx2 mD2 hB2 hD2 F79 gt gs nD0 nD1 nD2 hx0 hx1 hx2
          refine forR (W4Mid K CT CS CH (pick3 x0 x1 x2) (pick3 D0 D1 D2) R N Lp Lr Le Lb Ts p a (ns.map V.int) m xs er ev es (fun x y z => [some (.ref a), some (.ref b0), some (.int m), some (.int u), some (.int t), some (.ref N), some (.ref Lp), none, some (.ref Lr), some (.ref Le), some (.ref Lb), some (.ref Ts), some (.ref p), x, y, z, none, none])) (W4Mid.of (x := none) (y := none) (z := none) rfl W0) (fun i σ' H' hi hP => ?_) (fun σ' H' hP => ?_)
          · clear W0 nLb nTs np
            unfold W4Mid at hP
            obtain ⟨x, y, z, ρ, Ta, rfl, W⟩ := hP
            have hi : i < 3 := hi
            rw [show (0 : Int) + (i : Int) = i from Int.zero_add _]
            have hs3 := W.lp.sc.sq
            tm_at "goo"
            refine box_step hs3 (by omega) fun b H2 nb hB2 f2 => ?_
            have hLb2 := f2.at0 W.lb
            have hTs2 := f2.tup W.ts
            have lb := l3_len (f := pick3 x0 x1 x2) hi
            tm_at "goo"
            obtain rfl := l3_at hi hv
            refine order_step hB2 (by omega) fun Lo H3 os nLo hLo po hB3 f3 => ?_
            have f03 := f2.compN f3 nb
            have hTs3 := f03.tup W.ts
            have li := tp3 hi
            clear hv
            tm_at "goo"
            obtain rfl := tp3_at hi hv
            have nLo' := f2.free nLo
            have eh : Ext H' ρ (hide ρ [b, Lo]) := hide_ext fun x mx => by
              simp only [List.mem_cons, List.not_mem_nil, or_false] at mx
              rcases mx with rfl | rfl <;> assumption
            refine built3_step (i := i) (ρ := hide ρ [b, Lo]) hB3 (hide_at (by simp)) (((W.new i hi (Nat.le_refl _)).ext eh).frM f03 .nil) ((W.lp.nd.ext eh).fr0 f03) (by omega) hLo (hide_at (by simp)) (hB2.ne nLo) (by rw [lx]; exact po) (by omega) fun T1 H4 ρ4 tb ys nT1 hS fo => ?_
            obtain ⟨M, ow, eM, fM⟩ := W4.turn nb nLo' f03 fo
            have hT1 := hS.ta
            have hLt4 := (stays ow eM fM W.lt W.rt).1
            have lt4 : ((List.range i).map fun j => V.ref (Ta j)).length < 10000 := by simp; omega
            have ltb : 0 < tb.length := by rw [hS.len]; omega
            clear hLb2 hTs2 hTs3 nLo nLo' eh hB2 hB3 f2 f3 f03 hm hv hLo
            tm_at "goo"
            · exact W4Mid.of rfl (W.side hi ow eM fM fr n1 n2 n3 n4 n5 hp ⟨R, ys, tb, hS⟩)
            · exact absurd c (Nat.ne_of_gt ltb)
          · clear W0 nLb nTs np n1 n2 n3 n4 n5
            unfold W4Mid at hP
            obtain ⟨x, y, z, ρ, Ta, rfl, W⟩ := hP
            have W1 := W.five
            clear W
            tm_at "goo"
            refine ⟨_, _, rfl, ?_⟩
            tm_at "goo"
            dsimp only
            obtain ⟨g, hg, g6, gm⟩ := singles m t
            rw [hg]
            refine all_step W1.lb W1.lt W1.tr W1.lp.nd W1.lp.he W1.lp.de oes (by omega) g6 (by omega) fun H3 f3 => ?_
            have W2 := W1.of0 f3
            clear W1 f3
            tm_at "goo"
            refine forR (W5Mid K CT CS CH (pick3 x0 x1 x2) (pick3 D0 D1 D2) Ta N Lp Lr Le Lb p a (ns.map V.int) m xs.length er ev es (fun w => [some (.ref a), some (.ref b0), some (.int m), some (.int u), some (.int t), some (.ref N), some (.ref Lp), none, some (.ref Lr), some (.ref Le), some (.ref Lb), some (.ref Ts), some (.ref p), x, y, z, some (.int g), w])) (W5Mid.of (x := none) rfl rfl W2) (fun i σ' H' hi hP => ?_) (fun σ' H' hP => ?_)
            · unfold W5Mid at hP
              clear W2
              obtain ⟨v, ρ, xs', rfl, lxx, W⟩ := hP
              rw [show (0 : Int) + (i : Int) = i from Int.zero_add _]
              have hs3 := W.lp.sc.sq
              tm_at "goo"
              refine box_step hs3 (by omega) fun b H2 nb hB2 f2 => ?_
              tm_at "goo"
              have eh : Ext H' ρ (hide ρ [b]) := hide_ext fun x mx => by
                rw [List.mem_singleton.mp mx]
                exact nb
              have We := W.ext eh
              have W2 := We.of0 f2
              refine set3_step (ρ := hide ρ [b]) hB2 (hide_at (by simp)) W2.lb W2.rb (ne_of_none2 nb W.lb) W2.lt W2.rt (ne_of_none2 nb W.lt) W2.tr W2.lp.nd W2.lp.hp (ne_of_none2 nb W.lp.hp) m30 (by omega) W2.lp.hr (ne_of_none2 nb W.lp.hr) ler ier fun H4 xs2 M hT hN lx2 F aw => ?_
              have W4 := We.turn nb f2 F aw hT hN
              clear W2 We hT hN F aw eh hB2 f2 nb W hs3
              tm_at "goo"
              refine all_step W4.lb W4.lt W4.tr W4.lp.nd W4.lp.he W4.lp.de (by rw [lx2, lxx]; exact oes) (by omega) g6 (by omega) fun H5 f5 => ?_
              have W6 := W4.of0 f5
              clear W4 f5
              tm_at "goo"
              exact W5Mid.of rfl (lx2.trans lxx) W6
            · unfold W5Mid at hP
              obtain ⟨v, ρ, xs', rfl, _, _⟩ := hP
              tm_at "goo"
              exact q _
end
end M14
set_option Elab.async false
set_option linter.all false
set_option maxRecDepth 100000
set_option maxHeartbeats 0
namespace M14
open PySem PySem.Spec PyProof.Rows L2
/-! ### the head's own facts -/
abbrev FnS : Type := Option (Str × Str × Arguments × FuncBody × Scope × Addr × List Str × Addr)
def fnS (K : PySem.W.Frag) (p : Str × Option Str) : FnS := match K.lookup (He.fAd K p) with
  | some ⟨_, _, .func fd, _⟩ => some (fd.name, fd.qualname, fd.params, fd.body, fd.scope, fd.globals, fd.closure.map (·.1), fd.builtins)
  | _ => none
/-- a method that closes over its class -/
structure DefS where
  at_ : Str × Option Str
  name : Str
  qual : Str
  st : Stmt
def DefS.val (d : DefS) : FnS := some (d.name, d.qual, defArgs d.st, FuncBody.stmts (defBody d.st), defScope d.st, mainGlobals, ["__class__"], builtinsNs)
def isNon : Value → Bool
  | .none => true
  | _ => false
def fileB (K : PySem.W.Frag) (file0 : Str) (cd : Value) : Bool := match cd with
  | .ref cda => (match K.lookup cda with
    | some ⟨_, _, .fields vs, _⟩ => (match vs[2]? with
      | some (Value.str file _) => file0 == file
      | _ => false)
    | _ => false)
  | _ => false
def cellB (K : PySem.W.Frag) (D : Addr) (cl : List (Str × Addr)) : Bool := match cl with
  | [(_, cc)] => (match K.lookup cc with
    | some ⟨_, _, .cell (some (.ref E)), _⟩ => decide (E = D)
    | _ => false)
  | _ => false
def DefS.ok (K : PySem.W.Frag) (D : Addr) (file0 : Str) (d : DefS) : Bool := PySem.W.keepIn K (.ref (He.fAd K d.at_)) && (match K.lookup (He.fAd K d.at_) with
  | some ⟨_, _, .func fd, _⟩ => isNon fd.defaults && (PySem.W.codeIn K fd.code d.qual && (fileB K file0 fd.code && cellB K D fd.closure))
  | _ => false)
theorem DefS.sup {P : Program} {K : PySem.W.Frag} {D : Addr} {d : DefS} {ar : Arg} (e : fnS K d.at_ = d.val) (c : d.ok K D P.main.file = true) (ha : ((defArgs d.st).posonlyargs ++ (defArgs d.st).args).head? = some ar) (hs : ar.arg = "self") :
    ∃ fd, SupF P K d.name d.qual d.st D (He.fAd K d.at_) fd := by
  obtain ⟨kp, c2⟩ := He.ba c
  unfold fnS at e
  cases q : K.lookup (He.fAd K d.at_) with
  | none => rw [q] at c2; cases c2
  | some o =>
    obtain ⟨oc, od, dt, osl⟩ := o
    rw [q] at c2 e
    cases dt with
    | func fd =>
      obtain ⟨n1, n2, n3, n4, n5, n6, n7, n8, n9, n10, n11, n12, n13, n14, n15⟩ := fd
      have e2 : (some (n1, n2, n3, n4, n5, n6, n7.map (·.1), n15) : FnS) = some (d.name, d.qual, defArgs d.st, FuncBody.stmts (defBody d.st), defScope d.st, mainGlobals, ([("__class__" : Str)] : List Str), builtinsNs) := e
      simp only [Option.some.injEq, Prod.mk.injEq] at e2
      obtain ⟨h1, h2, h3, h4, h5, h6, h7, h8⟩ := e2
      have c3 : (isNon n8 && (PySem.W.codeIn K n13 d.qual && (fileB K P.main.file n13 && cellB K D n7))) = true := c2
      obtain ⟨k1, k2⟩ := He.ba c3
      obtain ⟨k3, k4⟩ := He.ba k2
      obtain ⟨k5, k6⟩ := He.ba k4
      cases n8 with
      | none =>
        cases n13 with
        | ref cda =>
          unfold fileB at k5
          cases q2 : K.lookup cda with
          | none => simp only [q2] at k5; cases k5
          | some o2 =>
            obtain ⟨ocl, odl, dt2, ksl⟩ := o2
            simp only [q2] at k5
            cases dt2 with
            | fields vs =>
              cases q3 : vs[2]? with
              | none => simp only [q3] at k5; cases k5
              | some u =>
                simp only [q3] at k5
                cases u with
                | str file tf =>
                  match n7, h7, k6 with
                  | [(y, cc)], h7, k6 =>
                    have ey : y = ("__class__" : Str) := by simpa using h7
                    unfold cellB at k6
                    cases q4 : K.lookup cc with
                    | none => simp only [q4] at k6; cases k6
                    | some o4 =>
                      obtain ⟨cls, cld, dt4, csl⟩ := o4
                      simp only [q4] at k6
                      cases dt4 with
                      | cell v =>
                        cases v with
                        | none => cases k6
                        | some v =>
                          cases v with
                          | ref E =>
                            have eE : E = D := of_decide_eq_true k6
                            subst eE ey h1 h2 h3 h4 h5 h6 h8
                            exact ⟨_, ⟨oc, od, n9, n10, n11, n12, cda, n14, osl, cc, ocl, odl, cls, cld, csl, ksl, vs, file, tf, ar, rfl, q, k3, q2, q3, k5, q4, ha, hs⟩, kp⟩
                          | _ => cases k6
                      | _ => cases k6
                  | [], _, k6 => cases k6
                  | _ :: _ :: _, _, k6 => cases k6
                | _ => cases k5
            | _ => cases k5
        | _ => cases k3
      | _ => cases k1
    | _ => cases c2
/-- what super finds -/
def supB (K : PySem.W.Frag) (C D : Addr) (m : Str) (f2 : Addr) : Bool := decide (PySem.W.ks_superIn K C D m = some (some (.ref f2))) && (decide (PySem.W.typeIn K (.ref f2) = some (.type "function")) && (PySem.W.fnIn K f2 && (decide (PySem.W.mroIn K C (.ref D) = some true) &&
  ((PySem.W.clsIn K C).isSome && ((PySem.W.clsIn K D).isSome && decide (PySem.W.nsIn K PySem.cStatics "thirdparty.any" = some none))))))
theorem supB_ok {P : Program} {K : PySem.W.Frag} {mg : Str → Option Value} {C D f2 : Addr} {m : Str} (h : supB K C D m f2 = true) (sg : mg "super" = none) (top : (P.main.scope.names.lookup ("super" : Str)).isSome = false) (nm : (m == ("__class__" : Str)) = false) : SupM P K mg C D m f2 := by
  obtain ⟨h1, h⟩ := He.ba h
  obtain ⟨h2, h⟩ := He.ba h
  obtain ⟨h3, h⟩ := He.ba h
  obtain ⟨h4, h⟩ := He.ba h
  obtain ⟨h5, h⟩ := He.ba h
  obtain ⟨h6, h7⟩ := He.ba h
  exact ⟨of_decide_eq_true h1, of_decide_eq_true h2, h3, of_decide_eq_true h4, Option.isSome_iff_exists.mp h5, Option.isSome_iff_exists.mp h6, of_decide_eq_true h7, sg, top, nm⟩
/-! ### the hook -/
def asX (g : Addr → Option Obj) : Nat → List Addr
  | 0 => [mainGlobals, PySem.cStatics]
  | n + 1 => He.growD g (asX g n)
abbrev AlX : Type := Bool × List He.FnW × List FnS
section
variable (fa : List He.Fa) (fn : List He.DefD) (fs : List DefS) (ow : PySem.W.Frag → Bool) (file0 : Str) (C0 : Str)
def obsX (K : PySem.W.Frag) : AlX := (((fa.all fun f => f.ok K) && fn.all fun d => d.ok K) && ((fs.all fun d => d.ok K (He.ga K C0) file0) && ow K), fn.map fun d => He.fnW K d.at_, fs.map fun d => fnS K d.at_)
def valX : AlX := (true, fn.map He.DefD.val, fs.map DefS.val)
def SaysX (K : PySem.W.Frag) : Prop := obsX fa fn fs ow file0 C0 K = valX fn fs
def obsXG (n : Nat) (g : Addr → Option Obj) : AlX := obsX fa fn fs ow file0 C0 (He.frG g (asX g n))
def hookX (n : Nat) : PySem.W.Hook where
  α := AlX
  obs := fun s => obsXG fa fn fs ow file0 C0 n s.heap.get?
  val := fun _ => valX fn fs
  says := fun _ h => ∃ K : PySem.W.Frag, K.In h ∧ SaysX fa fn fs ow file0 C0 K
  of := fun _ _ e => ⟨_, He.frG_in, e⟩
  keeps := fun _ _ _ ⟨K, hK, c⟩ k => ⟨K, PySem.W.Frag.In.keeps hK k, c⟩
theorem obsXG_eq {n : Nat} {g : Addr → Option Obj} {s : Shared} (h : ∀ a, g a = s.heap.get? a) : obsXG fa fn fs ow file0 C0 n g = (hookX fa fn fs ow file0 C0 n).obs s := by
  have e : g = s.heap.get? := funext h
  rw [e] <;> rfl
end
section
variable {fa : List He.Fa} {fn : List He.DefD} {fs : List DefS} {ow : PySem.W.Frag → Bool} {file0 C0 : Str} {K : PySem.W.Frag}
theorem SaysX.all (c : SaysX fa fn fs ow file0 C0 K) : ((fa.all fun f => f.ok K) && fn.all fun d => d.ok K) = true ∧ ((fs.all fun d => d.ok K (He.ga K C0) file0) && ow K) = true := He.ba (congrArg (fun z : AlX => z.1) c)
theorem SaysX.fact (c : SaysX fa fn fs ow file0 C0 K) (i : Nat) {f : He.Fa} (h : fa[i]? = some f := by rfl) : f.ok K = true := List.all_eq_true.mp (He.ba c.all.1).1 f (List.mem_of_getElem? h)
theorem SaysX.own (c : SaysX fa fn fs ow file0 C0 K) : ow K = true := (He.ba c.all.2).2
theorem SaysX.def_ (c : SaysX fa fn fs ow file0 C0 K) (i : Nat) {d : He.DefD} (h : fn[i]? = some d := by rfl) : ∃ fd, FunD K d.name d.qual d.params d.body d.scope (d.dvs K) (d.kws K) (He.fAd K d.at_) fd := by
  have e : fn.map (fun d => He.fnW K d.at_) = fn.map He.DefD.val := congrArg (fun z : AlX => z.2.1) c
  have e2 : (fn.map fun d => He.fnW K d.at_)[i]? = (fn.map He.DefD.val)[i]? := by rw [e]
  rw [List.getElem?_map, List.getElem?_map, h] at e2
  exact He.DefD.funD (Option.some.inj e2) (List.all_eq_true.mp (He.ba c.all.1).2 d (List.mem_of_getElem? h))
theorem SaysX.sup (c : SaysX fa fn fs ow file0 C0 K) {P : Program} (ef : file0 = P.main.file) (i : Nat) {d : DefS} {ar : Arg} (h : fs[i]? = some d) (ha : ((defArgs d.st).posonlyargs ++ (defArgs d.st).args).head? = some ar) (hs : ar.arg = "self") : ∃ fd, SupF P K d.name d.qual d.st (He.ga K C0) (He.fAd K d.at_) fd := by
  have e : fs.map (fun d => fnS K d.at_) = fs.map DefS.val := congrArg (fun z : AlX => z.2.2) c
  have e2 : (fs.map fun d => fnS K d.at_)[i]? = (fs.map DefS.val)[i]? := by rw [e]
  rw [List.getElem?_map, List.getElem?_map, h] at e2
  have q := List.all_eq_true.mp (He.ba c.all.2).1 d (List.mem_of_getElem? h)
  rw [ef] at q
  exact DefS.sup (Option.some.inj e2) q ha hs
end

/-! ### what is asked of this row -/
abbrev R : PySem.W.OpenRow := PySem.W.OpenLaw.row PySem.Challenge.rw_likerun_k15_reach_and_graph
def fa : List He.Fa := [.glo "_law_cell", .glo "_law_box", .glo "_law_take", .glo "_law_same", .glo "_law_word", .glo "_law_name", .glo "_law_plain", .glo "_law_pending", .glo "_law_marked", .glo "_law_entry", .glo "_law_kinds", .glo "_law_kind", .glo "_law_marks", .glo "_law_tag", .glo "_law_form", .glo "_law_free", .glo "_law_target", .glo "_law_moved", .glo "_law_sent", .glo "_law_walk", .glo "_law_graph", .glo "_law_nodes", .glo "_law_bare", .glo "_law_order", .glo "_law_built", .glo "_law_asked", .glo "_law_all", .glo "_law_set", .glo "law", .glo "_young_ones", .glo "address_of", .glo "moved", .glo "_moved_inner", .glo "note_addresses", .free "len", .free "int", .free "sum", .free "range", .free "list", .free "tuple", .free "str", .free "isinstance", .free "bool", .free "sorted", .free "enumerate", .free "min", .free "max", .free "super", .glo "Store", .cls "Store", .mkr "Store", .glo "Heap", .cls "Heap", .mkr "Heap", .glo "Thing", .cls "Thing", .mkr "Thing", .noat "Store" "_things", .noat "Store" "grown", .noat "Heap" "_things", .noat "Heap" "grown", .noat "Heap" "_young", .noat "Heap" "_old", .noat "Heap" "_remembered", .noat "Thing" "kind", .noat "Thing" "tag", .noat "Thing" "slots", .noat "Thing" "age", .meth "Store" "make", .meth "Store" "_keep", .meth "Store" "set_slot", .meth "Store" "change", .meth "Store" "reach", .meth "Store" "graph", .meth "Store" "__init__", .meth "Heap" "_keep", .meth "Heap" "reach", .meth "Heap" "graph", .meth "Heap" "make", .meth "Heap" "_remember", .meth "Thing" "__init__", .meth "Heap" "set_slot", .meth "Heap" "change"]
def fn : List He.DefD := [⟨("_law_cell", none), "_law_cell", "_law_cell", defArgs s_cell, defBody s_cell, defScope s_cell, [], []⟩,
  ⟨("_law_box", none), "_law_box", "_law_box", defArgs s_box, defBody s_box, defScope s_box, [], []⟩,
  ⟨("_law_take", none), "_law_take", "_law_take", defArgs s_take, defBody s_take, defScope s_take, [], []⟩,
  ⟨("_law_same", none), "_law_same", "_law_same", defArgs s_same, defBody s_same, defScope s_same, [], []⟩,
  ⟨("_law_word", none), "_law_word", "_law_word", defArgs s_word, defBody s_word, defScope s_word, [], []⟩,
  ⟨("_law_name", none), "_law_name", "_law_name", defArgs s_name, defBody s_name, defScope s_name, [], []⟩,
  ⟨("_law_plain", none), "_law_plain", "_law_plain", defArgs s_plain, defBody s_plain, defScope s_plain, [], []⟩,
  ⟨("_law_pending", none), "_law_pending", "_law_pending", defArgs s_pending, defBody s_pending, defScope s_pending, [], []⟩,
  ⟨("_law_marked", none), "_law_marked", "_law_marked", defArgs s_marked, defBody s_marked, defScope s_marked, [], []⟩,
  ⟨("_law_entry", none), "_law_entry", "_law_entry", defArgs s_entry, defBody s_entry, defScope s_entry, [], []⟩,
  ⟨("_law_kinds", none), "_law_kinds", "_law_kinds", defArgs s_kinds, defBody s_kinds, defScope s_kinds, [], []⟩,
  ⟨("_law_kind", none), "_law_kind", "_law_kind", defArgs s_kind, defBody s_kind, defScope s_kind, [], []⟩,
  ⟨("_law_marks", none), "_law_marks", "_law_marks", defArgs s_marks, defBody s_marks, defScope s_marks, [], []⟩,
  ⟨("_law_tag", none), "_law_tag", "_law_tag", defArgs s_tag, defBody s_tag, defScope s_tag, [], []⟩,
  ⟨("_law_form", none), "_law_form", "_law_form", defArgs s_form, defBody s_form, defScope s_form, [], []⟩,
  ⟨("_law_free", none), "_law_free", "_law_free", defArgs s_free, defBody s_free, defScope s_free, [], []⟩,
  ⟨("_law_target", none), "_law_target", "_law_target", defArgs s_target, defBody s_target, defScope s_target, [], []⟩,
  ⟨("_law_moved", none), "_law_moved", "_law_moved", defArgs s_moved, defBody s_moved, defScope s_moved, [], []⟩,
  ⟨("_law_sent", none), "_law_sent", "_law_sent", defArgs s_sent, defBody s_sent, defScope s_sent, [], []⟩,
  ⟨("_law_walk", none), "_law_walk", "_law_walk", defArgs s_walk, defBody s_walk, defScope s_walk, [], []⟩,
  ⟨("_law_graph", none), "_law_graph", "_law_graph", defArgs s_graph, defBody s_graph, defScope s_graph, [], []⟩,
  ⟨("_law_nodes", none), "_law_nodes", "_law_nodes", defArgs s_nodes, defBody s_nodes, defScope s_nodes, [], []⟩,
  ⟨("_law_bare", none), "_law_bare", "_law_bare", defArgs s_bare, defBody s_bare, defScope s_bare, [], []⟩,
  ⟨("_law_order", none), "_law_order", "_law_order", defArgs s_order, defBody s_order, defScope s_order, [], []⟩,
  ⟨("_law_built", none), "_law_built", "_law_built", defArgs s_built, defBody s_built, defScope s_built, [], []⟩,
  ⟨("_law_asked", none), "_law_asked", "_law_asked", defArgs s_asked, defBody s_asked, defScope s_asked, [], []⟩,
  ⟨("_law_all", none), "_law_all", "_law_all", defArgs s_all, defBody s_all, defScope s_all, [], []⟩,
  ⟨("_law_set", none), "_law_set", "_law_set", defArgs s_set, defBody s_set, defScope s_set, [], []⟩,
  ⟨("law", none), "law", "law", defArgs s_law, defBody s_law, defScope s_law, [], []⟩,
  ⟨("_young_ones", none), "_young_ones", "_young_ones", defArgs s_young_ones, defBody s_young_ones, defScope s_young_ones, [], []⟩,
  ⟨("address_of", none), "address_of", "address_of", defArgs s_p_address_of, defBody s_p_address_of, defScope s_p_address_of, [], []⟩,
  ⟨("moved", none), "moved", "moved", defArgs s_p_moved, defBody s_p_moved, defScope s_p_moved, [], []⟩,
  ⟨("_moved_inner", none), "_moved_inner", "_moved_inner", defArgs s_p_moved_inner, defBody s_p_moved_inner, defScope s_p_moved_inner, [], []⟩,
  ⟨("note_addresses", none), "note_addresses", "note_addresses", defArgs s_p_note_addresses, defBody s_p_note_addresses, defScope s_p_note_addresses, [], []⟩,
  ⟨("Store", some "make"), "make", "Store.make", defArgs s_Store_make, defBody s_Store_make, defScope s_Store_make, [], []⟩,
  ⟨("Store", some "_keep"), "_keep", "Store._keep", defArgs s_Store_keep, defBody s_Store_keep, defScope s_Store_keep, [], []⟩,
  ⟨("Store", some "set_slot"), "set_slot", "Store.set_slot", defArgs s_Store_set_slot, defBody s_Store_set_slot, defScope s_Store_set_slot, [], []⟩,
  ⟨("Store", some "change"), "change", "Store.change", defArgs s_Store_change, defBody s_Store_change, defScope s_Store_change, [], []⟩,
  ⟨("Store", some "reach"), "reach", "Store.reach", defArgs s_Store_reach, defBody s_Store_reach, defScope s_Store_reach, [], []⟩,
  ⟨("Store", some "graph"), "graph", "Store.graph", defArgs s_Store_graph, defBody s_Store_graph, defScope s_Store_graph, [], []⟩,
  ⟨("Store", some "__init__"), "__init__", "Store.__init__", defArgs s_Store_init, defBody s_Store_init, defScope s_Store_init, [], []⟩,
  ⟨("Heap", some "_keep"), "_keep", "Store._keep", defArgs s_Store_keep, defBody s_Store_keep, defScope s_Store_keep, [], []⟩,
  ⟨("Heap", some "reach"), "reach", "Store.reach", defArgs s_Store_reach, defBody s_Store_reach, defScope s_Store_reach, [], []⟩,
  ⟨("Heap", some "graph"), "graph", "Store.graph", defArgs s_Store_graph, defBody s_Store_graph, defScope s_Store_graph, [], []⟩,
  ⟨("Heap", some "make"), "make", "Heap.make", defArgs s_Heap_make, defBody s_Heap_make, defScope s_Heap_make, [], []⟩,
  ⟨("Heap", some "_remember"), "_remember", "Heap._remember", defArgs s_Heap_remember, defBody s_Heap_remember, defScope s_Heap_remember, [], []⟩,
  ⟨("Thing", some "__init__"), "__init__", "Thing.__init__", defArgs s_Thing_init, defBody s_Thing_init, defScope s_Thing_init, [], []⟩]
def fs : List DefS := [⟨("Heap", some "set_slot"), "set_slot", "Heap.set_slot", s_HSet⟩, ⟨("Heap", some "change"), "change", "Heap.change", s_HChg⟩, ⟨("Heap", some "__init__"), "__init__", "Heap.__init__", s_HInit⟩]
def own (K : PySem.W.Frag) : Bool := supB K (He.ga K "Heap") (He.ga K "Heap") "set_slot" (He.fAd K ("Store", some "set_slot")) && supB K (He.ga K "Heap") (He.ga K "Heap") "change" (He.fAd K ("Store", some "change")) && supB K (He.ga K "Heap") (He.ga K "Heap") "__init__" (He.fAd K ("Store", some "__init__"))
def file0 : Str := PySem.Challenge.pw_likerun_k15_reach_and_graph.main.file
abbrev hk : PySem.W.Hook := hookX fa fn fs own file0 "Heap" 6
def ob (s : PySem.W.SharedT) : AlX := obsXG fa fn fs own file0 "Heap" 6 (HandSHeadRun.getT s)
theorem ob_eq (s : PySem.W.SharedT) : ob s = hk.obs s.abs := obsXG_eq _ _ _ _ _ _ (HandSHeadRun.getT_eq s)
abbrev loose : List Str := ([("_wall" : Str), ("address_of" : Str), ("moved" : Str), ("_moved_inner" : Str), ("Thing" : Str), ("note_addresses" : Str), ("Store" : Str), ("_is_young" : Str), ("_young_ones" : Str), ("Heap" : Str)] : List Str) ++ ([("_law_cell" : Str), ("_law_box" : Str), ("_law_take" : Str), ("_law_same" : Str), ("_law_word" : Str), ("_law_name" : Str), ("_law_plain" : Str), ("_law_pending" : Str), ("_law_marked" : Str), ("_law_entry" : Str)] : List Str) ++ ([("_law_kinds" : Str), ("_law_kind" : Str), ("_law_marks" : Str), ("_law_tag" : Str), ("_law_form" : Str), ("_law_free" : Str), ("_law_target" : Str), ("_law_moved" : Str), ("_law_sent" : Str), ("_law_walk" : Str)] : List Str) ++ ([("_law_graph" : Str), ("_law_nodes" : Str), ("_law_bare" : Str), ("_law_order" : Str), ("_law_built" : Str), ("_law_asked" : Str), ("_law_all" : Str), ("_law_set" : Str)] : List Str)
theorem run (w : World) : HandSHeadRun.RunEq R (PySem.W.view R.prog [42]) hk ob 20000 loose w := by
  intro os
  kernel_rfl
abbrev Says (K : PySem.W.Frag) : Prop := SaysX fa fn fs own file0 "Heap" K
theorem facts {P : Program} {w : World} {K : PySem.W.Frag} {h : Heap} {mg : Str → Option Value} {f : Addr} (eP : P = PySem.Challenge.pw_likerun_k15_reach_and_graph) (X : K.In h) (G : h.Ns mainGlobals mg) (hfa : mg ("law" : Str) = some (.ref f)) (c : Says K) :
    ∃ fd : FuncData, (∀ (s : Shared) (v : Value), BindsTo s fd ⟨[v], []⟩ [("_law_script", v)]) ∧ ∀ base : Heap, K.In base → base.Ns mainGlobals mg → FnOk P w K mg base CX0 10 f fd ["_law_script"] (spLaw K) := by
  have D_cell : Def1 K mg "_law_cell" s_cell := let ⟨fd, F⟩ := c.def_ 0 rfl; ⟨_, fd, F, He.glo_ok X G (c.fact 0 rfl)⟩
  have D_box : Def1 K mg "_law_box" s_box := let ⟨fd, F⟩ := c.def_ 1 rfl; ⟨_, fd, F, He.glo_ok X G (c.fact 1 rfl)⟩
  have D_take : Def1 K mg "_law_take" s_take := let ⟨fd, F⟩ := c.def_ 2 rfl; ⟨_, fd, F, He.glo_ok X G (c.fact 2 rfl)⟩
  have D_same : Def1 K mg "_law_same" s_same := let ⟨fd, F⟩ := c.def_ 3 rfl; ⟨_, fd, F, He.glo_ok X G (c.fact 3 rfl)⟩
  have D_word : Def1 K mg "_law_word" s_word := let ⟨fd, F⟩ := c.def_ 4 rfl; ⟨_, fd, F, He.glo_ok X G (c.fact 4 rfl)⟩
  have D_name : Def1 K mg "_law_name" s_name := let ⟨fd, F⟩ := c.def_ 5 rfl; ⟨_, fd, F, He.glo_ok X G (c.fact 5 rfl)⟩
  have D_plain : Def1 K mg "_law_plain" s_plain := let ⟨fd, F⟩ := c.def_ 6 rfl; ⟨_, fd, F, He.glo_ok X G (c.fact 6 rfl)⟩
  have D_pending : Def1 K mg "_law_pending" s_pending := let ⟨fd, F⟩ := c.def_ 7 rfl; ⟨_, fd, F, He.glo_ok X G (c.fact 7 rfl)⟩
  have D_marked : Def1 K mg "_law_marked" s_marked := let ⟨fd, F⟩ := c.def_ 8 rfl; ⟨_, fd, F, He.glo_ok X G (c.fact 8 rfl)⟩
  have D_entry : Def1 K mg "_law_entry" s_entry := let ⟨fd, F⟩ := c.def_ 9 rfl; ⟨_, fd, F, He.glo_ok X G (c.fact 9 rfl)⟩
  have D_kinds : Def1 K mg "_law_kinds" s_kinds := let ⟨fd, F⟩ := c.def_ 10 rfl; ⟨_, fd, F, He.glo_ok X G (c.fact 10 rfl)⟩
  have D_kind : Def1 K mg "_law_kind" s_kind := let ⟨fd, F⟩ := c.def_ 11 rfl; ⟨_, fd, F, He.glo_ok X G (c.fact 11 rfl)⟩
  have D_marks : Def1 K mg "_law_marks" s_marks := let ⟨fd, F⟩ := c.def_ 12 rfl; ⟨_, fd, F, He.glo_ok X G (c.fact 12 rfl)⟩
  have D_tag : Def1 K mg "_law_tag" s_tag := let ⟨fd, F⟩ := c.def_ 13 rfl; ⟨_, fd, F, He.glo_ok X G (c.fact 13 rfl)⟩
  have D_form : Def1 K mg "_law_form" s_form := let ⟨fd, F⟩ := c.def_ 14 rfl; ⟨_, fd, F, He.glo_ok X G (c.fact 14 rfl)⟩
  have D_free : Def1 K mg "_law_free" s_free := let ⟨fd, F⟩ := c.def_ 15 rfl; ⟨_, fd, F, He.glo_ok X G (c.fact 15 rfl)⟩
  have D_target : Def1 K mg "_law_target" s_target := let ⟨fd, F⟩ := c.def_ 16 rfl; ⟨_, fd, F, He.glo_ok X G (c.fact 16 rfl)⟩
  have D_moved : Def1 K mg "_law_moved" s_moved := let ⟨fd, F⟩ := c.def_ 17 rfl; ⟨_, fd, F, He.glo_ok X G (c.fact 17 rfl)⟩
  have D_sent : Def1 K mg "_law_sent" s_sent := let ⟨fd, F⟩ := c.def_ 18 rfl; ⟨_, fd, F, He.glo_ok X G (c.fact 18 rfl)⟩
  have D_walk : Def1 K mg "_law_walk" s_walk := let ⟨fd, F⟩ := c.def_ 19 rfl; ⟨_, fd, F, He.glo_ok X G (c.fact 19 rfl)⟩
  have D_graph : Def1 K mg "_law_graph" s_graph := let ⟨fd, F⟩ := c.def_ 20 rfl; ⟨_, fd, F, He.glo_ok X G (c.fact 20 rfl)⟩
  have D_nodes : Def1 K mg "_law_nodes" s_nodes := let ⟨fd, F⟩ := c.def_ 21 rfl; ⟨_, fd, F, He.glo_ok X G (c.fact 21 rfl)⟩
  have D_bare : Def1 K mg "_law_bare" s_bare := let ⟨fd, F⟩ := c.def_ 22 rfl; ⟨_, fd, F, He.glo_ok X G (c.fact 22 rfl)⟩
  have D_order : Def1 K mg "_law_order" s_order := let ⟨fd, F⟩ := c.def_ 23 rfl; ⟨_, fd, F, He.glo_ok X G (c.fact 23 rfl)⟩
  have D_built : Def1 K mg "_law_built" s_built := let ⟨fd, F⟩ := c.def_ 24 rfl; ⟨_, fd, F, He.glo_ok X G (c.fact 24 rfl)⟩
  have D_asked : Def1 K mg "_law_asked" s_asked := let ⟨fd, F⟩ := c.def_ 25 rfl; ⟨_, fd, F, He.glo_ok X G (c.fact 25 rfl)⟩
  have D_all : Def1 K mg "_law_all" s_all := let ⟨fd, F⟩ := c.def_ 26 rfl; ⟨_, fd, F, He.glo_ok X G (c.fact 26 rfl)⟩
  have D_set : Def1 K mg "_law_set" s_set := let ⟨fd, F⟩ := c.def_ 27 rfl; ⟨_, fd, F, He.glo_ok X G (c.fact 27 rfl)⟩
  have D_young_ones : Def1 K mg "_young_ones" s_young_ones := let ⟨fd, F⟩ := c.def_ 29 rfl; ⟨_, fd, F, He.glo_ok X G (c.fact 29 rfl)⟩
  have D_p_address_of : Def1 K mg "address_of" s_p_address_of := let ⟨fd, F⟩ := c.def_ 30 rfl; ⟨_, fd, F, He.glo_ok X G (c.fact 30 rfl)⟩
  have D_p_moved : Def1 K mg "moved" s_p_moved := let ⟨fd, F⟩ := c.def_ 31 rfl; ⟨_, fd, F, He.glo_ok X G (c.fact 31 rfl)⟩
  have D_p_moved_inner : Def1 K mg "_moved_inner" s_p_moved_inner := let ⟨fd, F⟩ := c.def_ 32 rfl; ⟨_, fd, F, He.glo_ok X G (c.fact 32 rfl)⟩
  have D_p_note_addresses : Def1 K mg "note_addresses" s_p_note_addresses := let ⟨fd, F⟩ := c.def_ 33 rfl; ⟨_, fd, F, He.glo_ok X G (c.fact 33 rfl)⟩
  have T : Bl mg := ⟨He.free_ok X G (c.fact 34 rfl), He.free_ok X G (c.fact 35 rfl), He.free_ok X G (c.fact 36 rfl), He.free_ok X G (c.fact 37 rfl), He.free_ok X G (c.fact 38 rfl), He.free_ok X G (c.fact 39 rfl), He.free_ok X G (c.fact 40 rfl), He.free_ok X G (c.fact 41 rfl), He.free_ok X G (c.fact 42 rfl), He.free_ok X G (c.fact 43 rfl), He.free_ok X G (c.fact 44 rfl), He.free_ok X G (c.fact 45 rfl), He.free_ok X G (c.fact 46 rfl)⟩
  have gSup : mg "super" = none := He.free_ok X G (c.fact 47 rfl)
  have gStore : mg "Store" = some (.ref (He.ga K "Store")) := He.glo_ok X G (c.fact 48 rfl)
  have cStore : Cls K (He.ga K "Store") := He.cls_ok (c.fact 49 rfl)
  have kStore := He.mkr_ok (c.fact 50 rfl : (He.Fa.mkr "Store").ok K = true)
  have gHeap : mg "Heap" = some (.ref (He.ga K "Heap")) := He.glo_ok X G (c.fact 51 rfl)
  have cHeap : Cls K (He.ga K "Heap") := He.cls_ok (c.fact 52 rfl)
  have kHeap := He.mkr_ok (c.fact 53 rfl : (He.Fa.mkr "Heap").ok K = true)
  have gThing : mg "Thing" = some (.ref (He.ga K "Thing")) := He.glo_ok X G (c.fact 54 rfl)
  have cThing : Cls K (He.ga K "Thing") := He.cls_ok (c.fact 55 rfl)
  have kThing := He.mkr_ok (c.fact 56 rfl : (He.Fa.mkr "Thing").ok K = true)
  have cfS : ClF K (He.ga K "Store") (He.ga K "Thing") := ⟨cStore, (He.noat_ok (c.fact 57 rfl)), (He.noat_ok (c.fact 58 rfl)), cThing, (He.noat_ok (c.fact 64 rfl)), (He.noat_ok (c.fact 65 rfl)), (He.noat_ok (c.fact 66 rfl)), (He.noat_ok (c.fact 67 rfl))⟩
  have cfH : ClF K (He.ga K "Heap") (He.ga K "Thing") := ⟨cHeap, (He.noat_ok (c.fact 59 rfl)), (He.noat_ok (c.fact 60 rfl)), cThing, (He.noat_ok (c.fact 64 rfl)), (He.noat_ok (c.fact 65 rfl)), (He.noat_ok (c.fact 66 rfl)), (He.noat_ok (c.fact 67 rfl))⟩
  have hf : HpF K (He.ga K "Heap") := ⟨(He.noat_ok (c.fact 61 rfl)), (He.noat_ok (c.fact 62 rfl)), (He.noat_ok (c.fact 63 rfl))⟩
  have MS_make : Def2 K (He.ga K "Store") "make" "Store.make" s_Store_make := let ⟨fd, F⟩ := c.def_ 34 rfl; ⟨_, fd, F, He.meth_ok (c.fact 68 rfl)⟩
  have MS_keep : Def2 K (He.ga K "Store") "_keep" "Store._keep" s_Store_keep := let ⟨fd, F⟩ := c.def_ 35 rfl; ⟨_, fd, F, He.meth_ok (c.fact 69 rfl)⟩
  have MS_set_slot : Def2 K (He.ga K "Store") "set_slot" "Store.set_slot" s_Store_set_slot := let ⟨fd, F⟩ := c.def_ 36 rfl; ⟨_, fd, F, He.meth_ok (c.fact 70 rfl)⟩
  have MS_change : Def2 K (He.ga K "Store") "change" "Store.change" s_Store_change := let ⟨fd, F⟩ := c.def_ 37 rfl; ⟨_, fd, F, He.meth_ok (c.fact 71 rfl)⟩
  have MS_reach : Def2 K (He.ga K "Store") "reach" "Store.reach" s_Store_reach := let ⟨fd, F⟩ := c.def_ 38 rfl; ⟨_, fd, F, He.meth_ok (c.fact 72 rfl)⟩
  have MS_graph : Def2 K (He.ga K "Store") "graph" "Store.graph" s_Store_graph := let ⟨fd, F⟩ := c.def_ 39 rfl; ⟨_, fd, F, He.meth_ok (c.fact 73 rfl)⟩
  have MH_keep : Def2 K (He.ga K "Heap") "_keep" "Store._keep" s_Store_keep := let ⟨fd, F⟩ := c.def_ 41 rfl; ⟨_, fd, F, He.meth_ok (c.fact 75 rfl)⟩
  have MH_reach : Def2 K (He.ga K "Heap") "reach" "Store.reach" s_Store_reach := let ⟨fd, F⟩ := c.def_ 42 rfl; ⟨_, fd, F, He.meth_ok (c.fact 76 rfl)⟩
  have MH_graph : Def2 K (He.ga K "Heap") "graph" "Store.graph" s_Store_graph := let ⟨fd, F⟩ := c.def_ 43 rfl; ⟨_, fd, F, He.meth_ok (c.fact 77 rfl)⟩
  have MH_make : Def2 K (He.ga K "Heap") "make" "Heap.make" s_Heap_make := let ⟨fd, F⟩ := c.def_ 44 rfl; ⟨_, fd, F, He.meth_ok (c.fact 78 rfl)⟩
  have MH_remember : Def2 K (He.ga K "Heap") "_remember" "Heap._remember" s_Heap_remember := let ⟨fd, F⟩ := c.def_ 45 rfl; ⟨_, fd, F, He.meth_ok (c.fact 79 rfl)⟩
  have DT : DefC K mg (He.ga K "Thing") "Thing" "Thing.__init__" s_Thing_init := let ⟨fd, F⟩ := c.def_ 46 rfl; ⟨_, fd, F, gThing, kThing⟩
  obtain ⟨fi, FI⟩ := c.def_ 40 rfl
  have DS : DefC K mg (He.ga K "Store") "Store" "Store.__init__" s_Store_init := ⟨_, fi, FI, gStore, kStore⟩
  have S0 : ∃ fd, SupF P K "set_slot" "Heap.set_slot" s_HSet (He.ga K "Heap") (He.fAd K ("Heap", some "set_slot")) fd := c.sup (by rw [eP]; rfl) 0 rfl rfl rfl
  have S1 : ∃ fd, SupF P K "change" "Heap.change" s_HChg (He.ga K "Heap") (He.fAd K ("Heap", some "change")) fd := c.sup (by rw [eP]; rfl) 1 rfl rfl rfl
  have S2 : ∃ fd, SupF P K "__init__" "Heap.__init__" s_HInit (He.ga K "Heap") (He.fAd K ("Heap", some "__init__")) fd := c.sup (by rw [eP]; rfl) 2 rfl rfl rfl
  have ow := c.own
  obtain ⟨ow, o4⟩ := He.ba ow
  obtain ⟨o2, o3⟩ := He.ba ow
  have U0 : SupM P K mg (He.ga K "Heap") (He.ga K "Heap") "set_slot" (He.fAd K ("Store", some "set_slot")) := supB_ok o2 gSup (by rw [eP]; rfl) (by decide +kernel)
  have U1 : SupM P K mg (He.ga K "Heap") (He.ga K "Heap") "change" (He.fAd K ("Store", some "change")) := supB_ok o3 gSup (by rw [eP]; rfl) (by decide +kernel)
  have U2 : SupM P K mg (He.ga K "Heap") (He.ga K "Heap") "__init__" (He.fAd K ("Store", some "__init__")) := supB_ok o4 gSup (by rw [eP]; rfl) (by decide +kernel)
  obtain ⟨fs1, FS1⟩ := c.def_ 36 rfl
  obtain ⟨fs2, FS2⟩ := c.def_ 37 rfl
  obtain ⟨fd, FL⟩ := c.def_ 28 rfl
  have e := hfa.symm.trans (He.glo_ok X G (c.fact 28 rfl))
  have ef : f = He.ga K "law" := by injection e with e; injection e
  have b := FunD.bindsA (ps := ["_law_script"]) FL fun _ _ _ _ _ _ us hl => match us, hl with | [_], _ => rfl
  refine ⟨fd, fun s v => b s [v] rfl, fun base _ _ => ?_⟩
  have G_cell := ok_cell (P := P) (w := w) (base := base) T D_cell
  have G_box := ok_box T G_cell D_box
  have G_take := ok_take (P := P) (w := w) (base := base) T D_take
  have G_word := ok_word T G_take D_word
  have G_name := ok_name T G_take D_name
  have G_plain := ok_plain T G_take G_word D_plain
  have G_pending := ok_pending T G_take G_plain D_pending
  have G_marked := ok_marked T G_take G_plain G_pending D_marked
  have G_entry := ok_entry T G_take G_plain G_marked D_entry
  have G_kinds := ok_kinds (P := P) (w := w) (base := base) D_kinds
  have G_kind := ok_kind T G_take G_kinds D_kind
  have G_marks := ok_marks (P := P) (w := w) (base := base) T D_marks
  have G_tag := ok_tag T G_take G_name D_tag
  have G_form := ok_form T G_take G_word G_entry G_marks G_tag D_form
  have G_same := ok_same (P := P) (w := w) (base := base) T D_same 7
  have G_moved := ok_moved (P := P) (w := w) (base := base) T D_moved
  have G_sent := ok_sent G_moved D_sent
  have G_target := ok_target (P := P) (w := w) (base := base) T D_target
  have G_free := ok_free (P := P) (w := w) (base := base) T D_free
  have G_walk := ok_walk T G_target D_walk
  have G_graph := ok_lgraph T G_sent D_graph
  have G_bare := ok_bare T G_target D_bare
  have G_nodes := ok_nodes T G_box G_kind G_form D_nodes
  have G_order := ok_order T G_take D_order
  have A_addr := ok_addr (P := P) (w := w) (base := base) T D_p_address_of
  have A_pin := ok_pin (P := P) (w := w) (base := base) T D_p_moved_inner
  have A_pmov := ok_pmov T A_pin D_p_moved
  have A_note := ok_note T A_addr D_p_note_addresses
  have G_Thing := ok_Thing (P := P) (w := w) (base := base) cThing cfS.n1 cfS.n2 cfS.n3 cfS.n4 DT
  have KS := ok_keep cfS T G_Thing MS_keep
  have KH := ok_keep cfH T G_Thing MH_keep
  have RH := ok_remember (P := P) (w := w) (base := base) cHeap T D_young_ones MH_remember
  have RS := ok_reach cfS T A_note MS_reach
  have RHp := ok_reach cfH T A_note MH_reach
  have BS : BankG P w K mg base (He.ga K "Store") (He.ga K "Thing") 1 fun _ _ => [] := ⟨ok_make cfS T KS MS_make, (ok_set_slot cfS T MS_set_slot).mono (by decide), (ok_change cfS T MS_change).mono (by decide), RS, ok_graph cfS T A_pmov RS MS_graph⟩
  have BH : BankG P w K mg base (He.ga K "Heap") (He.ga K "Thing") 2 hTl := by
    refine ⟨ok_hmake cfH hf T KH MH_make, ?_, ?_, RHp, ok_graph cfH T A_pmov RHp MH_graph⟩
    · obtain ⟨fd, F⟩ := S0
      exact ok_HSet cfH T ⟨_, fd, F, He.meth_ok (c.fact 81 rfl)⟩ FS1 U0 RH
    · obtain ⟨fd, F⟩ := S1
      exact ok_HChg cfH T ⟨_, fd, F, He.meth_ok (c.fact 82 rfl)⟩ FS2 U1 RH
  have GS := ok_SInit (P := P) (w := w) (base := base) cStore cfS.nT cfS.nG DS
  have GH := ok_HInit (P := P) (w := w) (base := base) cHeap cfH.nT cfH.nG hf (let ⟨fd, F⟩ := S2; ⟨_, fd, F, gHeap, kHeap⟩) FI U2
  have BC := banksG_of BS BH
  have G_asked := ok_asked3 T BC G_same G_walk G_graph G_sent D_asked
  have G_built := ok_built3 T BC G_take G_same G_bare G_sent G_target G_moved D_built
  have G_all := ok_all T G_asked D_all
  have G_set := ok_set3 T BC G_take G_free G_entry G_marks G_moved D_set
  have L := fun_law T G_box G_take G_nodes G_entry GS GH G_order G_built G_all G_set FL
  rw [ef]
  exact L
end M14
open PySem PySem.W PySem.Calls PyProof.Rows
theorem PySem.Challenge.cw_likerun_k15_reach_and_graph_holds : PySem.Challenge.rw_likerun_k15_reach_and_graph.Holds := by
  w_on; o_law
  refine HandSHeadRun.head_any (r := OpenLaw.row PySem.Challenge.rw_likerun_k15_reach_and_graph) (q := view (OpenLaw.row PySem.Challenge.rw_likerun_k15_reach_and_graph).prog [42]) (H := M14.hk) (ob := M14.ob) (M := 20000) (loose := M14.loose) (d := HandSHeadRun.topDef (OpenLaw.row PySem.Challenge.rw_likerun_k15_reach_and_graph).prog 42) (kwd := []) M14.ob_eq
    (by kernel_rfl) (fun s => by kernel_rfl) M14.run (by kernel_rfl) (by kernel_rfl) (by kernel_rfl) (by rfl) (by first | assumption | decide +kernel) (by decide +kernel) ⟨rfl, rfl, rfl, rfl, rfl, by decide +kernel⟩ ?hw ?hc
  case hw => w_witness2
  case hc =>
    refine L2.walk_ofE (l := PySem.Challenge.rw_likerun_k15_reach_and_graph) (n := 63) (k := 10) (x := "_law_script") (CX := L2.CX0) rfl (by decide) (by kernel_rfl) ⟨rfl, by decide, by decide⟩ ?F (fun _ _ _ _ z => z)
    intro w mg fa h Y G hmg0
    obtain ⟨K, KX, c⟩ := Y
    have hmg : mg ("law" : PySem.Str) = some (.ref fa) := by
      have e : (HandSHeadRun.topDef (OpenLaw.row PySem.Challenge.rw_likerun_k15_reach_and_graph).prog 42).name = ("law" : PySem.Str) := by kernel_rfl
      rw [← e]
      exact hmg0
    obtain ⟨fd, hb, hF⟩ := M14.facts (P := (PySem.Challenge.rw_likerun_k15_reach_and_graph).prog) (w := w) rfl KX G hmg c
    exact ⟨K, fd, M14.spLaw K, KX, hb, fun H a ns hl _ hS => ⟨a, ns, rfl, hS, fun _ => rfl⟩, hF⟩
