import PyProof.Rows.All
import Wide.All
import OpenK.AllK
import Wide.FinOn
import KE.KStateDown
import HandS.ForMost
import HandS.Flow
import HandS.IsInst
import HandS.Head0
import HandS.Head1
import HandS.Head2
import HandS.HeadEnd
import HandS.Defaults
import HandS.HeadHook1
import HandS.HeadHook2
import KE.KSuper
import HandS.Iter
import HandS.Evl
import HandS.WordsDict
import OpenK.KOps
import HandS.ClsMeth
import PySem.Challenge.RW_likerun_k14_store_history
set_option Elab.async false
set_option linter.all false
set_option maxRecDepth 100000
set_option maxHeartbeats 4000000
/-! The ground that the laws of the memory share: callable defs, data trees, frames. -/
namespace M14
open PySem PySem.Spec PyProof.Rows L2

/-! ### defs by name -/
abbrev FnP (K : PySem.W.Frag) (x qual : Str) (st : Stmt) (f : Addr) (fd : FuncData) : Prop := FunD K x qual (defArgs st) (defBody st) (defScope st) [] [] f fd
/-- a module's def as it stands behind the top -/
def Def1 (K : PySem.W.Frag) (mg : Str → Option Value) (x : Str) (st : Stmt) : Prop := ∃ f fd, FnP K x x st f fd ∧ mg x = some (.ref f)
/-- a method of the class at C -/
def Def2 (K : PySem.W.Frag) (C : Addr) (m qual : Str) (st : Stmt) : Prop := ∃ f fd, FnP K m qual st f fd ∧ Meth K C m f
section
variable (P : Program) (w : World) (K : PySem.W.Frag) (mg : Str → Option Value) (base : Heap)
def Cal (k : Nat) (x : Str) (ps : List Str) (sp : Sp) : Prop := ∃ f fd, FnOk P w K mg base CX0 k f fd ps sp ∧ mg x = some (.ref f) ∧ PySem.W.keepIn K (.ref f) = true ∧ Binds K fd ps []
def CalM (k : Nat) (C : Addr) (m : Str) (ps : List Str) (sp : Sp) : Prop := ∃ f fd, FnOk P w K mg base CX0 k f fd ps sp ∧ Cls K C ∧ Meth K C m f ∧ Binds K fd ps []
def CalC (k : Nat) (C : Addr) (x : Str) (ps : List Str) (sp : Sp) : Prop := ∃ f fd, FnOk P w K mg base CX0 k f fd ps sp ∧ mg x = some (.ref C) ∧ Mk K C f ∧ Binds K fd ps []
end
section
variable {X : Cx} {x m : Str} {p pos apos : Pos} {e o : Expr} {es : List Expr} {k : Nat} {ps : List Str} {sp : Sp} {t : TA} {ta : TE} {C : Addr}
theorem pe_cal (c : Cal X.prog X.w X.K X.mg X.base k x ps sp) (hr : Room k X.A) (hg : Gl X x) (ha : PA X (e :: es) t) (hdb : (x == ("__debug__" : Str)) = false := by decide) (he : starEach (e :: es) X.env = (false, eval e X.env) :: starEach es X.env := by rfl) (hpl : (backTo pos (starEach es X.env)).any (·.1) = false := by rfl) :
    PE X (.Call (.Name x p) (e :: es) [] pos) (tCall sp [] E0 t) := by
  obtain ⟨f, fd, F, hm, hk, hb⟩ := c
  exact pe_call F hr hg hm hk hb .nil pass0 ha hdb he hpl
theorem pe_cal0 (c : Cal X.prog X.w X.K X.mg X.base k x ps sp) (hr : Room k X.A) (hg : Gl X x) (hdb : (x == ("__debug__" : Str)) = false := by decide) : PE X (.Call (.Name x p) [] [] pos) (tCall sp [] E0 tNil) := by
  obtain ⟨f, fd, F, hm, hk, hb⟩ := c
  exact pe_call0 F hr hg hm hk hb .nil pass0 hdb
theorem pe_mcal {pl : Sem Bool} (he : PE X o ta) (c : CalM X.prog X.w X.K X.mg X.base k C m ps sp) (hr : Room k X.A) (ha : PA X (e :: es) t)
    (hst : starEach (e :: es) X.env = (false, eval e X.env) :: starEach es X.env := by rfl) (hpl : (backTo pos (starEach es X.env)).any (·.1) = false := by rfl)
    (ht : eval (.Call (.Attribute o m apos) (e :: es) [] pos) X.env = (do
      let ov ← eval o X.env
      standAt apos.atName
      let (f, first) ← holding [ov] (getMethod ov m pl)
      callWith pos f first (backTo pos (starEach (e :: es) X.env)) (backToKw pos (keywordEach [] X.env))) := by rfl) :
    PE X (.Call (.Attribute o m apos) (e :: es) [] pos) (tMeth C m sp [] E0 ta t) := by
  obtain ⟨f, fd, F, cl, hm, hb⟩ := c
  exact pe_meth he cl hm F hr hb .nil pass0 ha hst hpl ht
theorem pe_mcal0 {pl : Sem Bool} (he : PE X o ta) (c : CalM X.prog X.w X.K X.mg X.base k C m ps sp) (hr : Room k X.A)
    (ht : eval (.Call (.Attribute o m apos) [] [] pos) X.env = (do
      let ov ← eval o X.env
      standAt apos.atName
      let (f, first) ← holding [ov] (getMethod ov m pl)
      callWith pos f first (backTo pos (starEach [] X.env)) (backToKw pos (keywordEach [] X.env))) := by rfl) :
    PE X (.Call (.Attribute o m apos) [] [] pos) (tMeth C m sp [] E0 ta tNil) := by
  obtain ⟨f, fd, F, cl, hm, hb⟩ := c
  exact pe_meth0 he cl hm F hr hb .nil pass0 ht
theorem pe_mk (c : CalC X.prog X.w X.K X.mg X.base k C x ps sp) (hr : Room (k + 1) X.A) (hg : Gl X x) (ha : PA X (e :: es) t) (hdb : (x == ("__debug__" : Str)) = false := by decide) (he : starEach (e :: es) X.env = (false, eval e X.env) :: starEach es X.env := by rfl) (hpl : (backTo pos (starEach es X.env)).any (·.1) = false := by rfl) :
    PE X (.Call (.Name x p) (e :: es) [] pos) (tMake C sp [] E0 t) := by
  obtain ⟨f, fd, F, hm, M, hb⟩ := c
  exact pe_make M F hr hg hm hb .nil pass0 ha hdb he hpl
theorem pe_mk0 (c : CalC X.prog X.w X.K X.mg X.base k C x ps sp) (hr : Room (k + 1) X.A) (hg : Gl X x) (hdb : (x == ("__debug__" : Str)) = false := by decide) : PE X (.Call (.Name x p) [] [] pos) (tMake C sp [] E0 tNil) := by
  obtain ⟨f, fd, F, hm, M, hb⟩ := c
  exact pe_make0 M F hr hg hm hb .nil pass0 hdb
end
section
variable {P : Program} {w : World} {K : PySem.W.Frag} {mg : Str → Option Value} {base : Heap}
/-- from the walk of a def's body to the def's promise -/
theorem Def1.cal {x : Str} {st : Stmt} {N ps : List Str} {k : Nat} {sp : Sp} (D : Def1 K mg x st) (S : FnScope N ps (defScope st))
    (hb : ∀ (kV doc pm : Value) (an : Option Addr) (cdv ct : Value) (us : List Value), us.length = ps.length → bindArgs (PySem.W.fnOf x x (defArgs st) (defBody st) (defScope st) .none kV doc pm an cdv ct) ⟨us, []⟩ = pure (ps.zip us))
    (len : ∀ vs H Q E, sp vs H Q E → vs.length = ps.length)
    (hbody : ∀ (f : Addr) (cdv : Value) (A : Around) (outer : List Env) (s : Shared) (H : Hp) (vs : List V) (Q : VK) (E : XK), Room k (A.deeper (envOfC x (defScope st) s.heap.objs.size f cdv)) → sp vs H Q E →
      ∃ t, PSs (cxOf CX0 P w K mg base N x (defScope st) f cdv A outer s H E).nox (defBody st) t ∧ t { nx := fun _ H' => Q .non H', rt := Q } (start N vs) H) : Cal P w K mg base (k + 1) x ps sp := by
  obtain ⟨f, fd, F, g⟩ := D
  refine ⟨f, fd, F.ok S len fun cdv A outer s H vs Q E hr h => ?_, g, F.kp, F.bindsN hb⟩
  obtain ⟨t, h1, h2⟩ := hbody f cdv A outer s H vs Q E hr h
  exact ⟨t, h1.nox, h2⟩
theorem Def2.fn {C : Addr} {m qual : Str} {st : Stmt} {N ps : List Str} {k : Nat} {sp : Sp} (D : Def2 K C m qual st) (S : FnScope N ps (defScope st))
    (hb : ∀ (kV doc pm : Value) (an : Option Addr) (cdv ct : Value) (us : List Value), us.length = ps.length → bindArgs (PySem.W.fnOf m qual (defArgs st) (defBody st) (defScope st) .none kV doc pm an cdv ct) ⟨us, []⟩ = pure (ps.zip us))
    (len : ∀ vs H Q E, sp vs H Q E → vs.length = ps.length)
    (hbody : ∀ (f : Addr) (cdv : Value) (A : Around) (outer : List Env) (s : Shared) (H : Hp) (vs : List V) (Q : VK) (E : XK), Room k (A.deeper (envOfC qual (defScope st) s.heap.objs.size f cdv)) → sp vs H Q E →
      ∃ t, PSs (cxOf CX0 P w K mg base N qual (defScope st) f cdv A outer s H E).nox (defBody st) t ∧ t { nx := fun _ H' => Q .non H', rt := Q } (start N vs) H) : ∃ f fd, FnOk P w K mg base CX0 (k + 1) f fd ps sp ∧ Meth K C m f ∧ Binds K fd ps [] := by
  obtain ⟨f, fd, F, g⟩ := D
  refine ⟨f, fd, F.ok S len fun cdv A outer s H vs Q E hr h => ?_, g, F.bindsN hb⟩
  obtain ⟨t, h1, h2⟩ := hbody f cdv A outer s H vs Q E hr h
  exact ⟨t, h1.nox, h2⟩
theorem Def2.cal {C : Addr} {m qual : Str} {st : Stmt} {N ps : List Str} {k : Nat} {sp : Sp} (D : Def2 K C m qual st) (cl : Cls K C) (S : FnScope N ps (defScope st))
    (hb : ∀ (kV doc pm : Value) (an : Option Addr) (cdv ct : Value) (us : List Value), us.length = ps.length → bindArgs (PySem.W.fnOf m qual (defArgs st) (defBody st) (defScope st) .none kV doc pm an cdv ct) ⟨us, []⟩ = pure (ps.zip us))
    (len : ∀ vs H Q E, sp vs H Q E → vs.length = ps.length)
    (hbody : ∀ (f : Addr) (cdv : Value) (A : Around) (outer : List Env) (s : Shared) (H : Hp) (vs : List V) (Q : VK) (E : XK), Room k (A.deeper (envOfC qual (defScope st) s.heap.objs.size f cdv)) → sp vs H Q E →
      ∃ t, PSs (cxOf CX0 P w K mg base N qual (defScope st) f cdv A outer s H E).nox (defBody st) t ∧ t { nx := fun _ H' => Q .non H', rt := Q } (start N vs) H) : CalM P w K mg base (k + 1) C m ps sp := by
  obtain ⟨f, fd, F, g, b⟩ := D.fn S hb len hbody
  exact ⟨f, fd, F, cl, g, b⟩
end

theorem CalM.mono {P : Program} {w : World} {K : PySem.W.Frag} {mg : Str → Option Value} {base : Heap} {j k : Nat} {C : Addr} {m : Str} {ps : List Str} {sp : Sp} (c : CalM P w K mg base j C m ps sp) (h : j ≤ k) : CalM P w K mg base k C m ps sp :=
  let ⟨f, fd, F, a, b, d⟩ := c; ⟨f, fd, F.mono h, a, b, d⟩
/-! ### frames -/
/-- what stood stands, but for the objects at M; these are no tuples -/
structure Fr (M : List Addr) (H H' : Hp) : Prop where
  kp : ∀ a o, H a = some o → a ∉ M → H' a = some o
  nt : ∀ a ∈ M, ∀ xs, H a ≠ some (.tup xs)
theorem Fr.refl0 (H : Hp) : Fr [] H H := ⟨fun _ _ h _ => h, fun _ h => nomatch h⟩
theorem Fr.refl {M : List Addr} {H : Hp} (n : ∀ a ∈ M, ∀ xs, H a ≠ some (.tup xs)) : Fr M H H := ⟨fun _ _ h _ => h, n⟩
theorem Fr.trans {M : List Addr} {H H1 H2 : Hp} (a : Fr M H H1) (b : Fr M H1 H2) : Fr M H H2 := ⟨fun x o h n => b.kp x o (a.kp x o h n) n, a.nt⟩
/-- a frame within -/
theorem Fr.to {M M' : List Addr} {H H' : Hp} (a : Fr M H H') (s : ∀ x ∈ M, x ∈ M' ∨ H x = none) (n : ∀ a ∈ M', ∀ xs, H a ≠ some (.tup xs)) : Fr M' H H' :=
  ⟨fun x o h m => a.kp x o h fun z => (s x z).elim m fun e => (by rw [e] at h; cases h), n⟩
theorem Fr.tr {M : List Addr} {H H1 H2 : Hp} (a : Fr M H H1) (b : Fr [] H1 H2) : Fr M H H2 := ⟨fun x o h n => b.kp x o (a.kp x o h n) (by simp), a.nt⟩
theorem Fr.new {H : Hp} {p : Addr} {o : HO} (h : H p = none) : Fr [] H (upd H p o) := ⟨fun a u e _ => by rw [upd_ne (ne_of_none e h)]; exact e, fun _ h => nomatch h⟩
theorem Fr.put {H : Hp} {p : Addr} {o u : HO} (h : H p = some u) (n : ∀ xs, u ≠ .tup xs) : Fr [p] H (upd H p o) :=
  ⟨fun a v e m => (upd_ne (fun q => m (by rw [q]; exact List.mem_cons_self))).trans e, fun a m xs e => by
    have q : a = p := by simpa using m
    rw [q, h] at e
    exact n xs (Option.some.inj e)⟩
theorem Fr.free {H H' : Hp} (e : Fr [] H H') {l : Addr} (h : H' l = none) : H l = none := by
  cases q : H l with
  | none => rfl
  | some o => rw [e.kp l o q (by simp)] at h; cases h
theorem Fr.freeM {M : List Addr} {H H' : Hp} (e : Fr M H H') (hm : ∀ a ∈ M, H' a ≠ none) {l : Addr} (h : H' l = none) : H l = none := by
  cases q : H l with
  | none => rfl
  | some o =>
    rw [e.kp l o q fun m => hm l m h] at h; cases h
theorem Fr.tup {M : List Addr} {H H' : Hp} (e : Fr M H H') {a : Addr} {xs : List V} (h : H a = some (.tup xs)) : H' a = some (.tup xs) := e.kp a _ h fun m => e.nt a m xs h
theorem Fr.at1 {b : Addr} {H H' : Hp} (e : Fr [b] H H') {a : Addr} {o : HO} (h : H a = some o) (n : a ≠ b) : H' a = some o := e.kp a o h fun m => n (by simpa using m)

/-! ### data -/
inductive T where
  | non | bl (b : Bool) | int (i : Int) | str (s : Str) | tup (ts : List T)
/-- a tuple that may be read, and whose type is known -/
def TupAt (K : PySem.W.Frag) (H : Hp) (a : Addr) (xs : List V) : Prop := SqT K H a xs ∧ TyX K H (.ref a) (.type "tuple")
theorem TupAt.of {K : PySem.W.Frag} {H : Hp} {a : Addr} {xs : List V} (h : H a = some (.tup xs)) : TupAt K H a xs := ⟨SqT.of h, .base (.tup h)⟩
inductive Den (K : PySem.W.Frag) (H : Hp) : V → T → Prop where
  | non : Den K H .non .non
  | bl (b : Bool) : Den K H (.bl b) (.bl b)
  | int (i : Int) : Den K H (.int i) (.int i)
  | str (s : Str) : Den K H (.str s) (.str s)
  | tup {a : Addr} {xs : List V} {ts : List T} (h : H a = some (.tup xs)) (l : xs.length = ts.length) (c : ∀ (i : Nat) (x : V) (t : T), xs[i]? = some x → ts[i]? = some t → Den K H x t) : Den K H (.ref a) (.tup ts)
inductive Dep : Nat → T → Prop where
  | non {d} : Dep d .non
  | bl {d b} : Dep d (.bl b)
  | int {d i} : Dep d (.int i)
  | str {d s} : Dep d (.str s)
  | tup {d ts} (l : ts.length ≤ 1000) (h : ∀ t ∈ ts, Dep d t) : Dep (d + 1) (.tup ts)
theorem Dep.mono {d e : Nat} {t : T} (h : Dep d t) : d ≤ e → Dep e t := by
  induction h generalizing e with
  | non => intro _; exact .non
  | bl => intro _; exact .bl
  | int => intro _; exact .int
  | str => intro _; exact .str
  | tup l' h ih =>
    intro l
    obtain ⟨e, rfl⟩ : ∃ n, e = n + 1 := ⟨e - 1, by omega⟩
    exact .tup l' fun t m => ih t m (by omega)
theorem Den.fr {K : PySem.W.Frag} {M : List Addr} {H H' : Hp} {v : V} {t : T} (e : Fr M H H') (h : Den K H v t) : Den K H' v t := by
  induction h with
  | non => exact .non
  | bl b => exact .bl b
  | int i => exact .int i
  | str s => exact .str s
  | tup h l _ ih => exact .tup (e.tup h) l ih
/-- the items of a list of data -/
def Dens (K : PySem.W.Frag) (H : Hp) (xs : List V) (ts : List T) : Prop := xs.length = ts.length ∧ ∀ (i : Nat) (x : V) (t : T), xs[i]? = some x → ts[i]? = some t → Den K H x t
theorem Dens.fr {K : PySem.W.Frag} {M : List Addr} {H H' : Hp} {xs : List V} {ts : List T} (e : Fr M H H') (h : Dens K H xs ts) : Dens K H' xs ts := ⟨h.1, fun i x t a b => (h.2 i x t a b).fr e⟩
theorem Dens.nil {K : PySem.W.Frag} {H : Hp} : Dens K H [] [] := ⟨rfl, fun i x t h => by simp at h⟩
theorem Dens.cons {K : PySem.W.Frag} {H : Hp} {x : V} {t : T} {xs : List V} {ts : List T} (h : Den K H x t) (r : Dens K H xs ts) : Dens K H (x :: xs) (t :: ts) :=
  ⟨by simp [r.1], fun i y u a b => by
    cases i with
    | zero => simp at a b; subst a b; exact h
    | succ i => exact r.2 i y u (by simpa using a) (by simpa using b)⟩
theorem Dens.app {K : PySem.W.Frag} {H : Hp} {xs ys : List V} {ts us : List T} (h : Dens K H xs ts) (r : Dens K H ys us) : Dens K H (xs ++ ys) (ts ++ us) := by
  refine ⟨by simp [h.1, r.1], fun i y u a b => ?_⟩
  by_cases hi : i < xs.length
  · rw [List.getElem?_append_left hi] at a
    rw [List.getElem?_append_left (by rw [← h.1]; exact hi)] at b
    exact h.2 i y u a b
  · rw [List.getElem?_append_right (by omega)] at a
    rw [List.getElem?_append_right (by rw [← h.1]; omega), ← h.1] at b
    exact r.2 _ y u a b
theorem Dens.snoc {K : PySem.W.Frag} {H : Hp} {xs : List V} {ts : List T} {x : V} {t : T} (r : Dens K H xs ts) (h : Den K H x t) : Dens K H (xs ++ [x]) (ts ++ [t]) := r.app (.cons h .nil)
theorem Dens.get {K : PySem.W.Frag} {H : Hp} {xs : List V} {ts : List T} (h : Dens K H xs ts) {i : Nat} {x : V} (e : xs[i]? = some x) : ∃ t, ts[i]? = some t ∧ Den K H x t := by
  have hi := (List.getElem?_eq_some_iff.mp e).1
  have hj : i < ts.length := by rw [← h.1]; exact hi
  exact ⟨ts[i], List.getElem?_eq_getElem hj, h.2 i x _ e (List.getElem?_eq_getElem hj)⟩
theorem Dens.uncons {K : PySem.W.Frag} {H : Hp} {xs : List V} {t : T} {ts : List T} (h : Dens K H xs (t :: ts)) : ∃ x r, xs = x :: r ∧ Den K H x t ∧ Dens K H r ts := by
  cases xs with
  | nil => have := h.1; simp at this
  | cons x r => exact ⟨x, r, rfl, h.2 0 x t rfl rfl, by have := h.1; simpa using this, fun i y u a b => h.2 (i + 1) y u (by simpa using a) (by simpa using b)⟩
theorem Dens.unnil {K : PySem.W.Frag} {H : Hp} {xs : List V} (h : Dens K H xs []) : xs = [] := by
  have := h.1
  exact List.eq_nil_of_length_eq_zero (by simpa using this)
theorem Den.unstr {K : PySem.W.Frag} {H : Hp} {v : V} {s : Str} (h : Den K H v (.str s)) : v = .str s := by cases h; rfl
theorem Den.unint {K : PySem.W.Frag} {H : Hp} {v : V} {i : Int} (h : Den K H v (.int i)) : v = .int i := by cases h; rfl
theorem Den.tups {K : PySem.W.Frag} {H : Hp} {p : Addr} {xs : List V} {ts : List T} (h : H p = some (.tup xs)) (d : Dens K H xs ts) : Den K H (.ref p) (.tup ts) := .tup h d.1 d.2
theorem Den.tup_inv {K : PySem.W.Frag} {H : Hp} {v : V} {ts : List T} (h : Den K H v (.tup ts)) : ∃ p xs, v = .ref p ∧ H p = some (.tup xs) ∧ Dens K H xs ts := by
  cases h with
  | tup h l c => exact ⟨_, _, rfl, h, l, c⟩
theorem Den.inj {K : PySem.W.Frag} {H : Hp} {v : V} {t : T} (h : Den K H v t) : ∀ {u : T}, Den K H v u → t = u := by
  induction h with
  | non => intro u h; cases h; rfl
  | bl b => intro u h; cases h; rfl
  | int i => intro u h; cases h; rfl
  | str s => intro u h; cases h; rfl
  | @tup a xs ts h l c ih =>
    intro u h'
    cases h' with
    | @tup _ ys us h2 l2 c2 =>
      rw [h] at h2; cases h2
      congr 1
      refine List.ext_getElem? fun i => ?_
      cases e : xs[i]? with
      | none =>
        have hi := List.getElem?_eq_none_iff.mp e
        rw [List.getElem?_eq_none_iff.mpr (by omega), List.getElem?_eq_none_iff.mpr (by omega)]
      | some x =>
        have hi := (List.getElem?_eq_some_iff.mp e).1
        have h1 : i < ts.length := by omega
        have h3 : i < us.length := by omega
        rw [List.getElem?_eq_getElem h1, List.getElem?_eq_getElem h3]
        exact congrArg some (ih i x _ e (List.getElem?_eq_getElem h1) (c2 i x _ e (List.getElem?_eq_getElem h3)))
/-- lists stand apart from the box -/
theorem atI_in {α : Type} {xs : List α} {z : Int} (h0 : 0 ≤ z) (h1 : z < xs.length) : ∃ v, atI xs z = some v ∧ xs[z.toNat]? = some v := by
  obtain ⟨j, rfl⟩ : ∃ j : Nat, z = (j : Int) := ⟨z.toNat, by omega⟩
  have hj : j < xs.length := by omega
  exact ⟨xs[j], atI_nat (List.getElem?_eq_getElem hj), by rw [Int.toNat_natCast]; exact List.getElem?_eq_getElem hj⟩
theorem ixN_in {n : Nat} {z : Int} (h0 : 0 ≤ z) (h1 : z < n) : ixN n z = some z.toNat := by
  unfold ixN
  rw [if_pos h0, if_pos h1]
end M14
set_option Elab.async false
set_option linter.all false
set_option maxRecDepth 100000
set_option maxHeartbeats 4000000
/-! Steps: what a reading asks, turned into heaps that are known by their facts alone; the tactic words. -/
namespace M14
open PySem PySem.Spec PyProof.Rows L2

structure Bl (mg : Str → Option Value) : Prop where
  z_len : mg "len" = none
  z_int : mg "int" = none
  z_sum : mg "sum" = none
  z_range : mg "range" = none
  z_list : mg "list" = none
  z_tuple : mg "tuple" = none
  z_str : mg "str" = none
  z_isinstance : mg "isinstance" = none
  z_bool : mg "bool" = none
  z_sorted : mg "sorted" = none
  z_enumerate : mg "enumerate" = none

/-! ### frames, further -/
theorem Fr.comp {M : List Addr} {H H1 H2 : Hp} (a : Fr M H H1) (b : Fr M H1 H2) : Fr M H H2 := a.trans b
theorem Fr.comp0 {M : List Addr} {H H1 H2 : Hp} (a : Fr M H H1) (b : Fr [] H1 H2) : Fr M H H2 := a.tr b
/-- what is changed was not there at first -/
theorem Fr.compN {M : List Addr} {p : Addr} {H H1 H2 : Hp} (a : Fr M H H1) (b : Fr [p] H1 H2) (n : H p = none) : Fr M H H2 :=
  ⟨fun x o h m => b.kp x o (a.kp x o h m) fun z => (by
    have e : x = p := by simpa using z
    rw [e, n] at h
    cases h), a.nt⟩
theorem Fr.cons {M : List Addr} {p : Addr} {H H1 : Hp} (a : Fr M H H1) (n : ∀ xs, H p ≠ some (.tup xs)) : Fr (p :: M) H H1 :=
  ⟨fun x o h m => a.kp x o h fun z => m (List.mem_cons_of_mem _ z), fun x m => by
    rcases List.mem_cons.mp m with rfl | m
    · exact n
    · exact a.nt x m⟩
theorem Fr.freeb {b : Addr} {H H' : Hp} {o : HO} (e : Fr [b] H H') (hb : H' b = some o) {l : Addr} (h : H' l = none) : H l = none := e.freeM (fun a m q => by
  have z : a = b := by simpa using m
  rw [z, hb] at q; cases q) h
theorem sqFr {K : PySem.W.Frag} {M : List Addr} {H H' : Hp} {a : Addr} {xs : List V} (e : Fr M H H') (m : a ∉ M) (h : SqL K H a xs) : SqL K H' a xs := by
  rcases h with (h | ⟨o, h⟩) | h
  · exact .inl (.inl (e.kp _ _ h m))
  · exact .inl (.inr ⟨o, e.kp _ _ h m⟩)
  · exact .inr h
theorem sqFr0 {K : PySem.W.Frag} {H H' : Hp} {a : Addr} {xs : List V} (e : Fr [] H H') (h : SqL K H a xs) : SqL K H' a xs := sqFr e (by simp) h
theorem sqFr1 {K : PySem.W.Frag} {b : Addr} {H H' : Hp} {a : Addr} {xs : List V} (e : Fr [b] H H') (n : a ≠ b) (h : SqL K H a xs) : SqL K H' a xs := sqFr e (by simpa using n) h
theorem Fr.at0 {H H' : Hp} {a : Addr} {o : HO} (e : Fr [] H H') (h : H a = some o) : H' a = some o := e.kp a o h (by simp)

theorem Fr.at1n {b : Addr} {H H' : Hp} (e : Fr [b] H H') {a : Addr} {o : HO} (n : a ≠ b) (h : H a = some o) : H' a = some o := e.at1 h n

/-! ### the box of draws: a list of five ints -/
def Box (H : Hp) (b : Addr) : Prop := ∃ i0 i1 i2 i3 i4 : Int, H b = some (.lst [.int i0, .int i1, .int i2, .int i3, .int i4])
theorem Box.fr0 {H H' : Hp} {b : Addr} (e : Fr [] H H') (h : Box H b) : Box H' b := let ⟨i0, i1, i2, i3, i4, h⟩ := h; ⟨i0, i1, i2, i3, i4, e.at0 h⟩
theorem Box.fr1 {H H' : Hp} {b p : Addr} (e : Fr [p] H H') (n : b ≠ p) (h : Box H b) : Box H' b := let ⟨i0, i1, i2, i3, i4, h⟩ := h; ⟨i0, i1, i2, i3, i4, e.at1 h n⟩
theorem Box.has {H : Hp} {b : Addr} (h : Box H b) : ∃ o, H b = some o := let ⟨_, _, _, _, _, h⟩ := h; ⟨_, h⟩
theorem Box.nt {H : Hp} {b : Addr} (h : Box H b) : ∀ a ∈ [b], ∀ (xs : List V), H a ≠ some (HO.tup xs) := fun a m xs e => by
  obtain ⟨_, _, _, _, _, h⟩ := h
  have z : a = b := by simpa using m
  rw [z, h] at e; cases e
theorem Box.free {H H' : Hp} {b l : Addr} (B : Box H' b) (e : Fr [b] H H') (h : H' l = none) : H l = none := let ⟨_, q⟩ := B.has; e.freeb q h
theorem Box.ne {H : Hp} {b l : Addr} (B : Box H b) (h : H l = none) : l ≠ b := fun e => by
  obtain ⟨o, q⟩ := B.has
  rw [e, q] at h; cases h

theorem updFree {H : Hp} {q p : Addr} {o : HO} (h : upd H q o p = none) : H p = none := by
  unfold upd at h
  split at h
  · cases h
  · exact h
theorem ne_of_none2 {H : Hp} {a b : Addr} {o : HO} (h' : H b = none) (h : H a = some o) : a ≠ b := ne_of_none h h'
theorem Box.ne2 {H : Hp} {b l : Addr} (h : H l = none) (B : Box H b) : l ≠ b := B.ne h

theorem len1000 {n : Nat} (h : n ≤ 1000) : n ≤ sizeLine := Nat.le_of_lt (small1000 h)

/-! ### relations by name, over a fixed K -/
section
variable {X : Cx}
@[irreducible] def rxL (K : PySem.W.Frag) : R2 := rIxL K
@[irreducible] def rxT (K : PySem.W.Frag) : R2 := rIxT K
@[irreducible] def rxS : R2 := rIxS
@[irreducible] def rxIn (K : PySem.W.Frag) (neg : Bool) : R2 := rIn K neg
@[irreducible] def rxLn (K : PySem.W.Frag) : List V → Hp → VK → Prop := fun xs H Q => ∃ p ys, xs = [.ref p] ∧ (SqL K H p ys ∨ SqT K H p ys) ∧ Q (.int ys.length) H
@[irreducible] def rxCat : R2 := rCat
@[irreducible] def rxCatT (K : PySem.W.Frag) : R2 := rCatT K
@[irreducible] def rxSet : TSet := rSetL
@[irreducible] def rxLst (K : PySem.W.Frag) : List V → Hp → VK → Prop := fun xs H Q => ∃ p ys, xs = [.ref p] ∧ (SqL K H p ys ∨ SqT K H p ys) ∧ ∀ l, H l = none → Q (.ref l) (upd H l (.lst ys))
@[irreducible] def rxTup (K : PySem.W.Frag) : List V → Hp → VK → Prop := fun xs H Q => ∃ p ys, xs = [.ref p] ∧ ((SqL K H p ys ∧ ∀ l, H l = none → Q (.ref l) (upd H l (.tup ys))) ∨ (SqT K H p ys ∧ Q (.ref p) H))
def tTruK (K : PySem.W.Frag) (ta : TE) : TT := fun σ H Q => ta σ H fun x H' => ∃ k, TruV K x H' k ∧ Q k H'
@[irreducible] def rxTru (K : PySem.W.Frag) (x : V) (H : Hp) (Q : Bool → Hp → Prop) : Prop := ∃ k, TruV K x H k ∧ Q k H
def tTrx (K : PySem.W.Frag) (ta : TE) : TT := fun σ H Q => ta σ H fun x H' => rxTru K x H' Q
@[irreducible] def rxApp : V → List V → Hp → VK → Prop := rAppend
theorem mtApp : MtM X "list.append" rxApp := by unfold rxApp; exact mt_append
@[irreducible] def rxIs (K : PySem.W.Frag) : List V → Hp → VK → Prop := rIsi K
theorem cIsi (K : PySem.W.Frag) (hK : X.K = K := by rfl) : CallR X (.builtin "isinstance") (rxIs K) := by unfold rxIs; rw [← hK]; exact call_isi
@[irreducible] def rxSum (K : PySem.W.Frag) : List V → Hp → VK → Prop := rSum K
theorem cSum (K : PySem.W.Frag) (hc : X.calm = true := by rfl) (hK : X.K = K := by rfl) : CallR X (.builtin "sum") (rxSum K) := by unfold rxSum; rw [← hK]; exact cr_sum hc
@[irreducible] def rxSl (K : PySem.W.Frag) : V → Option Int → Option Int → Hp → VK → Prop := rSlL K
theorem slL (K : PySem.W.Frag) (hK : X.K = K := by rfl) : SlR X (rxSl K) := by unfold rxSl; rw [← hK]; exact sl_list
@[irreducible] def rxQ (K : PySem.W.Frag) : R2 := fun x y H Q => rIxL K x y H Q ∨ rIxT K x y H Q
theorem ixQ (K : PySem.W.Frag) (hK : X.K = K := by rfl) : IxR X (rxQ K) := by
  intro value slice pins s σ H x y v u Q I rx ry h hs
  unfold rxQ at h
  rw [← hK] at h
  rcases h with h | h
  · exact ix_list value slice pins s σ H x y v u Q I rx ry h hs
  · exact ix_tup value slice pins s σ H x y v u Q I rx ry h hs
theorem ixL (K : PySem.W.Frag) (hK : X.K = K := by rfl) : IxR X (rxL K) := by unfold rxL; rw [← hK]; exact ix_list
theorem ixT (K : PySem.W.Frag) (hK : X.K = K := by rfl) : IxR X (rxT K) := by unfold rxT; rw [← hK]; exact ix_tup
theorem ixS : IxR X rxS := by unfold rxS; exact ix_str
theorem opIn (K : PySem.W.Frag) (hK : X.K = K := by rfl) : OpR X (compareOp .In) (rxIn K false) := by unfold rxIn; rw [← hK]; exact op_in_seq
theorem opNotIn (K : PySem.W.Frag) (hK : X.K = K := by rfl) : OpR X (compareOp .NotIn) (rxIn K true) := by unfold rxIn; rw [← hK]; exact op_notIn_seq
theorem cLen (K : PySem.W.Frag) (hK : X.K = K := by rfl) : CallR X (.builtin "len") (rxLn K) := by unfold rxLn; rw [← hK]; exact call_len_seq
theorem opCat : OpR X (binaryOp .Add) rxCat := by unfold rxCat; exact op_cat
theorem opCatT (K : PySem.W.Frag) (hK : X.K = K := by rfl) : OpR X (binaryOp .Add) (rxCatT K) := by unfold rxCatT; rw [← hK]; exact op_catT
theorem setL : PSet X rxSet := by unfold rxSet; exact set_list
theorem cList (K : PySem.W.Frag) (hK : X.K = K := by rfl) : CallR X (.type "list") (rxLst K) := by unfold rxLst; rw [← hK]; exact call_list_of
theorem cTuple (K : PySem.W.Frag) (hK : X.K = K := by rfl) : CallR X (.type "tuple") (rxTup K) := by unfold rxTup; rw [← hK]; exact call_tuple_of
theorem ptTru (K : PySem.W.Frag) {a : Expr} {ta : TE} (h : PE X a ta) (he : ∀ whole, isTrue a X.env whole = (do let v ← whole; standAt a.pos; holding [v] (truthy v)) := by intro _; rfl) (hK : X.K = K := by rfl) : PT X a (tTrx K ta) := by
  have e : tTrx K ta = fun σ H Q => ta σ H fun x H' => ∃ k, TruV X.K x H' k ∧ Q k H' := by
    funext σ H Q
    unfold tTrx rxTru
    rw [hK]
  rw [e]
  exact pt_truth h he
end
/-! ### steps -/
theorem new_step {H : Hp} {o : HO} {Q : VK} (h : ∀ p H', H p = none → H' p = some o → Fr [] H H' → Q (.ref p) H') : ∀ p, H p = none → Q (.ref p) (upd H p o) := fun p hp => h p _ hp upd_same (Fr.new hp)
theorem newl_step {n : Nat} {H : Hp} {o : HO} {Q : VK} (hl : n ≤ 1000) (h : ∀ p H', H p = none → H' p = some o → Fr [] H H' → Q (.ref p) H') : n ≤ sizeLine ∧ ∀ p, H p = none → Q (.ref p) (upd H p o) :=
  ⟨Nat.le_of_lt (small1000 hl), new_step h⟩
theorem set_step {H : Hp} {p : Addr} {xs : List V} {k : Int} {v : V} {Q : Hp → Prop} (hp : H p = some (.lst xs)) (h0 : 0 ≤ k) (h1 : k < xs.length) (h : ∀ H', H' p = some (.lst (xs.set k.toNat v)) → Fr [p] H H' → Q H') : rxSet (.ref p) (.int k) v H Q := by
  unfold rxSet
  exact ⟨p, xs, k, k.toNat, rfl, rfl, hp, ixN_in h0 h1, h _ upd_same (Fr.put hp (by intro _ z; cases z))⟩
theorem app_step {H : Hp} {p : Addr} {xs : List V} {v : V} {Q : VK} (hp : H p = some (.lst xs)) (hz : xs.length < 10000) (h : ∀ H', H' p = some (.lst (xs ++ [v])) → Fr [p] H H' → Q .non H') : rxApp (.ref p) [v] H Q := by
  unfold rxApp
  exact ⟨p, xs, v, rfl, rfl, hp, Nat.lt_of_lt_of_le hz (by decide), h _ upd_same (Fr.put hp (by intro _ z; cases z))⟩
theorem tyL_and {K : PySem.W.Frag} {H : Hp} {p : Addr} {xs : List V} {A : Prop} (hp : SqL K H p xs) (h : A) : tyV K "list" (.ref p) H ∧ A := ⟨.inl ⟨rfl, xs, hp⟩, h⟩
theorem ixl_step {K : PySem.W.Frag} {H : Hp} {p : Addr} {xs : List V} {z : Int} {Q : VK} (hp : SqL K H p xs) (h0 : 0 ≤ z) (h1 : z < xs.length) (h : ∀ v, xs[z.toNat]? = some v → Q v H) : rxL K (.ref p) (.int z) H Q := by
  unfold rxL
  obtain ⟨v, e1, e2⟩ := atI_in h0 h1
  exact ⟨p, xs, z, v, rfl, rfl, hp, e1, h v e2⟩
/-- a place of a written list -/
theorem ixr_step {K : PySem.W.Frag} {H : Hp} {p : Addr} {xs : List V} {z : Int} {v : V} {Q : VK} (hp : SqL K H p xs) (ha : atI xs z = some v) (h : Q v H) : rxL K (.ref p) (.int z) H Q := by
  unfold rxL
  exact ⟨p, xs, z, v, rfl, rfl, hp, ha, h⟩
theorem ixi_step {K : PySem.W.Frag} {H : Hp} {p : Addr} {ns : List Int} {z : Int} {Q : VK} (hp : SqL K H p (ns.map V.int)) (h0 : 0 ≤ z) (h1 : z < ns.length) (h : ∀ n, n ∈ ns → ns[z.toNat]? = some n → Q (.int n) H) : rxL K (.ref p) (.int z) H Q := by
  refine ixl_step hp h0 (by simpa using h1) fun v hv => ?_
  rw [List.getElem?_map] at hv
  cases e : ns[z.toNat]? with
  | none => rw [e] at hv; cases hv
  | some n =>
    rw [e] at hv
    cases hv
    exact h n (List.mem_of_getElem? e) e
theorem ixt_step {K : PySem.W.Frag} {H : Hp} {p : Addr} {xs : List V} {z : Int} {Q : VK} (hp : H p = some (.tup xs)) (h0 : 0 ≤ z) (h1 : z < xs.length) (h : ∀ v, v ∈ xs → xs[z.toNat]? = some v → Q v H) : rxT K (.ref p) (.int z) H Q := by
  unfold rxT
  obtain ⟨v, e1, e2⟩ := atI_in h0 h1
  exact ⟨p, xs, z, v, rfl, rfl, SqT.of hp, e1, h v (List.mem_of_getElem? e2) e2⟩
theorem ixs_step {z : Str} {i : Int} {H : Hp} {Q : VK} (hz : z.length ≤ sizeLine) (h0 : 0 ≤ i) (h1 : i < z.length) (h : ∀ c, Q (.str ⟨#[c]⟩) H) : rxS (.str z) (.int i) H Q := by
  unfold rxS
  obtain ⟨c, e, _⟩ := atI_in (xs := z.cps.toList) h0 (by rw [Array.length_toList]; exact h1)
  exact ⟨z, i, c, rfl, rfl, hz, e, h c⟩
theorem ix0_step {K : PySem.W.Frag} {H : Hp} {p : Addr} {x : V} {r : List V} {Q : VK} (hp : H p = some (.tup (x :: r))) (h : Q x H) : rxT K (.ref p) (.int 0) H Q := by
  unfold rxT
  exact ⟨p, _, 0, x, rfl, rfl, SqT.of hp, atI_nat (j := 0) rfl, h⟩
theorem ix1_step {K : PySem.W.Frag} {H : Hp} {p : Addr} {x y : V} {r : List V} {Q : VK} (hp : H p = some (.tup (x :: y :: r))) (h : Q y H) : rxT K (.ref p) (.int 1) H Q := by
  unfold rxT
  exact ⟨p, _, 1, y, rfl, rfl, SqT.of hp, atI_nat (j := 1) rfl, h⟩
theorem ix2_step {K : PySem.W.Frag} {H : Hp} {p : Addr} {x y z : V} {r : List V} {Q : VK} (hp : H p = some (.tup (x :: y :: z :: r))) (h : Q z H) : rxT K (.ref p) (.int 2) H Q := by
  unfold rxT
  exact ⟨p, _, 2, z, rfl, rfl, SqT.of hp, atI_nat (j := 2) rfl, h⟩
/-! ### ways -/
theorem iteD {c A B : Prop} [Decidable c] (h1 : c → A) (h2 : ¬ c → B) : if decide c = true then A else B := by
  by_cases h : c
  · rw [if_pos (decide_eq_true h)]; exact h1 h
  · rw [if_neg (by simp [h])]; exact h2 h
theorem iteDI {i j : Int} {A B : Prop} (h1 : i = j → A) (h2 : i ≠ j → B) : if decide (V.int i = V.int j) = true then A else B := iteD (fun e => h1 (V.int.inj e)) fun e => h2 fun q => e (by rw [q])
theorem iteDS {i j : Str} {A B : Prop} (h1 : i = j → A) (h2 : i ≠ j → B) : if decide (V.str i = V.str j) = true then A else B := iteD (fun e => h1 (V.str.inj e)) fun e => h2 fun q => e (by rw [q])
theorem iteN {c : Bool} {A B : Prop} (h : if c = true then B else A) : if (!c) = true then A else B := by
  cases c with
  | true => simpa using h
  | false => simpa using h
theorem iteE {α : Type} {xs : List α} {A B : Prop} (h1 : 0 < xs.length → A) (h2 : xs.length = 0 → B) : if (!xs.isEmpty) = true then A else B := by
  cases xs with
  | nil => simpa using h2 rfl
  | cons x r => simpa using h1 (by simp)
theorem iteEM {α β : Type} {f : α → β} {xs : List α} {A B : Prop} (h1 : 0 < xs.length → A) (h2 : xs.length = 0 → B) : if (!(xs.map f).isEmpty) = true then A else B :=
  iteE (fun h => h1 (by simpa using h)) fun h => h2 (by simpa using h)
def isI (v : V) : Prop := ∃ i : Int, v = .int i
def intB : V → Bool
  | .int _ => true
  | _ => false
theorem isI_of {l : List V} {v : V} (h : l.all intB = true) (m : v ∈ l) : isI v := by
  have q := List.all_eq_true.mp h v m
  cases v with
  | int i => exact ⟨i, rfl⟩
  | _ => cases q
theorem wayB {c : Bool} {A B : Prop} (h1 : c = true → A) (h2 : c = false → B) : if c = true then A else B := by
  cases c with
  | true => exact h1 rfl
  | false => exact h2 rfl


/-! ### texts -/
def isS (n : Nat) (v : V) : Prop := ∃ s : Str, v = .str s ∧ s.length ≤ n
def strB (n : Nat) : V → Bool
  | .str s => decide (s.length ≤ n)
  | _ => false
theorem isS_of {n : Nat} {l : List V} {v : V} (h : l.all (strB n) = true) (m : v ∈ l) : isS n v := by
  have q := List.all_eq_true.mp h v m
  cases v with
  | str s => exact ⟨s, rfl, of_decide_eq_true q⟩
  | _ => cases q
theorem strs_of {n : Nat} : ∀ {ys : List V}, (∀ y ∈ ys, isS n y) → ∃ ss : List Str, ys = ss.map V.str ∧ ∀ s ∈ ss, s.length ≤ n
  | [], _ => ⟨[], rfl, fun _ h => nomatch h⟩
  | y :: r, h => by
    obtain ⟨s, e, l⟩ := h y List.mem_cons_self
    obtain ⟨ss, e2, l2⟩ := strs_of (ys := r) fun z m => h z (List.mem_cons_of_mem _ m)
    refine ⟨s :: ss, by rw [e, e2]; rfl, fun z m => ?_⟩
    rcases List.mem_cons.mp m with rfl | m
    · exact l
    · exact l2 z m
theorem sum_le {n : Nat} : ∀ {ss : List Str}, (∀ s ∈ ss, s.length ≤ n) → (ss.map (·.length)).sum ≤ n * ss.length
  | [], _ => Nat.zero_le _
  | s :: r, h => by
    have h1 := h s List.mem_cons_self
    have h2 := sum_le (ss := r) fun z m => h z (List.mem_cons_of_mem _ m)
    simp only [List.map_cons, List.sum_cons, List.length_cons, Nat.mul_add, Nat.mul_one]
    omega
theorem join_le {n : Nat} : ∀ {ss : List Str}, (∀ s ∈ ss, s.length ≤ n) → (Txt.join (Str.ofString "") ss).length ≤ n * ss.length := fun {ss} h => by
  rw [TL.join_eq]
  have e0 : (Str.ofString "").length = 0 := by decide +kernel
  have go : ∀ ss : List Str, (Str.join (Str.ofString "") ss).length ≤ (ss.map (·.length)).sum := fun ss => by
    induction ss with
    | nil => exact Nat.zero_le _
    | cons s r ih =>
      cases r with
      | nil => simp [Str.join]
      | cons u r =>
        rw [Str.join, Str.length_append, Str.length_append, e0, List.map_cons, List.sum_cons]
        · omega
        · simp
  exact Nat.le_trans (go ss) (sum_le h)
/-- sep.join(ys), ys a list of short texts -/
theorem join_step {K : PySem.W.Frag} {H : Hp} {p : Addr} {ys : List V} {n : Nat} {Q : VK} (hp : SqL K H p ys) (hy : ∀ y ∈ ys, isS n y) (hn : n ≤ 100) (hl : ys.length ≤ 1000) (h : ∀ v, isS (n * ys.length) v → Q v H) :
    ∃ a q, ∃ zs : List Str, V.str (Str.ofString "") = .str a ∧ [V.ref p] = [.ref q] ∧ (SqL K H q (zs.map V.str) ∨ SqT K H q (zs.map V.str)) ∧ (zs.map (·.length)).sum + zs.length * a.length ≤ 16777216 ∧ Q (.str (Txt.join a zs)) H := by
  obtain ⟨ss, rfl, l⟩ := strs_of hy
  rw [List.length_map] at hl h
  have s1 := sum_le l
  have s2 : n * ss.length ≤ 100 * 1000 := Nat.mul_le_mul hn hl
  have e0 : (Str.ofString "").length = 0 := by decide +kernel
  exact ⟨_, p, ss, rfl, rfl, .inl hp, by rw [e0]; omega, h _ ⟨_, rfl, join_le l⟩⟩
theorem isS.mono {n m : Nat} {v : V} (h : isS n v) (l : n ≤ m) : isS m v := let ⟨s, e, q⟩ := h; ⟨s, e, Nat.le_trans q l⟩
theorem len1 (c : Nat) : isS 1 (.str ⟨#[c]⟩) := ⟨_, rfl, by show (#[c] : Array Nat).size ≤ 1; simp⟩
/-! ### further steps -/
@[irreducible] def rStrI : List V → Hp → VK → Prop := fun xs H Q => ∃ i : Int, xs = [.int i] ∧ i.natAbs.log2 < 1920 ∧ Q (.str (toString i)) H
theorem call_strI {X : Cx} : CallR X (.type "str") rStrI := by unfold rStrI; exact call_str_int
@[irreducible] def rAddT : R2 := fun x y H Q => ∃ i j : Str, x = .str i ∧ y = .str j ∧ i.length + j.length ≤ sizeLine ∧ Q (.str (i ++ j)) H
theorem op_addT {X : Cx} : OpR X (binaryOp .Add) rAddT := by unfold rAddT; exact op_add_str
theorem strInt_step {k : Int} {H : Hp} {Q : VK} (h : k.natAbs ≤ 1000) (q : ∀ s : Str, s.length ≤ 1921 → Q (.str s) H) : rStrI [V.int k] H Q := by
  unfold rStrI
  have l : k.natAbs.log2 < 1920 := Nat.lt_of_le_of_lt (Nat.log2_le_self _) (by omega)
  exact ⟨k, rfl, l, q _ (PyProof.Rows.int_text_len_1921 l)⟩
theorem addS_step {x y : Str} {H : Hp} {Q : VK} (h : x.length + y.length ≤ 10000) (q : ∀ s : Str, s.length ≤ 10000 → Q (.str s) H) : rAddT (.str x) (.str y) H Q := by
  unfold rAddT
  exact ⟨x, y, rfl, rfl, Nat.le_trans h (by decide), q _ (by rw [Str.length_append]; exact h)⟩
theorem in_step {K : PySem.W.Frag} {H : Hp} {x : V} {p : Addr} {xs : List V} {Q : VK} (hp : H p = some (.tup xs)) (hx : flatV x = true) (hf : xs.all flatV = true) (h : Q (.bl (inV x xs)) H) : rxIn K false x (.ref p) H Q := by
  unfold rxIn
  exact ⟨p, xs, rfl, .inr (SqT.of hp), hx, hf, by rw [if_neg Bool.false_ne_true]; exact h⟩
theorem len_step {K : PySem.W.Frag} {H : Hp} {p : Addr} {xs : List V} {Q : VK} (hp : SqL K H p xs) (h : Q (.int xs.length) H) : rxLn K [.ref p] H Q := by
  unfold rxLn
  exact ⟨p, xs, rfl, .inl hp, h⟩
theorem lst_step {K : PySem.W.Frag} {H : Hp} {p : Addr} {xs : List V} {Q : VK} (hp : SqL K H p xs) (h : ∀ l, H l = none → Q (.ref l) (upd H l (.lst xs))) : rxLst K [.ref p] H Q := by
  unfold rxLst
  exact ⟨p, xs, rfl, .inl hp, h⟩
theorem tupl_step {K : PySem.W.Frag} {H : Hp} {p : Addr} {xs : List V} {Q : VK} (hp : SqL K H p xs) (h : ∀ l, H l = none → Q (.ref l) (upd H l (.tup xs))) : rxTup K [.ref p] H Q := by
  unfold rxTup
  exact ⟨p, xs, rfl, .inl ⟨hp, h⟩⟩
theorem tru_step {K : PySem.W.Frag} {H : Hp} {p : Addr} {xs : List V} {Q : Bool → Hp → Prop} (hp : SqL K H p xs) (h : Q (!xs.isEmpty) H) : rxTru K (.ref p) H Q := by
  unfold rxTru
  exact ⟨_, .inl ⟨xs, hp, rfl⟩, h⟩
theorem catT_step {K : PySem.W.Frag} {H : Hp} {a b : Addr} {x y : V} {xs ys : List V} {Q : VK} (ha : H a = some (.tup (x :: xs))) (hb : H b = some (.tup (y :: ys))) (hl : (x :: xs).length + (y :: ys).length ≤ 1000)
    (h : ∀ p, H p = none → Q (.ref p) (upd H p (.tup (x :: xs ++ y :: ys)))) : rxCatT K (.ref a) (.ref b) H Q := by
  unfold rxCatT
  exact ⟨a, b, _, _, rfl, rfl, SqT.of ha, SqT.of hb, by simp, len1000 hl, fun e => (nomatch e), fun _ => h⟩
theorem cat_step {H : Hp} {a b : Addr} {xs ys : List V} {Q : VK} (ha : H a = some (.lst xs)) (hb : H b = some (.lst ys)) (hl : xs.length + ys.length ≤ 10000) (h : ∀ p, H p = none → Q (.ref p) (upd H p (.lst (xs ++ ys)))) : rxCat (.ref a) (.ref b) H Q := by
  unfold rxCat
  exact ⟨a, b, _, _, rfl, rfl, ha, hb, Nat.le_trans hl (by decide), h⟩
theorem dens_ex {K : PySem.W.Frag} {H : Hp} {p : T → Prop} : ∀ {ys : List V}, (∀ y ∈ ys, ∃ t, Den K H y t ∧ p t) → ∃ ts, Dens K H ys ts ∧ ∀ t ∈ ts, p t
  | [], _ => ⟨[], .nil, fun _ m => nomatch m⟩
  | y :: r, h => by
    obtain ⟨t, d, q⟩ := h y List.mem_cons_self
    obtain ⟨ts, ds, qs⟩ := dens_ex (ys := r) fun z m => h z (List.mem_cons_of_mem _ m)
    refine ⟨t :: ts, .cons d ds, fun u m => ?_⟩
    rcases List.mem_cons.mp m with rfl | m
    · exact q
    · exact qs u m
theorem dens_strs {K : PySem.W.Frag} {H : Hp} {n : Nat} {ys : List V} (h : ∀ y ∈ ys, isS n y) : ∃ ts, Dens K H ys ts ∧ ∀ t ∈ ts, Dep 0 t :=
  dens_ex fun y m => let ⟨s, e, _⟩ := h y m; ⟨.str s, by rw [e]; exact .str s, .str⟩
/-- for x in range(lo, lo + n) -/
theorem forR {lo : Int} {n : Nat} {j : Nat} {tb : TS} {D : Ends} {σ : L2.St} {H : Hp} (Pv : Nat → L2.St → Hp → Prop) (h0 : Pv 0 σ H)
    (hs : ∀ i σ H, i < n → Pv i σ H → tb { D with nx := Pv (i + 1), ct := Pv (i + 1), bk := D.nx } (σ.set j (some (.int (lo + i)))) H) (hd : ∀ σ H, Pv n σ H → D.nx σ H) :
    ∃ W : Nat → Nat → L2.St → Hp → Prop, (∃ m, W 0 m σ H) ∧ ∀ i m σ H, W i m σ H →
      ((Itr lo n).stop i H ∧ D.nx σ H) ∨ ((Itr lo n).go i H ∧ ∃ N : L2.St → Hp → Prop, (∀ σ' H', N σ' H' → ∃ m', m' < m ∧ W (i + 1) m' σ' H') ∧ ∀ x H', (Itr lo n).yld i H x H' → gName j x σ H' fun σ2 H2 => tb { D with nx := N, ct := N, bk := D.nx } σ2 H2) :=
  for_range Pv h0 hs hd
/-! ### isinstance, sums, slices, items of lists and tuples alike -/
theorem isi_tt {K : PySem.W.Frag} {H : Hp} {x : V} {a : String} {Q : VK} (ty : TyX K H x (.type a)) (e : kitB a a = some true) (h : Q (.bl true) H) : rxIs K [x, .ty a] H Q := by
  unfold rxIs
  exact ⟨x, _, _, _, _, rfl, .ty a, ty, kit_ty e, h⟩
theorem isi_ff {K : PySem.W.Frag} {H : Hp} {x : V} {a c : String} {Q : VK} (ty : TyX K H x (.type a)) (e : kitB a c = some false) (h : Q (.bl false) H) : rxIs K [x, .ty c] H Q := by
  unfold rxIs
  exact ⟨x, _, _, _, _, rfl, .ty c, ty, kit_ty e, h⟩
theorem ixq_step {K : PySem.W.Frag} {H : Hp} {p : Addr} {xs : List V} {z : Int} {Q : VK} (hp : SqL K H p xs ∨ SqT K H p xs) (h0 : 0 ≤ z) (h1 : z < xs.length) (h : ∀ v, xs[z.toNat]? = some v → Q v H) : rxQ K (.ref p) (.int z) H Q := by
  unfold rxQ
  obtain ⟨v, e1, e2⟩ := atI_in h0 h1
  rcases hp with hp | hp
  · exact .inl ⟨p, xs, z, v, rfl, rfl, hp, e1, h v e2⟩
  · exact .inr ⟨p, xs, z, v, rfl, rfl, hp, e1, h v e2⟩
theorem lenq_step {K : PySem.W.Frag} {H : Hp} {p : Addr} {xs : List V} {Q : VK} (hp : SqL K H p xs ∨ SqT K H p xs) (h : Q (.int xs.length) H) : rxLn K [.ref p] H Q := by
  unfold rxLn
  exact ⟨p, xs, rfl, hp, h⟩
theorem ints_of : ∀ {ys : List V}, (∀ y ∈ ys, isI y) → ∃ ms : List Int, ys = ms.map V.int
  | [], _ => ⟨[], rfl⟩
  | y :: r, h => by
    obtain ⟨i, e⟩ := h y List.mem_cons_self
    obtain ⟨ms, e2⟩ := ints_of (ys := r) fun z m => h z (List.mem_cons_of_mem _ m)
    exact ⟨i :: ms, by rw [e, e2]; rfl⟩
theorem sl_step {K : PySem.W.Frag} {H : Hp} {p : Addr} {ns : List Int} {lo hi : Option Int} {Q : VK} (hp : SqL K H p (ns.map V.int)) (h : ∀ q H' (ms : List Int), H q = none → H' q = some (.lst (ms.map V.int)) → Fr [] H H' → Q (.ref q) H') : rxSl K (.ref p) lo hi H Q := by
  unfold rxSl
  refine ⟨p, _, rfl, hp, fun q hq => ?_⟩
  obtain ⟨ms, e⟩ := ints_of (ys := cutV (ns.map V.int) lo hi) fun y hy => by
    unfold cutV at hy
    have m := List.mem_of_mem_drop (List.mem_of_mem_take hy)
    obtain ⟨i, _, e⟩ := List.mem_map.mp m
    exact ⟨i, e.symm⟩
  rw [e]
  exact h q _ ms hq upd_same (Fr.new hq)
theorem sum_step {K : PySem.W.Frag} {H : Hp} {p : Addr} {ns : List Int} {Q : VK} (hp : SqL K H p (ns.map V.int)) (h : ∀ i : Int, Q (.int i) H) : rxSum K [.ref p] H Q := by
  unfold rxSum
  exact ⟨p, ns, rfl, hp, h _⟩
theorem fin_bl {Q : VK} {H : Hp} {b : Bool} (e : b = true) (h : Q (.bl true) H) : Q (.bl b) H := by rw [e]; exact h
end M14
set_option Elab.async false
set_option linter.all false
set_option maxRecDepth 100000
set_option maxHeartbeats 4000000
/-! Comprehensions: what they leave, with and without draws from the box. -/
namespace M14
open PySem PySem.Spec PyProof.Rows L2

/-- a property of values that stays when other things change -/
def Stab (P : Hp → Nat → V → Prop) : Prop := ∀ (M : List Addr) (H H' : Hp) (i : Nat) (y : V), Fr M H H' → P H i y → P H' i y
theorem stab_v {p : Nat → V → Prop} : Stab fun _ i y => p i y := fun _ _ _ _ _ _ h => h
theorem stab_den {K : PySem.W.Frag} {p : Nat → T → Prop} : Stab fun H i y => ∃ t, Den K H y t ∧ p i t := fun _ _ _ _ _ f ⟨t, d, q⟩ => ⟨t, d.fr f, q⟩
theorem wipe_again (σ : L2.St) (j : Nat) (x : Option V) : wipe ((wipe σ [j]).set j x) [j] = wipe σ [j] := by
  show ((σ.set j none).set j x).set j none = σ.set j none
  rw [List.set_set, List.set_set]
/-- what is kept of i turns -/
def keptN (f : Nat → Bool) (i : Nat) : List Nat := (List.range i).filter f
theorem keptN_yes {f : Nat → Bool} {i : Nat} (h : f i = true) : keptN f (i + 1) = keptN f i ++ [i] := by
  unfold keptN; rw [List.range_succ, List.filter_append]; simp [h]
theorem keptN_no {f : Nat → Bool} {i : Nat} (h : f i = false) : keptN f (i + 1) = keptN f i := by
  unfold keptN; rw [List.range_succ, List.filter_append]; simp [h]
theorem keptN_le (f : Nat → Bool) (i : Nat) : (keptN f i).length ≤ i := by
  unfold keptN
  have := List.length_filter_le f (List.range i)
  simpa using this
theorem keptN_all (i : Nat) : keptN (fun _ => true) i = List.range i := by
  unfold keptN
  exact List.filter_eq_self.mpr fun _ _ => rfl
/-- the kept turns and what was made of them -/
def Made (P : Hp → Nat → V → Prop) (H : Hp) (is : List Nat) (ys : List V) : Prop := ys.length = is.length ∧ ∀ (k i : Nat) (y : V), is[k]? = some i → ys[k]? = some y → P H i y
theorem Made.snoc {P : Hp → Nat → V → Prop} {H : Hp} {is : List Nat} {ys : List V} {i : Nat} {y : V} (m : Made P H is ys) (p : P H i y) : Made P H (is ++ [i]) (ys ++ [y]) := by
  refine ⟨by simp [m.1], fun k l z a b => ?_⟩
  by_cases hk : k < is.length
  · rw [List.getElem?_append_left hk] at a
    rw [List.getElem?_append_left (by rw [m.1]; exact hk)] at b
    exact m.2 k l z a b
  · rw [List.getElem?_append_right (by omega)] at a
    rw [List.getElem?_append_right (by rw [m.1]; omega), m.1] at b
    cases e : k - is.length with
    | zero =>
      rw [e] at a b
      simp at a b
      subst a b
      exact p
    | succ q => rw [e] at a; simp at a
theorem Made.fr {P : Hp → Nat → V → Prop} (st : Stab P) {M : List Addr} {H H' : Hp} {is : List Nat} {ys : List V} (f : Fr M H H') (m : Made P H is ys) : Made P H' is ys := ⟨m.1, fun k i y a b => st M H H' i y f (m.2 k i y a b)⟩
theorem Made.all {P : Hp → Nat → V → Prop} {H : Hp} {n : Nat} {ys : List V} (m : Made P H (List.range n) ys) : ys.length = n ∧ ∀ (i : Nat) (y : V), ys[i]? = some y → P H i y := by
  have l : ys.length = n := by rw [m.1, List.length_range]
  refine ⟨l, fun i y e => m.2 i i y ?_ e⟩
  have hi : i < n := by rw [← l]; exact (List.getElem?_eq_some_iff.mp e).1
  rw [List.getElem?_range hi]
theorem Made.mem {P : Hp → Nat → V → Prop} {H : Hp} {is : List Nat} {ys : List V} (m : Made P H is ys) {y : V} (h : y ∈ ys) : ∃ i, i ∈ is ∧ P H i y := by
  obtain ⟨k, e⟩ := List.getElem?_of_mem h
  have hk : k < is.length := by rw [← m.1]; exact (List.getElem?_eq_some_iff.mp e).1
  exact ⟨is[k], List.getElem_mem hk, m.2 k _ y (List.getElem?_eq_getElem hk) e⟩

/-- what a comprehension may touch (M) and what holds throughout (S) -/
structure Cg (M : List Addr) (S : Hp → Prop) (H1 : Hp) : Prop where
  nt : ∀ a ∈ M, ∀ (xs : List V), H1 a ≠ some (HO.tup xs)
  th : ∀ a ∈ M, H1 a ≠ none
  s0 : ∀ H', Fr [] H1 H' → S H'
  sD : ∀ D H H', H1 D = none → Fr [D] H H' → S H → S H'
theorem Cg.nil (H1 : Hp) : Cg [] (fun _ => True) H1 := ⟨fun _ h => (nomatch h), fun _ h => (nomatch h), fun _ _ => trivial, fun _ _ _ _ _ _ => trivial⟩
theorem Cg.box {H1 : Hp} {b : Addr} (hB : Box H1 b) : Cg [b] (fun H => Box H b) H1 :=
  ⟨hB.nt, fun a m e => (by
    obtain ⟨o, q⟩ := hB.has
    have z : a = b := by simpa using m
    rw [z, q] at e; cases e), fun H' f => hB.fr0 f, fun D H H' n f h => h.fr1 f (hB.ne n).symm⟩
section
variable {te : TE} {tt : TT} {σ : L2.St} {H1 : Hp} {j : Nat} {M : List Addr} {S : Hp → Prop} {f : Nat → Bool} {P : Hp → Nat → V → Prop} {Qd : Addr → Hp → Prop}
/-- between two turns -/
def CI (M : List Addr) (S : Hp → Prop) (H1 : Hp) (f : Nat → Bool) (P : Hp → Nat → V → Prop) (D : Addr) (i : Nat) (H : Hp) : Prop := S H ∧ Fr M H1 H ∧ ∃ ys, H D = some (.lst ys) ∧ Made P H (keptN f i) ys
theorem CI.start (G : Cg M S H1) {D : Addr} (hD : H1 D = none) : CI M S H1 f P D 0 (upd H1 D (.lst [])) :=
  ⟨G.s0 _ (Fr.new hD), (Fr.refl G.nt).comp0 (Fr.new hD), [], upd_same, rfl, fun k i y e _ => by
    have z : keptN f 0 = [] := rfl
    rw [z] at e; simp at e⟩
/-- one turn: the test's answer is f i, the item fits P -/
theorem CI.turn {i n : Nat} {H : Hp} {σ2 : L2.St} {D : Addr} (G : Cg M S H1) (st : Stab P) (hD : H1 D = none) (hi : i < n) (hz : n ≤ 10000) (h : CI M S H1 f P D i H)
    (ht : ∀ R : Bool → Hp → Prop, (∀ H', S H' → Fr M H H' → R (f i) H') → tt σ2 H R)
    (he : f i = true → ∀ H', S H' → Fr M H1 H' → ∀ R : VK, (∀ y H'', S H'' → Fr M H' H'' → P H'' i y → R y H'') → te σ2 H' R) :
    tt σ2 H fun b H3 => if b = true then te σ2 H3 fun y H4 => ∃ acc, H4 D = some (.lst acc) ∧ acc.length < sizeLine ∧ CI M S H1 f P D (i + 1) (upd H4 D (.lst (acc ++ [y]))) else CI M S H1 f P D (i + 1) H3 := by
  obtain ⟨s, fr, ys, e, m⟩ := h
  have dm : D ∉ M := fun z => G.th D z hD
  refine ht _ fun H3 s3 f3 => ?_
  have e3 := f3.kp D _ e dm
  cases hf : f i with
  | false =>
    refine iteF ?_
    exact ⟨s3, fr.comp f3, ys, e3, by rw [keptN_no hf]; exact m.fr st f3⟩
  | true =>
    refine iteT ?_
    refine he hf H3 s3 (fr.comp f3) _ fun y H4 s4 f4 p => ?_
    have e4 := f4.kp D _ e3 dm
    have fp : Fr [D] H4 (upd H4 D (.lst (ys ++ [y]))) := Fr.put e4 (by intro _ z; cases z)
    have ly : ys.length ≤ i := by rw [m.1]; exact keptN_le f i
    refine ⟨ys, e4, Nat.lt_of_le_of_lt (Nat.le_trans ly (Nat.le_of_lt (Nat.lt_of_lt_of_le hi hz))) (by decide), G.sD D _ _ hD fp s4, ((fr.comp f3).comp f4).compN fp hD, ys ++ [y], upd_same, ?_⟩
    rw [keptN_yes hf]
    exact (((m.fr st f3).fr st f4).fr st fp).snoc (st _ _ _ _ _ fp p)
/-- [elt for x in range(lo, lo + n) if test] -/
theorem lcR {lo : Int} {n : Nat} (f : Nat → Bool) (P : Hp → Nat → V → Prop) (G : Cg M S H1) (st : Stab P) (hz : n ≤ 10000)
    (ht : ∀ (i : Nat) H, i < n → S H → Fr M H1 H → ∀ R : Bool → Hp → Prop, (∀ H', S H' → Fr M H H' → R (f i) H') → tt ((wipe σ [j]).set j (some (.int (lo + i)))) H R)
    (he : ∀ (i : Nat) H, i < n → f i = true → S H → Fr M H1 H → ∀ R : VK, (∀ y H', S H' → Fr M H H' → P H' i y → R y H') → te ((wipe σ [j]).set j (some (.int (lo + i)))) H R)
    (hd : ∀ D H' ys, H1 D = none → H' D = some (.lst ys) → Made P H' (keptN f n) ys → S H' → Fr M H1 H' → Qd D H') :
    ∀ D, H1 D = none → ∃ W : Nat → Nat → Hp → Prop, (∃ m, W 0 m (upd H1 D (.lst []))) ∧ ∀ i m H, W i m H →
      ((Itr lo n).stop i H ∧ Qd D H) ∨ ((Itr lo n).go i H ∧ ∃ Nx : Hp → Prop, (∀ H', Nx H' → ∃ m', m' < m ∧ W (i + 1) m' H') ∧ ∀ x H', (Itr lo n).yld i H x H' → gName j x (wipe σ [j]) H' fun σ2 H2 => wipe σ2 [j] = wipe σ [j] ∧ tt σ2 H2 fun b H3 =>
        if b = true then te σ2 H3 fun y H4 => ∃ acc, H4 D = some (.lst acc) ∧ acc.length < sizeLine ∧ Nx (upd H4 D (.lst (acc ++ [y]))) else Nx H3) := fun D hD =>
  lc_range (CI M S H1 f P D) (CI.start G hD) (fun i H hi h => ⟨wipe_again σ j _, CI.turn G st hD hi hz h (ht i H hi h.1 h.2.1) fun hf H' s f' => he i H' hi hf s f'⟩) fun H h => let ⟨s, fr, ys, e, m⟩ := h; hd D H ys hD e m s fr
/-- .. for x in a list -/
theorem lcL {K : PySem.W.Frag} {a : Addr} {xs : List V} (f : Nat → Bool) (P : Hp → Nat → V → Prop) (G : Cg M S H1) (st : Stab P) (hx : SqL K H1 a xs) (na : a ∉ M) (hz : xs.length ≤ 10000)
    (ht : ∀ (i : Nat) (x : V) H, xs[i]? = some x → S H → Fr M H1 H → ∀ R : Bool → Hp → Prop, (∀ H', S H' → Fr M H H' → R (f i) H') → tt ((wipe σ [j]).set j (some x)) H R)
    (he : ∀ (i : Nat) (x : V) H, xs[i]? = some x → f i = true → S H → Fr M H1 H → ∀ R : VK, (∀ y H', S H' → Fr M H H' → P H' i y → R y H') → te ((wipe σ [j]).set j (some x)) H R)
    (hd : ∀ D H' ys, H1 D = none → H' D = some (.lst ys) → Made P H' (keptN f xs.length) ys → S H' → Fr M H1 H' → Qd D H') :
    ∀ D, H1 D = none → ∃ W : Nat → Nat → Hp → Prop, (∃ m, W 0 m (upd H1 D (.lst []))) ∧ ∀ i m H, W i m H →
      ((Itl K a).stop i H ∧ Qd D H) ∨ ((Itl K a).go i H ∧ ∃ Nx : Hp → Prop, (∀ H', Nx H' → ∃ m', m' < m ∧ W (i + 1) m' H') ∧ ∀ x H', (Itl K a).yld i H x H' → gName j x (wipe σ [j]) H' fun σ2 H2 => wipe σ2 [j] = wipe σ [j] ∧ tt σ2 H2 fun b H3 =>
        if b = true then te σ2 H3 fun y H4 => ∃ acc, H4 D = some (.lst acc) ∧ acc.length < sizeLine ∧ Nx (upd H4 D (.lst (acc ++ [y]))) else Nx H3) := fun D hD =>
  lc_list (CI M S H1 f P D) (CI.start G hD) (fun i H _ h => sqFr h.2.1 na hx) (fun i x H hi h => ⟨wipe_again σ j _, CI.turn G st hD (List.getElem?_eq_some_iff.mp hi).1 hz h (ht i x H hi h.1 h.2.1) fun hf H' s f' => he i x H' hi hf s f'⟩) fun H h => let ⟨s, fr, ys, e, m⟩ := h; hd D H ys hD e m s fr
/-- no test -/
theorem tyes_ok {σ2 : L2.St} {H : Hp} (hs : S H) (nt : ∀ a ∈ M, ∀ (xs : List V), H a ≠ some (HO.tup xs)) : ∀ R : Bool → Hp → Prop, (∀ H', S H' → Fr M H H' → R true H') → tYes σ2 H R := fun R k => k H hs (Fr.refl nt)
end
end M14
set_option Elab.async false
set_option linter.all false
set_option maxRecDepth 100000
set_option maxHeartbeats 4000000
/-! Entries as data: plain ones, those that refer to an object, pending ones; what moving makes of them. -/
namespace M14
open PySem PySem.Spec PyProof.Rows L2

def EntP (t : T) : Prop := ∃ w ts, t = .tup (.str w :: ts) ∧ w ≠ Str.ofString "ref" ∧ w ≠ Str.ofString "handled" ∧ w ≠ Str.ofString "pending" ∧ ts.length ≤ 10 ∧ ∀ x ∈ ts, Dep 0 x
def EntI (n : Int) (t : T) : Prop := EntP t ∨ ∃ w j, t = .tup [.str w, .int j] ∧ (w = Str.ofString "ref" ∨ w = Str.ofString "handled") ∧ 0 ≤ j ∧ j < n
def EntOk (n : Int) (t : T) : Prop := EntI n t ∨ ∃ r i, t = .tup [.str (Str.ofString "pending"), .int r, i] ∧ EntI n i
theorem EntI.mono {n m : Int} {t : T} (h : EntI n t) (l : n ≤ m) : EntI m t := by
  rcases h with h | ⟨w, j, e, hw, h0, h1⟩
  · exact .inl h
  · exact .inr ⟨w, j, e, hw, h0, by omega⟩
theorem EntOk.mono {n m : Int} {t : T} (h : EntOk n t) (l : n ≤ m) : EntOk m t := by
  rcases h with h | ⟨r, i, e, h⟩
  · exact .inl (h.mono l)
  · exact .inr ⟨r, i, e, h.mono l⟩
theorem EntP.dep {t : T} (h : EntP t) : Dep 1 t := by
  obtain ⟨w, ts, rfl, _, _, _, l, h⟩ := h
  exact .tup (by simp only [List.length_cons]; omega) fun x m => by
    rcases List.mem_cons.mp m with rfl | m
    · exact .str
    · exact h x m
theorem EntI.dep {n : Int} {t : T} (h : EntI n t) : Dep 1 t := by
  rcases h with h | ⟨w, j, rfl, _⟩
  · exact h.dep
  · exact .tup (by simp) fun x m => by
      simp only [List.mem_cons, List.not_mem_nil, or_false] at m
      rcases m with rfl | rfl
      · exact .str
      · exact .int
theorem EntOk.dep {n : Int} {t : T} (h : EntOk n t) : Dep 2 t := by
  rcases h with h | ⟨r, i, rfl, h⟩
  · exact h.dep.mono (by decide)
  · exact .tup (by simp) fun x m => by
      simp only [List.mem_cons, List.not_mem_nil, or_false] at m
      rcases m with rfl | rfl | rfl
      · exact .str
      · exact .int
      · exact h.dep
theorem memN {α : Type} {p : α → Prop} : ∀ t ∈ ([] : List α), p t := fun _ m => nomatch m
theorem memC {α : Type} {p : α → Prop} {a : α} {l : List α} (h : p a) (r : ∀ t ∈ l, p t) : ∀ t ∈ a :: l, p t := fun t m => by
  rcases List.mem_cons.mp m with rfl | m
  · exact h
  · exact r t m
theorem in_snoc {α : Type} {p : α → Prop} {xs : List α} {y : α} (h : ∀ x ∈ xs, p x) (hy : p y) : ∀ x ∈ xs ++ [y], p x := fun x m => by
  rcases List.mem_append.mp m with m | m
  · exact h x m
  · have e : x = y := by simpa using m
    rw [e]; exact hy
/-- plain entries by their word and their leaves -/
theorem entP1 {w : Str} (h1 : w ≠ Str.ofString "ref") (h2 : w ≠ Str.ofString "handled") (h3 : w ≠ Str.ofString "pending") : EntP (.tup [.str w]) := ⟨w, [], rfl, h1, h2, h3, by simp, fun _ m => nomatch m⟩
theorem entP2 {w : Str} {x : T} (h1 : w ≠ Str.ofString "ref") (h2 : w ≠ Str.ofString "handled") (h3 : w ≠ Str.ofString "pending") (hx : Dep 0 x) : EntP (.tup [.str w, x]) := ⟨w, [x], rfl, h1, h2, h3, by simp, fun y m => by
  have e : y = x := by simpa using m
  rw [e]; exact hx⟩

theorem entI_h {n x : Int} (h : 0 ≤ x ∧ x < n) : EntI n (.tup [.str (Str.ofString "handled"), .int x]) := .inr ⟨_, x, rfl, .inr rfl, h.1, h.2⟩
theorem entI_r {n x : Int} (h : 0 ≤ x ∧ x < n) : EntI n (.tup [.str (Str.ofString "ref"), .int x]) := .inr ⟨_, x, rfl, .inl rfl, h.1, h.2⟩
theorem entOk_p {n r : Int} {i : T} (h : EntI n i) : EntOk n (.tup [.str (Str.ofString "pending"), .int r, i]) := .inr ⟨r, i, rfl, h⟩
/-- an entry is a tuple that begins with its word -/
theorem ent_head {K : PySem.W.Frag} {H : Hp} {n : Int} {v : V} {t : T} (d : Den K H v t) (h : EntOk n t) : ∃ a w r, v = .ref a ∧ H a = some (.tup (.str w :: r)) := by
  have key : ∃ w ts, t = .tup (.str w :: ts) := by
    rcases h with (⟨w, ts, e, _⟩ | ⟨w, j, e, _⟩) | ⟨r, i, e, _⟩
    · exact ⟨w, ts, e⟩
    · exact ⟨w, _, e⟩
    · exact ⟨_, _, e⟩
  obtain ⟨w, ts, rfl⟩ := key
  obtain ⟨p, xs, rfl, hp, l, c⟩ := d.tup_inv
  cases xs with
  | nil => simp at l
  | cons x r =>
    have q := c 0 x (.str w) rfl rfl
    cases q
    exact ⟨p, w, r, rfl, hp⟩
/-- an entry with its address replaced by g of it -/
def movI (g : Int → Int) : T → T
  | .tup [.str w, .int j] => if w = Str.ofString "ref" ∨ w = Str.ofString "handled" then .tup [.str w, .int (g j)] else .tup [.str w, .int j]
  | t => t
def movT (g : Int → Int) : T → T
  | .tup [.str w, r, i] => if w = Str.ofString "pending" then .tup [.str w, r, movI g i] else .tup [.str w, r, i]
  | t => movI g t
theorem movI_plain {g : Int → Int} {t : T} (h : EntP t) : movI g t = t := by
  obtain ⟨w, ts, rfl, h1, h2, h3, _, _⟩ := h
  match ts with
  | [] => rfl
  | [.int j] => exact if_neg fun z => z.elim h1 h2
  | [.non] => rfl
  | [.bl _] => rfl
  | [.str _] => rfl
  | [.tup _] => rfl
  | a :: _ :: _ => cases a <;> rfl
theorem movT_plain {g : Int → Int} {t : T} (h : EntP t) : movT g t = t := by
  have q := movI_plain (g := g) h
  obtain ⟨w, ts, rfl, h1, h2, h3, _, _⟩ := h
  match ts, q with
  | [], _ => rfl
  | [x], q => exact q
  | [r, i], _ => simp only [movT, if_neg h3]
  | a :: _ :: _ :: _, _ => cases a <;> rfl
theorem movI_ref {g : Int → Int} {w : Str} {j : Int} (h : w = Str.ofString "ref" ∨ w = Str.ofString "handled") : movI g (.tup [.str w, .int j]) = .tup [.str w, .int (g j)] := if_pos h
theorem movT_ref {g : Int → Int} {w : Str} {j : Int} (h : w = Str.ofString "ref" ∨ w = Str.ofString "handled") : movT g (.tup [.str w, .int j]) = .tup [.str w, .int (g j)] := movI_ref h
theorem movT_pend {g : Int → Int} {r i : T} : movT g (.tup [.str (Str.ofString "pending"), r, i]) = .tup [.str (Str.ofString "pending"), r, movI g i] := by simp only [movT, if_pos]
theorem movI_dep {g : Int → Int} {n : Int} {t : T} (h : EntI n t) : Dep 1 (movI g t) := by
  rcases h with h | ⟨w, j, rfl, hw, _⟩
  · rw [movI_plain h]; exact h.dep
  · rw [movI_ref hw]
    exact .tup (by simp) fun x m => by
      simp only [List.mem_cons, List.not_mem_nil, or_false] at m
      rcases m with rfl | rfl
      · exact .str
      · exact .int
theorem movT_dep {g : Int → Int} {n : Int} {t : T} (h : EntOk n t) : Dep 2 (movT g t) := by
  rcases h with (h | ⟨w, j, rfl, hw, _⟩) | ⟨r, i, rfl, h⟩
  · rw [movT_plain h]; exact h.dep.mono (by decide)
  · rw [movT_ref hw]
    exact .tup (by simp) fun x m => by
      simp only [List.mem_cons, List.not_mem_nil, or_false] at m
      rcases m with rfl | rfl
      · exact .str
      · exact .int
  · rw [movT_pend]
    exact .tup (by simp) fun x m => by
      simp only [List.mem_cons, List.not_mem_nil, or_false] at m
      rcases m with rfl | rfl | rfl
      · exact .str
      · exact .int
      · exact movI_dep h
end M14
set_option Elab.async false
set_option linter.all false
set_option maxRecDepth 100000
set_option maxHeartbeats 4000000
namespace M14
open PySem PySem.Spec PyProof.Rows L2

def top (i : Nat) : Stmt := PySem.Challenge.pw_likerun_k14_store_history.main.body.getD i (.Pass ⟨0, 0, 0, 0⟩)
@[irreducible] def spTake : Sp := fun vs H Q _ => ∃ (b : Addr) (n : Int), vs = [.ref b, .int n] ∧ Box H b ∧ 0 < n ∧ n < 1073741824 ∧ ∀ (r : Int) H', 0 ≤ r → r < n → Box H' b → Fr [b] H H' → Q (.int r) H'
theorem take_step {b : Addr} {n : Int} {H : Hp} {Q : VK} {E : XK} (hB : Box H b) (h0 : 0 < n) (h1 : n < 1073741824) (k : ∀ (r : Int) H', 0 ≤ r → r < n → Box H' b → Fr [b] H H' → Q (.int r) H') : spTake ([.ref b, .int n] ++ []) H Q E := by
  unfold spTake
  exact ⟨b, n, rfl, hB, h0, h1, k⟩
/-- a def that draws from the box b: what it gives fits P -/
def Dr (b : Addr) (P : Hp → V → Prop) (H : Hp) (Q : VK) : Prop := Box H b ∧ ∀ v H', P H' v → Box H' b → Fr [b] H H' → Q v H'
section
variable {P : Program} {w : World} {K : PySem.W.Frag} {mg : Str → Option Value} {base : Heap}
set_option hygiene false
local macro_rules | `(tactic| tm_at "sc") => `(tactic| (first | omega | (simp only [List.length_cons, List.length_nil, List.length_map, List.length_set, List.length_append]; omega) | (simp only [List.length_map] at h1 ⊢; omega) | (simp only [List.length_map] at c ⊢; omega) | with_reducible assumption | exact And.intro (by omega) (by omega) | exact Or.inl (And.intro (by omega) (by omega)) | exact Or.inr (And.intro (by omega) (by omega)) | decide +kernel | exact len1000 (by simp) | rfl | fail "no way"))
local macro_rules | `(tactic| tm_at "sc1") => `(tactic| (focus (simp; done)))
local macro_rules | `(tactic| tm_at "ne") => `(tactic| (first | assumption | exact Ne.symm (by assumption) | (apply Box.ne2; assumption; tm_at "hp") | (apply Ne.symm; apply Box.ne2; assumption; tm_at "hp") | (apply ne_of_none2; assumption; tm_at "hp") | (apply Ne.symm; apply ne_of_none2; assumption; tm_at "hp") | fail "no way"))
local macro_rules | `(tactic| tm_at "f0") => `(tactic| (first | assumption | (apply Fr.new; assumption) | fail "no way"))
local macro_rules | `(tactic| tm_at "hp") => `(tactic| (first | assumption | exact upd_same | (apply SqL.of; first | assumption | exact upd_same) | (apply Fr.at0; tm_at "f0"; tm_at "hp") | (apply Fr.at1n; assumption; tm_at "ne"; tm_at "hp") | (apply sqFr0; tm_at "f0"; tm_at "hp") | (apply sqFr1; assumption; tm_at "ne"; tm_at "hp") | (apply Box.fr0; tm_at "f0"; tm_at "hp") | (apply Box.fr1; assumption; tm_at "ne"; tm_at "hp") | (apply Den.fr; tm_at "f0"; tm_at "hp") | (apply Dens.fr; tm_at "f0"; tm_at "hp") | fail "no way"))
local macro_rules | `(tactic| tm_at "free0") => `(tactic| (first | assumption | (apply updFree; assumption) | (apply updFree; apply updFree; assumption) | (apply updFree; apply updFree; apply updFree; assumption) | (apply updFree; apply updFree; apply updFree; apply updFree; assumption) | fail "no way"))
local macro_rules | `(tactic| tm_at "free") => `(tactic| (first | tm_at "free0" | (apply Fr.free; assumption; tm_at "free0") | (apply Box.free; assumption; tm_at "fr"; tm_at "free0") | (apply Fr.free; assumption; apply Fr.free; assumption; tm_at "free0") | fail "no way"))
local macro_rules | `(tactic| tm_at "fr") => `(tactic| (first | assumption | exact Fr.refl0 _ | exact Fr.refl (Box.nt (by assumption)) | (refine Fr.comp0 ?_ (by tm_at "f0"); tm_at "fr") | (refine Fr.comp ?_ (by assumption); tm_at "fr") | (refine Fr.compN ?_ (by assumption) (by tm_at "free"); tm_at "fr") | fail "no way"))
local macro_rules | `(tactic| tm_at "call") => `(tactic| fail "no call")
local macro_rules | `(tactic| tm_at "call") => `(tactic| (apply take_step; tm_at "hp"; tm_at "sc"; tm_at "sc"; intro r H1 h0 h1 hB fr))
local macro_rules | `(tactic| tm_at "ty") => `(tactic| (first | assumption | exact .base .non | exact .base (.bl _) | exact .base (.int _) | exact .base (.str _) | (apply TyX.base; apply TyOf.lst; tm_at "hp") | (apply TyX.base; apply TyOf.tup; tm_at "hp") | fail "no way"))
local macro_rules | `(tactic| tm_at "pre") => `(tactic| fail "none")
local macro_rules | `(tactic| tm_at "go1") => `(tactic| (first | tm_at "pre" | refine ⟨_, rfl, ?_⟩ | refine ⟨_, _, rfl, rfl, ?_⟩ | (apply set_step; tm_at "hp"; tm_at "sc"; tm_at "sc"; intro H1 hp fr) | (with_reducible refine iteDI ?_ ?_ <;> intro c) | (with_reducible refine iteDS ?_ ?_ <;> intro c) | (with_reducible refine iteD ?_ ?_ <;> intro c) | (with_reducible refine iteEM ?_ ?_ <;> intro c) | (with_reducible refine iteE ?_ ?_ <;> intro c) | with_reducible refine iteN ?_ | with_reducible refine iteF ?_ | with_reducible refine iteT ?_ | (refine fun (p : Addr) (np : _ = (none : Option HO)) => ?_; fail_if_success (refine ⟨fun (_ _ : Nat) (_ : Hp) => True, ?_⟩)) | (apply isi_tt; tm_at "ty"; focus (decide +kernel)) | (apply isi_ff; tm_at "ty"; focus (decide +kernel)) | (apply sl_step; tm_at "hp"; intro qq H1 ms nq hq fr) | (apply sum_step; tm_at "hp"; intro i) | (apply tru_step; tm_at "hp") | (apply len_step; tm_at "hp") | (apply lenq_step; assumption) | (apply ixq_step; assumption; tm_at "sc"; tm_at "sc"; intro v hv) | (apply lst_step; tm_at "hp") | (apply tupl_step; tm_at "hp") | (apply ixr_step; tm_at "hp"; exact rfl) | (apply ix0_step; tm_at "hp") | (apply ix1_step; tm_at "hp") | (apply ix2_step; tm_at "hp") | (apply ixi_step; tm_at "hp"; tm_at "sc"; tm_at "sc"; intro n hn hn') | (apply ixl_step; tm_at "hp"; tm_at "sc"; tm_at "sc"; intro v hv) | (apply ixt_step; tm_at "hp"; tm_at "sc"; tm_at "sc"; intro v hm hv) | (apply in_step; tm_at "hp"; rfl; rfl) | (apply cat_step; tm_at "hp"; tm_at "hp"; tm_at "sc") | (apply catT_step; tm_at "hp"; tm_at "hp"; tm_at "sc1") | (apply tyL_and; tm_at "hp") | (apply app_step; tm_at "hp"; tm_at "sc"; intro H1 hp fr) | tm_at "call" | refine ⟨⟨_, rfl⟩, ?_⟩ | (apply ixs_step; tm_at "sc"; tm_at "sc"; tm_at "sc"; intro ch) | refine .inl ⟨_, rfl, ?_⟩ | refine .inr ⟨_, rfl, ?_⟩ | (apply And.intro; tm_at "sc") | (with_reducible refine wayB ?_ ?_ <;> intro c) | fail "no way"))
local macro_rules | `(tactic| tm_at "go") => `(tactic| (repeat tm_at "go1"))
local macro_rules | `(tactic| tm_at "goo") => `(tactic| (repeat' tm_at "go1"))
local macro_rules | `(tactic| tm_at "den") => `(tactic| (first | assumption | exact Den.str _ | exact Den.int _ | exact Den.bl _ | exact Den.non | (apply Den.tups; tm_at "hp"; tm_at "dens") | (apply Den.fr; tm_at "f0"; tm_at "den") | fail "no way"))
local macro_rules | `(tactic| tm_at "dens") => `(tactic| (first | assumption | exact Dens.nil | (apply Dens.cons; tm_at "den"; tm_at "dens") | (apply Dens.fr; tm_at "f0"; tm_at "dens") | fail "no way"))
local macro_rules | `(tactic| tm_at "ix") => `(tactic| (apply Ix.mk; tm_at "hp"; tm_at "ne"; assumption; assumption))
local macro_rules | `(tactic| tm_at "dep") => `(tactic| (first | assumption | exact Dep.int | exact Dep.str | exact Dep.bl | exact Dep.non | (apply Dep.tup; tm_at "dlen"; tm_at "deps") | (apply Dep.mono; assumption; decide) | fail "no way"))
local macro_rules | `(tactic| tm_at "deps") => `(tactic| (first | assumption | exact memN | (apply memC; tm_at "dep"; tm_at "deps") | fail "no way"))
local macro_rules | `(tactic| tm_at "dlen") => `(tactic| (first | assumption | (focus (simp; done)) | omega | fail "no way"))

abbrev s_take : Stmt := top 13
theorem sc_take : FnScope ["_law_box_here", "_law_many", "_law_digit", "_law_first", "_law_second"] ["_law_box_here", "_law_many"] (defScope s_take) := ⟨rfl, rfl, rfl, by decide +kernel, rfl, by decide +kernel, by decide +kernel⟩

theorem ok_take (T : Bl mg) (D : Def1 K mg "_law_take" s_take) : Cal P w K mg base 1 "_law_take" ["_law_box_here", "_law_many"] spTake := by
  refine D.cal sc_take (fun _ _ _ _ _ _ us hl => match us, hl with | [_, _], _ => rfl) (fun vs H Q E h => ?_) (fun f cdv A outer s H vs Q E hr h => ?_) <;> unfold spTake at h
  · obtain ⟨b, n, rfl, _⟩ := h
    rfl
  · obtain ⟨b, n, rfl, ⟨i0, i1, i2, i3, i4, hb⟩, n0, n1, k⟩ := h
    refine ⟨_, (pss_cons (ps_if (PW.pt (pw_and (pt_cmpR op_gt (pe_ix (ixL K) (pv 0) pe_int (fun _ _ => rfl)) pe_int (nomark _)) (pw_and1 (pt_cmpR op_gt (pe_ix (ixL K) (pv 0) pe_int (fun _ _ => rfl)) pe_int (nomark _)))))
      (pss_cons (ps_set (i := 2) sc_take.nd rfl (Or.inl rfl) (pe_op op_mod (pe_callTy call_int1 (by rfl) T.z_int (by decide +kernel) (pa_cons (pe_ix (ixL K) (pv 0) pe_int (fun _ _ => rfl)) pa_nil)) (pv 1)))
      (pss_cons (ps_asg (pe_op op_fdiv (pe_ix (ixL K) (pv 0) pe_int (fun _ _ => rfl)) (pv 1)) (pg_sub (pv 0) pe_int setL))
      (pss_cons (ps_asg (pe_op op_sub (pe_ix (ixL K) (pv 0) pe_int (fun _ _ => rfl)) pe_int) (pg_sub (pv 0) pe_int setL))
      (pss_one (ps_ret (pv 2))))))
      pss_nil)
    (pss_cons (ps_asg (pe_op op_add (pe_ix (ixL K) (pv 0) pe_int (fun _ _ => rfl)) pe_int) (pg_sub (pv 0) pe_int setL))
    (pss_cons (ps_set (i := 3) sc_take.nd rfl (Or.inl rfl) (pe_op op_mod (pe_callTy call_int1 (by rfl) T.z_int (by decide +kernel) (pa_cons (pe_op op_add (pe_op op_add (pe_op op_mul (pe_ix (ixL K) (pv 0) pe_int (fun _ _ => rfl)) pe_int) (pe_op op_mul (pe_ix (ixL K) (pv 0) pe_int (fun _ _ => rfl)) pe_int)) (pe_op op_mul (pe_ix (ixL K) (pv 0) pe_int (fun _ _ => rfl)) pe_int)) pa_nil)) pe_int))
    (pss_cons (ps_set (i := 4) sc_take.nd rfl (Or.inl rfl) (pe_op op_mod (pe_callTy call_int1 (by rfl) T.z_int (by decide +kernel) (pa_cons (pe_op op_add (pe_op op_add (pe_op op_mul (pv 3) (pv 3)) (pe_op op_mul (pe_ix (ixL K) (pv 0) pe_int (fun _ _ => rfl)) pe_int)) pe_int) pa_nil)) pe_int))
    (pss_one (ps_ret (pe_op op_mod (pe_callTy call_int1 (by rfl) T.z_int (by decide +kernel) (pa_cons (pe_op op_fdiv (pv 4) pe_int) pa_nil)) (pv 1)))))))), ?_⟩
    have hB : Box H b := ⟨_, _, _, _, _, hb⟩
    tm_at "goo"
    all_goals (refine k _ _ (Int.emod_nonneg _ (by omega)) (Int.emod_lt_of_pos _ n0) ?_ (by tm_at "fr"))
    · exact ⟨_, _, _, _, _, hp⟩
    · exact ⟨_, _, _, _, _, hp⟩
    · exact ⟨_, _, _, _, _, hp⟩
/-! ### texts -/
/-- letters[take(box, len(letters))], letters[take(box, n)] -/
theorem letter_step {b : Addr} {L : Str} {σ : L2.St} {H : Hp} {i : Nat} {R : VK} (h0 : σ[0]? = some (some (.ref b))) (hi : σ[i]? = some (some (.str L))) (l0 : 0 < L.length) (l1 : L.length ≤ 1000) (hB : Box H b)
    (k : ∀ c H', Box H' b → Fr [b] H H' → R (.str ⟨#[c]⟩) H') : tOp rxS (tVar i) (tCall spTake [] E0 (tCons (tVar 0) (tCons (tCB (fun xs H Q => ∃ z, xs = [.str z] ∧ z.length ≤ sizeLine ∧ Q (.int z.length) H) (tCons (tVar i) tNil)) tNil))) σ H R := by
  have l2 : L.length ≤ sizeLine := Nat.le_trans l1 (by decide)
  refine ⟨_, hi, _, h0, _, hi, L, rfl, l2, ?_⟩
  refine take_step hB (by omega) (by omega) fun r H1 h0 h1 hB f => ?_
  exact ixs_step l2 h0 h1 fun c => k c _ hB f
theorem letter_stepN {b : Addr} {L : Str} {σ : L2.St} {H : Hp} {i : Nat} {n : Int} {R : VK} (h0 : σ[0]? = some (some (.ref b))) (hi : σ[i]? = some (some (.str L))) (l0 : 0 < n) (ln : n ≤ L.length) (l1 : L.length ≤ 1000) (hB : Box H b)
    (k : ∀ c H', Box H' b → Fr [b] H H' → R (.str ⟨#[c]⟩) H') : tOp rxS (tVar i) (tCall spTake [] E0 (tCons (tVar 0) (tCons (tC (.int n)) tNil))) σ H R := by
  have l2 : L.length ≤ sizeLine := Nat.le_trans l1 (by decide)
  refine ⟨_, hi, _, h0, ?_⟩
  refine take_step hB (by omega) (by omega) fun r H1 h0 h1 hB f => ?_
  exact ixs_step l2 h0 (by omega) fun c => k c _ hB f
@[irreducible] def spWord : Sp := fun vs H Q _ => ∃ b : Addr, vs = [.ref b] ∧ Dr b (fun _ v => isS 100 v) H Q
theorem word_step {b : Addr} {H : Hp} {Q : VK} {E : XK} (hB : Box H b) (k : ∀ v H', isS 100 v → Box H' b → Fr [b] H H' → Q v H') : spWord ([.ref b] ++ []) H Q E := by unfold spWord; exact ⟨b, rfl, hB, k⟩
local macro_rules | `(tactic| tm_at "call") => `(tactic| (apply word_step; tm_at "hp"; intro v H1 hv hB fr))
abbrev s_word : Stmt := top 15
theorem sc_word : FnScope ["_law_box_here", "_law_menu", "_law_letters", "_law_k"] ["_law_box_here"] (defScope s_word) := ⟨rfl, rfl, rfl, by decide +kernel, rfl, by decide +kernel, by decide +kernel⟩

theorem ok_word (T : Bl mg) (G_take : Cal P w K mg base 1 "_law_take" ["_law_box_here", "_law_many"] spTake) (D : Def1 K mg "_law_word" s_word) : Cal P w K mg base 2 "_law_word" ["_law_box_here"] spWord := by
  refine D.cal sc_word (fun _ _ _ _ _ _ us hl => match us, hl with | [_], _ => rfl) (fun vs H Q E h => ?_) (fun f cdv A outer s H vs Q E hr h => ?_) <;> unfold spWord at h
  · obtain ⟨b, rfl, _⟩ := h
    rfl
  · obtain ⟨b, rfl, hB, k⟩ := h
    refine ⟨_, (pss_cons (ps_if (pt_cmpR op_eq (pe_cal G_take (hr.mono (by omega)) (by rfl) (pa_cons (pv 0) (pa_cons pe_int pa_nil))) pe_int (nomark _))
      (pss_cons (ps_set (i := 1) sc_word.nd rfl (Or.inl rfl) (pe_tup (pa_cons pe_str (pa_cons pe_str (pa_cons pe_str (pa_cons pe_str (pa_cons pe_str (pa_cons pe_str pa_nil))))))))
      (pss_one (ps_ret (pe_ix (ixT K) (pv 1) (pe_cal G_take (hr.mono (by omega)) (by rfl) (pa_cons (pv 0) (pa_cons pe_int pa_nil))) (fun _ _ => rfl)))))
      pss_nil)
    (pss_cons (ps_set (i := 2) sc_word.nd rfl (Or.inr rfl) pe_str)
    (pss_cons (ps_set (i := 2) sc_word.nd rfl (Or.inr rfl) (pe_op op_add_str (pv 2) pe_str))
    (pss_one (ps_ret (pe_join pe_str (pe_lc (own := [("_law_k", 3)]) (g := gName 3) (by rfl) sc_word.nd (pi_range1 (by rfl) T.z_range (pa_cons (pe_cal G_take (hr.mono (by omega)) (by rfl) (pa_cons (pv 0) (pa_cons pe_int pa_nil))) pa_nil)) (blkOk_by (own := [("_law_k", 3)]) (N := [("_law_box_here" : Str), ("_law_menu" : Str), ("_law_letters" : Str), ("_law_k" : Str)]) (sc := defScope s_word) (by decide +kernel)) (fun _ _ _ _ _ => pg_name (i := 3) sc_word.nd rfl (Or.inl rfl)) (fun _ _ _ _ _ => pts_nil) (fun _ _ _ _ _ => (pe_ix ixS (pv 2) (pe_cal G_take (hr.mono (by omega)) (by rfl) (pa_cons (pv 0) (pa_cons (pe_callB call_len_str (by rfl) T.z_len (by decide +kernel) (pa_cons (pv 2) pa_nil)) pa_nil))) (fun _ _ => rfl)))))))))), ?_⟩
    tm_at "goo"
    · exact k _ _ (isS_of (by decide +kernel) hm) (by tm_at "hp") (by tm_at "fr")
    · refine lcR (fun _ => true) (fun _ _ y => isS 1 y) (Cg.box hB) stab_v (by omega) (fun i H hi hS f => tyes_ok hS hS.nt) (fun i H hi _ hS f R k => ?_) (fun D H' ys nD hD m hS f => ?_)
      · exact letter_step rfl rfl (by decide +kernel) (by decide +kernel) hS fun c H' hB' f' => k _ _ hB' f' (len1 c)
      · rw [keptN_all] at m
        have ma := m.all
        refine join_step (n := 1) (SqL.of hD) (fun y hy => ?_) (by decide) (by omega) fun v hv => ?_
        · obtain ⟨i, _, q⟩ := m.mem hy
          exact q
        · exact k _ _ (hv.mono (by omega)) hS (by tm_at "fr")
@[irreducible] def spName : Sp := fun vs H Q _ => ∃ b : Addr, vs = [.ref b] ∧ Dr b (fun _ v => isS 100 v) H Q
theorem name_step {b : Addr} {H : Hp} {Q : VK} {E : XK} (hB : Box H b) (k : ∀ v H', isS 100 v → Box H' b → Fr [b] H H' → Q v H') : spName ([.ref b] ++ []) H Q E := by unfold spName; exact ⟨b, rfl, hB, k⟩
local macro_rules | `(tactic| tm_at "call") => `(tactic| (apply name_step; tm_at "hp"; intro v H1 hv hB fr))
abbrev s_name : Stmt := top 16
theorem sc_name : FnScope ["_law_box_here", "_law_letters", "_law_k"] ["_law_box_here"] (defScope s_name) := ⟨rfl, rfl, rfl, by decide +kernel, rfl, by decide +kernel, by decide +kernel⟩

theorem ok_name (T : Bl mg) (G_take : Cal P w K mg base 1 "_law_take" ["_law_box_here", "_law_many"] spTake) (D : Def1 K mg "_law_name" s_name) : Cal P w K mg base 2 "_law_name" ["_law_box_here"] spName := by
  refine D.cal sc_name (fun _ _ _ _ _ _ us hl => match us, hl with | [_], _ => rfl) (fun vs H Q E h => ?_) (fun f cdv A outer s H vs Q E hr h => ?_) <;> unfold spName at h
  · obtain ⟨b, rfl, _⟩ := h
    rfl
  · obtain ⟨b, rfl, hB, k⟩ := h
    refine ⟨_, (pss_cons (ps_set (i := 1) sc_name.nd rfl (Or.inr rfl) pe_str)
    (pss_one (ps_ret (pe_join pe_str (pe_lc (own := [("_law_k", 2)]) (g := gName 2) (by rfl) sc_name.nd (pi_range1 (by rfl) T.z_range (pa_cons (pe_op op_add pe_int (pe_cal G_take (hr.mono (by omega)) (by rfl) (pa_cons (pv 0) (pa_cons pe_int pa_nil)))) pa_nil)) (blkOk_by (own := [("_law_k", 2)]) (N := [("_law_box_here" : Str), ("_law_letters" : Str), ("_law_k" : Str)]) (sc := defScope s_name) (by decide +kernel)) (fun _ _ _ _ _ => pg_name (i := 2) sc_name.nd rfl (Or.inl rfl)) (fun _ _ _ _ _ => pts_nil) (fun _ _ _ _ _ => (pe_ix ixS (pv 1) (pe_cal G_take (hr.mono (by omega)) (by rfl) (pa_cons (pv 0) (pa_cons pe_int pa_nil))) (fun _ _ => rfl)))))))), ?_⟩
    tm_at "goo"
    refine lcR (fun _ => true) (fun _ _ y => isS 1 y) (Cg.box hB) stab_v (by omega) (fun i H hi hS f => tyes_ok hS hS.nt) (fun i H hi _ hS f R k => ?_) (fun D H' ys nD hD m hS f => ?_)
    · exact letter_stepN rfl rfl (by decide +kernel) (by decide +kernel) (by decide +kernel) hS fun c H' hB' f' => k _ _ hB' f' (len1 c)
    · rw [keptN_all] at m
      have ma := m.all
      refine join_step (n := 1) (SqL.of hD) (fun y hy => ?_) (by decide) (by omega) fun v hv => ?_
      · obtain ⟨i, _, q⟩ := m.mem hy
        exact q
      · exact k _ _ (hv.mono (by omega)) hS (by tm_at "fr")
end
end M14
set_option Elab.async false
set_option linter.all false
set_option maxRecDepth 100000
set_option maxHeartbeats 4000000
namespace M14
open PySem PySem.Spec PyProof.Rows L2

section
variable {P : Program} {w : World} {K : PySem.W.Frag} {mg : Str → Option Value} {base : Heap}
set_option hygiene false
local macro_rules | `(tactic| tm_at "sc") => `(tactic| (first | omega | (simp only [List.length_cons, List.length_nil, List.length_map, List.length_set, List.length_append]; omega) | (simp only [List.length_map] at h1 ⊢; omega) | (simp only [List.length_map] at c ⊢; omega) | with_reducible assumption | exact And.intro (by omega) (by omega) | exact Or.inl (And.intro (by omega) (by omega)) | exact Or.inr (And.intro (by omega) (by omega)) | decide +kernel | exact len1000 (by simp) | rfl | fail "no way"))
local macro_rules | `(tactic| tm_at "sc1") => `(tactic| (focus (simp; done)))
local macro_rules | `(tactic| tm_at "ne") => `(tactic| (first | assumption | exact Ne.symm (by assumption) | (apply Box.ne2; assumption; tm_at "hp") | (apply Ne.symm; apply Box.ne2; assumption; tm_at "hp") | (apply ne_of_none2; assumption; tm_at "hp") | (apply Ne.symm; apply ne_of_none2; assumption; tm_at "hp") | fail "no way"))
local macro_rules | `(tactic| tm_at "f0") => `(tactic| (first | assumption | (apply Fr.new; assumption) | fail "no way"))
local macro_rules | `(tactic| tm_at "hp") => `(tactic| (first | assumption | exact upd_same | (apply SqL.of; first | assumption | exact upd_same) | (apply Fr.at0; tm_at "f0"; tm_at "hp") | (apply Fr.at1n; assumption; tm_at "ne"; tm_at "hp") | (apply sqFr0; tm_at "f0"; tm_at "hp") | (apply sqFr1; assumption; tm_at "ne"; tm_at "hp") | (apply Box.fr0; tm_at "f0"; tm_at "hp") | (apply Box.fr1; assumption; tm_at "ne"; tm_at "hp") | (apply Den.fr; tm_at "f0"; tm_at "hp") | (apply Dens.fr; tm_at "f0"; tm_at "hp") | fail "no way"))
local macro_rules | `(tactic| tm_at "free0") => `(tactic| (first | assumption | (apply updFree; assumption) | (apply updFree; apply updFree; assumption) | (apply updFree; apply updFree; apply updFree; assumption) | (apply updFree; apply updFree; apply updFree; apply updFree; assumption) | fail "no way"))
local macro_rules | `(tactic| tm_at "free") => `(tactic| (first | tm_at "free0" | (apply Fr.free; assumption; tm_at "free0") | (apply Box.free; assumption; tm_at "fr"; tm_at "free0") | (apply Fr.free; assumption; apply Fr.free; assumption; tm_at "free0") | fail "no way"))
local macro_rules | `(tactic| tm_at "fr") => `(tactic| (first | assumption | exact Fr.refl0 _ | exact Fr.refl (Box.nt (by assumption)) | (refine Fr.comp0 ?_ (by tm_at "f0"); tm_at "fr") | (refine Fr.comp ?_ (by assumption); tm_at "fr") | (refine Fr.compN ?_ (by assumption) (by tm_at "free"); tm_at "fr") | fail "no way"))
local macro_rules | `(tactic| tm_at "call") => `(tactic| fail "no call")
local macro_rules | `(tactic| tm_at "call") => `(tactic| (apply take_step; tm_at "hp"; tm_at "sc"; tm_at "sc"; intro r H1 h0 h1 hB fr))
local macro_rules | `(tactic| tm_at "ty") => `(tactic| (first | assumption | exact .base .non | exact .base (.bl _) | exact .base (.int _) | exact .base (.str _) | (apply TyX.base; apply TyOf.lst; tm_at "hp") | (apply TyX.base; apply TyOf.tup; tm_at "hp") | fail "no way"))
local macro_rules | `(tactic| tm_at "pre") => `(tactic| fail "none")
local macro_rules | `(tactic| tm_at "go1") => `(tactic| (first | tm_at "pre" | refine ⟨_, rfl, ?_⟩ | refine ⟨_, _, rfl, rfl, ?_⟩ | (apply set_step; tm_at "hp"; tm_at "sc"; tm_at "sc"; intro H1 hp fr) | (with_reducible refine iteDI ?_ ?_ <;> intro c) | (with_reducible refine iteDS ?_ ?_ <;> intro c) | (with_reducible refine iteD ?_ ?_ <;> intro c) | (with_reducible refine iteEM ?_ ?_ <;> intro c) | (with_reducible refine iteE ?_ ?_ <;> intro c) | with_reducible refine iteN ?_ | with_reducible refine iteF ?_ | with_reducible refine iteT ?_ | (refine fun (p : Addr) (np : _ = (none : Option HO)) => ?_; fail_if_success (refine ⟨fun (_ _ : Nat) (_ : Hp) => True, ?_⟩)) | (apply isi_tt; tm_at "ty"; focus (decide +kernel)) | (apply isi_ff; tm_at "ty"; focus (decide +kernel)) | (apply sl_step; tm_at "hp"; intro qq H1 ms nq hq fr) | (apply sum_step; tm_at "hp"; intro i) | (apply tru_step; tm_at "hp") | (apply len_step; tm_at "hp") | (apply lenq_step; assumption) | (apply ixq_step; assumption; tm_at "sc"; tm_at "sc"; intro v hv) | (apply lst_step; tm_at "hp") | (apply tupl_step; tm_at "hp") | (apply ixr_step; tm_at "hp"; exact rfl) | (apply ix0_step; tm_at "hp") | (apply ix1_step; tm_at "hp") | (apply ix2_step; tm_at "hp") | (apply ixi_step; tm_at "hp"; tm_at "sc"; tm_at "sc"; intro n hn hn') | (apply ixl_step; tm_at "hp"; tm_at "sc"; tm_at "sc"; intro v hv) | (apply ixt_step; tm_at "hp"; tm_at "sc"; tm_at "sc"; intro v hm hv) | (apply in_step; tm_at "hp"; rfl; rfl) | (apply cat_step; tm_at "hp"; tm_at "hp"; tm_at "sc") | (apply catT_step; tm_at "hp"; tm_at "hp"; tm_at "sc1") | (apply tyL_and; tm_at "hp") | (apply app_step; tm_at "hp"; tm_at "sc"; intro H1 hp fr) | tm_at "call" | refine ⟨⟨_, rfl⟩, ?_⟩ | (apply ixs_step; tm_at "sc"; tm_at "sc"; tm_at "sc"; intro ch) | refine .inl ⟨_, rfl, ?_⟩ | refine .inr ⟨_, rfl, ?_⟩ | (apply And.intro; tm_at "sc") | (with_reducible refine wayB ?_ ?_ <;> intro c) | fail "no way"))
local macro_rules | `(tactic| tm_at "go") => `(tactic| (repeat tm_at "go1"))
local macro_rules | `(tactic| tm_at "goo") => `(tactic| (repeat' tm_at "go1"))
local macro_rules | `(tactic| tm_at "den") => `(tactic| (first | assumption | exact Den.str _ | exact Den.int _ | exact Den.bl _ | exact Den.non | (apply Den.tups; tm_at "hp"; tm_at "dens") | (apply Den.fr; tm_at "f0"; tm_at "den") | fail "no way"))
local macro_rules | `(tactic| tm_at "dens") => `(tactic| (first | assumption | exact Dens.nil | (apply Dens.cons; tm_at "den"; tm_at "dens") | (apply Dens.fr; tm_at "f0"; tm_at "dens") | fail "no way"))
local macro_rules | `(tactic| tm_at "ix") => `(tactic| (apply Ix.mk; tm_at "hp"; tm_at "ne"; assumption; assumption))
local macro_rules | `(tactic| tm_at "dep") => `(tactic| (first | assumption | exact Dep.int | exact Dep.str | exact Dep.bl | exact Dep.non | (apply Dep.tup; tm_at "dlen"; tm_at "deps") | (apply Dep.mono; assumption; decide) | fail "no way"))
local macro_rules | `(tactic| tm_at "deps") => `(tactic| (first | assumption | exact memN | (apply memC; tm_at "dep"; tm_at "deps") | fail "no way"))
local macro_rules | `(tactic| tm_at "dlen") => `(tactic| (first | assumption | (focus (simp; done)) | omega | fail "no way"))

local macro_rules | `(tactic| tm_at "call") => `(tactic| (apply word_step; tm_at "hp"; intro v H1 hv hB fr))
local macro_rules | `(tactic| tm_at "call") => `(tactic| (apply name_step; tm_at "hp"; intro v H1 hv hB fr))
abbrev CTake (P : Program) (w : World) (K : PySem.W.Frag) (mg : Str → Option Value) (base : Heap) : Prop := Cal P w K mg base 1 "_law_take" ["_law_box_here", "_law_many"] spTake
abbrev CWord (P : Program) (w : World) (K : PySem.W.Frag) (mg : Str → Option Value) (base : Heap) : Prop := Cal P w K mg base 2 "_law_word" ["_law_box_here"] spWord
abbrev CName (P : Program) (w : World) (K : PySem.W.Frag) (mg : Str → Option Value) (base : Heap) : Prop := Cal P w K mg base 2 "_law_name" ["_law_box_here"] spName
local macro_rules | `(tactic| tm_at "finP") => `(tactic| (refine k _ _ ?_ (by tm_at "hp") (by tm_at "fr"); apply Exists.intro; apply And.intro; tm_at "den"; first | exact entP1 (by decide +kernel) (by decide +kernel) (by decide +kernel) | exact entP2 (by decide +kernel) (by decide +kernel) (by decide +kernel) .int | exact entP2 (by decide +kernel) (by decide +kernel) (by decide +kernel) .bl | exact entP2 (by decide +kernel) (by decide +kernel) (by decide +kernel) .str))
/-! ### entries -/
@[irreducible] def spPlain (K : PySem.W.Frag) : Sp := fun vs H Q _ => ∃ b : Addr, vs = [.ref b] ∧ Dr b (fun H' v => ∃ t, Den K H' v t ∧ EntP t) H Q
theorem plain_step {b : Addr} {H : Hp} {Q : VK} {E : XK} (hB : Box H b) (k : ∀ v H' t, Den K H' v t → EntP t → Box H' b → Fr [b] H H' → Q v H') : spPlain K ([.ref b] ++ []) H Q E := by
  unfold spPlain
  exact ⟨b, rfl, hB, fun v H' ⟨t, d, e⟩ => k v H' t d e⟩
abbrev s_plain : Stmt := top 17
theorem sc_plain : FnScope ["_law_box_here", "_law_way", "_law_menu", "_law_words"] ["_law_box_here"] (defScope s_plain) := ⟨rfl, rfl, rfl, by decide +kernel, rfl, by decide +kernel, by decide +kernel⟩

theorem ok_plain (T : Bl mg) (G_take : CTake P w K mg base) (G_word : CWord P w K mg base) (D : Def1 K mg "_law_plain" s_plain) : Cal P w K mg base 3 "_law_plain" ["_law_box_here"] (spPlain K) := by
  refine D.cal sc_plain (fun _ _ _ _ _ _ us hl => match us, hl with | [_], _ => rfl) (fun vs H Q E h => ?_) (fun f cdv A outer s H vs Q E hr h => ?_) <;> unfold spPlain at h
  · obtain ⟨b, rfl, _⟩ := h
    rfl
  · obtain ⟨b, rfl, hB, k⟩ := h
    refine ⟨_, (pss_cons (ps_set (i := 1) sc_plain.nd rfl (Or.inl rfl) (pe_cal G_take (hr.mono (by omega)) (by rfl) (pa_cons (pv 0) (pa_cons pe_int pa_nil))))
    (pss_cons (ps_if (pt_cmpR op_lt (pv 1) pe_int (nomark _))
      (pss_cons (ps_set (i := 2) sc_plain.nd rfl (Or.inl rfl) (pe_tup (pa_cons (pe_tup (pa_cons pe_str pa_nil)) (pa_cons (pe_tup (pa_cons pe_str (pa_cons pe_bl pa_nil))) (pa_cons (pe_tup (pa_cons pe_str (pa_cons pe_bl pa_nil))) pa_nil)))))
      (pss_one (ps_ret (pe_ix (ixT K) (pv 2) (pv 1) (fun _ _ => rfl)))))
      pss_nil)
    (pss_cons (ps_if (pt_cmpR op_lt (pv 1) pe_int (nomark _))
      (pss_one (ps_ret (pe_tup (pa_cons pe_str (pa_cons (pe_cal G_take (hr.mono (by omega)) (by rfl) (pa_cons (pv 0) (pa_cons pe_int pa_nil))) pa_nil)))))
      pss_nil)
    (pss_cons (ps_if (pt_cmpR op_eq (pv 1) pe_int (nomark _))
      (pss_one (ps_ret (pe_tup (pa_cons pe_str (pa_cons (pe_op op_sub (pe_cal G_take (hr.mono (by omega)) (by rfl) (pa_cons (pv 0) (pa_cons pe_int pa_nil))) pe_int) pa_nil)))))
      pss_nil)
    (pss_cons (ps_if (pt_cmpR op_eq (pv 1) pe_int (nomark _))
      (pss_one (ps_ret (pe_tup (pa_cons pe_str (pa_cons (pe_op op_mul (pe_op op_sub (pe_op op_sub (pe_op op_pow pe_int pe_int) pe_int) (pe_cal G_take (hr.mono (by omega)) (by rfl) (pa_cons (pv 0) (pa_cons pe_int pa_nil)))) (pe_op op_sub pe_int (pe_op op_mul pe_int (pe_cal G_take (hr.mono (by omega)) (by rfl) (pa_cons (pv 0) (pa_cons pe_int pa_nil)))))) pa_nil)))))
      pss_nil)
    (pss_cons (ps_if (pt_cmpR op_eq (pv 1) pe_int (nomark _))
      (pss_cons (ps_set (i := 3) sc_plain.nd rfl (Or.inl rfl) (pe_tup (pa_cons pe_str (pa_cons pe_str (pa_cons pe_str pa_nil)))))
      (pss_one (ps_ret (pe_tup (pa_cons pe_str (pa_cons (pe_ix (ixT K) (pv 3) (pe_cal G_take (hr.mono (by omega)) (by rfl) (pa_cons (pv 0) (pa_cons pe_int pa_nil))) (fun _ _ => rfl)) pa_nil))))))
      pss_nil)
    (pss_cons (ps_if (pt_cmpR op_eq (pv 1) pe_int (nomark _))
      (pss_cons (ps_set (i := 3) sc_plain.nd rfl (Or.inl rfl) (pe_tup (pa_cons pe_str (pa_cons pe_str (pa_cons pe_str pa_nil)))))
      (pss_one (ps_ret (pe_tup (pa_cons pe_str (pa_cons (pe_ix (ixT K) (pv 3) (pe_cal G_take (hr.mono (by omega)) (by rfl) (pa_cons (pv 0) (pa_cons pe_int pa_nil))) (fun _ _ => rfl)) pa_nil))))))
      pss_nil)
    (pss_one (ps_ret (pe_tup (pa_cons pe_str (pa_cons (pe_cal G_word (hr.mono (by omega)) (by rfl) (pa_cons (pv 0) pa_nil)) pa_nil)))))))))))), ?_⟩
    tm_at "goo"
    · simp only [List.mem_cons, List.not_mem_nil, or_false] at hm
      rcases hm with rfl | rfl | rfl <;> tm_at "finP"
    · tm_at "finP"
    · tm_at "finP"
    · tm_at "finP"
    · obtain ⟨u, rfl, _⟩ := isS_of (n := 100) (by decide +kernel) hm
      tm_at "finP"
    · obtain ⟨u, rfl, _⟩ := isS_of (n := 100) (by decide +kernel) hm
      tm_at "finP"
    · obtain ⟨u, rfl, _⟩ := hv
      tm_at "finP"
local macro_rules | `(tactic| tm_at "call") => `(tactic| (apply plain_step; tm_at "hp"; intro v H1 t hd he hB fr))
/-- lists of numbers of objects -/
structure Ix (K : PySem.W.Frag) (H : Hp) (p b : Addr) (n : Int) (ns : List Int) : Prop where
  sq : SqL K H p (ns.map V.int)
  ne : p ≠ b
  len : ns.length ≤ 1000
  lt : ∀ x ∈ ns, 0 ≤ x ∧ x < n
end
end M14
set_option Elab.async false
set_option linter.all false
set_option maxRecDepth 100000
set_option maxHeartbeats 4000000
namespace M14
open PySem PySem.Spec PyProof.Rows L2

section
variable {P : Program} {w : World} {K : PySem.W.Frag} {mg : Str → Option Value} {base : Heap}
set_option hygiene false
local macro_rules | `(tactic| tm_at "sc") => `(tactic| (first | omega | (simp only [List.length_cons, List.length_nil, List.length_map, List.length_set, List.length_append]; omega) | (simp only [List.length_map] at h1 ⊢; omega) | (simp only [List.length_map] at c ⊢; omega) | with_reducible assumption | exact And.intro (by omega) (by omega) | exact Or.inl (And.intro (by omega) (by omega)) | exact Or.inr (And.intro (by omega) (by omega)) | decide +kernel | exact len1000 (by simp) | rfl | fail "no way"))
local macro_rules | `(tactic| tm_at "sc1") => `(tactic| (focus (simp; done)))
local macro_rules | `(tactic| tm_at "ne") => `(tactic| (first | assumption | exact Ne.symm (by assumption) | (apply Box.ne2; assumption; tm_at "hp") | (apply Ne.symm; apply Box.ne2; assumption; tm_at "hp") | (apply ne_of_none2; assumption; tm_at "hp") | (apply Ne.symm; apply ne_of_none2; assumption; tm_at "hp") | fail "no way"))
local macro_rules | `(tactic| tm_at "f0") => `(tactic| (first | assumption | (apply Fr.new; assumption) | fail "no way"))
local macro_rules | `(tactic| tm_at "hp") => `(tactic| (first | assumption | exact upd_same | (apply SqL.of; first | assumption | exact upd_same) | (apply Fr.at0; tm_at "f0"; tm_at "hp") | (apply Fr.at1n; assumption; tm_at "ne"; tm_at "hp") | (apply sqFr0; tm_at "f0"; tm_at "hp") | (apply sqFr1; assumption; tm_at "ne"; tm_at "hp") | (apply Box.fr0; tm_at "f0"; tm_at "hp") | (apply Box.fr1; assumption; tm_at "ne"; tm_at "hp") | (apply Den.fr; tm_at "f0"; tm_at "hp") | (apply Dens.fr; tm_at "f0"; tm_at "hp") | fail "no way"))
local macro_rules | `(tactic| tm_at "free0") => `(tactic| (first | assumption | (apply updFree; assumption) | (apply updFree; apply updFree; assumption) | (apply updFree; apply updFree; apply updFree; assumption) | (apply updFree; apply updFree; apply updFree; apply updFree; assumption) | fail "no way"))
local macro_rules | `(tactic| tm_at "free") => `(tactic| (first | tm_at "free0" | (apply Fr.free; assumption; tm_at "free0") | (apply Box.free; assumption; tm_at "fr"; tm_at "free0") | (apply Fr.free; assumption; apply Fr.free; assumption; tm_at "free0") | fail "no way"))
local macro_rules | `(tactic| tm_at "fr") => `(tactic| (first | assumption | exact Fr.refl0 _ | exact Fr.refl (Box.nt (by assumption)) | (refine Fr.comp0 ?_ (by tm_at "f0"); tm_at "fr") | (refine Fr.comp ?_ (by assumption); tm_at "fr") | (refine Fr.compN ?_ (by assumption) (by tm_at "free"); tm_at "fr") | fail "no way"))
local macro_rules | `(tactic| tm_at "call") => `(tactic| fail "no call")
local macro_rules | `(tactic| tm_at "call") => `(tactic| (apply take_step; tm_at "hp"; tm_at "sc"; tm_at "sc"; intro r H1 h0 h1 hB fr))
local macro_rules | `(tactic| tm_at "ty") => `(tactic| (first | assumption | exact .base .non | exact .base (.bl _) | exact .base (.int _) | exact .base (.str _) | (apply TyX.base; apply TyOf.lst; tm_at "hp") | (apply TyX.base; apply TyOf.tup; tm_at "hp") | fail "no way"))
local macro_rules | `(tactic| tm_at "pre") => `(tactic| fail "none")
local macro_rules | `(tactic| tm_at "go1") => `(tactic| (first | tm_at "pre" | refine ⟨_, rfl, ?_⟩ | refine ⟨_, _, rfl, rfl, ?_⟩ | (apply set_step; tm_at "hp"; tm_at "sc"; tm_at "sc"; intro H1 hp fr) | (with_reducible refine iteDI ?_ ?_ <;> intro c) | (with_reducible refine iteDS ?_ ?_ <;> intro c) | (with_reducible refine iteD ?_ ?_ <;> intro c) | (with_reducible refine iteEM ?_ ?_ <;> intro c) | (with_reducible refine iteE ?_ ?_ <;> intro c) | with_reducible refine iteN ?_ | with_reducible refine iteF ?_ | with_reducible refine iteT ?_ | (refine fun (p : Addr) (np : _ = (none : Option HO)) => ?_; fail_if_success (refine ⟨fun (_ _ : Nat) (_ : Hp) => True, ?_⟩)) | (apply isi_tt; tm_at "ty"; focus (decide +kernel)) | (apply isi_ff; tm_at "ty"; focus (decide +kernel)) | (apply sl_step; tm_at "hp"; intro qq H1 ms nq hq fr) | (apply sum_step; tm_at "hp"; intro i) | (apply tru_step; tm_at "hp") | (apply len_step; tm_at "hp") | (apply lenq_step; assumption) | (apply ixq_step; assumption; tm_at "sc"; tm_at "sc"; intro v hv) | (apply lst_step; tm_at "hp") | (apply tupl_step; tm_at "hp") | (apply ixr_step; tm_at "hp"; exact rfl) | (apply ix0_step; tm_at "hp") | (apply ix1_step; tm_at "hp") | (apply ix2_step; tm_at "hp") | (apply ixi_step; tm_at "hp"; tm_at "sc"; tm_at "sc"; intro n hn hn') | (apply ixl_step; tm_at "hp"; tm_at "sc"; tm_at "sc"; intro v hv) | (apply ixt_step; tm_at "hp"; tm_at "sc"; tm_at "sc"; intro v hm hv) | (apply in_step; tm_at "hp"; rfl; rfl) | (apply cat_step; tm_at "hp"; tm_at "hp"; tm_at "sc") | (apply catT_step; tm_at "hp"; tm_at "hp"; tm_at "sc1") | (apply tyL_and; tm_at "hp") | (apply app_step; tm_at "hp"; tm_at "sc"; intro H1 hp fr) | tm_at "call" | refine ⟨⟨_, rfl⟩, ?_⟩ | (apply ixs_step; tm_at "sc"; tm_at "sc"; tm_at "sc"; intro ch) | refine .inl ⟨_, rfl, ?_⟩ | refine .inr ⟨_, rfl, ?_⟩ | (apply And.intro; tm_at "sc") | (with_reducible refine wayB ?_ ?_ <;> intro c) | fail "no way"))
local macro_rules | `(tactic| tm_at "go") => `(tactic| (repeat tm_at "go1"))
local macro_rules | `(tactic| tm_at "goo") => `(tactic| (repeat' tm_at "go1"))
local macro_rules | `(tactic| tm_at "den") => `(tactic| (first | assumption | exact Den.str _ | exact Den.int _ | exact Den.bl _ | exact Den.non | (apply Den.tups; tm_at "hp"; tm_at "dens") | (apply Den.fr; tm_at "f0"; tm_at "den") | fail "no way"))
local macro_rules | `(tactic| tm_at "dens") => `(tactic| (first | assumption | exact Dens.nil | (apply Dens.cons; tm_at "den"; tm_at "dens") | (apply Dens.fr; tm_at "f0"; tm_at "dens") | fail "no way"))
local macro_rules | `(tactic| tm_at "ix") => `(tactic| (apply Ix.mk; tm_at "hp"; tm_at "ne"; assumption; assumption))
local macro_rules | `(tactic| tm_at "dep") => `(tactic| (first | assumption | exact Dep.int | exact Dep.str | exact Dep.bl | exact Dep.non | (apply Dep.tup; tm_at "dlen"; tm_at "deps") | (apply Dep.mono; assumption; decide) | fail "no way"))
local macro_rules | `(tactic| tm_at "deps") => `(tactic| (first | assumption | exact memN | (apply memC; tm_at "dep"; tm_at "deps") | fail "no way"))
local macro_rules | `(tactic| tm_at "dlen") => `(tactic| (first | assumption | (focus (simp; done)) | omega | fail "no way"))

local macro_rules | `(tactic| tm_at "call") => `(tactic| (apply word_step; tm_at "hp"; intro v H1 hv hB fr))
local macro_rules | `(tactic| tm_at "call") => `(tactic| (apply name_step; tm_at "hp"; intro v H1 hv hB fr))
local macro_rules | `(tactic| tm_at "call") => `(tactic| (apply plain_step; tm_at "hp"; intro v H1 t hd he hB fr))
local macro_rules | `(tactic| tm_at "finE") => `(tactic| (refine k _ _ ?_ (by tm_at "hp") (by tm_at "fr"); apply Exists.intro; apply And.intro; tm_at "den"; first | exact entOk_p (entI_h (te _ (by assumption))) | exact entOk_p (entI_r (tp _ (by assumption))) | exact entOk_p (.inl (by assumption)) | exact entOk_p (.inl (entP1 (by decide +kernel) (by decide +kernel) (by decide +kernel))) | exact .inl (entI_h (te _ (by assumption))) | exact .inl (entI_r (tp _ (by assumption))) | exact .inl (.inl (by assumption)) | exact .inl (.inl (entP1 (by decide +kernel) (by decide +kernel) (by decide +kernel))) | assumption))
@[irreducible] def spPending (K : PySem.W.Frag) : Sp := fun vs H Q _ => ∃ (b p e : Addr) (n : Int) (ns es : List Int), vs = [.ref b, .ref p, .ref e] ∧ Ix K H p b n ns ∧ Ix K H e b n es ∧ Dr b (fun H' v => ∃ t, Den K H' v t ∧ EntOk n t) H Q
theorem pending_step {b p e : Addr} {n : Int} {ns es : List Int} {H : Hp} {Q : VK} {E : XK} (hB : Box H b) (hp : Ix K H p b n ns) (he : Ix K H e b n es) (k : ∀ v H' t, Den K H' v t → EntOk n t → Box H' b → Fr [b] H H' → Q v H') : spPending K ([.ref b, .ref p, .ref e] ++ []) H Q E := by
  unfold spPending
  exact ⟨b, p, e, n, ns, es, rfl, hp, he, hB, fun v H' ⟨t, d, e⟩ => k v H' t d e⟩
abbrev s_pending : Stmt := top 18
theorem sc_pending : FnScope ["_law_box_here", "_law_pool", "_law_errors_here", "_law_way", "_law_reasons"] ["_law_box_here", "_law_pool", "_law_errors_here"] (defScope s_pending) := ⟨rfl, rfl, rfl, by decide +kernel, rfl, by decide +kernel, by decide +kernel⟩

theorem ok_pending (T : Bl mg) (G_take : CTake P w K mg base) (G_plain : Cal P w K mg base 3 "_law_plain" ["_law_box_here"] (spPlain K)) (D : Def1 K mg "_law_pending" s_pending) : Cal P w K mg base 4 "_law_pending" ["_law_box_here", "_law_pool", "_law_errors_here"] (spPending K) := by
  refine D.cal sc_pending (fun _ _ _ _ _ _ us hl => match us, hl with | [_, _, _], _ => rfl) (fun vs H Q E h => ?_) (fun f cdv A outer s H vs Q E hr h => ?_) <;> unfold spPending at h
  · obtain ⟨b, p, e, n, ns, es, rfl, _⟩ := h
    rfl
  · obtain ⟨b, p, e, n, ns, es, rfl, ⟨sp, np, lp, tp⟩, ⟨se, ne, le, te⟩, hB, k⟩ := h
    refine ⟨_, (pss_cons (ps_set (i := 3) sc_pending.nd rfl (Or.inl rfl) (pe_cal G_take (hr.mono (by omega)) (by rfl) (pa_cons (pv 0) (pa_cons pe_int pa_nil))))
    (pss_cons (ps_if (PW.pt (pw_and (pt_cmpR op_lt (pv 3) pe_int (nomark _)) (pw_and1 (ptTru K (pv 2)))))
      (pss_one (ps_ret (pe_tup (pa_cons pe_str (pa_cons pe_int (pa_cons (pe_tup (pa_cons pe_str (pa_cons (pe_ix (ixL K) (pv 2) (pe_cal G_take (hr.mono (by omega)) (by rfl) (pa_cons (pv 0) (pa_cons (pe_callB (cLen K) (by rfl) T.z_len (by decide +kernel) (pa_cons (pv 2) pa_nil)) pa_nil))) (fun _ _ => rfl)) pa_nil))) pa_nil))))))
      pss_nil)
    (pss_cons (ps_if (PW.pt (pw_and (pt_cmpR op_lt (pv 3) pe_int (nomark _)) (pw_and1 (ptTru K (pv 1)))))
      (pss_one (ps_ret (pe_tup (pa_cons pe_str (pa_cons pe_int (pa_cons (pe_tup (pa_cons pe_str (pa_cons (pe_ix (ixL K) (pv 1) (pe_cal G_take (hr.mono (by omega)) (by rfl) (pa_cons (pv 0) (pa_cons (pe_callB (cLen K) (by rfl) T.z_len (by decide +kernel) (pa_cons (pv 1) pa_nil)) pa_nil))) (fun _ _ => rfl)) pa_nil))) pa_nil))))))
      pss_nil)
    (pss_cons (ps_if (pt_cmpR op_eq (pv 3) pe_int (nomark _))
      (pss_one (ps_ret (pe_tup (pa_cons pe_str (pa_cons pe_int (pa_cons (pe_cal G_plain (hr.mono (by omega)) (by rfl) (pa_cons (pv 0) pa_nil)) pa_nil))))))
      pss_nil)
    (pss_cons (ps_set (i := 4) sc_pending.nd rfl (Or.inl rfl) (pe_tup (pa_cons pe_int (pa_cons pe_int (pa_cons pe_int (pa_cons pe_int (pa_cons pe_int (pa_cons pe_int (pa_cons pe_int (pa_cons pe_int pa_nil))))))))))
    (pss_one (ps_ret (pe_tup (pa_cons pe_str (pa_cons (pe_ix (ixT K) (pv 4) (pv 3) (fun _ _ => rfl)) (pa_cons (pe_tup (pa_cons pe_str pa_nil)) pa_nil))))))))))), ?_⟩
    tm_at "goo"
    all_goals (first | tm_at "finE" | (obtain ⟨u, rfl⟩ := isI_of (by decide +kernel) hm; tm_at "finE"))
local macro_rules | `(tactic| tm_at "call") => `(tactic| (apply pending_step; tm_at "hp"; tm_at "ix"; tm_at "ix"; intro v H1 t hd he hB fr))
@[irreducible] def spMarked (K : PySem.W.Frag) : Sp := fun vs H Q _ => ∃ (b p e : Addr) (n y : Int) (ns es : List Int), vs = [.ref b, .ref p, .ref e, .int y] ∧ Ix K H p b n ns ∧ Ix K H e b n es ∧ Dr b (fun H' v => ∃ t, Den K H' v t ∧ EntOk n t) H Q
theorem marked_step {b p e : Addr} {n y : Int} {ns es : List Int} {H : Hp} {Q : VK} {E : XK} (hB : Box H b) (hp : Ix K H p b n ns) (he : Ix K H e b n es) (k : ∀ v H' t, Den K H' v t → EntOk n t → Box H' b → Fr [b] H H' → Q v H') : spMarked K ([.ref b, .ref p, .ref e, .int y] ++ []) H Q E := by
  unfold spMarked
  exact ⟨b, p, e, n, y, ns, es, rfl, hp, he, hB, fun v H' ⟨t, d, e⟩ => k v H' t d e⟩
abbrev s_marked : Stmt := top 19
theorem sc_marked : FnScope ["_law_box_here", "_law_pool", "_law_errors_here", "_law_way"] ["_law_box_here", "_law_pool", "_law_errors_here", "_law_way"] (defScope s_marked) := ⟨rfl, rfl, rfl, by decide +kernel, rfl, by decide +kernel, by decide +kernel⟩

theorem ok_marked (T : Bl mg) (G_take : CTake P w K mg base) (G_plain : Cal P w K mg base 3 "_law_plain" ["_law_box_here"] (spPlain K)) (G_pending : Cal P w K mg base 4 "_law_pending" ["_law_box_here", "_law_pool", "_law_errors_here"] (spPending K)) (D : Def1 K mg "_law_marked" s_marked) :
    Cal P w K mg base 5 "_law_marked" ["_law_box_here", "_law_pool", "_law_errors_here", "_law_way"] (spMarked K) := by
  refine D.cal sc_marked (fun _ _ _ _ _ _ us hl => match us, hl with | [_, _, _, _], _ => rfl) (fun vs H Q E h => ?_) (fun f cdv A outer s H vs Q E hr h => ?_) <;> unfold spMarked at h
  · obtain ⟨b, p, e, n, y, ns, es, rfl, _⟩ := h
    rfl
  · obtain ⟨b, p, e, n, y, ns, es, rfl, ⟨sp, np, lp, tp⟩, ⟨se, ne, le, te⟩, hB, k⟩ := h
    refine ⟨_, (pss_cons (ps_if (PW.pt (pw_and (ptTru K (pv 2)) (pw_and1 (pt_cmpR op_lt (pv 3) pe_int (nomark _)))))
      (pss_one (ps_ret (pe_tup (pa_cons pe_str (pa_cons (pe_ix (ixL K) (pv 2) (pe_cal G_take (hr.mono (by omega)) (by rfl) (pa_cons (pv 0) (pa_cons (pe_callB (cLen K) (by rfl) T.z_len (by decide +kernel) (pa_cons (pv 2) pa_nil)) pa_nil))) (fun _ _ => rfl)) pa_nil)))))
      pss_nil)
    (pss_cons (ps_if (pt_cmpR op_lt (pv 3) pe_int (nomark _))
      (pss_one (ps_ret (pe_cal G_pending (hr.mono (by omega)) (by rfl) (pa_cons (pv 0) (pa_cons (pv 1) (pa_cons (pv 2) pa_nil))))))
      pss_nil)
    (pss_cons (ps_if (pt_cmpR op_eq (pv 3) pe_int (nomark _))
      (pss_one (ps_ret (pe_tup (pa_cons pe_str pa_nil))))
      pss_nil)
    (pss_cons (ps_if (PW.pt (pw_and (ptTru K (pv 1)) (pw_and1 (pt_cmpR op_lt (pv 3) pe_int (nomark _)))))
      (pss_one (ps_ret (pe_tup (pa_cons pe_str (pa_cons (pe_ix (ixL K) (pv 1) (pe_cal G_take (hr.mono (by omega)) (by rfl) (pa_cons (pv 0) (pa_cons (pe_callB (cLen K) (by rfl) T.z_len (by decide +kernel) (pa_cons (pv 1) pa_nil)) pa_nil))) (fun _ _ => rfl)) pa_nil)))))
      pss_nil)
    (pss_one (ps_ret (pe_cal G_plain (hr.mono (by omega)) (by rfl) (pa_cons (pv 0) pa_nil)))))))), ?_⟩
    tm_at "goo"
    all_goals tm_at "finE"
local macro_rules | `(tactic| tm_at "call") => `(tactic| (apply marked_step; tm_at "hp"; tm_at "ix"; tm_at "ix"; intro v H1 t hd he hB fr))
@[irreducible] def spEntry (K : PySem.W.Frag) : Sp := fun vs H Q _ => ∃ (b p e : Addr) (n y : Int) (ns es : List Int), vs = [.ref b, .ref p, .ref e, .int y] ∧ Ix K H p b n ns ∧ Ix K H e b n es ∧ Dr b (fun H' v => ∃ t, Den K H' v t ∧ EntOk n t) H Q
theorem entry_step {b p e : Addr} {n y : Int} {ns es : List Int} {H : Hp} {Q : VK} {E : XK} (hB : Box H b) (hp : Ix K H p b n ns) (he : Ix K H e b n es) (k : ∀ v H' t, Den K H' v t → EntOk n t → Box H' b → Fr [b] H H' → Q v H') : spEntry K ([.ref b, .ref p, .ref e, .int y] ++ []) H Q E := by
  unfold spEntry
  exact ⟨b, p, e, n, y, ns, es, rfl, hp, he, hB, fun v H' ⟨t, d, e⟩ => k v H' t d e⟩
abbrev s_entry : Stmt := top 20
theorem sc_entry : FnScope ["_law_box_here", "_law_pool", "_law_errors_here", "_law_marks_here", "_law_way"] ["_law_box_here", "_law_pool", "_law_errors_here", "_law_marks_here"] (defScope s_entry) := ⟨rfl, rfl, rfl, by decide +kernel, rfl, by decide +kernel, by decide +kernel⟩

theorem ok_entry (T : Bl mg) (G_take : CTake P w K mg base) (G_plain : Cal P w K mg base 3 "_law_plain" ["_law_box_here"] (spPlain K)) (G_marked : Cal P w K mg base 5 "_law_marked" ["_law_box_here", "_law_pool", "_law_errors_here", "_law_way"] (spMarked K)) (D : Def1 K mg "_law_entry" s_entry) :
    Cal P w K mg base 6 "_law_entry" ["_law_box_here", "_law_pool", "_law_errors_here", "_law_marks_here"] (spEntry K) := by
  refine D.cal sc_entry (fun _ _ _ _ _ _ us hl => match us, hl with | [_, _, _, _], _ => rfl) (fun vs H Q E h => ?_) (fun f cdv A outer s H vs Q E hr h => ?_) <;> unfold spEntry at h
  · obtain ⟨b, p, e, n, y, ns, es, rfl, _⟩ := h
    rfl
  · obtain ⟨b, p, e, n, y, ns, es, rfl, ⟨sp, np, lp, tp⟩, ⟨se, ne, le, te⟩, hB, k⟩ := h
    refine ⟨_, (pss_cons (ps_set (i := 4) sc_entry.nd rfl (Or.inl rfl) (pe_cal G_take (hr.mono (by omega)) (by rfl) (pa_cons (pv 0) (pa_cons pe_int pa_nil))))
    (pss_cons (ps_if (pt_cmpR op_gt (pv 3) pe_int (nomark _))
      (pss_one (ps_ret (pe_cal G_marked (hr.mono (by omega)) (by rfl) (pa_cons (pv 0) (pa_cons (pv 1) (pa_cons (pv 2) (pa_cons (pv 4) pa_nil)))))))
      pss_nil)
    (pss_cons (ps_if (PW.pt (pw_and (ptTru K (pv 1)) (pw_and1 (pt_cmpR op_lt (pv 4) pe_int (nomark _)))))
      (pss_one (ps_ret (pe_tup (pa_cons pe_str (pa_cons (pe_ix (ixL K) (pv 1) (pe_cal G_take (hr.mono (by omega)) (by rfl) (pa_cons (pv 0) (pa_cons (pe_callB (cLen K) (by rfl) T.z_len (by decide +kernel) (pa_cons (pv 1) pa_nil)) pa_nil))) (fun _ _ => rfl)) pa_nil)))))
      pss_nil)
    (pss_cons (ps_if (PW.pt (pw_and (pt_cmpR op_gt (pv 3) pe_int (nomark _)) (pw_and1 (pt_cmpR op_eq (pv 4) pe_int (nomark _)))))
      (pss_one (ps_ret (pe_tup (pa_cons pe_str pa_nil))))
      pss_nil)
    (pss_one (ps_ret (pe_cal G_plain (hr.mono (by omega)) (by rfl) (pa_cons (pv 0) pa_nil)))))))), ?_⟩
    tm_at "goo"
    all_goals tm_at "finE"
end
end M14
set_option Elab.async false
set_option linter.all false
set_option maxRecDepth 100000
set_option maxHeartbeats 4000000
namespace M14
open PySem PySem.Spec PyProof.Rows L2

section
variable {P : Program} {w : World} {K : PySem.W.Frag} {mg : Str → Option Value} {base : Heap}
set_option hygiene false
local macro_rules | `(tactic| tm_at "sc") => `(tactic| (first | omega | (simp only [List.length_cons, List.length_nil, List.length_map, List.length_set, List.length_append]; omega) | (simp only [List.length_map] at h1 ⊢; omega) | (simp only [List.length_map] at c ⊢; omega) | with_reducible assumption | exact And.intro (by omega) (by omega) | exact Or.inl (And.intro (by omega) (by omega)) | exact Or.inr (And.intro (by omega) (by omega)) | decide +kernel | exact len1000 (by simp) | rfl | fail "no way"))
local macro_rules | `(tactic| tm_at "sc1") => `(tactic| (focus (simp; done)))
local macro_rules | `(tactic| tm_at "ne") => `(tactic| (first | assumption | exact Ne.symm (by assumption) | (apply Box.ne2; assumption; tm_at "hp") | (apply Ne.symm; apply Box.ne2; assumption; tm_at "hp") | (apply ne_of_none2; assumption; tm_at "hp") | (apply Ne.symm; apply ne_of_none2; assumption; tm_at "hp") | fail "no way"))
local macro_rules | `(tactic| tm_at "f0") => `(tactic| (first | assumption | (apply Fr.new; assumption) | fail "no way"))
local macro_rules | `(tactic| tm_at "hp") => `(tactic| (first | assumption | exact upd_same | (apply SqL.of; first | assumption | exact upd_same) | (apply Fr.at0; tm_at "f0"; tm_at "hp") | (apply Fr.at1n; assumption; tm_at "ne"; tm_at "hp") | (apply sqFr0; tm_at "f0"; tm_at "hp") | (apply sqFr1; assumption; tm_at "ne"; tm_at "hp") | (apply Box.fr0; tm_at "f0"; tm_at "hp") | (apply Box.fr1; assumption; tm_at "ne"; tm_at "hp") | (apply Den.fr; tm_at "f0"; tm_at "hp") | (apply Dens.fr; tm_at "f0"; tm_at "hp") | fail "no way"))
local macro_rules | `(tactic| tm_at "free0") => `(tactic| (first | assumption | (apply updFree; assumption) | (apply updFree; apply updFree; assumption) | (apply updFree; apply updFree; apply updFree; assumption) | (apply updFree; apply updFree; apply updFree; apply updFree; assumption) | fail "no way"))
local macro_rules | `(tactic| tm_at "free") => `(tactic| (first | tm_at "free0" | (apply Fr.free; assumption; tm_at "free0") | (apply Box.free; assumption; tm_at "fr"; tm_at "free0") | (apply Fr.free; assumption; apply Fr.free; assumption; tm_at "free0") | fail "no way"))
local macro_rules | `(tactic| tm_at "fr") => `(tactic| (first | assumption | exact Fr.refl0 _ | exact Fr.refl (Box.nt (by assumption)) | (refine Fr.comp0 ?_ (by tm_at "f0"); tm_at "fr") | (refine Fr.comp ?_ (by assumption); tm_at "fr") | (refine Fr.compN ?_ (by assumption) (by tm_at "free"); tm_at "fr") | fail "no way"))
local macro_rules | `(tactic| tm_at "call") => `(tactic| fail "no call")
local macro_rules | `(tactic| tm_at "call") => `(tactic| (apply take_step; tm_at "hp"; tm_at "sc"; tm_at "sc"; intro r H1 h0 h1 hB fr))
local macro_rules | `(tactic| tm_at "ty") => `(tactic| (first | assumption | exact .base .non | exact .base (.bl _) | exact .base (.int _) | exact .base (.str _) | (apply TyX.base; apply TyOf.lst; tm_at "hp") | (apply TyX.base; apply TyOf.tup; tm_at "hp") | fail "no way"))
local macro_rules | `(tactic| tm_at "pre") => `(tactic| fail "none")
local macro_rules | `(tactic| tm_at "go1") => `(tactic| (first | tm_at "pre" | refine ⟨_, rfl, ?_⟩ | refine ⟨_, _, rfl, rfl, ?_⟩ | (apply set_step; tm_at "hp"; tm_at "sc"; tm_at "sc"; intro H1 hp fr) | (with_reducible refine iteDI ?_ ?_ <;> intro c) | (with_reducible refine iteDS ?_ ?_ <;> intro c) | (with_reducible refine iteD ?_ ?_ <;> intro c) | (with_reducible refine iteEM ?_ ?_ <;> intro c) | (with_reducible refine iteE ?_ ?_ <;> intro c) | with_reducible refine iteN ?_ | with_reducible refine iteF ?_ | with_reducible refine iteT ?_ | (refine fun (p : Addr) (np : _ = (none : Option HO)) => ?_; fail_if_success (refine ⟨fun (_ _ : Nat) (_ : Hp) => True, ?_⟩)) | (apply isi_tt; tm_at "ty"; focus (decide +kernel)) | (apply isi_ff; tm_at "ty"; focus (decide +kernel)) | (apply sl_step; tm_at "hp"; intro qq H1 ms nq hq fr) | (apply sum_step; tm_at "hp"; intro i) | (apply tru_step; tm_at "hp") | (apply len_step; tm_at "hp") | (apply lenq_step; assumption) | (apply ixq_step; assumption; tm_at "sc"; tm_at "sc"; intro v hv) | (apply lst_step; tm_at "hp") | (apply tupl_step; tm_at "hp") | (apply ixr_step; tm_at "hp"; exact rfl) | (apply ix0_step; tm_at "hp") | (apply ix1_step; tm_at "hp") | (apply ix2_step; tm_at "hp") | (apply ixi_step; tm_at "hp"; tm_at "sc"; tm_at "sc"; intro n hn hn') | (apply ixl_step; tm_at "hp"; tm_at "sc"; tm_at "sc"; intro v hv) | (apply ixt_step; tm_at "hp"; tm_at "sc"; tm_at "sc"; intro v hm hv) | (apply in_step; tm_at "hp"; rfl; rfl) | (apply cat_step; tm_at "hp"; tm_at "hp"; tm_at "sc") | (apply catT_step; tm_at "hp"; tm_at "hp"; tm_at "sc1") | (apply tyL_and; tm_at "hp") | (apply app_step; tm_at "hp"; tm_at "sc"; intro H1 hp fr) | tm_at "call" | refine ⟨⟨_, rfl⟩, ?_⟩ | (apply ixs_step; tm_at "sc"; tm_at "sc"; tm_at "sc"; intro ch) | refine .inl ⟨_, rfl, ?_⟩ | refine .inr ⟨_, rfl, ?_⟩ | (apply And.intro; tm_at "sc") | (with_reducible refine wayB ?_ ?_ <;> intro c) | fail "no way"))
local macro_rules | `(tactic| tm_at "go") => `(tactic| (repeat tm_at "go1"))
local macro_rules | `(tactic| tm_at "goo") => `(tactic| (repeat' tm_at "go1"))
local macro_rules | `(tactic| tm_at "den") => `(tactic| (first | assumption | exact Den.str _ | exact Den.int _ | exact Den.bl _ | exact Den.non | (apply Den.tups; tm_at "hp"; tm_at "dens") | (apply Den.fr; tm_at "f0"; tm_at "den") | fail "no way"))
local macro_rules | `(tactic| tm_at "dens") => `(tactic| (first | assumption | exact Dens.nil | (apply Dens.cons; tm_at "den"; tm_at "dens") | (apply Dens.fr; tm_at "f0"; tm_at "dens") | fail "no way"))
local macro_rules | `(tactic| tm_at "ix") => `(tactic| (apply Ix.mk; tm_at "hp"; tm_at "ne"; assumption; assumption))
local macro_rules | `(tactic| tm_at "dep") => `(tactic| (first | assumption | exact Dep.int | exact Dep.str | exact Dep.bl | exact Dep.non | (apply Dep.tup; tm_at "dlen"; tm_at "deps") | (apply Dep.mono; assumption; decide) | fail "no way"))
local macro_rules | `(tactic| tm_at "deps") => `(tactic| (first | assumption | exact memN | (apply memC; tm_at "dep"; tm_at "deps") | fail "no way"))
local macro_rules | `(tactic| tm_at "dlen") => `(tactic| (first | assumption | (focus (simp; done)) | omega | fail "no way"))

local macro_rules | `(tactic| tm_at "call") => `(tactic| (apply word_step; tm_at "hp"; intro v H1 hv hB fr))
local macro_rules | `(tactic| tm_at "call") => `(tactic| (apply name_step; tm_at "hp"; intro v H1 hv hB fr))
local macro_rules | `(tactic| tm_at "call") => `(tactic| (apply plain_step; tm_at "hp"; intro v H1 t hd he hB fr))
local macro_rules | `(tactic| tm_at "call") => `(tactic| (apply entry_step; tm_at "hp"; tm_at "ix"; tm_at "ix"; intro v H1 t hd he hB fr))
local macro_rules | `(tactic| tm_at "call") => `(tactic| (apply kinds_step; intro p H1 np hp fr))
local macro_rules | `(tactic| tm_at "call") => `(tactic| (apply kind_step; tm_at "hp"; intro v H1 hv hB fr))
local macro_rules | `(tactic| tm_at "call") => `(tactic| (apply marks_step; intro m))
local macro_rules | `(tactic| tm_at "pre") => `(tactic| (apply strInt_step; tm_at "sc"; intro s hs))
local macro_rules | `(tactic| tm_at "pre") => `(tactic| (apply addS_step; tm_at "sc"; intro s hs))

/-! ### kinds and tags -/
def kindsV : List V := [.str (Str.ofString "list"), .str (Str.ofString "tuple"), .str (Str.ofString "dict"), .str (Str.ofString "cell"), .str (Str.ofString "function"), .str (Str.ofString "method"), .str (Str.ofString "class"), .str (Str.ofString "instance"), .str (Str.ofString "iterator"), .str (Str.ofString "generator")]
@[irreducible] def spKinds : Sp := fun vs H Q _ => vs = [] ∧ ∀ p H', H p = none → H' p = some (.tup kindsV) → Fr [] H H' → Q (.ref p) H'
theorem kinds_step {H : Hp} {Q : VK} {E : XK} (k : ∀ p H', H p = none → H' p = some (.tup kindsV) → Fr [] H H' → Q (.ref p) H') : spKinds ([] ++ []) H Q E := by unfold spKinds; exact ⟨rfl, k⟩
abbrev s_kinds : Stmt := top 21
theorem sc_kinds : FnScope ["_law_first"] [] (defScope s_kinds) := ⟨rfl, rfl, rfl, by decide +kernel, rfl, by decide +kernel, by decide +kernel⟩

theorem ok_kinds (D : Def1 K mg "_law_kinds" s_kinds) : Cal P w K mg base 1 "_law_kinds" [] spKinds := by
  refine D.cal sc_kinds (fun _ _ _ _ _ _ us hl => match us, hl with | [], _ => rfl) (fun vs H Q E h => ?_) (fun f cdv A outer s H vs Q E hr h => ?_) <;> unfold spKinds at h
  · obtain ⟨rfl, _⟩ := h
    rfl
  · obtain ⟨rfl, k⟩ := h
    refine ⟨_, (pss_cons (ps_set (i := 0) sc_kinds.nd rfl (Or.inl rfl) (pe_tup (pa_cons pe_str (pa_cons pe_str (pa_cons pe_str (pa_cons pe_str (pa_cons pe_str pa_nil)))))))
    (pss_one (ps_ret (pe_op (opCatT K) (pv 0) (pe_tup (pa_cons pe_str (pa_cons pe_str (pa_cons pe_str (pa_cons pe_str (pa_cons pe_str pa_nil)))))))))), ?_⟩
    tm_at "goo"
    exact k _ _ (by tm_at "free") upd_same (by tm_at "fr")
local macro_rules | `(tactic| tm_at "call") => `(tactic| (apply kinds_step; intro p H1 np hp fr))
@[irreducible] def spKind : Sp := fun vs H Q _ => ∃ b : Addr, vs = [.ref b] ∧ Dr b (fun _ v => isS 100 v) H Q
theorem kind_step {b : Addr} {H : Hp} {Q : VK} {E : XK} (hB : Box H b) (k : ∀ v H', isS 100 v → Box H' b → Fr [b] H H' → Q v H') : spKind ([.ref b] ++ []) H Q E := by unfold spKind; exact ⟨b, rfl, hB, k⟩
abbrev s_kind : Stmt := top 22
theorem sc_kind : FnScope ["_law_box_here", "_law_menu"] ["_law_box_here"] (defScope s_kind) := ⟨rfl, rfl, rfl, by decide +kernel, rfl, by decide +kernel, by decide +kernel⟩

theorem ok_kind (T : Bl mg) (G_take : CTake P w K mg base) (G_kinds : Cal P w K mg base 1 "_law_kinds" [] spKinds) (D : Def1 K mg "_law_kind" s_kind) : Cal P w K mg base 2 "_law_kind" ["_law_box_here"] spKind := by
  refine D.cal sc_kind (fun _ _ _ _ _ _ us hl => match us, hl with | [_], _ => rfl) (fun vs H Q E h => ?_) (fun f cdv A outer s H vs Q E hr h => ?_) <;> unfold spKind at h
  · obtain ⟨b, rfl, _⟩ := h
    rfl
  · obtain ⟨b, rfl, hB, k⟩ := h
    refine ⟨_, (pss_cons (ps_set (i := 1) sc_kind.nd rfl (Or.inl rfl) (pe_op (opCatT K) (pe_cal0 G_kinds (hr.mono (by omega)) (by rfl)) (pe_tup (pa_cons pe_str (pa_cons pe_str (pa_cons pe_str (pa_cons pe_str pa_nil)))))))
    (pss_one (ps_ret (pe_ix (ixT K) (pv 1) (pe_cal G_take (hr.mono (by omega)) (by rfl) (pa_cons (pv 0) (pa_cons pe_int pa_nil))) (fun _ _ => rfl))))), ?_⟩
    tm_at "goo"
    exact k _ _ (isS_of (by decide +kernel) hm) (by tm_at "hp") (by tm_at "fr")
local macro_rules | `(tactic| tm_at "call") => `(tactic| (apply kind_step; tm_at "hp"; intro v H1 hv hB fr))
@[irreducible] def spMarks : Sp := fun vs H Q _ => ∃ s : Str, vs = [.str s] ∧ ∀ m : Int, Q (.int m) H
theorem marks_step {s : Str} {H : Hp} {Q : VK} {E : XK} (k : ∀ m : Int, Q (.int m) H) : spMarks ([.str s] ++ []) H Q E := by unfold spMarks; exact ⟨s, rfl, k⟩
abbrev s_marks : Stmt := top 23
theorem sc_marks : FnScope ["_law_kind_here"] ["_law_kind_here"] (defScope s_marks) := ⟨rfl, rfl, rfl, by decide +kernel, rfl, by decide +kernel, by decide +kernel⟩

theorem ok_marks (T : Bl mg) (D : Def1 K mg "_law_marks" s_marks) : Cal P w K mg base 1 "_law_marks" ["_law_kind_here"] spMarks := by
  refine D.cal sc_marks (fun _ _ _ _ _ _ us hl => match us, hl with | [_], _ => rfl) (fun vs H Q E h => ?_) (fun f cdv A outer s H vs Q E hr h => ?_) <;> unfold spMarks at h
  · obtain ⟨b, rfl, _⟩ := h
    rfl
  · obtain ⟨x, rfl, k⟩ := h
    refine ⟨_, (pss_one (ps_ret (pe_op op_add (pe_op op_mul pe_int (pe_callTy call_int1 (by rfl) T.z_int (by decide +kernel) (pa_cons (pe_cmpR op_eq (pv 0) pe_str (nomark _)) pa_nil))) (pe_callTy call_int1 (by rfl) T.z_int (by decide +kernel) (pa_cons (pe_cmpR op_eq (pv 0) pe_str (nomark _)) pa_nil))))), ?_⟩
    tm_at "goo"
    exact k _
end
end M14
set_option Elab.async false
set_option linter.all false
set_option maxRecDepth 100000
set_option maxHeartbeats 4000000
namespace M14
open PySem PySem.Spec PyProof.Rows L2

section
variable {P : Program} {w : World} {K : PySem.W.Frag} {mg : Str → Option Value} {base : Heap}
set_option hygiene false
local macro_rules | `(tactic| tm_at "sc") => `(tactic| (first | omega | (simp only [List.length_cons, List.length_nil, List.length_map, List.length_set, List.length_append]; omega) | (simp only [List.length_map] at h1 ⊢; omega) | (simp only [List.length_map] at c ⊢; omega) | with_reducible assumption | exact And.intro (by omega) (by omega) | exact Or.inl (And.intro (by omega) (by omega)) | exact Or.inr (And.intro (by omega) (by omega)) | decide +kernel | exact len1000 (by simp) | rfl | fail "no way"))
local macro_rules | `(tactic| tm_at "sc1") => `(tactic| (focus (simp; done)))
local macro_rules | `(tactic| tm_at "ne") => `(tactic| (first | assumption | exact Ne.symm (by assumption) | (apply Box.ne2; assumption; tm_at "hp") | (apply Ne.symm; apply Box.ne2; assumption; tm_at "hp") | (apply ne_of_none2; assumption; tm_at "hp") | (apply Ne.symm; apply ne_of_none2; assumption; tm_at "hp") | fail "no way"))
local macro_rules | `(tactic| tm_at "f0") => `(tactic| (first | assumption | (apply Fr.new; assumption) | fail "no way"))
local macro_rules | `(tactic| tm_at "hp") => `(tactic| (first | assumption | exact upd_same | (apply SqL.of; first | assumption | exact upd_same) | (apply Fr.at0; tm_at "f0"; tm_at "hp") | (apply Fr.at1n; assumption; tm_at "ne"; tm_at "hp") | (apply sqFr0; tm_at "f0"; tm_at "hp") | (apply sqFr1; assumption; tm_at "ne"; tm_at "hp") | (apply Box.fr0; tm_at "f0"; tm_at "hp") | (apply Box.fr1; assumption; tm_at "ne"; tm_at "hp") | (apply Den.fr; tm_at "f0"; tm_at "hp") | (apply Dens.fr; tm_at "f0"; tm_at "hp") | fail "no way"))
local macro_rules | `(tactic| tm_at "free0") => `(tactic| (first | assumption | (apply updFree; assumption) | (apply updFree; apply updFree; assumption) | (apply updFree; apply updFree; apply updFree; assumption) | (apply updFree; apply updFree; apply updFree; apply updFree; assumption) | fail "no way"))
local macro_rules | `(tactic| tm_at "free") => `(tactic| (first | tm_at "free0" | (apply Fr.free; assumption; tm_at "free0") | (apply Box.free; assumption; tm_at "fr"; tm_at "free0") | (apply Fr.free; assumption; apply Fr.free; assumption; tm_at "free0") | fail "no way"))
local macro_rules | `(tactic| tm_at "fr") => `(tactic| (first | assumption | exact Fr.refl0 _ | exact Fr.refl (Box.nt (by assumption)) | (refine Fr.comp0 ?_ (by tm_at "f0"); tm_at "fr") | (refine Fr.comp ?_ (by assumption); tm_at "fr") | (refine Fr.compN ?_ (by assumption) (by tm_at "free"); tm_at "fr") | fail "no way"))
local macro_rules | `(tactic| tm_at "call") => `(tactic| fail "no call")
local macro_rules | `(tactic| tm_at "call") => `(tactic| (apply take_step; tm_at "hp"; tm_at "sc"; tm_at "sc"; intro r H1 h0 h1 hB fr))
local macro_rules | `(tactic| tm_at "ty") => `(tactic| (first | assumption | exact .base .non | exact .base (.bl _) | exact .base (.int _) | exact .base (.str _) | (apply TyX.base; apply TyOf.lst; tm_at "hp") | (apply TyX.base; apply TyOf.tup; tm_at "hp") | fail "no way"))
local macro_rules | `(tactic| tm_at "pre") => `(tactic| fail "none")
local macro_rules | `(tactic| tm_at "go1") => `(tactic| (first | tm_at "pre" | refine ⟨_, rfl, ?_⟩ | refine ⟨_, _, rfl, rfl, ?_⟩ | (apply set_step; tm_at "hp"; tm_at "sc"; tm_at "sc"; intro H1 hp fr) | (with_reducible refine iteDI ?_ ?_ <;> intro c) | (with_reducible refine iteDS ?_ ?_ <;> intro c) | (with_reducible refine iteD ?_ ?_ <;> intro c) | (with_reducible refine iteEM ?_ ?_ <;> intro c) | (with_reducible refine iteE ?_ ?_ <;> intro c) | with_reducible refine iteN ?_ | with_reducible refine iteF ?_ | with_reducible refine iteT ?_ | (refine fun (p : Addr) (np : _ = (none : Option HO)) => ?_; fail_if_success (refine ⟨fun (_ _ : Nat) (_ : Hp) => True, ?_⟩)) | (apply isi_tt; tm_at "ty"; focus (decide +kernel)) | (apply isi_ff; tm_at "ty"; focus (decide +kernel)) | (apply sl_step; tm_at "hp"; intro qq H1 ms nq hq fr) | (apply sum_step; tm_at "hp"; intro i) | (apply tru_step; tm_at "hp") | (apply len_step; tm_at "hp") | (apply lenq_step; assumption) | (apply ixq_step; assumption; tm_at "sc"; tm_at "sc"; intro v hv) | (apply lst_step; tm_at "hp") | (apply tupl_step; tm_at "hp") | (apply ixr_step; tm_at "hp"; exact rfl) | (apply ix0_step; tm_at "hp") | (apply ix1_step; tm_at "hp") | (apply ix2_step; tm_at "hp") | (apply ixi_step; tm_at "hp"; tm_at "sc"; tm_at "sc"; intro n hn hn') | (apply ixl_step; tm_at "hp"; tm_at "sc"; tm_at "sc"; intro v hv) | (apply ixt_step; tm_at "hp"; tm_at "sc"; tm_at "sc"; intro v hm hv) | (apply in_step; tm_at "hp"; rfl; rfl) | (apply cat_step; tm_at "hp"; tm_at "hp"; tm_at "sc") | (apply catT_step; tm_at "hp"; tm_at "hp"; tm_at "sc1") | (apply tyL_and; tm_at "hp") | (apply app_step; tm_at "hp"; tm_at "sc"; intro H1 hp fr) | tm_at "call" | refine ⟨⟨_, rfl⟩, ?_⟩ | (apply ixs_step; tm_at "sc"; tm_at "sc"; tm_at "sc"; intro ch) | refine .inl ⟨_, rfl, ?_⟩ | refine .inr ⟨_, rfl, ?_⟩ | (apply And.intro; tm_at "sc") | (with_reducible refine wayB ?_ ?_ <;> intro c) | fail "no way"))
local macro_rules | `(tactic| tm_at "go") => `(tactic| (repeat tm_at "go1"))
local macro_rules | `(tactic| tm_at "goo") => `(tactic| (repeat' tm_at "go1"))
local macro_rules | `(tactic| tm_at "den") => `(tactic| (first | assumption | exact Den.str _ | exact Den.int _ | exact Den.bl _ | exact Den.non | (apply Den.tups; tm_at "hp"; tm_at "dens") | (apply Den.fr; tm_at "f0"; tm_at "den") | fail "no way"))
local macro_rules | `(tactic| tm_at "dens") => `(tactic| (first | assumption | exact Dens.nil | (apply Dens.cons; tm_at "den"; tm_at "dens") | (apply Dens.fr; tm_at "f0"; tm_at "dens") | fail "no way"))
local macro_rules | `(tactic| tm_at "ix") => `(tactic| (apply Ix.mk; tm_at "hp"; tm_at "ne"; assumption; assumption))
local macro_rules | `(tactic| tm_at "dep") => `(tactic| (first | assumption | exact Dep.int | exact Dep.str | exact Dep.bl | exact Dep.non | (apply Dep.tup; tm_at "dlen"; tm_at "deps") | (apply Dep.mono; assumption; decide) | fail "no way"))
local macro_rules | `(tactic| tm_at "deps") => `(tactic| (first | assumption | exact memN | (apply memC; tm_at "dep"; tm_at "deps") | fail "no way"))
local macro_rules | `(tactic| tm_at "dlen") => `(tactic| (first | assumption | (focus (simp; done)) | omega | fail "no way"))

local macro_rules | `(tactic| tm_at "call") => `(tactic| (apply word_step; tm_at "hp"; intro v H1 hv hB fr))
local macro_rules | `(tactic| tm_at "call") => `(tactic| (apply name_step; tm_at "hp"; intro v H1 hv hB fr))
local macro_rules | `(tactic| tm_at "call") => `(tactic| (apply plain_step; tm_at "hp"; intro v H1 t hd he hB fr))
local macro_rules | `(tactic| tm_at "call") => `(tactic| (apply entry_step; tm_at "hp"; tm_at "ix"; tm_at "ix"; intro v H1 t hd he hB fr))
local macro_rules | `(tactic| tm_at "call") => `(tactic| (apply kinds_step; intro p H1 np hp fr))
local macro_rules | `(tactic| tm_at "call") => `(tactic| (apply kind_step; tm_at "hp"; intro v H1 hv hB fr))
local macro_rules | `(tactic| tm_at "call") => `(tactic| (apply marks_step; intro m))
local macro_rules | `(tactic| tm_at "pre") => `(tactic| (apply strInt_step; tm_at "sc"; intro s hs))
local macro_rules | `(tactic| tm_at "pre") => `(tactic| (apply addS_step; tm_at "sc"; intro s hs))

local macro_rules | `(tactic| tm_at "finT") => `(tactic| (refine k _ _ ?_ (by tm_at "hp") (by tm_at "fr"); apply Exists.intro; apply And.intro; tm_at "den"; tm_at "dep"))
@[irreducible] def spTag (K : PySem.W.Frag) : Sp := fun vs H Q _ => ∃ (b : Addr) (kd : Str) (n : Int), vs = [.ref b, .str kd, .int n] ∧ 0 ≤ n ∧ n ≤ 1000 ∧ Dr b (fun H' v => ∃ t, Den K H' v t ∧ Dep 3 t) H Q
theorem tag_step {b : Addr} {kd : Str} {n : Int} {H : Hp} {Q : VK} {E : XK} (hB : Box H b) (h0 : 0 ≤ n) (h1 : n ≤ 1000) (k : ∀ v H' t, Den K H' v t → Dep 3 t → Box H' b → Fr [b] H H' → Q v H') : spTag K ([.ref b, .str kd, .int n] ++ []) H Q E := by
  unfold spTag
  exact ⟨b, kd, n, rfl, h0, h1, hB, fun v H' ⟨t, d, e⟩ => k v H' t d e⟩
abbrev s_tag : Stmt := top 24
theorem sc_tag : FnScope ["_law_box_here", "_law_kind_here", "_law_many", "_law_name_here", "_law_words", "_law_k"] ["_law_box_here", "_law_kind_here", "_law_many"] (defScope s_tag) := ⟨rfl, rfl, rfl, by decide +kernel, rfl, by decide +kernel, by decide +kernel⟩

theorem ok_tag (T : Bl mg) (G_take : CTake P w K mg base) (G_name : CName P w K mg base) (D : Def1 K mg "_law_tag" s_tag) : Cal P w K mg base 3 "_law_tag" ["_law_box_here", "_law_kind_here", "_law_many"] (spTag K) := by
  refine D.cal sc_tag (fun _ _ _ _ _ _ us hl => match us, hl with | [_, _, _], _ => rfl) (fun vs H Q E h => ?_) (fun f cdv A outer s H vs Q E hr h => ?_) <;> unfold spTag at h
  · obtain ⟨b, kd, n, rfl, _⟩ := h
    rfl
  · obtain ⟨b, kd, n, rfl, n0, n1, hB, k⟩ := h
    refine ⟨_, (pss_cons (ps_if (pt_cmpR (opIn K) (pv 1) (pe_tup (pa_cons pe_str (pa_cons pe_str (pa_cons pe_str (pa_cons pe_str pa_nil))))) (by rfl))
      (pss_one (ps_ret pe_non))
      pss_nil)
    (pss_cons (ps_set (i := 3) sc_tag.nd rfl (Or.inr rfl) (pe_cal G_name (hr.mono (by omega)) (by rfl) (pa_cons (pv 0) pa_nil)))
    (pss_cons (ps_if (pt_cmpR op_eq (pv 1) pe_str (nomark _))
      (pss_one (ps_ret (pe_tup (pa_cons (pe_cal G_take (hr.mono (by omega)) (by rfl) (pa_cons (pv 0) (pa_cons pe_int pa_nil))) (pa_cons (pv 3) pa_nil)))))
      pss_nil)
    (pss_cons (ps_if (pt_cmpR op_eq (pv 1) pe_str (nomark _))
      (pss_one (ps_ret (pv 3)))
      pss_nil)
    (pss_cons (ps_if (pt_cmpR op_eq (pv 1) pe_str (nomark _))
      (pss_one (ps_ret (pe_tup (pa_cons (pe_op op_sub (pe_cal G_take (hr.mono (by omega)) (by rfl) (pa_cons (pv 0) (pa_cons pe_int pa_nil))) pe_int) (pa_cons (pe_cal G_take (hr.mono (by omega)) (by rfl) (pa_cons (pv 0) (pa_cons pe_int pa_nil))) pa_nil)))))
      pss_nil)
    (pss_cons (ps_set (i := 4) sc_tag.nd rfl (Or.inl rfl) (pe_callTy (cTuple K) (by rfl) T.z_tuple (by decide +kernel) (pa_cons (pe_lc (own := [("_law_k", 5)]) (g := gName 5) (by rfl) sc_tag.nd (pi_range1 (by rfl) T.z_range (pa_cons (pv 2) pa_nil)) (blkOk_by (own := [("_law_k", 5)]) (N := [("_law_box_here" : Str), ("_law_kind_here" : Str), ("_law_many" : Str), ("_law_name_here" : Str), ("_law_words" : Str), ("_law_k" : Str)]) (sc := defScope s_tag) (by decide +kernel)) (fun _ _ _ _ _ => pg_name (i := 5) sc_tag.nd rfl (Or.inl rfl)) (fun _ _ _ _ _ => pts_nil) (fun _ _ _ _ _ => (pe_op op_addT (pv 3) (pe_callTy call_strI (by rfl) T.z_str (by decide +kernel) (pa_cons (pv 5) pa_nil))))) pa_nil)))
    (pss_cons (ps_if (pt_cmpR op_eq (pv 1) pe_str (nomark _))
      (pss_one (ps_ret (pe_tup (pa_cons (pv 3) (pa_cons (pv 4) pa_nil)))))
      pss_nil)
    (pss_cons (ps_if (pt_cmpR op_eq (pv 1) pe_str (nomark _))
      (pss_one (ps_ret (pe_tup (pa_cons (pv 4) (pa_cons (pe_callTy (cTuple K) (by rfl) T.z_tuple (by decide +kernel) (pa_cons (pe_lc (own := [("_law_k", 5)]) (g := gName 5) (by rfl) sc_tag.nd (pi_range1 (by rfl) T.z_range (pa_cons (pe_cal G_take (hr.mono (by omega)) (by rfl) (pa_cons (pv 0) (pa_cons pe_int pa_nil))) pa_nil)) (blkOk_by (own := [("_law_k", 5)]) (N := [("_law_box_here" : Str), ("_law_kind_here" : Str), ("_law_many" : Str), ("_law_name_here" : Str), ("_law_words" : Str), ("_law_k" : Str)]) (sc := defScope s_tag) (by decide +kernel)) (fun _ _ _ _ _ => pg_name (i := 5) sc_tag.nd rfl (Or.inl rfl)) (fun _ _ _ _ _ => pts_nil) (fun _ _ _ _ _ => (pe_tup (pa_cons (pe_cal G_name (hr.mono (by omega)) (by rfl) (pa_cons (pv 0) pa_nil)) (pa_cons (pe_cal G_take (hr.mono (by omega)) (by rfl) (pa_cons (pv 0) (pa_cons pe_int pa_nil))) pa_nil))))) pa_nil)) pa_nil)))))
      pss_nil)
    (pss_one (ps_ret (pe_tup (pa_cons pe_str (pa_cons (pv 3) (pa_cons (pe_cal G_take (hr.mono (by omega)) (by rfl) (pa_cons (pv 0) (pa_cons pe_int pa_nil))) (pa_cons (pe_tup pa_nil) (pa_cons (pe_tup (pa_cons (pe_cal G_take (hr.mono (by omega)) (by rfl) (pa_cons (pv 0) (pa_cons pe_int pa_nil))) (pa_cons (pe_cal G_take (hr.mono (by omega)) (by rfl) (pa_cons (pv 0) (pa_cons pe_int pa_nil))) pa_nil))) pa_nil)))))))))))))))), ?_⟩
    tm_at "goo"
    · tm_at "finT"
    · obtain ⟨u, rfl, hu⟩ := hv
      tm_at "finT"
    · obtain ⟨u, rfl, hu⟩ := hv
      tm_at "finT"
    · tm_at "finT"
    obtain ⟨u, rfl, hu⟩ := hv
    refine lcR (fun _ => true) (fun _ _ y => isS 10000 y) (Cg.nil _) stab_v (by omega) (fun i H hi hS f => tyes_ok trivial (fun _ h => nomatch h)) (fun i H hi _ hS f R kk => ?_) (fun D H' ys nD hD m _ f => ?_)
    · tm_at "goo"
      exact kk _ _ trivial (by tm_at "fr") ⟨_, rfl, hs⟩
    obtain ⟨ts, dts, pts⟩ := dens_strs (K := K) (H := H') (n := 10000) fun y hy => (let ⟨_, _, q⟩ := m.mem hy; q)
    have ltw : ts.length ≤ 1000 := by
      have q1 := dts.1
      have q2 := m.1
      rw [keptN_all, List.length_range] at q2
      omega
    have pt1 : ∀ t ∈ ts, Dep 1 t := fun t m => (pts t m).mono (by decide)
    tm_at "goo"
    · tm_at "finT"
    · refine lcR (fun _ => true) (fun H _ y => ∃ t, Den K H y t ∧ Dep 1 t) (Cg.box (by tm_at "hp")) stab_den (by omega) (fun i H hi hS f => tyes_ok hS hS.nt) (fun i H hi _ hS f R kk => ?_) (fun D H' ys nD hD m _ f => ?_)
      · tm_at "goo"
        obtain ⟨u2, rfl, hu2⟩ := hv
        refine kk _ _ (by tm_at "hp") (by tm_at "fr") ?_
        apply Exists.intro; apply And.intro; tm_at "den"; tm_at "dep"
      obtain ⟨ts2, dts2, pts2⟩ := dens_ex (K := K) (H := H') (p := Dep 1) fun y hy => (let ⟨_, _, q⟩ := m.mem hy; q)
      have ltw2 : ts2.length ≤ 1000 := by
        have q1 := dts2.1
        have q2 := m.1
        rw [keptN_all, List.length_range] at q2
        omega
      tm_at "goo"
      tm_at "finT"
    · tm_at "finT"
end
end M14
set_option Elab.async false
set_option linter.all false
set_option maxRecDepth 100000
set_option maxHeartbeats 4000000
namespace M14
open PySem PySem.Spec PyProof.Rows L2

section
variable {P : Program} {w : World} {K : PySem.W.Frag} {mg : Str → Option Value} {base : Heap}
set_option hygiene false
local macro_rules | `(tactic| tm_at "sc") => `(tactic| (first | omega | (simp only [List.length_cons, List.length_nil, List.length_map, List.length_set, List.length_append]; omega) | (simp only [List.length_map] at h1 ⊢; omega) | (simp only [List.length_map] at c ⊢; omega) | with_reducible assumption | exact And.intro (by omega) (by omega) | exact Or.inl (And.intro (by omega) (by omega)) | exact Or.inr (And.intro (by omega) (by omega)) | decide +kernel | exact len1000 (by simp) | rfl | fail "no way"))
local macro_rules | `(tactic| tm_at "sc1") => `(tactic| (focus (simp; done)))
local macro_rules | `(tactic| tm_at "ne") => `(tactic| (first | assumption | exact Ne.symm (by assumption) | (apply Box.ne2; assumption; tm_at "hp") | (apply Ne.symm; apply Box.ne2; assumption; tm_at "hp") | (apply ne_of_none2; assumption; tm_at "hp") | (apply Ne.symm; apply ne_of_none2; assumption; tm_at "hp") | fail "no way"))
local macro_rules | `(tactic| tm_at "f0") => `(tactic| (first | assumption | (apply Fr.new; assumption) | fail "no way"))
local macro_rules | `(tactic| tm_at "hp") => `(tactic| (first | assumption | exact upd_same | (apply SqL.of; first | assumption | exact upd_same) | (apply Fr.at0; tm_at "f0"; tm_at "hp") | (apply Fr.at1n; assumption; tm_at "ne"; tm_at "hp") | (apply sqFr0; tm_at "f0"; tm_at "hp") | (apply sqFr1; assumption; tm_at "ne"; tm_at "hp") | (apply Box.fr0; tm_at "f0"; tm_at "hp") | (apply Box.fr1; assumption; tm_at "ne"; tm_at "hp") | (apply Den.fr; tm_at "f0"; tm_at "hp") | (apply Dens.fr; tm_at "f0"; tm_at "hp") | fail "no way"))
local macro_rules | `(tactic| tm_at "free0") => `(tactic| (first | assumption | (apply updFree; assumption) | (apply updFree; apply updFree; assumption) | (apply updFree; apply updFree; apply updFree; assumption) | (apply updFree; apply updFree; apply updFree; apply updFree; assumption) | fail "no way"))
local macro_rules | `(tactic| tm_at "free") => `(tactic| (first | tm_at "free0" | (apply Fr.free; assumption; tm_at "free0") | (apply Box.free; assumption; tm_at "fr"; tm_at "free0") | (apply Fr.free; assumption; apply Fr.free; assumption; tm_at "free0") | fail "no way"))
local macro_rules | `(tactic| tm_at "fr") => `(tactic| (first | assumption | exact Fr.refl0 _ | exact Fr.refl (Box.nt (by assumption)) | (refine Fr.comp0 ?_ (by tm_at "f0"); tm_at "fr") | (refine Fr.comp ?_ (by assumption); tm_at "fr") | (refine Fr.compN ?_ (by assumption) (by tm_at "free"); tm_at "fr") | fail "no way"))
local macro_rules | `(tactic| tm_at "call") => `(tactic| fail "no call")
local macro_rules | `(tactic| tm_at "call") => `(tactic| (apply take_step; tm_at "hp"; tm_at "sc"; tm_at "sc"; intro r H1 h0 h1 hB fr))
local macro_rules | `(tactic| tm_at "ty") => `(tactic| (first | assumption | exact .base .non | exact .base (.bl _) | exact .base (.int _) | exact .base (.str _) | (apply TyX.base; apply TyOf.lst; tm_at "hp") | (apply TyX.base; apply TyOf.tup; tm_at "hp") | fail "no way"))
local macro_rules | `(tactic| tm_at "pre") => `(tactic| fail "none")
local macro_rules | `(tactic| tm_at "go1") => `(tactic| (first | tm_at "pre" | refine ⟨_, rfl, ?_⟩ | refine ⟨_, _, rfl, rfl, ?_⟩ | (apply set_step; tm_at "hp"; tm_at "sc"; tm_at "sc"; intro H1 hp fr) | (with_reducible refine iteDI ?_ ?_ <;> intro c) | (with_reducible refine iteDS ?_ ?_ <;> intro c) | (with_reducible refine iteD ?_ ?_ <;> intro c) | (with_reducible refine iteEM ?_ ?_ <;> intro c) | (with_reducible refine iteE ?_ ?_ <;> intro c) | with_reducible refine iteN ?_ | with_reducible refine iteF ?_ | with_reducible refine iteT ?_ | (refine fun (p : Addr) (np : _ = (none : Option HO)) => ?_; fail_if_success (refine ⟨fun (_ _ : Nat) (_ : Hp) => True, ?_⟩)) | (apply isi_tt; tm_at "ty"; focus (decide +kernel)) | (apply isi_ff; tm_at "ty"; focus (decide +kernel)) | (apply sl_step; tm_at "hp"; intro qq H1 ms nq hq fr) | (apply sum_step; tm_at "hp"; intro i) | (apply tru_step; tm_at "hp") | (apply len_step; tm_at "hp") | (apply lenq_step; assumption) | (apply ixq_step; assumption; tm_at "sc"; tm_at "sc"; intro v hv) | (apply lst_step; tm_at "hp") | (apply tupl_step; tm_at "hp") | (apply ixr_step; tm_at "hp"; exact rfl) | (apply ix0_step; tm_at "hp") | (apply ix1_step; tm_at "hp") | (apply ix2_step; tm_at "hp") | (apply ixi_step; tm_at "hp"; tm_at "sc"; tm_at "sc"; intro n hn hn') | (apply ixl_step; tm_at "hp"; tm_at "sc"; tm_at "sc"; intro v hv) | (apply ixt_step; tm_at "hp"; tm_at "sc"; tm_at "sc"; intro v hm hv) | (apply in_step; tm_at "hp"; rfl; rfl) | (apply cat_step; tm_at "hp"; tm_at "hp"; tm_at "sc") | (apply catT_step; tm_at "hp"; tm_at "hp"; tm_at "sc1") | (apply tyL_and; tm_at "hp") | (apply app_step; tm_at "hp"; tm_at "sc"; intro H1 hp fr) | tm_at "call" | refine ⟨⟨_, rfl⟩, ?_⟩ | (apply ixs_step; tm_at "sc"; tm_at "sc"; tm_at "sc"; intro ch) | refine .inl ⟨_, rfl, ?_⟩ | refine .inr ⟨_, rfl, ?_⟩ | (apply And.intro; tm_at "sc") | (with_reducible refine wayB ?_ ?_ <;> intro c) | fail "no way"))
local macro_rules | `(tactic| tm_at "go") => `(tactic| (repeat tm_at "go1"))
local macro_rules | `(tactic| tm_at "goo") => `(tactic| (repeat' tm_at "go1"))
local macro_rules | `(tactic| tm_at "den") => `(tactic| (first | assumption | exact Den.str _ | exact Den.int _ | exact Den.bl _ | exact Den.non | (apply Den.tups; tm_at "hp"; tm_at "dens") | (apply Den.fr; tm_at "f0"; tm_at "den") | fail "no way"))
local macro_rules | `(tactic| tm_at "dens") => `(tactic| (first | assumption | exact Dens.nil | (apply Dens.cons; tm_at "den"; tm_at "dens") | (apply Dens.fr; tm_at "f0"; tm_at "dens") | fail "no way"))
local macro_rules | `(tactic| tm_at "ix") => `(tactic| (apply Ix.mk; tm_at "hp"; tm_at "ne"; assumption; assumption))
local macro_rules | `(tactic| tm_at "dep") => `(tactic| (first | assumption | exact Dep.int | exact Dep.str | exact Dep.bl | exact Dep.non | (apply Dep.tup; tm_at "dlen"; tm_at "deps") | (apply Dep.mono; assumption; decide) | fail "no way"))
local macro_rules | `(tactic| tm_at "deps") => `(tactic| (first | assumption | exact memN | (apply memC; tm_at "dep"; tm_at "deps") | fail "no way"))
local macro_rules | `(tactic| tm_at "dlen") => `(tactic| (first | assumption | (focus (simp; done)) | omega | fail "no way"))

local macro_rules | `(tactic| tm_at "call") => `(tactic| (apply word_step; tm_at "hp"; intro v H1 hv hB fr))
local macro_rules | `(tactic| tm_at "call") => `(tactic| (apply name_step; tm_at "hp"; intro v H1 hv hB fr))
local macro_rules | `(tactic| tm_at "call") => `(tactic| (apply plain_step; tm_at "hp"; intro v H1 t hd he hB fr))
local macro_rules | `(tactic| tm_at "call") => `(tactic| (apply entry_step; tm_at "hp"; tm_at "ix"; tm_at "ix"; intro v H1 t hd he hB fr))
local macro_rules | `(tactic| tm_at "call") => `(tactic| (apply kinds_step; intro p H1 np hp fr))
local macro_rules | `(tactic| tm_at "call") => `(tactic| (apply kind_step; tm_at "hp"; intro v H1 hv hB fr))
local macro_rules | `(tactic| tm_at "call") => `(tactic| (apply marks_step; intro m))
local macro_rules | `(tactic| tm_at "pre") => `(tactic| (apply strInt_step; tm_at "sc"; intro s hs))
local macro_rules | `(tactic| tm_at "pre") => `(tactic| (apply addS_step; tm_at "sc"; intro s hs))

local macro_rules | `(tactic| tm_at "call") => `(tactic| (apply tag_step; tm_at "hp"; tm_at "sc"; tm_at "sc"; intro v H1 t hd he hB fr))
abbrev CEntry (P : Program) (w : World) (K : PySem.W.Frag) (mg : Str → Option Value) (base : Heap) : Prop := Cal P w K mg base 6 "_law_entry" ["_law_box_here", "_law_pool", "_law_errors_here", "_law_marks_here"] (spEntry K)
/-- what form leaves: a tuple of a tag and a new list of entries -/
structure FormAt (K : PySem.W.Frag) (H H' : Hp) (n : Int) (f l : Addr) (tg : V) (es : List V) : Prop where
  tup : H' f = some (.tup [tg, .ref l])
  lst : H' l = some (.lst es)
  new : H l = none
  len : es.length ≤ 200
  den : ∃ ts, Dens K H' es ts ∧ ∀ t ∈ ts, EntOk n t
  tag : ∃ t, Den K H' tg t ∧ Dep 3 t
theorem FormAt.one {K : PySem.W.Frag} {H H' : Hp} {n : Int} {f l : Addr} {tg x : V} {xs : List V} {t tt : T} {ts : List T} (ht : H' f = some (.tup [tg, .ref l])) (hl : H' l = some (.lst ([x] ++ xs))) (nl : H l = none) (lx : xs.length ≤ 100)
    (dx : Den K H' x t) (et : EntOk n t) (ds : Dens K H' xs ts) (es : ∀ t ∈ ts, EntOk n t) (dt : Den K H' tg tt) (pt : Dep 3 tt) : FormAt K H H' n f l tg (x :: xs) :=
  ⟨ht, hl, nl, by simp only [List.length_cons]; omega, ⟨t :: ts, .cons dx ds, memC et es⟩, ⟨tt, dt, pt⟩⟩
theorem ex_form {K : PySem.W.Frag} {H H' : Hp} {n : Int} {f l : Addr} {tg : V} {xs : List V} (h : FormAt K H H' n f l tg xs) : ∃ f' l' tg' xs', V.ref f = .ref f' ∧ FormAt K H H' n f' l' tg' xs' := ⟨f, l, tg, xs, rfl, h⟩
@[irreducible] def spForm (K : PySem.W.Frag) : Sp := fun vs H Q _ => ∃ (b p e : Addr) (kd : Str) (n : Int) (ns es : List Int), vs = [.ref b, .str kd, .ref p, .ref e] ∧ Ix K H p b n ns ∧ Ix K H e b n es ∧ Dr b (fun H' v => ∃ f l tg xs, v = .ref f ∧ FormAt K H H' n f l tg xs) H Q
theorem form_step {b p e : Addr} {kd : Str} {n : Int} {ns es : List Int} {H : Hp} {Q : VK} {E : XK} (hB : Box H b) (hp : Ix K H p b n ns) (he : Ix K H e b n es) (k : ∀ f l tg xs H', FormAt K H H' n f l tg xs → Box H' b → Fr [b] H H' → Q (.ref f) H') :
    spForm K ([.ref b, .str kd, .ref p, .ref e] ++ []) H Q E := by
  unfold spForm
  exact ⟨b, p, e, kd, n, ns, es, rfl, hp, he, hB, fun v H' ⟨f, l, tg, xs, ev, F⟩ hb hf => by rw [ev]; exact k _ _ _ _ _ F hb hf⟩
@[irreducible] def FMid (b : Addr) (H : Hp) (σ : Int → L2.St) (σ' : L2.St) (H' : Hp) : Prop := ∃ m : Int, σ' = σ m ∧ 0 ≤ m ∧ m ≤ 38 ∧ Box H' b ∧ Fr [b] H H'
theorem FMid.of {b : Addr} {H : Hp} {σ : Int → L2.St} {σ' : L2.St} {H' : Hp} {m : Int} (e : σ' = σ m) (h0 : 0 ≤ m) (h1 : m ≤ 38) (hB : Box H' b) (f : Fr [b] H H') : FMid b H σ σ' H' := by
  unfold FMid
  exact ⟨m, e, h0, h1, hB, f⟩
/-- the rest: a new list of m entries -/
@[irreducible] def RMid (K : PySem.W.Frag) (b : Addr) (H : Hp) (n m : Int) (σ : Addr → L2.St) (σ' : L2.St) (H' : Hp) : Prop := ∃ (l : Addr) (es : List V) (ts : List T), σ' = σ l ∧ H l = none ∧ H' l = some (.lst es) ∧ es.length = m.toNat ∧ Dens K H' es ts ∧ (∀ t ∈ ts, EntOk n t) ∧ Box H' b ∧ Fr [b] H H'
theorem RMid.of {K : PySem.W.Frag} {b : Addr} {H : Hp} {n m : Int} {σ : Addr → L2.St} {σ' : L2.St} {H' : Hp} {l : Addr} {es : List V} (e : σ' = σ l) (hl : H l = none) (hL : H' l = some (.lst es)) (le : es.length = m.toNat) (d : ∀ y ∈ es, ∃ t, Den K H' y t ∧ EntOk n t) (hB : Box H' b) (f : Fr [b] H H') : RMid K b H n m σ σ' H' := by
  unfold RMid
  obtain ⟨ts, ds, p⟩ := dens_ex d
  exact ⟨l, es, ts, e, hl, hL, le, ds, p, hB, f⟩
/-- the pairs between two turns -/
@[irreducible] def PMid (K : PySem.W.Frag) (q : Addr) (H : Hp) (n : Int) (σ : Option V → L2.St) (i : Nat) (σ' : L2.St) (H' : Hp) : Prop := ∃ (x : Option V) (ps : List V), σ' = σ x ∧ H' q = some (.lst ps) ∧ ps.length = 2 * i ∧ (∀ y ∈ ps, ∃ t, Den K H' y t ∧ EntOk n t) ∧ Fr [q] H H'
theorem PMid.of {K : PySem.W.Frag} {q : Addr} {H : Hp} {n : Int} {σ : Option V → L2.St} {i : Nat} {σ' : L2.St} {H' : Hp} {x : Option V} {ps : List V} (e : σ' = σ x) (hq : H' q = some (.lst ps)) (l : ps.length = 2 * i) (d : ∀ y ∈ ps, ∃ t, Den K H' y t ∧ EntOk n t) (f : Fr [q] H H') : PMid K q H n σ i σ' H' := by
  unfold PMid
  exact ⟨x, ps, e, hq, l, d, f⟩
abbrev s_form : Stmt := top 25
theorem sc_form : FnScope ["_law_box_here", "_law_kind_here", "_law_pool", "_law_errors_here", "_law_many", "_law_rest", "_law_k", "_law_entry_here", "_law_tag_here", "_law_first", "_law_pairs"] ["_law_box_here", "_law_kind_here", "_law_pool", "_law_errors_here"] (defScope s_form) := ⟨rfl, rfl, rfl, by decide +kernel, rfl, by decide +kernel, by decide +kernel⟩

theorem ok_form (T : Bl mg) (G_take : CTake P w K mg base) (G_word : CWord P w K mg base) (G_entry : CEntry P w K mg base) (G_marks : Cal P w K mg base 1 "_law_marks" ["_law_kind_here"] spMarks)
    (G_tag : Cal P w K mg base 3 "_law_tag" ["_law_box_here", "_law_kind_here", "_law_many"] (spTag K)) (D : Def1 K mg "_law_form" s_form) : Cal P w K mg base 7 "_law_form" ["_law_box_here", "_law_kind_here", "_law_pool", "_law_errors_here"] (spForm K) := by
  refine D.cal sc_form (fun _ _ _ _ _ _ us hl => match us, hl with | [_, _, _, _], _ => rfl) (fun vs H Q E h => ?_) (fun f cdv A outer s H vs Q E hr h => ?_) <;> unfold spForm at h
  · obtain ⟨b, p, e, kd, n, ns, es, rfl, _⟩ := h
    rfl
  · obtain ⟨b, p0, e0, kd, n, ns, es, rfl, ⟨sp, np0, lp, tp⟩, ⟨se, ne0, le, te⟩, hB, k⟩ := h
    have hB0 := hB
    refine ⟨_, (pss_cons (ps_set (i := 4) sc_form.nd rfl (Or.inl rfl) (pe_cal G_take (hr.mono (by omega)) (by rfl) (pa_cons (pv 0) (pa_cons pe_int pa_nil))))
    (Evl.pss_cut (ps_if (pt_cmpR op_eq (pe_cal G_take (hr.mono (by omega)) (by rfl) (pa_cons (pv 0) (pa_cons pe_int pa_nil))) pe_int (nomark _))
      (pss_one (ps_set (i := 4) sc_form.nd rfl (Or.inl rfl) (pe_op op_add pe_int (pe_cal G_take (hr.mono (by omega)) (by rfl) (pa_cons (pv 0) (pa_cons pe_int pa_nil))))))
      pss_nil)
    (Evl.pss_cut (ps_if (PW.pt (pw_or (pt_cmpR op_eq (pv 1) pe_str (nomark _)) (pw_or1 (pt_cmpR op_eq (pv 1) pe_str (nomark _)))))
      (pss_one (ps_set (i := 4) sc_form.nd rfl (Or.inl rfl) pe_int))
      pss_nil)
    (Evl.pss_cut (ps_if (pt_cmpR op_eq (pv 1) pe_str (nomark _))
      (pss_one (ps_set (i := 4) sc_form.nd rfl (Or.inl rfl) (pe_op op_add pe_int (pe_op op_mod (pe_callTy call_int1 (by rfl) T.z_int (by decide +kernel) (pa_cons (pv 4) pa_nil)) pe_int))))
      pss_nil)
    (pss_cons (ps_setLc (i := 5) (own := [("_law_k", 6)]) (g := gName 6) (by rfl) sc_form.nd rfl rfl (sw_true rfl rfl rfl (by decide +kernel)) (pi_range1 (by rfl) T.z_range (pa_cons (pv 4) pa_nil)) (blkOk_by (own := [("_law_k", 6)]) (N := [("_law_box_here" : Str), ("_law_kind_here" : Str), ("_law_pool" : Str), ("_law_errors_here" : Str), ("_law_many" : Str), ("_law_rest" : Str), ("_law_k" : Str), ("_law_entry_here" : Str), ("_law_tag_here" : Str), ("_law_first" : Str), ("_law_pairs" : Str)]) (sc := defScope s_form) (by decide +kernel)) (fun _ _ _ _ _ => pg_name (i := 6) sc_form.nd rfl (Or.inl rfl)) (fun _ _ _ _ _ => pts_nil) (fun _ _ _ _ _ => (pe_cal G_entry (hr.mono (by omega)) (by rfl) (pa_cons (pv 0) (pa_cons (pv 2) (pa_cons (pv 3) (pa_cons (pe_cal G_marks (hr.mono (by omega)) (by rfl) (pa_cons (pv 1) pa_nil)) pa_nil)))))))
    (Evl.pss_cut (ps_if (pt_cmpR (opIn K) (pv 1) (pe_tup (pa_cons pe_str (pa_cons pe_str pa_nil))) (by rfl))
      (pss_one (ps_setLc (i := 5) (own := [("_law_entry_here", 7)]) (g := gName 7) (by rfl) sc_form.nd rfl rfl (sw_true rfl rfl rfl (by decide +kernel)) (pi_list (pv 5)) (blkOk_by (own := [("_law_entry_here", 7)]) (N := [("_law_box_here" : Str), ("_law_kind_here" : Str), ("_law_pool" : Str), ("_law_errors_here" : Str), ("_law_many" : Str), ("_law_rest" : Str), ("_law_k" : Str), ("_law_entry_here" : Str), ("_law_tag_here" : Str), ("_law_first" : Str), ("_law_pairs" : Str)]) (sc := defScope s_form) (by decide +kernel)) (fun _ _ _ _ _ => pg_name (i := 7) sc_form.nd rfl (Or.inl rfl)) (fun _ _ _ _ _ => pts_nil) (fun _ _ _ _ _ => (pe_ifExp (pt_cmpR op_eq (pe_ix (ixT K) (pv 7) pe_int (fun _ _ => rfl)) pe_str (nomark _)) (pv 7) (pe_tup (pa_cons pe_str (pa_cons (pe_cal G_word (hr.mono (by omega)) (by rfl) (pa_cons (pv 0) pa_nil)) pa_nil)))))))
      pss_nil)
    (pss_cons (ps_set (i := 8) sc_form.nd rfl (Or.inl rfl) (pe_cal G_tag (hr.mono (by omega)) (by rfl) (pa_cons (pv 0) (pa_cons (pv 1) (pa_cons (pv 4) pa_nil)))))
    (pss_cons (ps_if (pt_cmpR op_eq (pv 1) pe_str (nomark _))
      (pss_one (ps_ret (pe_tup (pa_cons (pv 8) (pa_cons (pe_op opCat (pe_lst (pa_cons (pe_tup (pa_cons pe_str pa_nil)) pa_nil)) (pv 5)) pa_nil)))))
      pss_nil)
    (pss_cons (ps_if (pt_cmpR op_eq (pv 1) pe_str (nomark _))
      (pss_one (ps_ret (pe_tup (pa_cons (pv 8) (pa_cons (pe_op opCat (pe_lst (pa_cons (pe_tup (pa_cons pe_str (pa_cons pe_str pa_nil))) pa_nil)) (pv 5)) pa_nil)))))
      pss_nil)
    (pss_cons (ps_if (pt_cmpR op_ne (pv 1) pe_str (nomark _))
      (pss_one (ps_ret (pe_tup (pa_cons (pv 8) (pa_cons (pv 5) pa_nil)))))
      pss_nil)
    (pss_cons (ps_set (i := 9) sc_form.nd rfl (Or.inl rfl) (pe_cal G_take (hr.mono (by omega)) (by rfl) (pa_cons (pv 0) (pa_cons pe_int pa_nil))))
    (pss_cons (ps_set (i := 10) sc_form.nd rfl (Or.inl rfl) (pe_lst pa_nil))
    (pss_cons (ps_for PassesOwn.never rfl (pi_range1 (by rfl) T.z_range (pa_cons (pv 4) pa_nil)) (pg_name (i := 6) sc_form.nd rfl (Or.inl rfl))
      (pss_cons (ps_expr (pe_bm PySem.F.plainAttrs_list PySem.F.slot_list_append PySem.F.type_list_append mtApp (pv 10) (pa_cons (pe_tup (pa_cons pe_str (pa_cons (pe_op op_add (pv 9) (pv 6)) pa_nil))) pa_nil)))
      (pss_one (ps_expr (pe_bm PySem.F.plainAttrs_list PySem.F.slot_list_append PySem.F.type_list_append mtApp (pv 10) (pa_cons (pe_ix (ixL K) (pv 5) (pv 6) (fun _ _ => rfl)) pa_nil))))))
    (pss_one (ps_ret (pe_tup (pa_cons (pv 8) (pa_cons (pv 10) pa_nil)))))))))))))))))), ?_⟩
    tm_at "goo"
    refine ⟨FMid b H (fun m => [some (.ref b), some (.str kd), some (.ref p0), some (.ref e0), some (.int m), none, none, none, none, none, none]), ?_, ?_⟩
    · tm_at "goo"
      · exact FMid.of rfl (by omega) (by omega) (by tm_at "hp") (by tm_at "fr")
      · exact FMid.of rfl (by omega) (by omega) (by tm_at "hp") (by tm_at "fr")
    intro σ' H2 hm
    unfold FMid at hm
    obtain ⟨m, rfl, m0, m1, hB2, f2⟩ := hm
    refine ⟨FMid b H (fun m => [some (.ref b), some (.str kd), some (.ref p0), some (.ref e0), some (.int m), none, none, none, none, none, none]), ?_, ?_⟩
    · tm_at "goo"
      all_goals exact FMid.of rfl (by omega) (by omega) (by tm_at "hp") (by tm_at "fr")
    clear m0 m1 hB2 f2
    intro σ' H2 hm
    unfold FMid at hm
    obtain ⟨m, rfl, m0, m1, hB2, f2⟩ := hm
    refine ⟨FMid b H (fun m => [some (.ref b), some (.str kd), some (.ref p0), some (.ref e0), some (.int m), none, none, none, none, none, none]), ?_, ?_⟩
    · tm_at "goo"
      all_goals exact FMid.of rfl (by omega) (by omega) (by tm_at "hp") (by tm_at "fr")
    clear m0 m1 hB2 f2
    intro σ' H2 hm
    unfold FMid at hm
    obtain ⟨m, rfl, m0, m1, hB2, f2⟩ := hm
    tm_at "goo"
    refine lcR (fun _ => true) (fun H _ y => ∃ t, Den K H y t ∧ EntOk n t) (Cg.box (by tm_at "hp")) stab_den (by omega) (fun i H hi hS f => tyes_ok hS hS.nt) (fun i H hi _ hS f R kk => ?_) (fun D H' ys nD hD md hBD fD => ?_)
    · tm_at "goo"
      exact kk _ _ (by tm_at "hp") (by tm_at "fr") ⟨_, hd, he⟩
    rw [keptN_all] at md
    have ml := md.all.1
    have me : ∀ y ∈ ys, ∃ t, Den K H' y t ∧ EntOk n t := fun y hy => (let ⟨_, _, q⟩ := md.mem hy; q)
    have nb : D ≠ b := hB2.ne nD
    have fH : Fr [b] H H' := by tm_at "fr"
    have nD0 : H D = none := Box.free hB2 f2 nD
    refine ⟨RMid K b H n m (fun l => [some (.ref b), some (.str kd), some (.ref p0), some (.ref e0), some (.int m), some (.ref l), none, none, none, none, none]), ?_, ?_⟩
    · tm_at "goo"
      · refine ⟨⟨_, SqL.of (by tm_at "hp")⟩, ?_⟩
        refine lcL (fun _ => true) (fun H _ y => ∃ t, Den K H y t ∧ EntOk n t) (Cg.box (by tm_at "hp")) stab_den (xs := ys) (by tm_at "hp") (by simpa using nb) (by omega) (fun i x H hi hS f => tyes_ok hS hS.nt) (fun i x H hi _ hS f R kk => ?_) (fun D2 H2 zs nD2 hD2 m2 _ f => ?_)
        · obtain ⟨t, dt, et⟩ := me x (List.mem_of_getElem? hi)
          have dt' : Den K H x t := by tm_at "den"
          obtain ⟨a, u, r, rfl, ha⟩ := ent_head dt' et
          tm_at "goo"
          · exact kk _ _ (by tm_at "hp") (by tm_at "fr") ⟨_, dt', et⟩
          · obtain ⟨u, rfl, hu⟩ := hv
            refine kk _ _ (by tm_at "hp") (by tm_at "fr") ?_
            apply Exists.intro; apply And.intro; tm_at "den"
            exact .inl (.inl (entP2 (by decide +kernel) (by decide +kernel) (by decide +kernel) .str))
        · rw [keptN_all] at m2
          exact RMid.of rfl (Box.free hBD fH (by tm_at "free")) hD2 (by rw [m2.all.1, ml]) (fun y hy => (let ⟨_, _, q⟩ := m2.mem hy; q)) (by tm_at "hp") (by tm_at "fr")
      · exact RMid.of rfl nD0 (by tm_at "hp") ml (fun y hy => (let ⟨t, d, q⟩ := me y hy; ⟨t, by tm_at "den", q⟩)) (by tm_at "hp") (by tm_at "fr")
    intro σ' H3 hm
    unfold RMid at hm
    obtain ⟨l, xs, ts, rfl, nl, hl, lx, dx, ex, hB3, f3⟩ := hm
    have nlb : l ≠ b := hB0.ne nl
    tm_at "goo"
    · refine k _ _ ?_ (by tm_at "hp") (by tm_at "fr")
      apply ex_form
      apply FormAt.one
      · tm_at "hp"
      · tm_at "hp"
      · tm_at "free"
      · omega
      · tm_at "den"
      · exact .inl (.inl (entP1 (by decide +kernel) (by decide +kernel) (by decide +kernel)))
      · tm_at "dens"
      · exact ex
      · tm_at "den"
      · assumption
    · refine k _ _ ?_ (by tm_at "hp") (by tm_at "fr")
      apply ex_form
      apply FormAt.one
      · tm_at "hp"
      · tm_at "hp"
      · tm_at "free"
      · omega
      · tm_at "den"
      · exact .inl (.inl (entP2 (by decide +kernel) (by decide +kernel) (by decide +kernel) .str))
      · tm_at "dens"
      · exact ex
      · tm_at "den"
      · assumption
    · have hl1 : H1 l = some (.lst xs) := by tm_at "hp"
      have hd1 : Dens K H1 xs ts := by tm_at "dens"
      have nlp : l ≠ p := ne_of_none hl1 np
      have np00 : H p = none := Box.free hB (by tm_at "fr") np
      have nbp : b ≠ p := (Box.ne2 np hB).symm
      have hBp : Box (upd H1 p (.lst [])) b := by tm_at "hp"
      refine forR (PMid K p (upd H1 p (.lst [])) n (fun x => [some (.ref b), some (.str kd), some (.ref p0), some (.ref e0), some (.int m), some (.ref l), x, none, some v, some (.int r), some (.ref p)])) ?_ ?_ ?_
      · exact PMid.of (x := none) rfl upd_same rfl (fun y h => nomatch h) (Fr.refl fun a h xs e => by
          have z : a = p := by simpa using h
          rw [z, upd_same] at e; cases e)
      · intro i σ' H' hi hP
        unfold PMid at hP
        obtain ⟨x, ps, rfl, hq, lq, dq, fq⟩ := hP
        have hl' : H' l = some (.lst xs) := by tm_at "hp"
        tm_at "goo"
        obtain ⟨t', ht', dt'⟩ := hd1.get hv
        refine PMid.of (x := _) rfl hp (by simp only [List.length_append, List.length_cons, List.length_nil]; omega) (in_snoc (in_snoc (fun y hy => ?_) ?_) ?_) (by tm_at "fr")
        · obtain ⟨t2, d2, e2⟩ := dq y hy
          exact ⟨t2, by tm_at "den", e2⟩
        · apply Exists.intro; apply And.intro; tm_at "den"
          exact .inl (.inl (entP2 (by decide +kernel) (by decide +kernel) (by decide +kernel) .int))
        · exact ⟨t', by tm_at "den", ex _ (List.mem_of_getElem? ht')⟩
      · intro σ' H' hP
        unfold PMid at hP
        obtain ⟨x, ps, rfl, hq, lq, dq, fq⟩ := hP
        tm_at "goo"
        obtain ⟨ts', ds', es'⟩ := dens_ex dq
        refine k _ _ ?_ (by tm_at "hp") (by tm_at "fr")
        apply ex_form
        exact ⟨by tm_at "hp", by tm_at "hp", np00, by omega, ⟨ts', by tm_at "dens", es'⟩, ⟨t, by tm_at "den", he⟩⟩
    · refine k _ _ ?_ (by tm_at "hp") (by tm_at "fr")
      apply ex_form
      exact ⟨by tm_at "hp", by tm_at "hp", nl, by omega, ⟨ts, by tm_at "dens", ex⟩, ⟨t, by tm_at "den", he⟩⟩
end
end M14
set_option Elab.async false
set_option linter.all false
set_option maxRecDepth 100000
set_option maxHeartbeats 4000000
namespace M14
open PySem PySem.Spec PyProof.Rows L2

section
variable {P : Program} {w : World} {K : PySem.W.Frag} {mg : Str → Option Value} {base : Heap}
set_option hygiene false
local macro_rules | `(tactic| tm_at "sc") => `(tactic| (first | omega | (simp only [List.length_cons, List.length_nil, List.length_map, List.length_set, List.length_append]; omega) | (simp only [List.length_map] at h1 ⊢; omega) | (simp only [List.length_map] at c ⊢; omega) | with_reducible assumption | exact And.intro (by omega) (by omega) | exact Or.inl (And.intro (by omega) (by omega)) | exact Or.inr (And.intro (by omega) (by omega)) | decide +kernel | exact len1000 (by simp) | rfl | fail "no way"))
local macro_rules | `(tactic| tm_at "sc1") => `(tactic| (focus (simp; done)))
local macro_rules | `(tactic| tm_at "ne") => `(tactic| (first | assumption | exact Ne.symm (by assumption) | (apply Box.ne2; assumption; tm_at "hp") | (apply Ne.symm; apply Box.ne2; assumption; tm_at "hp") | (apply ne_of_none2; assumption; tm_at "hp") | (apply Ne.symm; apply ne_of_none2; assumption; tm_at "hp") | fail "no way"))
local macro_rules | `(tactic| tm_at "f0") => `(tactic| (first | assumption | (apply Fr.new; assumption) | fail "no way"))
local macro_rules | `(tactic| tm_at "hp") => `(tactic| (first | assumption | exact upd_same | (apply SqL.of; first | assumption | exact upd_same) | (apply Fr.at0; tm_at "f0"; tm_at "hp") | (apply Fr.at1n; assumption; tm_at "ne"; tm_at "hp") | (apply sqFr0; tm_at "f0"; tm_at "hp") | (apply sqFr1; assumption; tm_at "ne"; tm_at "hp") | (apply Box.fr0; tm_at "f0"; tm_at "hp") | (apply Box.fr1; assumption; tm_at "ne"; tm_at "hp") | (apply Den.fr; tm_at "f0"; tm_at "hp") | (apply Dens.fr; tm_at "f0"; tm_at "hp") | fail "no way"))
local macro_rules | `(tactic| tm_at "free0") => `(tactic| (first | assumption | (apply updFree; assumption) | (apply updFree; apply updFree; assumption) | (apply updFree; apply updFree; apply updFree; assumption) | (apply updFree; apply updFree; apply updFree; apply updFree; assumption) | fail "no way"))
local macro_rules | `(tactic| tm_at "free") => `(tactic| (first | tm_at "free0" | (apply Fr.free; assumption; tm_at "free0") | (apply Box.free; assumption; tm_at "fr"; tm_at "free0") | (apply Fr.free; assumption; apply Fr.free; assumption; tm_at "free0") | fail "no way"))
local macro_rules | `(tactic| tm_at "fr") => `(tactic| (first | assumption | exact Fr.refl0 _ | exact Fr.refl (Box.nt (by assumption)) | (refine Fr.comp0 ?_ (by tm_at "f0"); tm_at "fr") | (refine Fr.comp ?_ (by assumption); tm_at "fr") | (refine Fr.compN ?_ (by assumption) (by tm_at "free"); tm_at "fr") | fail "no way"))
local macro_rules | `(tactic| tm_at "call") => `(tactic| fail "no call")
local macro_rules | `(tactic| tm_at "call") => `(tactic| (apply take_step; tm_at "hp"; tm_at "sc"; tm_at "sc"; intro r H1 h0 h1 hB fr))
local macro_rules | `(tactic| tm_at "ty") => `(tactic| (first | assumption | exact .base .non | exact .base (.bl _) | exact .base (.int _) | exact .base (.str _) | (apply TyX.base; apply TyOf.lst; tm_at "hp") | (apply TyX.base; apply TyOf.tup; tm_at "hp") | fail "no way"))
local macro_rules | `(tactic| tm_at "pre") => `(tactic| fail "none")
local macro_rules | `(tactic| tm_at "go1") => `(tactic| (first | tm_at "pre" | refine ⟨_, rfl, ?_⟩ | refine ⟨_, _, rfl, rfl, ?_⟩ | (apply set_step; tm_at "hp"; tm_at "sc"; tm_at "sc"; intro H1 hp fr) | (with_reducible refine iteDI ?_ ?_ <;> intro c) | (with_reducible refine iteDS ?_ ?_ <;> intro c) | (with_reducible refine iteD ?_ ?_ <;> intro c) | (with_reducible refine iteEM ?_ ?_ <;> intro c) | (with_reducible refine iteE ?_ ?_ <;> intro c) | with_reducible refine iteN ?_ | with_reducible refine iteF ?_ | with_reducible refine iteT ?_ | (refine fun (p : Addr) (np : _ = (none : Option HO)) => ?_; fail_if_success (refine ⟨fun (_ _ : Nat) (_ : Hp) => True, ?_⟩)) | (apply isi_tt; tm_at "ty"; focus (decide +kernel)) | (apply isi_ff; tm_at "ty"; focus (decide +kernel)) | (apply sl_step; tm_at "hp"; intro qq H1 ms nq hq fr) | (apply sum_step; tm_at "hp"; intro i) | (apply tru_step; tm_at "hp") | (apply len_step; tm_at "hp") | (apply lenq_step; assumption) | (apply ixq_step; assumption; tm_at "sc"; tm_at "sc"; intro v hv) | (apply lst_step; tm_at "hp") | (apply tupl_step; tm_at "hp") | (apply ixr_step; tm_at "hp"; exact rfl) | (apply ix0_step; tm_at "hp") | (apply ix1_step; tm_at "hp") | (apply ix2_step; tm_at "hp") | (apply ixi_step; tm_at "hp"; tm_at "sc"; tm_at "sc"; intro n hn hn') | (apply ixl_step; tm_at "hp"; tm_at "sc"; tm_at "sc"; intro v hv) | (apply ixt_step; tm_at "hp"; tm_at "sc"; tm_at "sc"; intro v hm hv) | (apply in_step; tm_at "hp"; rfl; rfl) | (apply cat_step; tm_at "hp"; tm_at "hp"; tm_at "sc") | (apply catT_step; tm_at "hp"; tm_at "hp"; tm_at "sc1") | (apply tyL_and; tm_at "hp") | (apply app_step; tm_at "hp"; tm_at "sc"; intro H1 hp fr) | tm_at "call" | refine ⟨⟨_, rfl⟩, ?_⟩ | (apply ixs_step; tm_at "sc"; tm_at "sc"; tm_at "sc"; intro ch) | refine .inl ⟨_, rfl, ?_⟩ | refine .inr ⟨_, rfl, ?_⟩ | (apply And.intro; tm_at "sc") | (with_reducible refine wayB ?_ ?_ <;> intro c) | fail "no way"))
local macro_rules | `(tactic| tm_at "go") => `(tactic| (repeat tm_at "go1"))
local macro_rules | `(tactic| tm_at "goo") => `(tactic| (repeat' tm_at "go1"))
local macro_rules | `(tactic| tm_at "den") => `(tactic| (first | assumption | exact Den.str _ | exact Den.int _ | exact Den.bl _ | exact Den.non | (apply Den.tups; tm_at "hp"; tm_at "dens") | (apply Den.fr; tm_at "f0"; tm_at "den") | fail "no way"))
local macro_rules | `(tactic| tm_at "dens") => `(tactic| (first | assumption | exact Dens.nil | (apply Dens.cons; tm_at "den"; tm_at "dens") | (apply Dens.fr; tm_at "f0"; tm_at "dens") | fail "no way"))
local macro_rules | `(tactic| tm_at "ix") => `(tactic| (apply Ix.mk; tm_at "hp"; tm_at "ne"; assumption; assumption))
local macro_rules | `(tactic| tm_at "dep") => `(tactic| (first | assumption | exact Dep.int | exact Dep.str | exact Dep.bl | exact Dep.non | (apply Dep.tup; tm_at "dlen"; tm_at "deps") | (apply Dep.mono; assumption; decide) | fail "no way"))
local macro_rules | `(tactic| tm_at "deps") => `(tactic| (first | assumption | exact memN | (apply memC; tm_at "dep"; tm_at "deps") | fail "no way"))
local macro_rules | `(tactic| tm_at "dlen") => `(tactic| (first | assumption | (focus (simp; done)) | omega | fail "no way"))

/-! ### same: equality of data, part by part -/
def leafV : V → Bool
  | .non | .bl _ | .int _ | .str _ => true
  | _ => false
/-- x and y are the same data, d deep -/
def Sm (K : PySem.W.Frag) : Nat → Hp → V → V → Prop
  | 0, _, x, y => x = y ∧ leafV x = true
  | d + 1, H, x, y => (x = y ∧ leafV x = true) ∨ ∃ a b xs ys, x = .ref a ∧ y = .ref b ∧ ((TupAt K H a xs ∧ TupAt K H b ys) ∨ (H a = some (.lst xs) ∧ H b = some (.lst ys))) ∧ xs.length = ys.length ∧ xs.length ≤ 10000 ∧
      ∀ (i : Nat) (x y : V), xs[i]? = some x → ys[i]? = some y → Sm K d H x y
theorem Sm.leaf {K : PySem.W.Frag} {d : Nat} {H : Hp} {x : V} (h : leafV x = true) : Sm K d H x x := by
  cases d with
  | zero => exact ⟨rfl, h⟩
  | succ d => exact .inl ⟨rfl, h⟩
/-- two data of one tree are the same -/
theorem Sm.of_den {K : PySem.W.Frag} {H : Hp} {t : T} : ∀ {d : Nat} {x y : V}, Den K H x t → Den K H y t → Dep d t → Sm K d H x y := by
  intro d x y hx
  induction hx generalizing d y with
  | non => intro hy _; cases hy; exact Sm.leaf rfl
  | bl b => intro hy _; cases hy; exact Sm.leaf rfl
  | int i => intro hy _; cases hy; exact Sm.leaf rfl
  | str s => intro hy _; cases hy; exact Sm.leaf rfl
  | @tup a xs ts ha la ca ih =>
    intro hy hd
    cases hy with
    | @tup b ys _ hb lb cb =>
      cases hd with
      | tup hl hds =>
        refine .inr ⟨a, b, xs, ys, rfl, rfl, .inl ⟨.of ha, .of hb⟩, by omega, by omega, fun i x y ex ey => ?_⟩
        have hi := (List.getElem?_eq_some_iff.mp ex).1
        have hit : i < ts.length := by omega
        exact ih i x _ ex (List.getElem?_eq_getElem hit) (cb i y _ ey (List.getElem?_eq_getElem hit)) (hds _ (List.getElem_mem hit))
theorem Sm.of_dens {K : PySem.W.Frag} {H : Hp} {d : Nat} {a b : Addr} {xs ys : List V} {ts : List T} (ha : H a = some (.lst xs)) (hb : H b = some (.lst ys)) (dx : Dens K H xs ts) (dy : Dens K H ys ts) (hl : xs.length ≤ 10000) (hd : ∀ t ∈ ts, Dep d t) : Sm K (d + 1) H (.ref a) (.ref b) := by
  refine .inr ⟨a, b, xs, ys, rfl, rfl, .inr ⟨ha, hb⟩, by rw [dx.1, dy.1], hl, fun i x y ex ey => ?_⟩
  obtain ⟨t, et, dt⟩ := dx.get ex
  exact .of_den dt (dy.2 i y t ey et) (hd _ (List.mem_of_getElem? et))
@[irreducible] def spSm (K : PySem.W.Frag) : Nat → Sp
  | 0 => fun _ _ _ _ => False
  | d + 1 => fun vs H Q _ => ∃ x y, vs = [x, y] ∧ Sm K d H x y ∧ Q (.bl true) H
theorem sm_step {d : Nat} {x y : V} {H : Hp} {Q : VK} {E : XK} (h : Sm K d H x y) (k : Q (.bl true) H) : spSm K (d + 1) ([x, y] ++ []) H Q E := by
  unfold spSm
  exact ⟨x, y, rfl, h, k⟩
theorem Def1.never {x : Str} {st : Stmt} {ps : List Str} (D : Def1 K mg x st)
    (hb : ∀ (kV doc pm : Value) (an : Option Addr) (cdv ct : Value) (us : List Value), us.length = ps.length → bindArgs (PySem.W.fnOf x x (defArgs st) (defBody st) (defScope st) .none kV doc pm an cdv ct) ⟨us, []⟩ = pure (ps.zip us)) : Cal P w K mg base 0 x ps (fun _ _ _ _ => False) := by
  obtain ⟨f, fd, F, g⟩ := D
  exact ⟨f, fd, ⟨fun _ _ _ _ h => h.elim, fun _ _ _ _ _ _ _ _ _ _ _ _ _ h => h.elim⟩, g, F.kp, F.bindsN hb⟩
local macro_rules | `(tactic| tm_at "call") => `(tactic| (apply sm_step; focus (tm_at "sm")))
local macro_rules | `(tactic| tm_at "sm") => `(tactic| assumption)
@[irreducible] def SMid (H : Hp) (σ : L2.St) (_ : Nat) (σ' : L2.St) (H' : Hp) : Prop := ∃ x : Option V, σ' = σ ++ [x] ∧ H' = H
theorem SMid.of {H : Hp} {σ : L2.St} {i : Nat} {σ' : L2.St} {x : Option V} (e : σ' = σ ++ [x]) : SMid H σ i σ' H := by unfold SMid; exact ⟨x, e, rfl⟩
abbrev s_same : Stmt := top 14
theorem sc_same : FnScope ["_law_told_here", "_law_due", "_law_k"] ["_law_told_here", "_law_due"] (defScope s_same) := ⟨rfl, rfl, rfl, by decide +kernel, rfl, by decide +kernel, by decide +kernel⟩

theorem ok_same (T : Bl mg) (D : Def1 K mg "_law_same" s_same) : ∀ d : Nat, Cal P w K mg base d "_law_same" ["_law_told_here", "_law_due"] (spSm K d)
  | 0 => by
    have z : spSm K 0 = fun _ _ _ _ => False := by unfold spSm; rfl
    rw [z]
    exact D.never fun _ _ _ _ _ _ us hl => match us, hl with | [_, _], _ => rfl
  | d + 1 => by
    have G_same := ok_same T D d
    refine D.cal sc_same (fun _ _ _ _ _ _ us hl => match us, hl with | [_, _], _ => rfl) (fun vs H Q E h => ?_) (fun f cdv A outer s H vs Q E hr h => ?_) <;> unfold spSm at h
    · obtain ⟨x, y, rfl, _⟩ := h
      rfl
    · obtain ⟨x, y, rfl, hs, k⟩ := h
      refine ⟨_, (pss_cons (ps_if (PW.pt (pw_or (pt_val (pe_callB (cIsi K) (by rfl) T.z_isinstance (by decide +kernel) (pa_cons (pv 1) (pa_cons (pe_bltn (v := .ty "tuple") (by rfl) T.z_tuple (by decide +kernel) rfl) pa_nil)))) (pw_or1 (pt_val (pe_callB (cIsi K) (by rfl) T.z_isinstance (by decide +kernel) (pa_cons (pv 1) (pa_cons (pe_bltn (v := .ty "list") (by rfl) T.z_list (by decide +kernel) rfl) pa_nil)))))))
        (pss_cons (ps_if (PW.pt (pw_and (pt_val (pe_callB (cIsi K) (by rfl) T.z_isinstance (by decide +kernel) (pa_cons (pv 1) (pa_cons (pe_bltn (v := .ty "list") (by rfl) T.z_list (by decide +kernel) rfl) pa_nil)))) (pw_and1 (pt_not (pt_val (pe_callB (cIsi K) (by rfl) T.z_isinstance (by decide +kernel) (pa_cons (pv 0) (pa_cons (pe_bltn (v := .ty "list") (by rfl) T.z_list (by decide +kernel) rfl) pa_nil))))))))
          (pss_one (ps_ret pe_bl))
          pss_nil)
        (pss_cons (ps_if (PW.pt (pw_and (pt_val (pe_callB (cIsi K) (by rfl) T.z_isinstance (by decide +kernel) (pa_cons (pv 1) (pa_cons (pe_bltn (v := .ty "tuple") (by rfl) T.z_tuple (by decide +kernel) rfl) pa_nil)))) (pw_and1 (pt_not (pt_val (pe_callB (cIsi K) (by rfl) T.z_isinstance (by decide +kernel) (pa_cons (pv 0) (pa_cons (pe_bltn (v := .ty "tuple") (by rfl) T.z_tuple (by decide +kernel) rfl) pa_nil))))))))
          (pss_one (ps_ret pe_bl))
          pss_nil)
        (pss_cons (ps_if (pt_cmpR op_ne (pe_callB (cLen K) (by rfl) T.z_len (by decide +kernel) (pa_cons (pv 0) pa_nil)) (pe_callB (cLen K) (by rfl) T.z_len (by decide +kernel) (pa_cons (pv 1) pa_nil)) (nomark _))
          (pss_one (ps_ret pe_bl))
          pss_nil)
        (pss_cons (ps_for PassesOwn.never rfl (pi_range1 (by rfl) T.z_range (pa_cons (pe_callB (cLen K) (by rfl) T.z_len (by decide +kernel) (pa_cons (pv 1) pa_nil)) pa_nil)) (pg_name (i := 2) sc_same.nd rfl (Or.inl rfl))
          (pss_one (ps_if (pt_not (pt_val (pe_cal G_same (hr.mono (by omega)) (by rfl) (pa_cons (pe_ix (ixQ K) (pv 0) (pv 2) (fun _ _ => rfl)) (pa_cons (pe_ix (ixQ K) (pv 1) (pv 2) (fun _ _ => rfl)) pa_nil)))))
            (pss_one (ps_ret pe_bl))
            pss_nil)))
        (pss_one (ps_ret pe_bl))))))
        pss_nil)
      (pss_cons (ps_if (pt_cmpR op_isN (pv 1) pe_non (nomark _))
        (pss_one (ps_ret (pe_cmpR op_isN (pv 0) pe_non (nomark _))))
        pss_nil)
      (pss_cons (ps_if (pt_val (pe_callB (cIsi K) (by rfl) T.z_isinstance (by decide +kernel) (pa_cons (pv 1) (pa_cons (pe_bltn (v := .ty "bool") (by rfl) T.z_bool (by decide +kernel) rfl) pa_nil))))
        (pss_one (ps_ret (pe_and (pe_callB (cIsi K) (by rfl) T.z_isinstance (by decide +kernel) (pa_cons (pv 0) (pa_cons (pe_bltn (v := .ty "bool") (by rfl) T.z_bool (by decide +kernel) rfl) pa_nil))) (pe_one (pe_cmpR op_eq (pv 0) (pv 1) (nomark _))))))
        pss_nil)
      (pss_cons (ps_if (pt_val (pe_callB (cIsi K) (by rfl) T.z_isinstance (by decide +kernel) (pa_cons (pv 1) (pa_cons (pe_bltn (v := .ty "int") (by rfl) T.z_int (by decide +kernel) rfl) pa_nil))))
        (pss_one (ps_ret (pe_and (pe_callB (cIsi K) (by rfl) T.z_isinstance (by decide +kernel) (pa_cons (pv 0) (pa_cons (pe_bltn (v := .ty "int") (by rfl) T.z_int (by decide +kernel) rfl) pa_nil))) (pe_and (pe_not (pe_callB (cIsi K) (by rfl) T.z_isinstance (by decide +kernel) (pa_cons (pv 0) (pa_cons (pe_bltn (v := .ty "bool") (by rfl) T.z_bool (by decide +kernel) rfl) pa_nil)))) (pe_one (pe_cmpR op_eq (pv 0) (pv 1) (nomark _)))))))
        pss_nil)
      (pss_one (ps_ret (pe_and (pe_callB (cIsi K) (by rfl) T.z_isinstance (by decide +kernel) (pa_cons (pv 0) (pa_cons (pe_bltn (v := .ty "str") (by rfl) T.z_str (by decide +kernel) rfl) pa_nil))) (pe_one (pe_cmpR op_eq (pv 0) (pv 1) (nomark _)))))))))), ?_⟩
      have cases : (x = y ∧ leafV x = true) ∨ ∃ e, d = e + 1 ∧ ∃ a b xs ys, x = .ref a ∧ y = .ref b ∧ ((TupAt K H a xs ∧ TupAt K H b ys) ∨ (H a = some (.lst xs) ∧ H b = some (.lst ys))) ∧ xs.length = ys.length ∧ xs.length ≤ 10000 ∧
          ∀ (i : Nat) (x y : V), xs[i]? = some x → ys[i]? = some y → Sm K e H x y := by
        cases d with
        | zero => exact .inl hs
        | succ e => exact hs.elim .inl fun h => .inr ⟨e, rfl, h⟩
      rcases cases with ⟨rfl, lf⟩ | ⟨e, rfl, a, b, xs, ys, rfl, rfl, ty, l1, l2, hi⟩
      · cases x with
        | non =>
          tm_at "goo"
          exact fin_bl (decide_eq_true rfl) k
        | bl c =>
          tm_at "goo"
          exact fin_bl (decide_eq_true rfl) k
        | int i =>
          tm_at "goo"
          exact fin_bl (decide_eq_true rfl) k
        | str z =>
          tm_at "goo"
          exact fin_bl (decide_eq_true rfl) k
        | _ => cases lf
      · have qa : SqL K H a xs ∨ SqT K H a xs := ty.elim (fun h => .inr h.1.1) fun h => .inl (SqL.of h.1)
        have qb : SqL K H b ys ∨ SqT K H b ys := ty.elim (fun h => .inr h.2.1) fun h => .inl (SqL.of h.2)
        rcases ty with ⟨⟨_, ta⟩, ⟨_, tb⟩⟩ | ⟨la, lb⟩
        all_goals
          tm_at "goo"
          · refine forR (SMid H [some (.ref a), some (.ref b)]) (SMid.of (x := none) rfl) (fun i σ' H' hi' hP => ?_) (fun σ' H' hP => ?_)
            · unfold SMid at hP
              obtain ⟨x, rfl, rfl⟩ := hP
              tm_at "goo"
              refine sm_step (hi _ _ _ (by assumption) hv) ?_
              tm_at "goo"
              exact SMid.of rfl
            · unfold SMid at hP
              obtain ⟨x, rfl, rfl⟩ := hP
              exact k
          · exact absurd (by omega) c
end
end M14
set_option Elab.async false
set_option linter.all false
set_option maxRecDepth 100000
set_option maxHeartbeats 4000000
namespace M14
open PySem PySem.Spec PyProof.Rows L2

section
variable {P : Program} {w : World} {K : PySem.W.Frag} {mg : Str → Option Value} {base : Heap}
set_option hygiene false
local macro_rules | `(tactic| tm_at "sc") => `(tactic| (first | omega | (simp only [List.length_cons, List.length_nil, List.length_map, List.length_set, List.length_append]; omega) | (simp only [List.length_map] at h1 ⊢; omega) | (simp only [List.length_map] at c ⊢; omega) | with_reducible assumption | exact And.intro (by omega) (by omega) | exact Or.inl (And.intro (by omega) (by omega)) | exact Or.inr (And.intro (by omega) (by omega)) | decide +kernel | exact len1000 (by simp) | rfl | fail "no way"))
local macro_rules | `(tactic| tm_at "sc1") => `(tactic| (focus (simp; done)))
local macro_rules | `(tactic| tm_at "ne") => `(tactic| (first | assumption | exact Ne.symm (by assumption) | (apply Box.ne2; assumption; tm_at "hp") | (apply Ne.symm; apply Box.ne2; assumption; tm_at "hp") | (apply ne_of_none2; assumption; tm_at "hp") | (apply Ne.symm; apply ne_of_none2; assumption; tm_at "hp") | fail "no way"))
local macro_rules | `(tactic| tm_at "f0") => `(tactic| (first | assumption | (apply Fr.new; assumption) | fail "no way"))
local macro_rules | `(tactic| tm_at "hp") => `(tactic| (first | assumption | exact upd_same | (apply SqL.of; first | assumption | exact upd_same) | (apply Fr.at0; tm_at "f0"; tm_at "hp") | (apply Fr.at1n; assumption; tm_at "ne"; tm_at "hp") | (apply sqFr0; tm_at "f0"; tm_at "hp") | (apply sqFr1; assumption; tm_at "ne"; tm_at "hp") | (apply Box.fr0; tm_at "f0"; tm_at "hp") | (apply Box.fr1; assumption; tm_at "ne"; tm_at "hp") | (apply Den.fr; tm_at "f0"; tm_at "hp") | (apply Dens.fr; tm_at "f0"; tm_at "hp") | fail "no way"))
local macro_rules | `(tactic| tm_at "free0") => `(tactic| (first | assumption | (apply updFree; assumption) | (apply updFree; apply updFree; assumption) | (apply updFree; apply updFree; apply updFree; assumption) | (apply updFree; apply updFree; apply updFree; apply updFree; assumption) | fail "no way"))
local macro_rules | `(tactic| tm_at "free") => `(tactic| (first | tm_at "free0" | (apply Fr.free; assumption; tm_at "free0") | (apply Box.free; assumption; tm_at "fr"; tm_at "free0") | (apply Fr.free; assumption; apply Fr.free; assumption; tm_at "free0") | fail "no way"))
local macro_rules | `(tactic| tm_at "fr") => `(tactic| (first | assumption | exact Fr.refl0 _ | exact Fr.refl (Box.nt (by assumption)) | (refine Fr.comp0 ?_ (by tm_at "f0"); tm_at "fr") | (refine Fr.comp ?_ (by assumption); tm_at "fr") | (refine Fr.compN ?_ (by assumption) (by tm_at "free"); tm_at "fr") | fail "no way"))
local macro_rules | `(tactic| tm_at "call") => `(tactic| fail "no call")
local macro_rules | `(tactic| tm_at "call") => `(tactic| (apply take_step; tm_at "hp"; tm_at "sc"; tm_at "sc"; intro r H1 h0 h1 hB fr))
local macro_rules | `(tactic| tm_at "ty") => `(tactic| (first | assumption | exact .base .non | exact .base (.bl _) | exact .base (.int _) | exact .base (.str _) | (apply TyX.base; apply TyOf.lst; tm_at "hp") | (apply TyX.base; apply TyOf.tup; tm_at "hp") | fail "no way"))
local macro_rules | `(tactic| tm_at "pre") => `(tactic| fail "none")
local macro_rules | `(tactic| tm_at "go1") => `(tactic| (first | tm_at "pre" | refine ⟨_, rfl, ?_⟩ | refine ⟨_, _, rfl, rfl, ?_⟩ | (apply set_step; tm_at "hp"; tm_at "sc"; tm_at "sc"; intro H1 hp fr) | (with_reducible refine iteDI ?_ ?_ <;> intro c) | (with_reducible refine iteDS ?_ ?_ <;> intro c) | (with_reducible refine iteD ?_ ?_ <;> intro c) | (with_reducible refine iteEM ?_ ?_ <;> intro c) | (with_reducible refine iteE ?_ ?_ <;> intro c) | with_reducible refine iteN ?_ | with_reducible refine iteF ?_ | with_reducible refine iteT ?_ | (refine fun (p : Addr) (np : _ = (none : Option HO)) => ?_; fail_if_success (refine ⟨fun (_ _ : Nat) (_ : Hp) => True, ?_⟩)) | (apply isi_tt; tm_at "ty"; focus (decide +kernel)) | (apply isi_ff; tm_at "ty"; focus (decide +kernel)) | (apply sl_step; tm_at "hp"; intro qq H1 ms nq hq fr) | (apply sum_step; tm_at "hp"; intro i) | (apply tru_step; tm_at "hp") | (apply len_step; tm_at "hp") | (apply lenq_step; assumption) | (apply ixq_step; assumption; tm_at "sc"; tm_at "sc"; intro v hv) | (apply lst_step; tm_at "hp") | (apply tupl_step; tm_at "hp") | (apply ixr_step; tm_at "hp"; exact rfl) | (apply ix0_step; tm_at "hp") | (apply ix1_step; tm_at "hp") | (apply ix2_step; tm_at "hp") | (apply ixi_step; tm_at "hp"; tm_at "sc"; tm_at "sc"; intro n hn hn') | (apply ixl_step; tm_at "hp"; tm_at "sc"; tm_at "sc"; intro v hv) | (apply ixt_step; tm_at "hp"; tm_at "sc"; tm_at "sc"; intro v hm hv) | (apply in_step; tm_at "hp"; rfl; rfl) | (apply cat_step; tm_at "hp"; tm_at "hp"; tm_at "sc") | (apply catT_step; tm_at "hp"; tm_at "hp"; tm_at "sc1") | (apply tyL_and; tm_at "hp") | (apply app_step; tm_at "hp"; tm_at "sc"; intro H1 hp fr) | tm_at "call" | refine ⟨⟨_, rfl⟩, ?_⟩ | (apply ixs_step; tm_at "sc"; tm_at "sc"; tm_at "sc"; intro ch) | refine .inl ⟨_, rfl, ?_⟩ | refine .inr ⟨_, rfl, ?_⟩ | (apply And.intro; tm_at "sc") | (with_reducible refine wayB ?_ ?_ <;> intro c) | fail "no way"))
local macro_rules | `(tactic| tm_at "go") => `(tactic| (repeat tm_at "go1"))
local macro_rules | `(tactic| tm_at "goo") => `(tactic| (repeat' tm_at "go1"))
local macro_rules | `(tactic| tm_at "den") => `(tactic| (first | assumption | exact Den.str _ | exact Den.int _ | exact Den.bl _ | exact Den.non | (apply Den.tups; tm_at "hp"; tm_at "dens") | (apply Den.fr; tm_at "f0"; tm_at "den") | fail "no way"))
local macro_rules | `(tactic| tm_at "dens") => `(tactic| (first | assumption | exact Dens.nil | (apply Dens.cons; tm_at "den"; tm_at "dens") | (apply Dens.fr; tm_at "f0"; tm_at "dens") | fail "no way"))
local macro_rules | `(tactic| tm_at "ix") => `(tactic| (apply Ix.mk; tm_at "hp"; tm_at "ne"; assumption; assumption))
local macro_rules | `(tactic| tm_at "dep") => `(tactic| (first | assumption | exact Dep.int | exact Dep.str | exact Dep.bl | exact Dep.non | (apply Dep.tup; tm_at "dlen"; tm_at "deps") | (apply Dep.mono; assumption; decide) | fail "no way"))
local macro_rules | `(tactic| tm_at "deps") => `(tactic| (first | assumption | exact memN | (apply memC; tm_at "dep"; tm_at "deps") | fail "no way"))
local macro_rules | `(tactic| tm_at "dlen") => `(tactic| (first | assumption | (focus (simp; done)) | omega | fail "no way"))

/-! ### cells of the script -/
@[irreducible] def spCell (K : PySem.W.Frag) : Sp := fun vs H Q _ => ∃ (a : Addr) (ns : List Int) (k : Int), vs = [.ref a, .int k] ∧ SqL K H a (ns.map V.int) ∧ 0 ≤ k ∧ ∀ (i : Int) H', Fr [] H H' → Q (.int i) H'
theorem cell_step {a : Addr} {ns : List Int} {k : Int} {H : Hp} {Q : VK} {E : XK} (h : SqL K H a (ns.map V.int)) (h0 : 0 ≤ k) (q : ∀ (i : Int) H', Fr [] H H' → Q (.int i) H') : spCell K ([.ref a, .int k] ++ []) H Q E := by unfold spCell; exact ⟨a, ns, k, rfl, h, h0, q⟩
abbrev s_cell : Stmt := top 11
theorem sc_cell : FnScope ["_law_script", "_law_k"] ["_law_script", "_law_k"] (defScope s_cell) := ⟨rfl, rfl, rfl, by decide +kernel, rfl, by decide +kernel, by decide +kernel⟩

theorem ok_cell (T : Bl mg) (D : Def1 K mg "_law_cell" s_cell) : Cal P w K mg base 1 "_law_cell" ["_law_script", "_law_k"] (spCell K) := by
  refine D.cal sc_cell (fun _ _ _ _ _ _ us hl => match us, hl with | [_, _], _ => rfl) (fun vs H Q E h => ?_) (fun f cdv A outer s H vs Q E hr h => ?_) <;> unfold spCell at h
  · obtain ⟨a, ns, k, rfl, _⟩ := h
    rfl
  · obtain ⟨a, ns, k, rfl, ha, h0, q⟩ := h
    refine ⟨_, (pss_cons (ps_if (pt_cmpR op_lt (pv 1) (pe_callB (cLen K) (by rfl) T.z_len (by decide +kernel) (pa_cons (pv 0) pa_nil)) (nomark _))
      (pss_one (ps_ret (pe_callTy call_int1 (by rfl) T.z_int (by decide +kernel) (pa_cons (pe_ix (ixL K) (pv 0) (pv 1) (fun _ _ => rfl)) pa_nil))))
      pss_nil)
    (pss_one (ps_ret (pe_op op_add (pe_op op_add (pe_op op_mul (pe_op op_add (pv 1) pe_int) (pe_op op_mod (pe_callTy call_int1 (by rfl) T.z_int (by decide +kernel) (pa_cons (pe_callB (cSum K) (by rfl) T.z_sum (by decide +kernel) (pa_cons (pe_slice (slL K) (pv 0) po_none (po_some pe_int)) pa_nil)) pa_nil)) pe_int)) (pe_op op_mul pe_int (pv 1))) pe_int)))), ?_⟩
    tm_at "goo"
    · exact q _ _ (by tm_at "fr")
    · exact q _ _ (by tm_at "fr")
local macro_rules | `(tactic| tm_at "call") => `(tactic| (apply cell_step; tm_at "hp"; tm_at "sc"; intro i H1 fr))
@[irreducible] def spBox (K : PySem.W.Frag) : Sp := fun vs H Q _ => ∃ (a : Addr) (ns : List Int) (k : Int), vs = [.ref a, .int k] ∧ SqL K H a (ns.map V.int) ∧ 0 ≤ k ∧ ∀ b H', H b = none → Box H' b → Fr [] H H' → Q (.ref b) H'
theorem box_step {a : Addr} {ns : List Int} {k : Int} {H : Hp} {Q : VK} {E : XK} (h : SqL K H a (ns.map V.int)) (h0 : 0 ≤ k) (q : ∀ b H', H b = none → Box H' b → Fr [] H H' → Q (.ref b) H') : spBox K ([.ref a, .int k] ++ []) H Q E := by unfold spBox; exact ⟨a, ns, k, rfl, h, h0, q⟩
abbrev s_box : Stmt := top 12
theorem sc_box : FnScope ["_law_script", "_law_k", "_law_cell_here"] ["_law_script", "_law_k"] (defScope s_box) := ⟨rfl, rfl, rfl, by decide +kernel, rfl, by decide +kernel, by decide +kernel⟩

theorem ok_box (T : Bl mg) (G_cell : Cal P w K mg base 1 "_law_cell" ["_law_script", "_law_k"] (spCell K)) (D : Def1 K mg "_law_box" s_box) : Cal P w K mg base 2 "_law_box" ["_law_script", "_law_k"] (spBox K) := by
  refine D.cal sc_box (fun _ _ _ _ _ _ us hl => match us, hl with | [_, _], _ => rfl) (fun vs H Q E h => ?_) (fun f cdv A outer s H vs Q E hr h => ?_) <;> unfold spBox at h
  · obtain ⟨a, ns, k, rfl, _⟩ := h
    rfl
  · obtain ⟨a, ns, k, rfl, ha, h0, q⟩ := h
    refine ⟨_, (pss_cons (ps_set (i := 2) sc_box.nd rfl (Or.inl rfl) (pe_cal G_cell (hr.mono (by omega)) (by rfl) (pa_cons (pv 0) (pa_cons (pv 1) pa_nil))))
    (pss_cons (ps_if (pt_cmpR op_ge (pv 2) (pe_op op_pow pe_int pe_int) (nomark _))
      (pss_one (ps_ret (pe_lst (pa_cons (pv 2) (pa_cons pe_int (pa_cons (pv 2) (pa_cons pe_int (pa_cons (pv 1) pa_nil))))))))
      pss_nil)
    (pss_one (ps_ret (pe_lst (pa_cons pe_int (pa_cons pe_int (pa_cons (pv 2) (pa_cons pe_int (pa_cons (pv 1) pa_nil)))))))))), ?_⟩
    tm_at "goo"
    all_goals exact q _ _ (by tm_at "free") ⟨_, _, _, _, _, upd_same⟩ (by tm_at "fr")
local macro_rules | `(tactic| tm_at "call") => `(tactic| (apply box_step; tm_at "hp"; tm_at "sc"; intro bx H1 nb hB fr))
/-! ### entries moved -/
/-- the table of n numbers -/
def tab (step : Int) (n : Nat) : List Int := (List.range n).map fun k : Nat => step * (k : Int) + step - 1
def gT (step : Int) (j : Int) : Int := step * j + step - 1
theorem tab_get {step : Int} {n : Nat} {j y : Int} (h0 : 0 ≤ j) (e : (tab step n)[j.toNat]? = some y) : y = gT step j := by
  unfold tab at e
  rw [List.getElem?_map] at e
  cases q : (List.range n)[j.toNat]? with
  | none => rw [q] at e; cases e
  | some i =>
    rw [q] at e
    have hi := (List.getElem?_eq_some_iff.mp q)
    obtain ⟨h1, h2⟩ := hi
    rw [List.getElem_range] at h2
    have e2 : step * (i : Int) + step - 1 = y := Option.some.inj e
    unfold gT
    rw [← e2, ← h2]
    have z : ((j.toNat : Nat) : Int) = j := by omega
    rw [z]
theorem tab_len (step : Int) (n : Nat) : (tab step n).length = n := by unfold tab; rw [List.length_map, List.length_range]
@[irreducible] def spMovI (K : PySem.W.Frag) : Sp := fun vs H Q _ => ∃ (v : V) (tb : Addr) (step : Int) (n : Nat) (t : T), vs = [v, .ref tb] ∧ SqL K H tb ((tab step n).map V.int) ∧ Den K H v t ∧ EntI n t ∧ ∀ v' H', Fr [] H H' → Den K H' v' (movI (gT step) t) → Q v' H'
theorem movi_step {v : V} {tb : Addr} {step : Int} {n : Nat} {t : T} {H : Hp} {Q : VK} {E : XK} (h : SqL K H tb ((tab step n).map V.int)) (d : Den K H v t) (e : EntI n t) (q : ∀ v' H', Fr [] H H' → Den K H' v' (movI (gT step) t) → Q v' H') : spMovI K ([v, .ref tb] ++ []) H Q E := by
  unfold spMovI; exact ⟨v, tb, step, n, t, rfl, h, d, e, q⟩
@[irreducible] def spMov (K : PySem.W.Frag) : Sp := fun vs H Q _ => ∃ (v : V) (tb : Addr) (step : Int) (n : Nat) (t : T), vs = [v, .ref tb] ∧ SqL K H tb ((tab step n).map V.int) ∧ Den K H v t ∧ EntOk n t ∧ ∀ v' H', Fr [] H H' → Den K H' v' (movT (gT step) t) → Q v' H'
theorem mov_step {v : V} {tb : Addr} {step : Int} {n : Nat} {t : T} {H : Hp} {Q : VK} {E : XK} (h : SqL K H tb ((tab step n).map V.int)) (d : Den K H v t) (e : EntOk n t) (q : ∀ v' H', Fr [] H H' → Den K H' v' (movT (gT step) t) → Q v' H') : spMov K ([v, .ref tb] ++ []) H Q E := by
  unfold spMov; exact ⟨v, tb, step, n, t, rfl, h, d, e, q⟩
abbrev s_moved : Stmt := top 28
theorem sc_moved : FnScope ["_law_entry_here", "_law_table_here"] ["_law_entry_here", "_law_table_here"] (defScope s_moved) := ⟨rfl, rfl, rfl, by decide +kernel, rfl, by decide +kernel, by decide +kernel⟩

theorem ok_movi (T : Bl mg) (D : Def1 K mg "_law_moved" s_moved) : Cal P w K mg base 1 "_law_moved" ["_law_entry_here", "_law_table_here"] (spMovI K) := by
  have G_moved : Cal P w K mg base 0 "_law_moved" ["_law_entry_here", "_law_table_here"] (fun _ _ _ _ => False) := D.never fun _ _ _ _ _ _ us hl => match us, hl with | [_, _], _ => rfl
  refine D.cal sc_moved (fun _ _ _ _ _ _ us hl => match us, hl with | [_, _], _ => rfl) (fun vs H Q E h => ?_) (fun f cdv A outer s H vs Q E hr h => ?_) <;> unfold spMovI at h
  · obtain ⟨v, tb, step, n, t, rfl, _⟩ := h
    rfl
  · obtain ⟨v, tb, step, n, t, rfl, ht, d, e, q⟩ := h
    refine ⟨_, (pss_cons (ps_if (pt_cmpR op_eq (pe_ix (ixT K) (pv 0) pe_int (fun _ _ => rfl)) pe_str (nomark _))
      (pss_one (ps_ret (pe_tup (pa_cons pe_str (pa_cons (pe_ix (ixT K) (pv 0) pe_int (fun _ _ => rfl)) (pa_cons (pe_cal G_moved (hr.mono (by omega)) (by rfl) (pa_cons (pe_ix (ixT K) (pv 0) pe_int (fun _ _ => rfl)) (pa_cons (pv 1) pa_nil))) pa_nil))))))
      pss_nil)
    (pss_cons (ps_if (PW.pt (pw_or (pt_cmpR op_eq (pe_ix (ixT K) (pv 0) pe_int (fun _ _ => rfl)) pe_str (nomark _)) (pw_or1 (pt_cmpR op_eq (pe_ix (ixT K) (pv 0) pe_int (fun _ _ => rfl)) pe_str (nomark _)))))
      (pss_one (ps_ret (pe_tup (pa_cons (pe_ix (ixT K) (pv 0) pe_int (fun _ _ => rfl)) (pa_cons (pe_ix (ixL K) (pv 1) (pe_ix (ixT K) (pv 0) pe_int (fun _ _ => rfl)) (fun _ _ => rfl)) pa_nil)))))
      pss_nil)
    (pss_one (ps_ret (pv 0))))), ?_⟩
    rcases e with ⟨u, ts, rfl, h1, h2, h3, h4, h5⟩ | ⟨u, j, rfl, hw, j0, j1⟩
    · obtain ⟨p, xs, rfl, hp, dx⟩ := d.tup_inv
      obtain ⟨x, r, rfl, dx1, dr⟩ := dx.uncons
      cases dx1.unstr
      have fin : Den K H (.ref p) (movI (gT step) (.tup (.str u :: ts))) := by
        rw [movI_plain ⟨u, ts, rfl, h1, h2, h3, h4, h5⟩]; exact d
      tm_at "goo"
      all_goals first | exact absurd (by assumption) h1 | exact absurd (by assumption) h2 | exact absurd (by assumption) h3 | exact q _ _ (by tm_at "fr") fin
    · obtain ⟨p, xs, rfl, hp, dx⟩ := d.tup_inv
      obtain ⟨x, r, rfl, dx1, dr⟩ := dx.uncons
      cases dx1.unstr
      obtain ⟨y, r, rfl, dy, dn⟩ := dr.uncons
      cases dy.unint
      cases dn.unnil
      have tl := tab_len step n
      have up : u ≠ Str.ofString "pending" := by
        rcases hw with rfl | rfl <;> decide +kernel
      have hw' := hw
      rw [movI_ref hw] at q
      tm_at "goo"
      · exact absurd (by assumption) up
      · rw [← tab_get j0 hn'] at q
        exact q _ _ (by tm_at "fr") (by tm_at "den")
      · rw [← tab_get j0 hn'] at q
        exact q _ _ (by tm_at "fr") (by tm_at "den")
      · exact absurd hw' (by rintro (z | z) <;> contradiction)
local macro_rules | `(tactic| tm_at "call") => `(tactic| (apply movi_step; tm_at "hp"; tm_at "den"; assumption; intro v H1 fr hd))
theorem ok_moved (T : Bl mg) (D : Def1 K mg "_law_moved" s_moved) : Cal P w K mg base 2 "_law_moved" ["_law_entry_here", "_law_table_here"] (spMov K) := by
  have G_moved : Cal P w K mg base 1 "_law_moved" ["_law_entry_here", "_law_table_here"] (spMovI K) := ok_movi T D
  refine D.cal sc_moved (fun _ _ _ _ _ _ us hl => match us, hl with | [_, _], _ => rfl) (fun vs H Q E h => ?_) (fun f cdv A outer s H vs Q E hr h => ?_) <;> unfold spMov at h
  · obtain ⟨v, tb, step, n, t, rfl, _⟩ := h
    rfl
  · obtain ⟨v, tb, step, n, t, rfl, ht, d, e, q⟩ := h
    refine ⟨_, (pss_cons (ps_if (pt_cmpR op_eq (pe_ix (ixT K) (pv 0) pe_int (fun _ _ => rfl)) pe_str (nomark _))
      (pss_one (ps_ret (pe_tup (pa_cons pe_str (pa_cons (pe_ix (ixT K) (pv 0) pe_int (fun _ _ => rfl)) (pa_cons (pe_cal G_moved (hr.mono (by omega)) (by rfl) (pa_cons (pe_ix (ixT K) (pv 0) pe_int (fun _ _ => rfl)) (pa_cons (pv 1) pa_nil))) pa_nil))))))
      pss_nil)
    (pss_cons (ps_if (PW.pt (pw_or (pt_cmpR op_eq (pe_ix (ixT K) (pv 0) pe_int (fun _ _ => rfl)) pe_str (nomark _)) (pw_or1 (pt_cmpR op_eq (pe_ix (ixT K) (pv 0) pe_int (fun _ _ => rfl)) pe_str (nomark _)))))
      (pss_one (ps_ret (pe_tup (pa_cons (pe_ix (ixT K) (pv 0) pe_int (fun _ _ => rfl)) (pa_cons (pe_ix (ixL K) (pv 1) (pe_ix (ixT K) (pv 0) pe_int (fun _ _ => rfl)) (fun _ _ => rfl)) pa_nil)))))
      pss_nil)
    (pss_one (ps_ret (pv 0))))), ?_⟩
    rcases e with (⟨u, ts, rfl, h1, h2, h3, h4, h5⟩ | ⟨u, j, rfl, hw, j0, j1⟩) | ⟨r, i, rfl, hi⟩
    · obtain ⟨p, xs, rfl, hp, dx⟩ := d.tup_inv
      obtain ⟨x, r, rfl, dx1, dr⟩ := dx.uncons
      cases dx1.unstr
      have fin : Den K H (.ref p) (movT (gT step) (.tup (.str u :: ts))) := by
        rw [movT_plain ⟨u, ts, rfl, h1, h2, h3, h4, h5⟩]; exact d
      tm_at "goo"
      all_goals first | exact absurd (by assumption) h1 | exact absurd (by assumption) h2 | exact absurd (by assumption) h3 | exact q _ _ (by tm_at "fr") fin
    · obtain ⟨p, xs, rfl, hp, dx⟩ := d.tup_inv
      obtain ⟨x, r, rfl, dx1, dr⟩ := dx.uncons
      cases dx1.unstr
      obtain ⟨y, r, rfl, dy, dn⟩ := dr.uncons
      cases dy.unint
      cases dn.unnil
      have tl := tab_len step n
      have up : u ≠ Str.ofString "pending" := by
        rcases hw with rfl | rfl <;> decide +kernel
      have hw' := hw
      rw [movT_ref hw] at q
      tm_at "goo"
      · exact absurd (by assumption) up
      · rw [← tab_get j0 hn'] at q
        exact q _ _ (by tm_at "fr") (by tm_at "den")
      · rw [← tab_get j0 hn'] at q
        exact q _ _ (by tm_at "fr") (by tm_at "den")
      · exact absurd hw' (by rintro (z | z) <;> contradiction)
    · obtain ⟨p, xs, rfl, hp, dx⟩ := d.tup_inv
      obtain ⟨x, r1, rfl, dx1, dr⟩ := dx.uncons
      cases dx1.unstr
      obtain ⟨y, r2, rfl, dy, dr2⟩ := dr.uncons
      cases dy.unint
      obtain ⟨z, r3, rfl, dz, dn⟩ := dr2.uncons
      cases dn.unnil
      rw [movT_pend] at q
      tm_at "goo"
      all_goals trace_state
      all_goals exact q _ _ (by tm_at "fr") (by tm_at "den")
end
end M14
set_option Elab.async false
set_option linter.all false
set_option maxRecDepth 100000
set_option maxHeartbeats 4000000
namespace M14
open PySem PySem.Spec PyProof.Rows L2

/-- a comprehension over range(lo, .., c) -/
theorem lc_rangeC {lo c : Int} {n : Nat} {g : TG} {tt : TT} {te : TE} {vs : List Nat} {σ : L2.St} {H1 : Hp} {D : Addr} {Qd : Hp → Prop} (Pv : Nat → Hp → Prop) (h0 : Pv 0 (upd H1 D (.lst [])))
    (hs : ∀ i H, i < n → Pv i H → g (.int (lo + (i : Nat) * c)) (wipe σ vs) H fun σ2 H2 => wipe σ2 vs = wipe σ vs ∧ tt σ2 H2 fun b H3 =>
      if b = true then te σ2 H3 fun y H4 => ∃ acc, H4 D = some (.lst acc) ∧ acc.length < sizeLine ∧ Pv (i + 1) (upd H4 D (.lst (acc ++ [y]))) else Pv (i + 1) H3) (hd : ∀ H, Pv n H → Qd H) :
    ∃ W : Nat → Nat → Hp → Prop, (∃ m, W 0 m (upd H1 D (.lst []))) ∧ ∀ i m H, W i m H →
      ((Itc lo c n).stop i H ∧ Qd H) ∨ ((Itc lo c n).go i H ∧ ∃ Nx : Hp → Prop, (∀ H', Nx H' → ∃ m', m' < m ∧ W (i + 1) m' H') ∧ ∀ x H', (Itc lo c n).yld i H x H' → g x (wipe σ vs) H' fun σ2 H2 => wipe σ2 vs = wipe σ vs ∧ tt σ2 H2 fun b H3 =>
        if b = true then te σ2 H3 fun y H4 => ∃ acc, H4 D = some (.lst acc) ∧ acc.length < sizeLine ∧ Nx (upd H4 D (.lst (acc ++ [y]))) else Nx H3) := by
  refine ⟨fun i m H => m = n - i ∧ i ≤ n ∧ Pv i H, ⟨n, by simp, Nat.zero_le _, h0⟩, ?_⟩
  rintro i m H ⟨rfl, hi, p⟩
  by_cases hlt : i < n
  · refine .inr ⟨hlt, Pv (i + 1), fun H' p' => ⟨n - (i + 1), by omega, rfl, hlt, p'⟩, fun x H' y => ?_⟩
    obtain ⟨e, y⟩ := y
    subst e y
    exact hs i _ hlt p
  · have e : i = n := by omega
    subst e
    exact .inl ⟨Nat.le_refl _, hd H p⟩
theorem lcRC {lo c : Int} {n : Nat} {te : TE} {tt : TT} {σ : L2.St} {H1 : Hp} {j : Nat} {M : List Addr} {S : Hp → Prop} {Qd : Addr → Hp → Prop} (f : Nat → Bool) (P : Hp → Nat → V → Prop) (G : Cg M S H1) (st : Stab P) (hz : n ≤ 10000)
    (ht : ∀ (i : Nat) H, i < n → S H → Fr M H1 H → ∀ R : Bool → Hp → Prop, (∀ H', S H' → Fr M H H' → R (f i) H') → tt ((wipe σ [j]).set j (some (.int (lo + (i : Nat) * c)))) H R)
    (he : ∀ (i : Nat) H, i < n → f i = true → S H → Fr M H1 H → ∀ R : VK, (∀ y H', S H' → Fr M H H' → P H' i y → R y H') → te ((wipe σ [j]).set j (some (.int (lo + (i : Nat) * c)))) H R)
    (hd : ∀ D H' ys, H1 D = none → H' D = some (.lst ys) → Made P H' (keptN f n) ys → S H' → Fr M H1 H' → Qd D H') :
    ∀ D, H1 D = none → ∃ W : Nat → Nat → Hp → Prop, (∃ m, W 0 m (upd H1 D (.lst []))) ∧ ∀ i m H, W i m H →
      ((Itc lo c n).stop i H ∧ Qd D H) ∨ ((Itc lo c n).go i H ∧ ∃ Nx : Hp → Prop, (∀ H', Nx H' → ∃ m', m' < m ∧ W (i + 1) m' H') ∧ ∀ x H', (Itc lo c n).yld i H x H' → gName j x (wipe σ [j]) H' fun σ2 H2 => wipe σ2 [j] = wipe σ [j] ∧ tt σ2 H2 fun b H3 =>
        if b = true then te σ2 H3 fun y H4 => ∃ acc, H4 D = some (.lst acc) ∧ acc.length < sizeLine ∧ Nx (upd H4 D (.lst (acc ++ [y]))) else Nx H3) := fun D hD =>
  lc_rangeC (CI M S H1 f P D) (CI.start G hD) (fun i H hi h => ⟨wipe_again σ j _, CI.turn G st hD hi hz h (ht i H hi h.1 h.2.1) fun hf H' s f' => he i H' hi hf s f'⟩) fun H h => let ⟨s, fr, ys, e, m⟩ := h; hd D H ys hD e m s fr
/-- what was made of ints -/
theorem Made.ints {H : Hp} {is : List Nat} {ys : List V} {g : Nat → Int} (m : Made (fun _ i y => y = .int (g i)) H is ys) : ys = (is.map g).map V.int := by
  refine List.ext_getElem? fun k => ?_
  rw [List.getElem?_map, List.getElem?_map]
  cases e : is[k]? with
  | none =>
    have := List.getElem?_eq_none_iff.mp e
    rw [List.getElem?_eq_none_iff.mpr (by rw [m.1]; exact this)]
    rfl
  | some i =>
    have hk : k < ys.length := by rw [m.1]; exact (List.getElem?_eq_some_iff.mp e).1
    have q := m.2 k i ys[k] e (List.getElem?_eq_getElem hk)
    rw [List.getElem?_eq_getElem hk, q]
    rfl
section
variable {P : Program} {w : World} {K : PySem.W.Frag} {mg : Str → Option Value} {base : Heap}
set_option hygiene false
local macro_rules | `(tactic| tm_at "sc") => `(tactic| (first | omega | (simp only [List.length_cons, List.length_nil, List.length_map, List.length_set, List.length_append]; omega) | (simp only [List.length_map] at h1 ⊢; omega) | (simp only [List.length_map] at c ⊢; omega) | with_reducible assumption | exact And.intro (by omega) (by omega) | exact Or.inl (And.intro (by omega) (by omega)) | exact Or.inr (And.intro (by omega) (by omega)) | decide +kernel | exact len1000 (by simp) | rfl | fail "no way"))
local macro_rules | `(tactic| tm_at "sc1") => `(tactic| (focus (simp; done)))
local macro_rules | `(tactic| tm_at "ne") => `(tactic| (first | assumption | exact Ne.symm (by assumption) | (apply Box.ne2; assumption; tm_at "hp") | (apply Ne.symm; apply Box.ne2; assumption; tm_at "hp") | (apply ne_of_none2; assumption; tm_at "hp") | (apply Ne.symm; apply ne_of_none2; assumption; tm_at "hp") | fail "no way"))
local macro_rules | `(tactic| tm_at "f0") => `(tactic| (first | assumption | (apply Fr.new; assumption) | fail "no way"))
local macro_rules | `(tactic| tm_at "hp") => `(tactic| (first | assumption | exact upd_same | (apply SqL.of; first | assumption | exact upd_same) | (apply Fr.at0; tm_at "f0"; tm_at "hp") | (apply Fr.at1n; assumption; tm_at "ne"; tm_at "hp") | (apply sqFr0; tm_at "f0"; tm_at "hp") | (apply sqFr1; assumption; tm_at "ne"; tm_at "hp") | (apply Box.fr0; tm_at "f0"; tm_at "hp") | (apply Box.fr1; assumption; tm_at "ne"; tm_at "hp") | (apply Den.fr; tm_at "f0"; tm_at "hp") | (apply Dens.fr; tm_at "f0"; tm_at "hp") | fail "no way"))
local macro_rules | `(tactic| tm_at "free0") => `(tactic| (first | assumption | (apply updFree; assumption) | (apply updFree; apply updFree; assumption) | (apply updFree; apply updFree; apply updFree; assumption) | (apply updFree; apply updFree; apply updFree; apply updFree; assumption) | fail "no way"))
local macro_rules | `(tactic| tm_at "free") => `(tactic| (first | tm_at "free0" | (apply Fr.free; assumption; tm_at "free0") | (apply Box.free; assumption; tm_at "fr"; tm_at "free0") | (apply Fr.free; assumption; apply Fr.free; assumption; tm_at "free0") | fail "no way"))
local macro_rules | `(tactic| tm_at "fr") => `(tactic| (first | assumption | exact Fr.refl0 _ | exact Fr.refl (Box.nt (by assumption)) | (refine Fr.comp0 ?_ (by tm_at "f0"); tm_at "fr") | (refine Fr.comp ?_ (by assumption); tm_at "fr") | (refine Fr.compN ?_ (by assumption) (by tm_at "free"); tm_at "fr") | fail "no way"))
local macro_rules | `(tactic| tm_at "call") => `(tactic| fail "no call")
local macro_rules | `(tactic| tm_at "call") => `(tactic| (apply take_step; tm_at "hp"; tm_at "sc"; tm_at "sc"; intro r H1 h0 h1 hB fr))
local macro_rules | `(tactic| tm_at "ty") => `(tactic| (first | assumption | exact .base .non | exact .base (.bl _) | exact .base (.int _) | exact .base (.str _) | (apply TyX.base; apply TyOf.lst; tm_at "hp") | (apply TyX.base; apply TyOf.tup; tm_at "hp") | fail "no way"))
local macro_rules | `(tactic| tm_at "pre") => `(tactic| fail "none")
local macro_rules | `(tactic| tm_at "go1") => `(tactic| (first | tm_at "pre" | refine ⟨_, rfl, ?_⟩ | refine ⟨_, _, rfl, rfl, ?_⟩ | (apply set_step; tm_at "hp"; tm_at "sc"; tm_at "sc"; intro H1 hp fr) | (with_reducible refine iteDI ?_ ?_ <;> intro c) | (with_reducible refine iteDS ?_ ?_ <;> intro c) | (with_reducible refine iteD ?_ ?_ <;> intro c) | (with_reducible refine iteEM ?_ ?_ <;> intro c) | (with_reducible refine iteE ?_ ?_ <;> intro c) | with_reducible refine iteN ?_ | with_reducible refine iteF ?_ | with_reducible refine iteT ?_ | (refine fun (p : Addr) (np : _ = (none : Option HO)) => ?_; fail_if_success (refine ⟨fun (_ _ : Nat) (_ : Hp) => True, ?_⟩)) | (apply isi_tt; tm_at "ty"; focus (decide +kernel)) | (apply isi_ff; tm_at "ty"; focus (decide +kernel)) | (apply sl_step; tm_at "hp"; intro qq H1 ms nq hq fr) | (apply sum_step; tm_at "hp"; intro i) | (apply tru_step; tm_at "hp") | (apply len_step; tm_at "hp") | (apply lenq_step; assumption) | (apply ixq_step; assumption; tm_at "sc"; tm_at "sc"; intro v hv) | (apply lst_step; tm_at "hp") | (apply tupl_step; tm_at "hp") | (apply ixr_step; tm_at "hp"; exact rfl) | (apply ix0_step; tm_at "hp") | (apply ix1_step; tm_at "hp") | (apply ix2_step; tm_at "hp") | (apply ixi_step; tm_at "hp"; tm_at "sc"; tm_at "sc"; intro n hn hn') | (apply ixl_step; tm_at "hp"; tm_at "sc"; tm_at "sc"; intro v hv) | (apply ixt_step; tm_at "hp"; tm_at "sc"; tm_at "sc"; intro v hm hv) | (apply in_step; tm_at "hp"; rfl; rfl) | (apply cat_step; tm_at "hp"; tm_at "hp"; tm_at "sc") | (apply catT_step; tm_at "hp"; tm_at "hp"; tm_at "sc1") | (apply tyL_and; tm_at "hp") | (apply app_step; tm_at "hp"; tm_at "sc"; intro H1 hp fr) | tm_at "call" | refine ⟨⟨_, rfl⟩, ?_⟩ | (apply ixs_step; tm_at "sc"; tm_at "sc"; tm_at "sc"; intro ch) | refine .inl ⟨_, rfl, ?_⟩ | refine .inr ⟨_, rfl, ?_⟩ | (apply And.intro; tm_at "sc") | (with_reducible refine wayB ?_ ?_ <;> intro c) | fail "no way"))
local macro_rules | `(tactic| tm_at "go") => `(tactic| (repeat tm_at "go1"))
local macro_rules | `(tactic| tm_at "goo") => `(tactic| (repeat' tm_at "go1"))
local macro_rules | `(tactic| tm_at "den") => `(tactic| (first | assumption | exact Den.str _ | exact Den.int _ | exact Den.bl _ | exact Den.non | (apply Den.tups; tm_at "hp"; tm_at "dens") | (apply Den.fr; tm_at "f0"; tm_at "den") | fail "no way"))
local macro_rules | `(tactic| tm_at "dens") => `(tactic| (first | assumption | exact Dens.nil | (apply Dens.cons; tm_at "den"; tm_at "dens") | (apply Dens.fr; tm_at "f0"; tm_at "dens") | fail "no way"))
local macro_rules | `(tactic| tm_at "ix") => `(tactic| (apply Ix.mk; tm_at "hp"; tm_at "ne"; assumption; assumption))
local macro_rules | `(tactic| tm_at "dep") => `(tactic| (first | assumption | exact Dep.int | exact Dep.str | exact Dep.bl | exact Dep.non | (apply Dep.tup; tm_at "dlen"; tm_at "deps") | (apply Dep.mono; assumption; decide) | fail "no way"))
local macro_rules | `(tactic| tm_at "deps") => `(tactic| (first | assumption | exact memN | (apply memC; tm_at "dep"; tm_at "deps") | fail "no way"))
local macro_rules | `(tactic| tm_at "dlen") => `(tactic| (first | assumption | (focus (simp; done)) | omega | fail "no way"))

local macro_rules | `(tactic| tm_at "call") => `(tactic| (apply mov_step; tm_at "hp"; tm_at "den"; assumption; intro v H1 fr hd))
local macro_rules | `(tactic| tm_at "pure") => `(tactic| exact tyes_ok trivial (fun _ h => nomatch h))
/-! ### lists of entries moved -/
@[irreducible] def spSent (K : PySem.W.Frag) : Sp := fun vs H Q _ => ∃ (a tb : Addr) (step : Int) (n : Nat) (xs : List V) (ts : List T), vs = [.ref a, .ref tb] ∧ SqL K H a xs ∧ Dens K H xs ts ∧ (∀ t ∈ ts, EntOk n t) ∧ xs.length ≤ 1000 ∧ SqL K H tb ((tab step n).map V.int) ∧
  ∀ D H' ys, H D = none → H' D = some (.lst ys) → Dens K H' ys (ts.map (movT (gT step))) → Fr [] H H' → Q (.ref D) H'
theorem sent_step {a tb : Addr} {step : Int} {n : Nat} {xs : List V} {ts : List T} {H : Hp} {Q : VK} {E : XK} (h1 : SqL K H a xs) (h2 : SqL K H tb ((tab step n).map V.int)) (h3 : Dens K H xs ts) (h4 : ∀ t ∈ ts, EntOk n t) (h5 : xs.length ≤ 1000)
    (q : ∀ D H' ys, H D = none → H' D = some (.lst ys) → Dens K H' ys (ts.map (movT (gT step))) → Fr [] H H' → Q (.ref D) H') : spSent K ([.ref a, .ref tb] ++ []) H Q E := by unfold spSent; exact ⟨a, tb, step, n, xs, ts, rfl, h1, h3, h4, h5, h2, q⟩
abbrev s_sent : Stmt := top 29
theorem sc_sent : FnScope ["_law_entries", "_law_table_here", "_law_entry_here"] ["_law_entries", "_law_table_here"] (defScope s_sent) := ⟨rfl, rfl, rfl, by decide +kernel, rfl, by decide +kernel, by decide +kernel⟩

theorem ok_sent (G_moved : Cal P w K mg base 2 "_law_moved" ["_law_entry_here", "_law_table_here"] (spMov K)) (D : Def1 K mg "_law_sent" s_sent) : Cal P w K mg base 3 "_law_sent" ["_law_entries", "_law_table_here"] (spSent K) := by
  refine D.cal sc_sent (fun _ _ _ _ _ _ us hl => match us, hl with | [_, _], _ => rfl) (fun vs H Q E h => ?_) (fun f cdv A outer s H vs Q E hr h => ?_) <;> unfold spSent at h
  · obtain ⟨a, tb, step, n, xs, ts, rfl, _⟩ := h
    rfl
  · obtain ⟨a, tb, step, n, xs, ts, rfl, ha, dx, ex, lx, ht, q⟩ := h
    refine ⟨_, (pss_one (ps_ret (pe_lc (own := [("_law_entry_here", 2)]) (g := gName 2) (by rfl) sc_sent.nd (pi_list (pv 0)) (blkOk_by (own := [("_law_entry_here", 2)]) (N := [("_law_entries" : Str), ("_law_table_here" : Str), ("_law_entry_here" : Str)]) (sc := defScope s_sent) (by decide +kernel)) (fun _ _ _ _ _ => pg_name (i := 2) sc_sent.nd rfl (Or.inl rfl)) (fun _ _ _ _ _ => pts_nil) (fun _ _ _ _ _ => (pe_cal G_moved (hr.mono (by omega)) (by rfl) (pa_cons (pv 2) (pa_cons (pv 1) pa_nil))))))), ?_⟩
    tm_at "goo"
    refine ⟨⟨_, ha⟩, ?_⟩
    refine lcL (fun _ => true) (fun H i y => ∃ t, Den K H y t ∧ ts[i]?.map (movT (gT step)) = some t) (Cg.nil _) stab_den (xs := xs) ha (by simp) (by omega) (fun i x H hi hS f => tyes_ok trivial (fun _ h => nomatch h)) (fun i x H2 hi _ hS f R kk => ?_) (fun D H' ys nD hD m _ f => ?_)
    · obtain ⟨t, et, dt⟩ := dx.get hi
      have dt' : Den K H2 x t := by tm_at "den"
      have et' := ex t (List.mem_of_getElem? et)
      tm_at "goo"
      exact kk _ _ trivial (by tm_at "fr") ⟨_, hd, by rw [et]; rfl⟩
    · rw [keptN_all] at m
      have ma := m.all
      refine q _ _ ys (by tm_at "free") hD ⟨by rw [List.length_map, ma.1, dx.1], fun i y t a b => ?_⟩ (by tm_at "fr")
      obtain ⟨t', d', e'⟩ := ma.2 i y a
      rw [List.getElem?_map, e'] at b
      cases b
      exact d'
/-! ### tables -/
@[irreducible] def spTable : Sp := fun vs H Q _ => ∃ (n : Nat) (step : Int), vs = [.int n, .int step] ∧ n ≤ 1000 ∧ ∀ D H', H D = none → H' D = some (.lst ((tab step n).map V.int)) → Fr [] H H' → Q (.ref D) H'
theorem table_step {n : Nat} {step : Int} {H : Hp} {Q : VK} {E : XK} (h1 : n ≤ 1000) (q : ∀ D H', H D = none → H' D = some (.lst ((tab step n).map V.int)) → Fr [] H H' → Q (.ref D) H') : spTable ([.int n, .int step] ++ []) H Q E := by unfold spTable; exact ⟨n, step, rfl, h1, q⟩
abbrev s_table : Stmt := top 31
theorem sc_table : FnScope ["_law_many", "_law_step", "_law_k"] ["_law_many", "_law_step"] (defScope s_table) := ⟨rfl, rfl, rfl, by decide +kernel, rfl, by decide +kernel, by decide +kernel⟩

theorem ok_table (T : Bl mg) (D : Def1 K mg "_law_table" s_table) : Cal P w K mg base 1 "_law_table" ["_law_many", "_law_step"] spTable := by
  refine D.cal sc_table (fun _ _ _ _ _ _ us hl => match us, hl with | [_, _], _ => rfl) (fun vs H Q E h => ?_) (fun f cdv A outer s H vs Q E hr h => ?_) <;> unfold spTable at h
  · obtain ⟨n, step, rfl, _⟩ := h
    rfl
  · obtain ⟨n, step, rfl, hn, q⟩ := h
    refine ⟨_, (pss_one (ps_ret (pe_lc (own := [("_law_k", 2)]) (g := gName 2) (by rfl) sc_table.nd (pi_range1 (by rfl) T.z_range (pa_cons (pv 0) pa_nil)) (blkOk_by (own := [("_law_k", 2)]) (N := [("_law_many" : Str), ("_law_step" : Str), ("_law_k" : Str)]) (sc := defScope s_table) (by decide +kernel)) (fun _ _ _ _ _ => pg_name (i := 2) sc_table.nd rfl (Or.inl rfl)) (fun _ _ _ _ _ => pts_nil) (fun _ _ _ _ _ => (pe_op op_sub (pe_op op_add (pe_op op_mul (pv 1) (pv 2)) (pv 1)) pe_int))))), ?_⟩
    tm_at "goo"
    refine lcR (fun _ => true) (fun _ i y => y = .int (step * (i : Int) + step - 1)) (Cg.nil _) stab_v (by omega) (fun i H hi hS f => tyes_ok trivial (fun _ h => nomatch h)) (fun i H2 hi _ hS f R kk => ?_) (fun D H' ys nD hD m _ f => ?_)
    · tm_at "goo"
      exact kk _ _ trivial (by tm_at "fr") (by rw [Int.zero_add])
    · rw [keptN_all] at m
      rw [m.ints, show ((n : Int).toNat) = n by omega] at hD
      exact q _ _ nD hD f
end
end M14
set_option Elab.async false
set_option linter.all false
set_option maxRecDepth 100000
set_option maxHeartbeats 4000000
namespace M14
open PySem PySem.Spec PyProof.Rows L2

/-! ### the nodes of the law -/
structure Nd where
  nd : Addr
  row : Addr
  kd : Str
  tv : V
  tg : T
  rs : List V
  ts : List T
abbrev Role := Addr → Option (Nat × Nat × Nat)
/-- nothing of M is owned by side s -/
def Away (r : Role) (s : Nat) (M : List Addr) : Prop := ∀ a ∈ M, ∀ i j, r a ≠ some (s, i, j)
theorem Away.nil {r : Role} {s : Nat} : Away r s [] := fun _ h => nomatch h
theorem Away.one {r : Role} {s : Nat} {b : Addr} (h : r b = none) : Away r s [b] := fun a m i j e => by
  have z : a = b := by simpa using m
  rw [z, h] at e; cases e
structure NdA (K : PySem.W.Frag) (ρ : Role) (s : Nat) (n : Int) (H : Hp) (N : Addr) (xs : List Nd) : Prop where
  at_ : H N = some (.lst (xs.map fun x => V.ref x.nd))
  rN : ρ N = some (s, 2, 0)
  nd : ∀ (i : Nat) (x : Nd), xs[i]? = some x → H x.nd = some (.lst [.str x.kd, x.tv, .ref x.row]) ∧ ρ x.nd = some (s, 3, i)
  row : ∀ (i : Nat) (x : Nd), xs[i]? = some x → H x.row = some (.lst x.rs) ∧ ρ x.row = some (s, 4, i)
  ok : ∀ (i : Nat) (x : Nd), xs[i]? = some x → Dens K H x.rs x.ts ∧ (∀ t ∈ x.ts, EntOk n t) ∧ Den K H x.tv x.tg ∧ Dep 3 x.tg ∧ x.rs.length ≤ 200
  len : xs.length ≤ 1000
theorem NdA.frM {K : PySem.W.Frag} {ρ : Role} {s : Nat} {n : Int} {H H' : Hp} {N : Addr} {xs : List Nd} {M : List Addr} (h : NdA K ρ s n H N xs) (f : Fr M H H') (aw : Away ρ s M) : NdA K ρ s n H' N xs :=
  ⟨f.kp _ _ h.at_ fun m => aw _ m _ _ h.rN, h.rN, fun i x e => ⟨f.kp _ _ (h.nd i x e).1 fun m => aw _ m _ _ (h.nd i x e).2, (h.nd i x e).2⟩,
    fun i x e => ⟨f.kp _ _ (h.row i x e).1 fun m => aw _ m _ _ (h.row i x e).2, (h.row i x e).2⟩,
    fun i x e => let ⟨a, b, c, d⟩ := h.ok i x e; ⟨a.fr f, b, c.fr f, d⟩, h.len⟩
theorem NdA.fr0 {K : PySem.W.Frag} {ρ : Role} {s : Nat} {n : Int} {H H' : Hp} {N : Addr} {xs : List Nd} (h : NdA K ρ s n H N xs) (f : Fr [] H H') : NdA K ρ s n H' N xs := h.frM f .nil
theorem NdA.fr1 {K : PySem.W.Frag} {ρ : Role} {s : Nat} {n : Int} {H H' : Hp} {N b : Addr} {xs : List Nd} (h : NdA K ρ s n H N xs) (f : Fr [b] H H') (hb : ρ b = none) : NdA K ρ s n H' N xs := h.frM f (.one hb)
theorem NdA.of0 {K : PySem.W.Frag} {ρ : Role} {s : Nat} {n : Int} {H H' : Hp} {N : Addr} {xs : List Nd} (f : Fr [] H H') (h : NdA K ρ s n H N xs) : NdA K ρ s n H' N xs := h.frM f .nil
theorem NdA.of1 {K : PySem.W.Frag} {ρ : Role} {s : Nat} {n : Int} {H H' : Hp} {N b : Addr} {xs : List Nd} (f : Fr [b] H H') (hb : ρ b = none) (h : NdA K ρ s n H N xs) : NdA K ρ s n H' N xs := h.frM f (.one hb)
theorem nd_step {K : PySem.W.Frag} {ρ : Role} {s : Nat} {n : Int} {H : Hp} {N : Addr} {xs : List Nd} {z : Int} {Q : VK} (h : NdA K ρ s n H N xs) (h0 : 0 ≤ z) (h1 : z < xs.length)
    (k : ∀ x, xs[z.toNat]? = some x → H x.nd = some (.lst [.str x.kd, x.tv, .ref x.row]) → H x.row = some (.lst x.rs) → Q (.ref x.nd) H) : rxL K (.ref N) (.int z) H Q := by
  refine ixl_step (.of h.at_) h0 (by simpa using h1) fun v hv => ?_
  rw [List.getElem?_map] at hv
  cases e : xs[z.toNat]? with
  | none => rw [e] at hv; cases hv
  | some x =>
    rw [e] at hv
    cases hv
    exact k x e (h.nd _ _ e).1 (h.row _ _ e).1
section
variable {P : Program} {w : World} {K : PySem.W.Frag} {mg : Str → Option Value} {base : Heap}
set_option hygiene false
local macro_rules | `(tactic| tm_at "sc") => `(tactic| (first | omega | (simp only [List.length_cons, List.length_nil, List.length_map, List.length_set, List.length_append]; omega) | (simp only [List.length_map] at h1 ⊢; omega) | (simp only [List.length_map] at c ⊢; omega) | with_reducible assumption | exact And.intro (by omega) (by omega) | exact Or.inl (And.intro (by omega) (by omega)) | exact Or.inr (And.intro (by omega) (by omega)) | decide +kernel | exact len1000 (by simp) | rfl | fail "no way"))
local macro_rules | `(tactic| tm_at "sc1") => `(tactic| (focus (simp; done)))
local macro_rules | `(tactic| tm_at "ne") => `(tactic| (first | assumption | exact Ne.symm (by assumption) | (apply Box.ne2; assumption; tm_at "hp") | (apply Ne.symm; apply Box.ne2; assumption; tm_at "hp") | (apply ne_of_none2; assumption; tm_at "hp") | (apply Ne.symm; apply ne_of_none2; assumption; tm_at "hp") | fail "no way"))
local macro_rules | `(tactic| tm_at "f0") => `(tactic| (first | assumption | (apply Fr.new; assumption) | fail "no way"))
local macro_rules | `(tactic| tm_at "hp") => `(tactic| (first | assumption | exact upd_same | (apply SqL.of; first | assumption | exact upd_same) | (apply Fr.at0; tm_at "f0"; tm_at "hp") | (apply Fr.at1n; assumption; tm_at "ne"; tm_at "hp") | (apply sqFr0; tm_at "f0"; tm_at "hp") | (apply sqFr1; assumption; tm_at "ne"; tm_at "hp") | (apply Box.fr0; tm_at "f0"; tm_at "hp") | (apply Box.fr1; assumption; tm_at "ne"; tm_at "hp") | (apply Den.fr; tm_at "f0"; tm_at "hp") | (apply Dens.fr; tm_at "f0"; tm_at "hp") | fail "no way"))
local macro_rules | `(tactic| tm_at "free0") => `(tactic| (first | assumption | (apply updFree; assumption) | (apply updFree; apply updFree; assumption) | (apply updFree; apply updFree; apply updFree; assumption) | (apply updFree; apply updFree; apply updFree; apply updFree; assumption) | fail "no way"))
local macro_rules | `(tactic| tm_at "free") => `(tactic| (first | tm_at "free0" | (apply Fr.free; assumption; tm_at "free0") | (apply Box.free; assumption; tm_at "fr"; tm_at "free0") | (apply Fr.free; assumption; apply Fr.free; assumption; tm_at "free0") | fail "no way"))
local macro_rules | `(tactic| tm_at "fr") => `(tactic| (first | assumption | exact Fr.refl0 _ | exact Fr.refl (Box.nt (by assumption)) | (refine Fr.comp0 ?_ (by tm_at "f0"); tm_at "fr") | (refine Fr.comp ?_ (by assumption); tm_at "fr") | (refine Fr.compN ?_ (by assumption) (by tm_at "free"); tm_at "fr") | fail "no way"))
local macro_rules | `(tactic| tm_at "call") => `(tactic| fail "no call")
local macro_rules | `(tactic| tm_at "call") => `(tactic| (apply take_step; tm_at "hp"; tm_at "sc"; tm_at "sc"; intro r H1 h0 h1 hB fr))
local macro_rules | `(tactic| tm_at "ty") => `(tactic| (first | assumption | exact .base .non | exact .base (.bl _) | exact .base (.int _) | exact .base (.str _) | (apply TyX.base; apply TyOf.lst; tm_at "hp") | (apply TyX.base; apply TyOf.tup; tm_at "hp") | fail "no way"))
local macro_rules | `(tactic| tm_at "pre") => `(tactic| fail "none")
local macro_rules | `(tactic| tm_at "go1") => `(tactic| (first | tm_at "pre" | refine ⟨_, rfl, ?_⟩ | refine ⟨_, _, rfl, rfl, ?_⟩ | (apply set_step; tm_at "hp"; tm_at "sc"; tm_at "sc"; intro H1 hp fr) | (with_reducible refine iteDI ?_ ?_ <;> intro c) | (with_reducible refine iteDS ?_ ?_ <;> intro c) | (with_reducible refine iteD ?_ ?_ <;> intro c) | (with_reducible refine iteEM ?_ ?_ <;> intro c) | (with_reducible refine iteE ?_ ?_ <;> intro c) | with_reducible refine iteN ?_ | with_reducible refine iteF ?_ | with_reducible refine iteT ?_ | (refine fun (p : Addr) (np : _ = (none : Option HO)) => ?_; fail_if_success (refine ⟨fun (_ _ : Nat) (_ : Hp) => True, ?_⟩)) | (apply isi_tt; tm_at "ty"; focus (decide +kernel)) | (apply isi_ff; tm_at "ty"; focus (decide +kernel)) | (apply sl_step; tm_at "hp"; intro qq H1 ms nq hq fr) | (apply sum_step; tm_at "hp"; intro i) | (apply tru_step; tm_at "hp") | (apply len_step; tm_at "hp") | (apply lenq_step; assumption) | (apply ixq_step; assumption; tm_at "sc"; tm_at "sc"; intro v hv) | (apply lst_step; tm_at "hp") | (apply tupl_step; tm_at "hp") | (apply ixr_step; tm_at "hp"; exact rfl) | (apply ix0_step; tm_at "hp") | (apply ix1_step; tm_at "hp") | (apply ix2_step; tm_at "hp") | (apply ixi_step; tm_at "hp"; tm_at "sc"; tm_at "sc"; intro n hn hn') | (apply ixl_step; tm_at "hp"; tm_at "sc"; tm_at "sc"; intro v hv) | (apply ixt_step; tm_at "hp"; tm_at "sc"; tm_at "sc"; intro v hm hv) | (apply in_step; tm_at "hp"; rfl; rfl) | (apply cat_step; tm_at "hp"; tm_at "hp"; tm_at "sc") | (apply catT_step; tm_at "hp"; tm_at "hp"; tm_at "sc1") | (apply tyL_and; tm_at "hp") | (apply app_step; tm_at "hp"; tm_at "sc"; intro H1 hp fr) | tm_at "call" | refine ⟨⟨_, rfl⟩, ?_⟩ | (apply ixs_step; tm_at "sc"; tm_at "sc"; tm_at "sc"; intro ch) | refine .inl ⟨_, rfl, ?_⟩ | refine .inr ⟨_, rfl, ?_⟩ | (apply And.intro; tm_at "sc") | (with_reducible refine wayB ?_ ?_ <;> intro c) | fail "no way"))
local macro_rules | `(tactic| tm_at "go") => `(tactic| (repeat tm_at "go1"))
local macro_rules | `(tactic| tm_at "goo") => `(tactic| (repeat' tm_at "go1"))
local macro_rules | `(tactic| tm_at "den") => `(tactic| (first | assumption | exact Den.str _ | exact Den.int _ | exact Den.bl _ | exact Den.non | (apply Den.tups; tm_at "hp"; tm_at "dens") | (apply Den.fr; tm_at "f0"; tm_at "den") | fail "no way"))
local macro_rules | `(tactic| tm_at "dens") => `(tactic| (first | assumption | exact Dens.nil | (apply Dens.cons; tm_at "den"; tm_at "dens") | (apply Dens.fr; tm_at "f0"; tm_at "dens") | fail "no way"))
local macro_rules | `(tactic| tm_at "ix") => `(tactic| (apply Ix.mk; tm_at "hp"; tm_at "ne"; assumption; assumption))
local macro_rules | `(tactic| tm_at "dep") => `(tactic| (first | assumption | exact Dep.int | exact Dep.str | exact Dep.bl | exact Dep.non | (apply Dep.tup; tm_at "dlen"; tm_at "deps") | (apply Dep.mono; assumption; decide) | fail "no way"))
local macro_rules | `(tactic| tm_at "deps") => `(tactic| (first | assumption | exact memN | (apply memC; tm_at "dep"; tm_at "deps") | fail "no way"))
local macro_rules | `(tactic| tm_at "dlen") => `(tactic| (first | assumption | (focus (simp; done)) | omega | fail "no way"))

local macro_rules | `(tactic| tm_at "nda") => `(tactic| (first | assumption | (apply NdA.of0; tm_at "f0"; tm_at "nda") | (apply NdA.of1; assumption; assumption; tm_at "nda") | fail "no way"))
local macro_rules | `(tactic| tm_at "pre") => `(tactic| (apply nd_step; tm_at "nda"; tm_at "sc"; tm_at "sc"; intro xn hxn hnd hrow))
/-! ### errors -/
def Kds (xs : List Nd) (i : Nat) (kd : Str) : Prop := ∃ x, xs[i]? = some x ∧ x.kd = kd
def isK (xs : List Nd) (kd : Str) (i : Nat) : Bool := decide ((xs[i]?.map (·.kd)) = some kd)
theorem isK_at {xs : List Nd} {x : Nd} {kd : Str} {i : Nat} (h : xs[((0 : Int) + (i : Int)).toNat]? = some x) : isK xs kd i = decide (V.str x.kd = V.str kd) := by
  have e : ((0 : Int) + (i : Int)).toNat = i := by omega
  rw [e] at h
  unfold isK
  rw [h]
  by_cases z : x.kd = kd <;> simp [z]
theorem kept_in {f : Nat → Bool} {n i : Nat} (h : i ∈ keptN f n) : i < n ∧ f i = true := by
  unfold keptN at h
  have := List.mem_filter.mp h
  exact ⟨List.mem_range.mp this.1, this.2⟩
@[irreducible] def spErrors (K : PySem.W.Frag) : Sp := fun vs H Q _ => ∃ (ρ : Role) (s : Nat) (n : Int) (N : Addr) (xs : List Nd), vs = [.ref N] ∧ NdA K ρ s n H N xs ∧
  ∀ D H' (es : List Int), H D = none → H' D = some (.lst (es.map V.int)) → es.length ≤ xs.length → (∀ e ∈ es, 0 ≤ e ∧ e < xs.length) → Fr [] H H' → Q (.ref D) H'
theorem errors_step {ρ : Role} {s : Nat} {n : Int} {N : Addr} {xs : List Nd} {H : Hp} {Q : VK} {E : XK} (h : NdA K ρ s n H N xs)
    (q : ∀ D H' (es : List Int), H D = none → H' D = some (.lst (es.map V.int)) → es.length ≤ xs.length → (∀ e ∈ es, 0 ≤ e ∧ e < xs.length) → Fr [] H H' → Q (.ref D) H') : spErrors K ([.ref N] ++ []) H Q E := by unfold spErrors; exact ⟨ρ, s, n, N, xs, rfl, h, q⟩
abbrev s_errors : Stmt := top 32
theorem sc_errors : FnScope ["_law_nodes", "_law_k"] ["_law_nodes"] (defScope s_errors) := ⟨rfl, rfl, rfl, by decide +kernel, rfl, by decide +kernel, by decide +kernel⟩

theorem ok_errors (T : Bl mg) (D : Def1 K mg "_law_errors" s_errors) : Cal P w K mg base 1 "_law_errors" ["_law_nodes"] (spErrors K) := by
  refine D.cal sc_errors (fun _ _ _ _ _ _ us hl => match us, hl with | [_], _ => rfl) (fun vs H Q E h => ?_) (fun f cdv A outer s H vs Q E hr h => ?_) <;> unfold spErrors at h
  · obtain ⟨ρ, sd, n, N, xs, rfl, _⟩ := h
    rfl
  · obtain ⟨ρ, sd, n, N, xs, rfl, hN, q⟩ := h
    have hN0 := hN.at_
    have hl := hN.len
    refine ⟨_, (pss_one (ps_ret (pe_lc (own := [("_law_k", 1)]) (g := gName 1) (by rfl) sc_errors.nd (pi_range1 (by rfl) T.z_range (pa_cons (pe_callB (cLen K) (by rfl) T.z_len (by decide +kernel) (pa_cons (pv 0) pa_nil)) pa_nil)) (blkOk_by (own := [("_law_k", 1)]) (N := [("_law_nodes" : Str), ("_law_k" : Str)]) (sc := defScope s_errors) (by decide +kernel)) (fun _ _ _ _ _ => pg_name (i := 1) sc_errors.nd rfl (Or.inl rfl)) (fun _ _ _ _ _ => (pts_one (pt_cmpR op_eq (pe_ix (ixL K) (pe_ix (ixL K) (pv 0) (pv 1) (fun _ _ => rfl)) pe_int (fun _ _ => rfl)) pe_str (nomark _)))) (fun _ _ _ _ _ => (pv 1))))), ?_⟩
    tm_at "goo"
    refine lcR (isK xs (Str.ofString "instance")) (fun _ i y => y = .int (0 + (i : Int))) (Cg.nil _) stab_v (by simp; omega) (fun i H2 hi hS f R kk => ?_) (fun i H2 hi _ hS f R kk => ?_) (fun D H' ys nD hD m _ f => ?_)
    · have hN2 := hN.fr0 f
      have hi' : i < xs.length := by simpa using hi
      tm_at "goo"
      rw [← isK_at hxn]
      exact kk _ trivial (by tm_at "fr")
    · tm_at "goo"
      exact kk _ _ trivial (by tm_at "fr") rfl
    · rw [m.ints] at hD
      refine q _ _ _ nD hD ?_ ?_ f
      · have := keptN_le (isK xs (Str.ofString "instance")) ((((xs.map fun x => V.ref x.nd).length : Nat) : Int).toNat)
        simp at this ⊢
        exact this
      · intro e he
        obtain ⟨i, hi, rfl⟩ := List.mem_map.mp he
        have := (kept_in hi).1
        simp at this
        omega
/-! ### places that may be set -/
def freeL (kd : Str) (m : Nat) : List Int :=
  if inV (.str kd) [.str (Str.ofString "method"), .str (Str.ofString "iterator")] = true then [] else if kd = Str.ofString "dict" then (List.range (m / 2)).map fun i : Nat => 1 + (i : Int) * 2
  else (List.range (m - (if inV (.str kd) [.str (Str.ofString "class"), .str (Str.ofString "instance")] = true then 1 else 0))).map fun i : Nat => (if inV (.str kd) [.str (Str.ofString "class"), .str (Str.ofString "instance")] = true then 1 else 0) + (i : Int)
theorem freeL_lt {kd : Str} {m : Nat} {e : Int} (h : e ∈ freeL kd m) : 0 ≤ e ∧ e < m := by
  unfold freeL at h
  split at h
  · cases h
  · split at h
    · obtain ⟨i, hi, rfl⟩ := List.mem_map.mp h
      have := List.mem_range.mp hi
      omega
    · obtain ⟨i, hi, rfl⟩ := List.mem_map.mp h
      have := List.mem_range.mp hi
      split at this <;> rename_i z <;> simp only [z, if_true, if_false, Bool.false_eq_true] <;> omega
theorem freeL_len {kd : Str} {m : Nat} : (freeL kd m).length ≤ m := by
  unfold freeL
  split
  · exact Nat.zero_le _
  · split
    · simp; omega
    · simp
theorem rgc2 {m : Nat} (h : m ≤ 1000) : RgC 1 (m : Int) 2 (m / 2) := by
  have e : Builtin.Range.rangeSize 1 (m : Int) 2 = ((m / 2 : Nat) : Int) := by
    unfold Builtin.Range.rangeSize
    rw [if_pos (by decide)]
    split <;> omega
  refine ⟨by decide, by decide, ?_, e⟩
  unfold Builtin.Range.small
  rw [e]
  have b0 : 0 ≤ ((m / 2 : Nat) : Int) := by omega
  have b1 : ((m / 2 : Nat) : Int) ≤ 1000 := by omega
  have b2 : 0 ≤ (m : Int) := by omega
  have b3 : (m : Int) ≤ 1000 := by omega
  generalize ((m / 2 : Nat) : Int) = q at *
  generalize (m : Int) = i at *
  clear e h
  simp only [Builtin.Range.rangeFitsLong, Bool.and_eq_true, Bool.or_eq_true, decide_eq_true_eq, beq_iff_eq, show ((2 : Int) > 0) by decide, if_true]
  omega
@[irreducible] def spFree (K : PySem.W.Frag) : Sp := fun vs H Q _ => ∃ (a row : Addr) (kd : Str) (tv : V) (rs : List V), vs = [.ref a] ∧ H a = some (.lst [.str kd, tv, .ref row]) ∧ H row = some (.lst rs) ∧ rs.length ≤ 200 ∧
  ∀ D H', H D = none → H' D = some (.lst ((freeL kd rs.length).map V.int)) → Fr [] H H' → Q (.ref D) H'
theorem free_step {a row : Addr} {kd : Str} {tv : V} {rs : List V} {H : Hp} {Q : VK} {E : XK} (h1 : H a = some (.lst [.str kd, tv, .ref row])) (h2 : H row = some (.lst rs)) (h3 : rs.length ≤ 200)
    (q : ∀ D H', H D = none → H' D = some (.lst ((freeL kd rs.length).map V.int)) → Fr [] H H' → Q (.ref D) H') : spFree K ([.ref a] ++ []) H Q E := by unfold spFree; exact ⟨a, row, kd, tv, rs, rfl, h1, h2, h3, q⟩
abbrev s_free : Stmt := top 26
theorem sc_free : FnScope ["_law_node", "_law_k"] ["_law_node"] (defScope s_free) := ⟨rfl, rfl, rfl, by decide +kernel, rfl, by decide +kernel, by decide +kernel⟩

theorem ok_free (T : Bl mg) (D : Def1 K mg "_law_free" s_free) : Cal P w K mg base 1 "_law_free" ["_law_node"] (spFree K) := by
  refine D.cal sc_free (fun _ _ _ _ _ _ us hl => match us, hl with | [_], _ => rfl) (fun vs H Q E h => ?_) (fun f cdv A outer s H vs Q E hr h => ?_) <;> unfold spFree at h
  · obtain ⟨a, row, kd, tv, rs, rfl, _⟩ := h
    rfl
  · obtain ⟨a, row, kd, tv, rs, rfl, ha, hrw, lr, q⟩ := h
    refine ⟨_, (pss_cons (ps_if (pt_cmpR (opIn K) (pe_ix (ixL K) (pv 0) pe_int (fun _ _ => rfl)) (pe_tup (pa_cons pe_str (pa_cons pe_str pa_nil))) (by rfl))
      (pss_one (ps_ret (pe_lst pa_nil)))
      pss_nil)
    (pss_cons (ps_if (pt_cmpR op_eq (pe_ix (ixL K) (pv 0) pe_int (fun _ _ => rfl)) pe_str (nomark _))
      (pss_one (ps_ret (pe_lc (own := [("_law_k", 1)]) (g := gName 1) (by rfl) sc_free.nd (pi_range3 (by rfl) T.z_range (pa_cons pe_int (pa_cons (pe_callB (cLen K) (by rfl) T.z_len (by decide +kernel) (pa_cons (pe_ix (ixL K) (pv 0) pe_int (fun _ _ => rfl)) pa_nil)) (pa_cons pe_int pa_nil)))) (blkOk_by (own := [("_law_k", 1)]) (N := [("_law_node" : Str), ("_law_k" : Str)]) (sc := defScope s_free) (by decide +kernel)) (fun _ _ _ _ _ => pg_name (i := 1) sc_free.nd rfl (Or.inl rfl)) (fun _ _ _ _ _ => pts_nil) (fun _ _ _ _ _ => (pv 1)))))
      pss_nil)
    (pss_one (ps_ret (pe_lc (own := [("_law_k", 1)]) (g := gName 1) (by rfl) sc_free.nd (pi_range2 (by rfl) T.z_range (pa_cons (pe_callTy call_int1 (by rfl) T.z_int (by decide +kernel) (pa_cons (pe_cmpR (opIn K) (pe_ix (ixL K) (pv 0) pe_int (fun _ _ => rfl)) (pe_tup (pa_cons pe_str (pa_cons pe_str pa_nil))) (by rfl)) pa_nil)) (pa_cons (pe_callB (cLen K) (by rfl) T.z_len (by decide +kernel) (pa_cons (pe_ix (ixL K) (pv 0) pe_int (fun _ _ => rfl)) pa_nil)) pa_nil))) (blkOk_by (own := [("_law_k", 1)]) (N := [("_law_node" : Str), ("_law_k" : Str)]) (sc := defScope s_free) (by decide +kernel)) (fun _ _ _ _ _ => pg_name (i := 1) sc_free.nd rfl (Or.inl rfl)) (fun _ _ _ _ _ => pts_nil) (fun _ _ _ _ _ => (pv 1))))))), ?_⟩
    tm_at "goo"
    · have e0 : freeL kd rs.length = [] := by unfold freeL; rw [if_pos c]
      rw [e0] at q
      exact q _ _ (by tm_at "free") upd_same (by tm_at "fr")
    · rename_i c1
      have e0 : freeL kd rs.length = (List.range (rs.length / 2)).map fun i : Nat => 1 + (i : Int) * 2 := by unfold freeL; rw [if_neg (by rw [c1]; exact Bool.false_ne_true), if_pos c]
      rw [e0] at q
      refine ⟨_, _, _, rs.length / 2, rfl, rgc2 (by omega), ?_⟩
      refine lcRC (fun _ => true) (fun _ i y => y = .int (1 + (i : Int) * 2)) (Cg.nil _) stab_v (by omega) (fun i H hi hS f => tyes_ok trivial (fun _ h => nomatch h)) (fun i H2 hi _ hS f R kk => ?_) (fun D H' ys nD hD m _ f => ?_)
      · tm_at "goo"
        exact kk _ _ trivial (by tm_at "fr") rfl
      · rw [keptN_all] at m
        rw [m.ints] at hD
        exact q _ _ (by tm_at "free") hD (by tm_at "fr")
    · rename_i p1 np1 c1
      cases z : inV (V.str kd) [V.str (Str.ofString "class"), V.str (Str.ofString "instance")] with
      | true =>
        have e0 : freeL kd rs.length = (List.range (rs.length - 1)).map fun i : Nat => 1 + (i : Int) := by unfold freeL; rw [if_neg (by rw [c1]; exact Bool.false_ne_true), if_neg c]; simp only [z, if_true]
        rw [e0] at q
        refine ⟨_, _, rfl, ⟨by decide, by decide, by omega, by omega⟩, ?_⟩
        refine lcR (fun _ => true) (fun _ i y => y = .int (1 + (i : Int))) (Cg.nil _) stab_v (by omega) (fun i H hi hS f => tyes_ok trivial (fun _ h => nomatch h)) (fun i H2 hi _ hS f R kk => ?_) (fun D H' ys nD hD m _ f => ?_)
        · tm_at "goo"
          exact kk _ _ trivial (by tm_at "fr") rfl
        · rw [keptN_all] at m
          rw [m.ints, show ((rs.length : Int) - (if true = true then 1 else 0)).toNat = rs.length - 1 by rw [if_pos rfl]; omega] at hD
          exact q _ _ (by tm_at "free") hD (by tm_at "fr")
      | false =>
        have e0 : freeL kd rs.length = (List.range rs.length).map fun i : Nat => 0 + (i : Int) := by unfold freeL; rw [if_neg (by rw [c1]; exact Bool.false_ne_true), if_neg c]; simp [z]
        rw [e0] at q
        refine ⟨_, _, rfl, ⟨by decide, by decide, by omega, by omega⟩, ?_⟩
        refine lcR (fun _ => true) (fun _ i y => y = .int (0 + (i : Int))) (Cg.nil _) stab_v (by omega) (fun i H hi hS f => tyes_ok trivial (fun _ h => nomatch h)) (fun i H2 hi _ hS f R kk => ?_) (fun D H' ys nD hD m _ f => ?_)
        · tm_at "goo"
          exact kk _ _ trivial (by tm_at "fr") rfl
        · rw [keptN_all] at m
          rw [m.ints, show ((rs.length : Int) - (if false = true then 1 else 0)).toNat = rs.length by rw [if_neg Bool.false_ne_true]; omega] at hD
          exact q _ _ (by tm_at "free") hD (by tm_at "fr")
theorem Fr.reflL {H : Hp} {a : Addr} {xs : List V} (h : H a = some (.lst xs)) : Fr [a] H H := .refl fun b m ys e => by
  have z : b = a := by simpa using m
  rw [z, h] at e; cases e
/-! ### spoil: compare, then write into the first -/
@[irreducible] def spSpoil (K : PySem.W.Frag) : Sp := fun vs H Q _ => ∃ (a b : Addr) (xs ys : List V) (ts : List T), vs = [.ref a, .ref b] ∧ H a = some (.lst xs) ∧ H b = some (.lst ys) ∧ Dens K H xs ts ∧ Dens K H ys ts ∧ xs.length ≤ 1000 ∧ (∀ t ∈ ts, Dep 2 t) ∧
  ∀ H', Fr [a] H H' → Q (.bl true) H'
theorem spoil_step {a b : Addr} {xs ys : List V} {ts : List T} {H : Hp} {Q : VK} {E : XK} (h1 : H a = some (.lst xs)) (h2 : H b = some (.lst ys)) (h3 : Dens K H xs ts) (h4 : Dens K H ys ts) (h5 : xs.length ≤ 1000) (h6 : ∀ t ∈ ts, Dep 2 t)
    (q : ∀ H', Fr [a] H H' → Q (.bl true) H') : spSpoil K ([.ref a, .ref b] ++ []) H Q E := by unfold spSpoil; exact ⟨a, b, xs, ys, ts, rfl, h1, h2, h3, h4, h5, h6, q⟩
abbrev s_spoil : Stmt := top 30
theorem sc_spoil : FnScope ["_law_row", "_law_due"] ["_law_row", "_law_due"] (defScope s_spoil) := ⟨rfl, rfl, rfl, by decide +kernel, rfl, by decide +kernel, by decide +kernel⟩

theorem ok_spoil (G_same : Cal P w K mg base 4 "_law_same" ["_law_told_here", "_law_due"] (spSm K 4)) (D : Def1 K mg "_law_spoil" s_spoil) : Cal P w K mg base 5 "_law_spoil" ["_law_row", "_law_due"] (spSpoil K) := by
  refine D.cal sc_spoil (fun _ _ _ _ _ _ us hl => match us, hl with | [_, _], _ => rfl) (fun vs H Q E h => ?_) (fun f cdv A outer s H vs Q E hr h => ?_) <;> unfold spSpoil at h
  · obtain ⟨a, b, xs, ys, ts, rfl, _⟩ := h
    rfl
  · obtain ⟨a, b, xs, ys, ts, rfl, ha, hb, da, db, lx, dt, q⟩ := h
    refine ⟨_, (pss_cons (ps_if (pt_not (pt_val (pe_cal G_same (hr.mono (by omega)) (by rfl) (pa_cons (pv 0) (pa_cons (pv 1) pa_nil)))))
      (pss_one (ps_ret pe_bl))
      pss_nil)
    (pss_cons (ps_expr (pe_bm PySem.F.plainAttrs_list PySem.F.slot_list_append PySem.F.type_list_append mtApp (pv 0) (pa_cons (pe_tup (pa_cons pe_str (pa_cons pe_str pa_nil))) pa_nil)))
    (pss_cons (ps_asg (pe_tup (pa_cons pe_str (pa_cons (pe_un un_neg pe_int) pa_nil))) (pg_sub (pv 0) pe_int setL))
    (pss_one (ps_ret pe_bl))))), ?_⟩
    tm_at "goo"
    have r0 := Fr.reflL ha
    refine sm_step (.of_dens ha hb da db (by omega) fun t m => (dt t m)) ?_
    tm_at "goo"
    exact q _ (by tm_at "fr")
end
end M14
set_option Elab.async false
set_option linter.all false
set_option maxRecDepth 100000
set_option maxHeartbeats 4000000
/-! Objects and dicts: readings by name. -/
namespace M14
open PySem PySem.Spec PyProof.Rows L2
@[irreducible] def rxFld (K : PySem.W.Frag) (f : Str) (x : V) (H : Hp) (Q : VK) : Prop := ∃ a C dx fs v, x = .ref a ∧ H a = some (.ins C dx fs) ∧ Cls K C ∧ NoAttr K C f ∧ fs.lookup f = some v ∧ Q v H
def tFldx (K : PySem.W.Frag) (ta : TE) (f : Str) : TE := fun σ H Q => ta σ H fun x H1 => rxFld K f x H1 Q
@[irreducible] def rxPutF (K : PySem.W.Frag) (f : Str) (x y : V) (H : Hp) (R : Hp → Prop) : Prop := ∃ a C dx fs, x = .ref a ∧ H a = some (.ins C dx fs) ∧ Cls K C ∧ NoAttr K C f ∧ fs.length < 1000 ∧ R (upd H a (.ins C dx (putF f y fs)))
def sFldx (K : PySem.W.Frag) (ta tv : TE) (f : Str) : TS := fun D σ H => tv σ H fun y H1 => ta σ H1 fun x H2 => rxPutF K f x y H2 (D.nx σ)
@[irreducible] def rxPut2 (f : Str) (a C : Addr) (z : V) (H : Hp) (R : Hp → Prop) : Prop := ∃ dx fs, H a = some (.ins C dx fs) ∧ fs.length < 1000 ∧ R (upd H a (.ins C dx (putF f z fs)))
@[irreducible] def rxAug (K : PySem.W.Frag) (f : Str) (x : V) (H : Hp) (g : V → VK → Prop) (R : Hp → Prop) : Prop := ∃ a C dx fs v, x = .ref a ∧ H a = some (.ins C dx fs) ∧ Cls K C ∧ NoAttr K C f ∧ fs.lookup f = some v ∧ g v fun z H3 => rxPut2 f a C z H3 R
def sFldAugx (K : PySem.W.Frag) (ta tv : TE) (rd : V → V → Hp → VK → Prop) (f : Str) : TS := fun D σ H => ta σ H fun x H1 => rxAug K f x H1 (fun v R => tv σ H1 fun y H2 => rd v y H2 R) (D.nx σ)
@[irreducible] def rxDGet (x y : V) (H : Hp) (Q : VK) : Prop := ∃ a v, x = .ref a ∧ DGet H a y (some v) ∧ Q v H
def tDGetx (td ty : TE) : TE := fun σ H Q => td σ H fun x H1 => ty σ H1 fun y H2 => rxDGet x y H2 Q
@[irreducible] def rxDPut (x y v : V) (H : Hp) (R : Hp → Prop) : Prop := ∃ a H4, x = .ref a ∧ DPut H a y v H4 ∧ R H4
def sDPutx (td ty tv : TE) : TS := fun D σ H => tv σ H fun v H1 => td σ H1 fun x H2 => ty σ H2 fun y H3 => rxDPut x y v H3 (D.nx σ)
@[irreducible] def rxMk (C : Addr) (sp : Sp) (E : XK) (vs : List V) (H : Hp) (Q : VK) : Prop := ∀ x dx, H x = none → H dx = none → dx ≠ x → sp (.ref x :: vs) (upd (upd H dx (.own x)) x (.ins C dx [])) (fun v H2 => v = .non ∧ Q (.ref x) H2) E
def tMakex (C : Addr) (sp : Sp) (E : XK) (t : TA) : TE := fun σ H Q => t σ H fun vs H1 => rxMk C sp E vs H1 Q
@[irreducible] def rxMth (C : Addr) (m : Str) (x : V) (H : Hp) (R : Prop) : Prop := ∃ a dx fs, x = .ref a ∧ H a = some (.ins C dx fs) ∧ fs.lookup m = none ∧ R
def tMethx (C : Addr) (m : Str) (sp : Sp) (E : XK) (ta : TE) (t : TA) : TE := fun σ H Q => ta σ H fun x H1 => rxMth C m x H1 (t σ H1 fun vs H2 => sp (x :: vs) H2 Q E)
@[irreducible] def rxLenD (xs : List V) (H : Hp) (Q : VK) : Prop := ∃ a kvs, xs = [V.ref a] ∧ H a = some (.dK kvs) ∧ Q (.int kvs.length) H
@[irreducible] def rxAddI : V → V → Hp → VK → Prop := rAdd
section
variable {X : Cx} {o e value i : Expr} {es : List Expr} {f m x : Str} {p pos pos' tpos apos : Pos} {ta tv td ty : TE} {t : TA} {sp : Sp} {C : Addr} {k : Nat} {ps : List Str}
theorem pe_fldx (K : PySem.W.Frag) (he : PE X e ta) (hb : attributeBase e f X.env (eval e X.env) = eval e X.env) (hK : X.K = K := by rfl) : PE X (.Attribute e f pos) (tFldx K ta f) := by
  have z : tFldx K ta f = tFld X.K ta f := by funext σ H Q; unfold tFldx tFld rxFld; rw [hK]
  rw [z]; exact pe_fld he hb
theorem ps_fldx (K : PySem.W.Frag) (ha : PE X o ta) (hv : PE X value tv) (hs : swapsWith value (some (.Attribute o f pos')) pos.line X.env = pure false) (hK : X.K = K := by rfl) : PS X (.Assign [.Attribute o f pos'] value pos) (sFldx K ta tv f) := by
  have z : sFldx K ta tv f = sFld X.K ta tv f := by funext D σ H; unfold sFldx sFld rxPutF; rw [hK]
  rw [z]; exact ps_fld ha hv hs
theorem ps_fldaugx (K : PySem.W.Frag) {op : Operator} {rd : V → V → Hp → VK → Prop} (ha : PE X o ta) (hv : PE X value tv) (hop : InOp X op rd) (hK : X.K = K := by rfl) : PS X (.AugAssign (.Attribute o f tpos) op value pos) (sFldAugx K ta tv rd f) := by
  have z : sFldAugx K ta tv rd f = sFldAug X.K ta tv rd f := by funext D σ H; unfold sFldAugx sFldAug rxAug rxPut2; rw [hK]
  rw [z]; exact ps_fldaug ha hv hop
theorem in_addx : InOp X .Add rxAddI := by unfold rxAddI; exact in_add
theorem pe_dgetx (hu : X.A.units + 1 < cLine) (ho : PE X o td) (hi : PE X i ty) (hs : NoSl i) : PE X (.Subscript o i pos) (tDGetx td ty) := by
  have z : tDGetx td ty = tDGet td ty := by funext σ H Q; unfold tDGetx tDGet rxDGet; rfl
  rw [z]; exact pe_dget hu ho hi hs
theorem ps_dputx (hu : X.A.units + 1 < cLine) (ho : PE X o td) (hi : PE X i ty) (hv : PE X value tv) (hs : swapsWith value (some (.Subscript o i pos')) pos.line X.env = pure false) : PS X (.Assign [.Subscript o i pos'] value pos) (sDPutx td ty tv) := by
  have z : sDPutx td ty tv = sDPut td ty tv := by funext D σ H; unfold sDPutx sDPut rxDPut; rfl
  rw [z]; exact ps_dput hu ho hi hv hs
theorem pe_mkx (c : CalC X.prog X.w X.K X.mg X.base k C x ps sp) (hr : Room (k + 1) X.A) (hg : Gl X x) (ha : PA X (e :: es) t) (hdb : (x == ("__debug__" : Str)) = false := by decide) (he : starEach (e :: es) X.env = (false, eval e X.env) :: starEach es X.env := by rfl) (hpl : (backTo pos (starEach es X.env)).any (·.1) = false := by rfl) :
    PE X (.Call (.Name x p) (e :: es) [] pos) (tMakex C sp E0 t) := by
  have z : tMakex C sp E0 t = tMake C sp [] E0 t := by funext σ H Q; unfold tMakex tMake rxMk; simp only [List.append_nil]
  rw [z]; exact pe_mk c hr hg ha hdb he hpl
theorem pe_mkx0 (c : CalC X.prog X.w X.K X.mg X.base k C x ps sp) (hr : Room (k + 1) X.A) (hg : Gl X x) (hdb : (x == ("__debug__" : Str)) = false := by decide) : PE X (.Call (.Name x p) [] [] pos) (tMakex C sp E0 tNil) := by
  have z : tMakex C sp E0 tNil = tMake C sp [] E0 tNil := by funext σ H Q; unfold tMakex tMake rxMk; simp only [List.append_nil]
  rw [z]; exact pe_mk0 c hr hg hdb
theorem pe_mcalx {pl : Sem Bool} (he : PE X o ta) (c : CalM X.prog X.w X.K X.mg X.base k C m ps sp) (hr : Room k X.A) (ha : PA X (e :: es) t)
    (hst : starEach (e :: es) X.env = (false, eval e X.env) :: starEach es X.env := by rfl) (hpl : (backTo pos (starEach es X.env)).any (·.1) = false := by rfl)
    (ht : eval (.Call (.Attribute o m apos) (e :: es) [] pos) X.env = (do
      let ov ← eval o X.env
      standAt apos.atName
      let (f, first) ← holding [ov] (getMethod ov m pl)
      callWith pos f first (backTo pos (starEach (e :: es) X.env)) (backToKw pos (keywordEach [] X.env))) := by rfl) :
    PE X (.Call (.Attribute o m apos) (e :: es) [] pos) (tMethx C m sp E0 ta t) := by
  have z : tMethx C m sp E0 ta t = tMeth C m sp [] E0 ta t := by funext σ H Q; unfold tMethx tMeth rxMth; simp only [List.append_nil]
  rw [z]; exact pe_mcal he c hr ha hst hpl ht
theorem call_lenDx : CallR X (.builtin "len") rxLenD := by unfold rxLenD; exact call_lenD
end
/-! ### steps -/
theorem lookup_eq {f : Str} {v : V} {r : List (Str × V)} : List.lookup f ((f, v) :: r) = some v := by simp [List.lookup]
theorem lookup_ne {f g : Str} {u : V} {r : List (Str × V)} {z : Option V} (h : (f == g) = false) (q : List.lookup f r = z) : List.lookup f ((g, u) :: r) = z := by rw [List.lookup_cons, h]; exact q
theorem putF_nil {f : Str} {y : V} : putF f y [] = [(f, y)] := rfl
theorem putF_eq {f : Str} {y x : V} {r : List (Str × V)} : putF f y ((f, x) :: r) = (f, y) :: r := if_pos rfl
theorem putF_ne {f g : Str} {y x : V} {r z : List (Str × V)} (h : (f == g) = false) (q : putF f y r = z) : putF f y ((g, x) :: r) = (g, x) :: z := by
  rw [← q]
  exact if_neg fun e => by rw [e] at h; simp at h
theorem fld_step {K : PySem.W.Frag} {f : Str} {H : Hp} {a C dx : Addr} {fs : List (Str × V)} {v : V} {Q : VK} (h : H a = some (.ins C dx fs)) (c : Cls K C) (n : NoAttr K C f) (l : fs.lookup f = some v) (k : Q v H) : rxFld K f (.ref a) H Q := by
  unfold rxFld; exact ⟨a, C, dx, fs, v, rfl, h, c, n, l, k⟩
theorem putf_step {K : PySem.W.Frag} {f : Str} {H : Hp} {a C dx : Addr} {fs fs' : List (Str × V)} {y : V} {R : Hp → Prop} (h : H a = some (.ins C dx fs)) (c : Cls K C) (n : NoAttr K C f) (l : fs.length < 1000) (z : putF f y fs = fs')
    (k : ∀ H', H' a = some (.ins C dx fs') → Fr [a] H H' → R H') : rxPutF K f (.ref a) y H R := by
  unfold rxPutF
  exact ⟨a, C, dx, fs, rfl, h, c, n, l, k _ (by rw [z]; exact upd_same) (Fr.put h (by intro _ q; cases q))⟩
theorem put2_step {f : Str} {H : Hp} {a C dx : Addr} {fs fs' : List (Str × V)} {y : V} {R : Hp → Prop} (h : H a = some (.ins C dx fs)) (l : fs.length < 1000) (z : putF f y fs = fs')
    (k : ∀ H', H' a = some (.ins C dx fs') → Fr [a] H H' → R H') : rxPut2 f a C y H R := by
  unfold rxPut2
  exact ⟨dx, fs, h, l, k _ (by rw [z]; exact upd_same) (Fr.put h (by intro _ q; cases q))⟩
theorem aug_step {K : PySem.W.Frag} {f : Str} {H : Hp} {a C dx : Addr} {fs : List (Str × V)} {v : V} {g : V → VK → Prop} {R : Hp → Prop} (h : H a = some (.ins C dx fs)) (c : Cls K C) (n : NoAttr K C f) (l : fs.lookup f = some v) (k : g v fun z H3 => rxPut2 f a C z H3 R) : rxAug K f (.ref a) H g R := by
  unfold rxAug; exact ⟨a, C, dx, fs, v, rfl, h, c, n, l, k⟩
theorem addI_step {i j : Int} {H : Hp} {Q : VK} (k : Q (.int (i + j)) H) : rxAddI (.int i) (.int j) H Q := by unfold rxAddI; exact ⟨i, j, rfl, rfl, k⟩
theorem dget_step {H : Hp} {a : Addr} {kvs : List (Key × V)} {z : Int} {v : V} {Q : VK} (h : H a = some (.dK kvs)) (e : valV kvs (.inl z) = some v) (k : Q v H) : rxDGet (.ref a) (.int z) H Q := by
  unfold rxDGet
  exact ⟨a, v, rfl, by rw [← e]; exact DGet.k (k := .inl z) h, k⟩
theorem dput_step {H : Hp} {a : Addr} {kvs : List (Key × V)} {z : Int} {v : V} {R : Hp → Prop} (h : H a = some (.dK kvs)) (l : kvs.length < 10000) (k : ∀ H', H' a = some (.dK (putK kvs (.inl z) v)) → Fr [a] H H' → R H') : rxDPut (.ref a) (.int z) v H R := by
  unfold rxDPut
  exact ⟨a, _, rfl, DPut.k (k := .inl z) h (Nat.lt_of_lt_of_le l (by decide)), k _ upd_same (Fr.put h (by intro _ q; cases q))⟩
theorem mk_step {C : Addr} {sp : Sp} {E : XK} {vs : List V} {H : Hp} {Q : VK} (k : ∀ x dx H2, H x = none → H2 x = some (.ins C dx []) → Fr [] H H2 → sp (.ref x :: vs) H2 (fun v H3 => v = .non ∧ Q (.ref x) H3) E) : rxMk C sp E vs H Q := by
  unfold rxMk
  exact fun x dx hx hd ne => k x dx _ hx upd_same ((Fr.new hd).comp0 (Fr.new (by rw [upd_ne (Ne.symm ne)]; exact hx)))
theorem mth_step {C : Addr} {m : Str} {H : Hp} {R : Prop} {a dx : Addr} {fs : List (Str × V)} (h : H a = some (.ins C dx fs)) (l : fs.lookup m = none) (k : R) : rxMth C m (.ref a) H R := by
  unfold rxMth; exact ⟨a, dx, fs, rfl, h, l, k⟩
theorem lenD_step {H : Hp} {a : Addr} {kvs : List (Key × V)} {Q : VK} (h : H a = some (.dK kvs)) (k : Q (.int kvs.length) H) : rxLenD [.ref a] H Q := by unfold rxLenD; exact ⟨a, kvs, rfl, h, k⟩
theorem newD_step {H : Hp} {Q : VK} (k : ∀ p H', H p = none → H' p = some (.dK []) → Fr [] H H' → Q (.ref p) H') (σ : L2.St) : tDNewK σ H Q := fun p hp => k p _ hp upd_same (Fr.new hp)
end M14
set_option Elab.async false
set_option linter.all false
set_option maxRecDepth 100000
set_option maxHeartbeats 4000000
namespace M14
open PySem PySem.Spec PyProof.Rows L2

/-! ### the bank: a store of things -/
structure Th where
  th : Addr
  sl : Addr
  kd : Str
  tv : V
  tg : T
  ss : List V
  us : List T
abbrev thF (kd tv sl : V) : List (Str × V) := [("kind", kd), ("tag", tv), ("slots", sl), ("age", .int 0)]
abbrev bkF (D : Addr) (gr : Int) (tl : List (Str × V)) : List (Str × V) := ("_things", .ref D) :: ("grown", .int gr) :: tl
/-- the methods' names -/
abbrev mths : List Str := ["_keep", "make", "kind_of", "tag_of", "slots_of", "slot", "set_slot", "change", "_remember"]
/-- an object's further attributes: few, no method's name among them -/
structure TlOk (tl : List (Str × V)) : Prop where
  len : tl.length ≤ 10
  nom : ∀ m ∈ mths, tl.lookup m = none
structure BkA (K : PySem.W.Frag) (ρ : Role) (s : Nat) (step : Int) (CT C : Addr) (tl : List (Str × V)) (H : Hp) (B D : Addr) (ys : List Th) : Prop where
  at_ : ∃ dx gr, H B = some (.ins C dx (bkF D gr tl))
  rB : ρ B = some (s, 0, 0)
  dk : ∃ kvs : List (Key × V), H D = some (.dK kvs) ∧ kvs.length = ys.length ∧ (∀ (i : Nat) (y : Th), ys[i]? = some y → valV kvs (.inl (gT step i)) = some (.ref y.th)) ∧ ∀ z, (∀ i : Nat, i < ys.length → z ≠ gT step i) → valV kvs (.inl z) = none
  rD : ρ D = some (s, 1, 0)
  th : ∀ (i : Nat) (y : Th), ys[i]? = some y → (∃ dx, H y.th = some (.ins CT dx (thF (.str y.kd) y.tv (.ref y.sl)))) ∧ ρ y.th = some (s, 5, i)
  sl : ∀ (i : Nat) (y : Th), ys[i]? = some y → H y.sl = some (.lst y.ss) ∧ ρ y.sl = some (s, 6, i)
  ok : ∀ (i : Nat) (y : Th), ys[i]? = some y → Dens K H y.ss y.us ∧ (∀ t ∈ y.us, Dep 2 t) ∧ Den K H y.tv y.tg ∧ Dep 3 y.tg ∧ y.ss.length ≤ 200
  len : ys.length ≤ 1000
  tll : TlOk tl
  st : step = 1 ∨ step = 2
theorem bk_nom {D : Addr} {gr : Int} {tl : List (Str × V)} (t : TlOk tl) {m : Str} (h : m ∈ mths) : (bkF D gr tl).lookup m = none := by
  have a : ∀ m ∈ mths, (m == ("_things" : Str)) = false ∧ (m == ("grown" : Str)) = false := by decide +kernel
  obtain ⟨a, b⟩ := a m h
  rw [List.lookup_cons, a]
  show List.lookup m (("grown", V.int gr) :: tl) = none
  rw [List.lookup_cons, b]
  exact t.nom m h
/-- the roles grow, where nothing stood -/
def Ext (H : Hp) (r r' : Role) : Prop := ∀ a, H a ≠ none → r' a = r a
theorem Ext.refl {H : Hp} {r : Role} : Ext H r r := fun _ _ => rfl
theorem some_ne {H : Hp} {a : Addr} {o : HO} (h : H a = some o) : H a ≠ none := by rw [h]; exact fun z => nomatch z
theorem NdA.ext {K : PySem.W.Frag} {ρ ρ' : Role} {s : Nat} {n : Int} {H : Hp} {N : Addr} {xs : List Nd} (h : NdA K ρ s n H N xs) (e : Ext H ρ ρ') : NdA K ρ' s n H N xs :=
  ⟨h.at_, by rw [e _ (some_ne h.at_)]; exact h.rN, fun i x q => ⟨(h.nd i x q).1, by rw [e _ (some_ne (h.nd i x q).1)]; exact (h.nd i x q).2⟩,
    fun i x q => ⟨(h.row i x q).1, by rw [e _ (some_ne (h.row i x q).1)]; exact (h.row i x q).2⟩, h.ok, h.len⟩
section
variable {K : PySem.W.Frag} {ρ ρ' : Role} {s : Nat} {step : Int} {CT C : Addr} {tl : List (Str × V)} {H H' : Hp} {B D : Addr} {ys : List Th}
theorem BkA.ext (h : BkA K ρ s step CT C tl H B D ys) (e : Ext H ρ ρ') : BkA K ρ' s step CT C tl H B D ys :=
  ⟨h.at_, by obtain ⟨_, _, z⟩ := h.at_; rw [e _ (some_ne z)]; exact h.rB, h.dk, by obtain ⟨_, z, _⟩ := h.dk; rw [e _ (some_ne z)]; exact h.rD,
    fun i y q => ⟨(h.th i y q).1, by obtain ⟨⟨_, z⟩, r⟩ := h.th i y q; rw [e _ (some_ne z)]; exact r⟩, fun i y q => ⟨(h.sl i y q).1, by obtain ⟨z, r⟩ := h.sl i y q; rw [e _ (some_ne z)]; exact r⟩, h.ok, h.len, h.tll, h.st⟩
theorem BkA.frM {M : List Addr} (h : BkA K ρ s step CT C tl H B D ys) (f : Fr M H H') (aw : Away ρ s M) : BkA K ρ s step CT C tl H' B D ys :=
  ⟨let ⟨dx, gr, z⟩ := h.at_; ⟨dx, gr, f.kp _ _ z fun m => aw _ m _ _ h.rB⟩, h.rB, let ⟨kvs, z, r⟩ := h.dk; ⟨kvs, f.kp _ _ z fun m => aw _ m _ _ h.rD, r⟩, h.rD,
    fun i y q => let ⟨⟨dx, z⟩, r⟩ := h.th i y q; ⟨⟨dx, f.kp _ _ z fun m => aw _ m _ _ r⟩, r⟩, fun i y q => let ⟨z, r⟩ := h.sl i y q; ⟨f.kp _ _ z fun m => aw _ m _ _ r, r⟩,
    fun i y q => let ⟨a, b, c, d⟩ := h.ok i y q; ⟨a.fr f, b, c.fr f, d⟩, h.len, h.tll, h.st⟩
theorem BkA.of0 (f : Fr [] H H') (h : BkA K ρ s step CT C tl H B D ys) : BkA K ρ s step CT C tl H' B D ys := h.frM f .nil
theorem BkA.of1 {b : Addr} (f : Fr [b] H H') (hb : ρ b = none) (h : BkA K ρ s step CT C tl H B D ys) : BkA K ρ s step CT C tl H' B D ys := h.frM f (.one hb)
theorem gT_inj {step : Int} (h : step = 1 ∨ step = 2) {i j : Int} (e : gT step i = gT step j) : i = j := by
  unfold gT at e
  rcases h with rfl | rfl <;> omega
theorem ne_role {a b : Addr} {s s' i i' j j' : Nat} (h : ρ a = some (s, i, j)) (h' : ρ b = some (s', i', j')) (n : i ≠ i') : a ≠ b := fun e => by
  rw [e, h'] at h
  exact n (by injection h with h; injection h with _ h; injection h with h _; exact h.symm)
theorem ne_rolej {a b : Addr} {s s' i i' j j' : Nat} (h : ρ a = some (s, i, j)) (h' : ρ b = some (s', i', j')) (n : j ≠ j') : a ≠ b := fun e => by
  rw [e, h'] at h
  exact n (by injection h with h; injection h with _ h; injection h with _ h; exact h.symm)
theorem Fr.app {M N : List Addr} {H H1 H2 : Hp} (a : Fr M H H1) (b : Fr N H1 H2) (s : ∀ x ∈ N, x ∈ M ∨ H x = none) : Fr M H H2 :=
  ⟨fun x o h m => b.kp x o (a.kp x o h m) fun z => (s x z).elim m fun e => (by rw [e] at h; cases h), a.nt⟩
theorem Fr.app0 {M : List Addr} {H H1 H2 : Hp} (a : Fr M H H1) (b : Fr [] H1 H2) : Fr M H H2 := a.tr b
theorem Fr.appM {M : List Addr} {H H1 H2 : Hp} {x : Addr} (a : Fr M H H1) (b : Fr [x] H1 H2) (m : x ∈ M) : Fr M H H2 := a.app b fun y z => by
  have e : y = x := by simpa using z
  rw [e]; exact .inl m
theorem Fr.appN {M : List Addr} {H H1 H2 : Hp} {x : Addr} (a : Fr M H H1) (b : Fr [x] H1 H2) (n : H x = none) : Fr M H H2 := a.app b fun y z => by
  have e : y = x := by simpa using z
  rw [e]; exact .inr n
end
theorem room_hu {k : Nat} {A : Around} (r : Room k A) : A.units + 1 < cLine := by have := r.units; omega
/-- what of the classes is asked -/
structure ClF (K : PySem.W.Frag) (C CT : Addr) : Prop where
  cC : Cls K C
  nT : NoAttr K C "_things"
  nG : NoAttr K C "grown"
  cT : Cls K CT
  n1 : NoAttr K CT "kind"
  n2 : NoAttr K CT "tag"
  n3 : NoAttr K CT "slots"
  n4 : NoAttr K CT "age"
section
variable {P : Program} {w : World} {K : PySem.W.Frag} {mg : Str → Option Value} {base : Heap}
/-- a class that is made by its __init__ -/
def DefC (K : PySem.W.Frag) (mg : Str → Option Value) (C : Addr) (x qual : Str) (st : Stmt) : Prop := ∃ f fd, FnP K "__init__" qual st f fd ∧ mg x = some (.ref C) ∧ Mk K C f
theorem fnp_cal {m qual : Str} {st : Stmt} {N ps : List Str} {k : Nat} {sp : Sp} {f : Addr} {fd : FuncData} (F : FnP K m qual st f fd) (S : FnScope N ps (defScope st))
    (hb : ∀ (kV doc pm : Value) (an : Option Addr) (cdv ct : Value) (us : List Value), us.length = ps.length → bindArgs (PySem.W.fnOf m qual (defArgs st) (defBody st) (defScope st) .none kV doc pm an cdv ct) ⟨us, []⟩ = pure (ps.zip us))
    (len : ∀ vs H Q E, sp vs H Q E → vs.length = ps.length)
    (hbody : ∀ (f : Addr) (cdv : Value) (A : Around) (outer : List Env) (s : Shared) (H : Hp) (vs : List V) (Q : VK) (E : XK), Room k (A.deeper (envOfC qual (defScope st) s.heap.objs.size f cdv)) → sp vs H Q E →
      ∃ t, PSs (cxOf CX0 P w K mg base N qual (defScope st) f cdv A outer s H E).nox (defBody st) t ∧ t { nx := fun _ H' => Q .non H', rt := Q } (start N vs) H) : FnOk P w K mg base CX0 (k + 1) f fd ps sp ∧ Binds K fd ps [] := by
  refine ⟨F.ok S len fun cdv A outer s H vs Q E hr h => ?_, F.bindsN hb⟩
  obtain ⟨t, h1, h2⟩ := hbody f cdv A outer s H vs Q E hr h
  exact ⟨t, h1.nox, h2⟩
theorem DefC.cal {C : Addr} {x qual : Str} {st : Stmt} {N ps : List Str} {k : Nat} {sp : Sp} (D : DefC K mg C x qual st) (S : FnScope N ps (defScope st))
    (hb : ∀ (kV doc pm : Value) (an : Option Addr) (cdv ct : Value) (us : List Value), us.length = ps.length → bindArgs (PySem.W.fnOf "__init__" qual (defArgs st) (defBody st) (defScope st) .none kV doc pm an cdv ct) ⟨us, []⟩ = pure (ps.zip us))
    (len : ∀ vs H Q E, sp vs H Q E → vs.length = ps.length)
    (hbody : ∀ (f : Addr) (cdv : Value) (A : Around) (outer : List Env) (s : Shared) (H : Hp) (vs : List V) (Q : VK) (E : XK), Room k (A.deeper (envOfC qual (defScope st) s.heap.objs.size f cdv)) → sp vs H Q E →
      ∃ t, PSs (cxOf CX0 P w K mg base N qual (defScope st) f cdv A outer s H E).nox (defBody st) t ∧ t { nx := fun _ H' => Q .non H', rt := Q } (start N vs) H) : CalC P w K mg base (k + 1) C x ps sp := by
  obtain ⟨f, fd, F, g, M⟩ := D
  refine ⟨f, fd, F.ok S len fun cdv A outer s H vs Q E hr h => ?_, g, M, F.bindsN hb⟩
  obtain ⟨t, h1, h2⟩ := hbody f cdv A outer s H vs Q E hr h
  exact ⟨t, h1.nox, h2⟩
set_option hygiene false
local macro_rules | `(tactic| tm_at "sc") => `(tactic| (first | omega | (simp only [List.length_cons, List.length_nil, List.length_map, List.length_set, List.length_append]; omega) | (simp only [List.length_map] at h1 ⊢; omega) | (simp only [List.length_map] at c ⊢; omega) | with_reducible assumption | exact And.intro (by omega) (by omega) | exact Or.inl (And.intro (by omega) (by omega)) | exact Or.inr (And.intro (by omega) (by omega)) | decide +kernel | exact len1000 (by simp) | rfl | fail "no way"))
local macro_rules | `(tactic| tm_at "sc1") => `(tactic| (focus (simp; done)))
local macro_rules | `(tactic| tm_at "ne") => `(tactic| (first | assumption | exact Ne.symm (by assumption) | (apply Box.ne2; assumption; tm_at "hp") | (apply Ne.symm; apply Box.ne2; assumption; tm_at "hp") | (apply ne_of_none2; assumption; tm_at "hp") | (apply Ne.symm; apply ne_of_none2; assumption; tm_at "hp") | fail "no way"))
local macro_rules | `(tactic| tm_at "f0") => `(tactic| (first | assumption | (apply Fr.new; assumption) | fail "no way"))
local macro_rules | `(tactic| tm_at "hp") => `(tactic| (first | assumption | exact upd_same | (apply SqL.of; first | assumption | exact upd_same) | (apply Fr.at0; tm_at "f0"; tm_at "hp") | (apply Fr.at1n; assumption; tm_at "ne"; tm_at "hp") | (apply sqFr0; tm_at "f0"; tm_at "hp") | (apply sqFr1; assumption; tm_at "ne"; tm_at "hp") | (apply Box.fr0; tm_at "f0"; tm_at "hp") | (apply Box.fr1; assumption; tm_at "ne"; tm_at "hp") | (apply Den.fr; tm_at "f0"; tm_at "hp") | (apply Dens.fr; tm_at "f0"; tm_at "hp") | fail "no way"))
local macro_rules | `(tactic| tm_at "free0") => `(tactic| (first | assumption | (apply updFree; assumption) | (apply updFree; apply updFree; assumption) | (apply updFree; apply updFree; apply updFree; assumption) | (apply updFree; apply updFree; apply updFree; apply updFree; assumption) | fail "no way"))
local macro_rules | `(tactic| tm_at "free") => `(tactic| (first | tm_at "free0" | (apply Fr.free; assumption; tm_at "free0") | (apply Box.free; assumption; tm_at "fr"; tm_at "free0") | (apply Fr.free; assumption; apply Fr.free; assumption; tm_at "free0") | fail "no way"))
local macro_rules | `(tactic| tm_at "fr") => `(tactic| (first | assumption | exact Fr.refl0 _ | exact Fr.refl (Box.nt (by assumption)) | (refine Fr.comp0 ?_ (by tm_at "f0"); tm_at "fr") | (refine Fr.comp ?_ (by assumption); tm_at "fr") | (refine Fr.compN ?_ (by assumption) (by tm_at "free"); tm_at "fr") | fail "no way"))
local macro_rules | `(tactic| tm_at "call") => `(tactic| fail "no call")
local macro_rules | `(tactic| tm_at "call") => `(tactic| (apply take_step; tm_at "hp"; tm_at "sc"; tm_at "sc"; intro r H1 h0 h1 hB fr))
local macro_rules | `(tactic| tm_at "ty") => `(tactic| (first | assumption | exact .base .non | exact .base (.bl _) | exact .base (.int _) | exact .base (.str _) | (apply TyX.base; apply TyOf.lst; tm_at "hp") | (apply TyX.base; apply TyOf.tup; tm_at "hp") | fail "no way"))
local macro_rules | `(tactic| tm_at "pre") => `(tactic| fail "none")
local macro_rules | `(tactic| tm_at "go1") => `(tactic| (first | tm_at "pre" | refine ⟨_, rfl, ?_⟩ | refine ⟨_, _, rfl, rfl, ?_⟩ | (apply set_step; tm_at "hp"; tm_at "sc"; tm_at "sc"; intro H1 hp fr) | (with_reducible refine iteDI ?_ ?_ <;> intro c) | (with_reducible refine iteDS ?_ ?_ <;> intro c) | (with_reducible refine iteD ?_ ?_ <;> intro c) | (with_reducible refine iteEM ?_ ?_ <;> intro c) | (with_reducible refine iteE ?_ ?_ <;> intro c) | with_reducible refine iteN ?_ | with_reducible refine iteF ?_ | with_reducible refine iteT ?_ | (refine fun (p : Addr) (np : _ = (none : Option HO)) => ?_; fail_if_success (refine ⟨fun (_ _ : Nat) (_ : Hp) => True, ?_⟩)) | (apply isi_tt; tm_at "ty"; focus (decide +kernel)) | (apply isi_ff; tm_at "ty"; focus (decide +kernel)) | (apply sl_step; tm_at "hp"; intro qq H1 ms nq hq fr) | (apply sum_step; tm_at "hp"; intro i) | (apply tru_step; tm_at "hp") | (apply len_step; tm_at "hp") | (apply lenq_step; assumption) | (apply ixq_step; assumption; tm_at "sc"; tm_at "sc"; intro v hv) | (apply lst_step; tm_at "hp") | (apply tupl_step; tm_at "hp") | (apply ixr_step; tm_at "hp"; exact rfl) | (apply ix0_step; tm_at "hp") | (apply ix1_step; tm_at "hp") | (apply ix2_step; tm_at "hp") | (apply ixi_step; tm_at "hp"; tm_at "sc"; tm_at "sc"; intro n hn hn') | (apply ixl_step; tm_at "hp"; tm_at "sc"; tm_at "sc"; intro v hv) | (apply ixt_step; tm_at "hp"; tm_at "sc"; tm_at "sc"; intro v hm hv) | (apply in_step; tm_at "hp"; rfl; rfl) | (apply cat_step; tm_at "hp"; tm_at "hp"; tm_at "sc") | (apply catT_step; tm_at "hp"; tm_at "hp"; tm_at "sc1") | (apply tyL_and; tm_at "hp") | (apply app_step; tm_at "hp"; tm_at "sc"; intro H1 hp fr) | tm_at "call" | refine ⟨⟨_, rfl⟩, ?_⟩ | (apply ixs_step; tm_at "sc"; tm_at "sc"; tm_at "sc"; intro ch) | refine .inl ⟨_, rfl, ?_⟩ | refine .inr ⟨_, rfl, ?_⟩ | (apply And.intro; tm_at "sc") | (with_reducible refine wayB ?_ ?_ <;> intro c) | fail "no way"))
local macro_rules | `(tactic| tm_at "go") => `(tactic| (repeat tm_at "go1"))
local macro_rules | `(tactic| tm_at "goo") => `(tactic| (repeat' tm_at "go1"))
local macro_rules | `(tactic| tm_at "den") => `(tactic| (first | assumption | exact Den.str _ | exact Den.int _ | exact Den.bl _ | exact Den.non | (apply Den.tups; tm_at "hp"; tm_at "dens") | (apply Den.fr; tm_at "f0"; tm_at "den") | fail "no way"))
local macro_rules | `(tactic| tm_at "dens") => `(tactic| (first | assumption | exact Dens.nil | (apply Dens.cons; tm_at "den"; tm_at "dens") | (apply Dens.fr; tm_at "f0"; tm_at "dens") | fail "no way"))
local macro_rules | `(tactic| tm_at "ix") => `(tactic| (apply Ix.mk; tm_at "hp"; tm_at "ne"; assumption; assumption))
local macro_rules | `(tactic| tm_at "dep") => `(tactic| (first | assumption | exact Dep.int | exact Dep.str | exact Dep.bl | exact Dep.non | (apply Dep.tup; tm_at "dlen"; tm_at "deps") | (apply Dep.mono; assumption; decide) | fail "no way"))
local macro_rules | `(tactic| tm_at "deps") => `(tactic| (first | assumption | exact memN | (apply memC; tm_at "dep"; tm_at "deps") | fail "no way"))
local macro_rules | `(tactic| tm_at "dlen") => `(tactic| (first | assumption | (focus (simp; done)) | omega | fail "no way"))

local macro_rules | `(tactic| tm_at "lk") => `(tactic| (first | with_reducible exact lookup_eq | ((with_reducible apply lookup_ne); (focus (decide +kernel)); tm_at "lk") | assumption | rfl | fail "no way"))
local macro_rules | `(tactic| tm_at "pf") => `(tactic| (first | with_reducible exact putF_nil | with_reducible exact putF_eq | ((with_reducible apply putF_ne); (focus (decide +kernel)); tm_at "pf") | fail "no way"))
local macro_rules | `(tactic| tm_at "fl") => `(tactic| (first | assumption | focus (simp only [List.length_cons, List.length_nil]; omega) | focus (simp only [List.length_cons, List.length_nil]; done) | focus (decide) | focus (simp; done) | focus (simp; omega) | fail "no way"))
local macro_rules | `(tactic| tm_at "pre") => `(tactic| (apply fld_step; tm_at "hp"; assumption; assumption; tm_at "lk"))
local macro_rules | `(tactic| tm_at "pre") => `(tactic| (apply putf_step; tm_at "hp"; assumption; assumption; tm_at "fl"; tm_at "pf"; intro H1 hp fr))
local macro_rules | `(tactic| tm_at "pre") => `(tactic| (apply aug_step; tm_at "hp"; assumption; assumption; tm_at "lk"))
local macro_rules | `(tactic| tm_at "pre") => `(tactic| (apply put2_step; tm_at "hp"; tm_at "fl"; tm_at "pf"; intro H1 hp fr))
local macro_rules | `(tactic| tm_at "pre") => `(tactic| (apply dget_step; tm_at "hp"; tm_at "lk"))
local macro_rules | `(tactic| tm_at "pre") => `(tactic| (apply dput_step; tm_at "hp"; (focus (omega)); intro H1 hp fr))
local macro_rules | `(tactic| tm_at "pre") => `(tactic| (apply mth_step; tm_at "hp"; tm_at "lk"))
local macro_rules | `(tactic| tm_at "pre") => `(tactic| (apply lenD_step; tm_at "hp"))
local macro_rules | `(tactic| tm_at "pre") => `(tactic| (apply addI_step))
local macro_rules | `(tactic| tm_at "pre") => `(tactic| (apply newD_step; intro dn H1 nd hp fr))
@[irreducible] def spThing (CT : Addr) : Sp := fun vs H Q _ => ∃ (x dx : Addr) (kd tv sl : V), vs = [.ref x, kd, tv, sl] ∧ H x = some (.ins CT dx []) ∧ ∀ H', H' x = some (.ins CT dx (thF kd tv sl)) → Fr [x] H H' → Q .non H'
abbrev s_Thing_init : Stmt := inClass (top 4) 0
theorem sc_Thing_init : FnScope ["self", "kind", "tag", "slots"] ["self", "kind", "tag", "slots"] (defScope s_Thing_init) := ⟨rfl, rfl, rfl, by decide +kernel, rfl, by decide +kernel, by decide +kernel⟩

theorem ok_Thing {CT : Addr} (c1 : Cls K CT) (n1 : NoAttr K CT "kind") (n2 : NoAttr K CT "tag") (n3 : NoAttr K CT "slots") (n4 : NoAttr K CT "age") (D : DefC K mg CT "Thing" "Thing.__init__" s_Thing_init) : CalC P w K mg base 1 CT "Thing" ["self", "kind", "tag", "slots"] (spThing CT) := by
  refine D.cal sc_Thing_init (fun _ _ _ _ _ _ us hl => match us, hl with | [_, _, _, _], _ => rfl) (fun vs H Q E h => ?_) (fun f cdv A outer s H vs Q E hr h => ?_) <;> unfold spThing at h
  · obtain ⟨x, dx, kd, tv, sl, rfl, _⟩ := h
    rfl
  · obtain ⟨x, dx, kd, tv, sl, rfl, hx, q⟩ := h
    have r0 : Fr [x] H H := .refl fun b m ys e => by
      have z : b = x := by simpa using m
      rw [z, hx] at e; cases e
    refine ⟨_, (pss_cons (ps_fldx K (pv 0) (pv 1) rfl)
    (pss_cons (ps_fldx K (pv 0) (pv 2) rfl)
    (pss_cons (ps_fldx K (pv 0) (pv 3) rfl)
    (pss_one (ps_fldx K (pv 0) pe_int rfl))))), ?_⟩
    tm_at "goo"
    exact q _ (by assumption) (by tm_at "fr")
/-! ### reading the bank -/
@[irreducible] def spKindOf (K : PySem.W.Frag) (CT C : Addr) : Sp := fun vs H Q _ => ∃ (ρ : Role) (s : Nat) (step : Int) (tl : List (Str × V)) (B D va : Addr) (ys : List Th) (u : V) (k : Nat) (y : Th),
  vs = [.ref B, .ref va] ∧ BkA K ρ s step CT C tl H B D ys ∧ H va = some (.tup [u, .int (gT step k)]) ∧ ys[k]? = some y ∧ Q (.str y.kd) H
@[irreducible] def spTagOf (K : PySem.W.Frag) (CT C : Addr) : Sp := fun vs H Q _ => ∃ (ρ : Role) (s : Nat) (step : Int) (tl : List (Str × V)) (B D va : Addr) (ys : List Th) (u : V) (k : Nat) (y : Th),
  vs = [.ref B, .ref va] ∧ BkA K ρ s step CT C tl H B D ys ∧ H va = some (.tup [u, .int (gT step k)]) ∧ ys[k]? = some y ∧ Q y.tv H
@[irreducible] def spSlotsOf (K : PySem.W.Frag) (CT C : Addr) : Sp := fun vs H Q _ => ∃ (ρ : Role) (s : Nat) (step : Int) (tl : List (Str × V)) (B D va : Addr) (ys : List Th) (u : V) (k : Nat) (y : Th),
  vs = [.ref B, .ref va] ∧ BkA K ρ s step CT C tl H B D ys ∧ H va = some (.tup [u, .int (gT step k)]) ∧ ys[k]? = some y ∧ ∀ l H', H l = none → H' l = some (.lst y.ss) → Fr [] H H' → Q (.ref l) H'
@[irreducible] def spSlot (K : PySem.W.Frag) (CT C : Addr) : Sp := fun vs H Q _ => ∃ (ρ : Role) (s : Nat) (step : Int) (tl : List (Str × V)) (B D va : Addr) (ys : List Th) (u : V) (k : Nat) (y : Th) (i : Int),
  vs = [.ref B, .ref va, .int i] ∧ BkA K ρ s step CT C tl H B D ys ∧ H va = some (.tup [u, .int (gT step k)]) ∧ ys[k]? = some y ∧ 0 ≤ i ∧ i < y.ss.length ∧ ∀ v, y.ss[i.toNat]? = some v → Q v H
section
variable {C CT : Addr} {ρ : Role} {s : Nat} {step : Int} {tl : List (Str × V)} {B D va : Addr} {ys : List Th} {u : V} {k : Nat} {y : Th} {H : Hp} {Q : VK} {E : XK} {i : Int}
theorem kindof_step (h : BkA K ρ s step CT C tl H B D ys) (ha : H va = some (.tup [u, .int (gT step k)])) (hy : ys[k]? = some y) (q : Q (.str y.kd) H) : spKindOf K CT C [.ref B, .ref va] H Q E := by
  unfold spKindOf; exact ⟨ρ, s, step, tl, B, D, va, ys, u, k, y, rfl, h, ha, hy, q⟩
theorem tagof_step (h : BkA K ρ s step CT C tl H B D ys) (ha : H va = some (.tup [u, .int (gT step k)])) (hy : ys[k]? = some y) (q : Q y.tv H) : spTagOf K CT C [.ref B, .ref va] H Q E := by
  unfold spTagOf; exact ⟨ρ, s, step, tl, B, D, va, ys, u, k, y, rfl, h, ha, hy, q⟩
theorem slotsof_step (h : BkA K ρ s step CT C tl H B D ys) (ha : H va = some (.tup [u, .int (gT step k)])) (hy : ys[k]? = some y) (q : ∀ l H', H l = none → H' l = some (.lst y.ss) → Fr [] H H' → Q (.ref l) H') : spSlotsOf K CT C [.ref B, .ref va] H Q E := by
  unfold spSlotsOf; exact ⟨ρ, s, step, tl, B, D, va, ys, u, k, y, rfl, h, ha, hy, q⟩
theorem slot_step (h : BkA K ρ s step CT C tl H B D ys) (ha : H va = some (.tup [u, .int (gT step k)])) (hy : ys[k]? = some y) (h0 : 0 ≤ i) (h1 : i < y.ss.length) (q : ∀ v, y.ss[i.toNat]? = some v → Q v H) : spSlot K CT C [.ref B, .ref va, .int i] H Q E := by
  unfold spSlot; exact ⟨ρ, s, step, tl, B, D, va, ys, u, k, y, i, rfl, h, ha, hy, h0, h1, q⟩
end
abbrev s_Store_kind_of : Stmt := inClass (top 5) 5
theorem sc_Store_kind_of : FnScope ["self", "value"] ["self", "value"] (defScope s_Store_kind_of) := ⟨rfl, rfl, rfl, by decide +kernel, rfl, by decide +kernel, by decide +kernel⟩

theorem ok_kind_of {C CT : Addr} (cf : ClF K C CT) (D : Def2 K C "kind_of" "Store.kind_of" s_Store_kind_of) : CalM P w K mg base 1 C "kind_of" ["self", "value"] (spKindOf K CT C) := by
  refine D.cal cf.cC sc_Store_kind_of (fun _ _ _ _ _ _ us hl => match us, hl with | [_, _], _ => rfl) (fun vs H Q E h => ?_) (fun f cdv A outer s H vs Q E hr h => ?_) <;> unfold spKindOf at h
  · obtain ⟨ρ, sd, step, tl, B, dD, va, ys, u, k, y, rfl, _⟩ := h
    rfl
  · obtain ⟨ρ, sd, step, tl, B, dD, va, ys, u, k, y, rfl, hb, hv, hy, q⟩ := h
    obtain ⟨c1, a1, a2, c2, n1, n2, n3, n4⟩ := cf
    obtain ⟨dx, gr, hB⟩ := hb.at_
    obtain ⟨kvs, hD, hl, hg, _⟩ := hb.dk
    obtain ⟨⟨dt, ht⟩, rt⟩ := hb.th k y hy
    have e := hg k y hy
    have hu := room_hu hr
    refine ⟨_, (pss_one (ps_ret (pe_fldx K (pe_dgetx hu (pe_fldx K (pv 0) rfl) (pe_ix (ixT K) (pv 1) pe_int (fun _ _ => rfl)) (fun _ _ => rfl)) rfl))), ?_⟩
    tm_at "goo"
    exact q
abbrev s_Store_tag_of : Stmt := inClass (top 5) 6
theorem sc_Store_tag_of : FnScope ["self", "value"] ["self", "value"] (defScope s_Store_tag_of) := ⟨rfl, rfl, rfl, by decide +kernel, rfl, by decide +kernel, by decide +kernel⟩

theorem ok_tag_of {C CT : Addr} (cf : ClF K C CT) (T : Bl mg) (D : Def2 K C "tag_of" "Store.tag_of" s_Store_tag_of) : CalM P w K mg base 1 C "tag_of" ["self", "value"] (spTagOf K CT C) := by
  refine D.cal cf.cC sc_Store_tag_of (fun _ _ _ _ _ _ us hl => match us, hl with | [_, _], _ => rfl) (fun vs H Q E h => ?_) (fun f cdv A outer s H vs Q E hr h => ?_) <;> unfold spTagOf at h
  · obtain ⟨ρ, sd, step, tl, B, dD, va, ys, u, k, y, rfl, _⟩ := h
    rfl
  · obtain ⟨ρ, sd, step, tl, B, dD, va, ys, u, k, y, rfl, hb, hv, hy, q⟩ := h
    obtain ⟨c1, a1, a2, c2, n1, n2, n3, n4⟩ := cf
    obtain ⟨dx, gr, hB⟩ := hb.at_
    obtain ⟨kvs, hD, hl, hg, _⟩ := hb.dk
    obtain ⟨⟨dt, ht⟩, rt⟩ := hb.th k y hy
    have e := hg k y hy
    have hu := room_hu hr
    have hs := (hb.sl k y hy).1
    refine ⟨_, (pss_one (ps_ret (pe_fldx K (pe_dgetx hu (pe_fldx K (pv 0) rfl) (pe_ix (ixT K) (pv 1) pe_int (fun _ _ => rfl)) (fun _ _ => rfl)) rfl))), ?_⟩
    tm_at "goo"
    exact q
abbrev s_Store_slots_of : Stmt := inClass (top 5) 7
theorem sc_Store_slots_of : FnScope ["self", "value"] ["self", "value"] (defScope s_Store_slots_of) := ⟨rfl, rfl, rfl, by decide +kernel, rfl, by decide +kernel, by decide +kernel⟩

theorem ok_slots_of {C CT : Addr} (cf : ClF K C CT) (T : Bl mg) (D : Def2 K C "slots_of" "Store.slots_of" s_Store_slots_of) : CalM P w K mg base 1 C "slots_of" ["self", "value"] (spSlotsOf K CT C) := by
  refine D.cal cf.cC sc_Store_slots_of (fun _ _ _ _ _ _ us hl => match us, hl with | [_, _], _ => rfl) (fun vs H Q E h => ?_) (fun f cdv A outer s H vs Q E hr h => ?_) <;> unfold spSlotsOf at h
  · obtain ⟨ρ, sd, step, tl, B, dD, va, ys, u, k, y, rfl, _⟩ := h
    rfl
  · obtain ⟨ρ, sd, step, tl, B, dD, va, ys, u, k, y, rfl, hb, hv, hy, q⟩ := h
    obtain ⟨c1, a1, a2, c2, n1, n2, n3, n4⟩ := cf
    obtain ⟨dx, gr, hB⟩ := hb.at_
    obtain ⟨kvs, hD, hl, hg, _⟩ := hb.dk
    obtain ⟨⟨dt, ht⟩, rt⟩ := hb.th k y hy
    have e := hg k y hy
    have hu := room_hu hr
    have hs := (hb.sl k y hy).1
    refine ⟨_, (pss_one (ps_ret (pe_callTy (cList K) (by rfl) T.z_list (by decide +kernel) (pa_cons (pe_fldx K (pe_dgetx hu (pe_fldx K (pv 0) rfl) (pe_ix (ixT K) (pv 1) pe_int (fun _ _ => rfl)) (fun _ _ => rfl)) rfl) pa_nil)))), ?_⟩
    tm_at "goo"
    exact q _ _ (by assumption) upd_same (Fr.new (by assumption))
abbrev s_Store_slot : Stmt := inClass (top 5) 8
theorem sc_Store_slot : FnScope ["self", "value", "index"] ["self", "value", "index"] (defScope s_Store_slot) := ⟨rfl, rfl, rfl, by decide +kernel, rfl, by decide +kernel, by decide +kernel⟩

theorem ok_slot {C CT : Addr} (cf : ClF K C CT) (T : Bl mg) (D : Def2 K C "slot" "Store.slot" s_Store_slot) : CalM P w K mg base 1 C "slot" ["self", "value", "index"] (spSlot K CT C) := by
  refine D.cal cf.cC sc_Store_slot (fun _ _ _ _ _ _ us hl => match us, hl with | [_, _, _], _ => rfl) (fun vs H Q E h => ?_) (fun f cdv A outer s H vs Q E hr h => ?_) <;> unfold spSlot at h
  · obtain ⟨ρ, sd, step, tl, B, dD, va, ys, u, k, y, i, rfl, _⟩ := h
    rfl
  · obtain ⟨ρ, sd, step, tl, B, dD, va, ys, u, k, y, i, rfl, hb, hv, hy, i0, i1, q⟩ := h
    obtain ⟨c1, a1, a2, c2, n1, n2, n3, n4⟩ := cf
    obtain ⟨dx, gr, hB⟩ := hb.at_
    obtain ⟨kvs, hD, hl, hg, _⟩ := hb.dk
    obtain ⟨⟨dt, ht⟩, rt⟩ := hb.th k y hy
    have e := hg k y hy
    have hu := room_hu hr
    have hs := (hb.sl k y hy).1
    refine ⟨_, (pss_one (ps_ret (pe_ix (ixL K) (pe_fldx K (pe_dgetx hu (pe_fldx K (pv 0) rfl) (pe_ix (ixT K) (pv 1) pe_int (fun _ _ => rfl)) (fun _ _ => rfl)) rfl) (pv 2) (fun _ _ => rfl)))), ?_⟩
    tm_at "goo"
    exact q _ hv
end
end M14
set_option Elab.async false
set_option linter.all false
set_option maxRecDepth 100000
set_option maxHeartbeats 4000000
namespace M14
open PySem PySem.Spec PyProof.Rows L2

/-! ### len of an own object -/
@[irreducible] def rxLenO (C : Addr) (sp : Sp) (xs : List V) (H : Hp) (Q : VK) : Prop := ∃ a dx fs, xs = [.ref a] ∧ H a = some (.ins C dx fs) ∧ sp [.ref a] H (fun v H' => ∃ n : Int, v = .int n ∧ 0 ≤ n ∧ n < 10000 ∧ Q (.int n) H') E0
theorem call_lenOwn {X : Cx} {C : Addr} {ps : List Str} {sp : Sp} {k : Nat} (c : CalM X.prog X.w X.K X.mg X.base k C "__len__" ps sp) (hr : Room (k + 1) X.A) : CallR X (.builtin "len") (rxLenO C sp) := by
  intro pins s σ H xs us Q I r h
  unfold rxLenO at h
  obtain ⟨a, dx, fs, rfl, ha, hsp⟩ := h
  obtain ⟨u, rfl, ru⟩ := vals1 r
  obtain rfl : u = Value.ref a := ru
  obtain ⟨f, fd, F, cl, hm, hb⟩ := c
  obtain ⟨mA, J, _⟩ := ins_get I.hok ha
  obtain ⟨od, J, _⟩ := J.look
  obtain ⟨m, hF⟩ := I.fr
  refine PySem.W.len_K hF I.ok.mod.kin J hm.at_ hm.fn ?_
  have hl := F.len _ _ _ _ hsp
  have r2 : Vals [V.ref a] [Value.ref a] := .cons rfl .nil
  refine wpAny_call (codeAny_mono (F.run X.A.in1 X.stack s H ⟨[.ref a], []⟩ [.ref a] [.ref a] _ E0 hr.in1 I.env0.in1 (by
    have := hb s [.ref a] I.kIn (by simpa using hl)
    simpa using this) r2 hsp) fun r s' hq => ?_)
  cases r with
  | error e => exact pass0 pins σ H s e s' I hq
  | ok fl =>
    cases fl with
    | ret u =>
      obtain ⟨v, H', I2, rv, n, rfl, n0, n1, q⟩ := I.after hq
      obtain ⟨t, rfl⟩ := (show ∃ t, u = Value.int n t from rv)
      exact ⟨⟨n0, by omega⟩, .int n, H', I2.tok _, ⟨_, rfl⟩, q⟩
    | next => exact False.elim hq
    | brk => exact False.elim hq
    | cont => exact False.elim hq
end M14
set_option Elab.async false
set_option linter.all false
set_option maxRecDepth 100000
set_option maxHeartbeats 4000000
namespace M14
open PySem PySem.Spec PyProof.Rows L2

section
variable {P : Program} {w : World} {K : PySem.W.Frag} {mg : Str → Option Value} {base : Heap}
set_option hygiene false
local macro_rules | `(tactic| tm_at "sc") => `(tactic| (first | omega | (simp only [List.length_cons, List.length_nil, List.length_map, List.length_set, List.length_append]; omega) | (simp only [List.length_map] at h1 ⊢; omega) | (simp only [List.length_map] at c ⊢; omega) | with_reducible assumption | exact And.intro (by omega) (by omega) | exact Or.inl (And.intro (by omega) (by omega)) | exact Or.inr (And.intro (by omega) (by omega)) | decide +kernel | exact len1000 (by simp) | rfl | fail "no way"))
local macro_rules | `(tactic| tm_at "sc1") => `(tactic| (focus (simp; done)))
local macro_rules | `(tactic| tm_at "ne") => `(tactic| (first | assumption | exact Ne.symm (by assumption) | (apply Box.ne2; assumption; tm_at "hp") | (apply Ne.symm; apply Box.ne2; assumption; tm_at "hp") | (apply ne_of_none2; assumption; tm_at "hp") | (apply Ne.symm; apply ne_of_none2; assumption; tm_at "hp") | fail "no way"))
local macro_rules | `(tactic| tm_at "f0") => `(tactic| (first | assumption | (apply Fr.new; assumption) | fail "no way"))
local macro_rules | `(tactic| tm_at "hp") => `(tactic| (first | assumption | exact upd_same | (apply SqL.of; first | assumption | exact upd_same) | (apply Fr.at0; tm_at "f0"; tm_at "hp") | (apply Fr.at1n; assumption; tm_at "ne"; tm_at "hp") | (apply sqFr0; tm_at "f0"; tm_at "hp") | (apply sqFr1; assumption; tm_at "ne"; tm_at "hp") | (apply Box.fr0; tm_at "f0"; tm_at "hp") | (apply Box.fr1; assumption; tm_at "ne"; tm_at "hp") | (apply Den.fr; tm_at "f0"; tm_at "hp") | (apply Dens.fr; tm_at "f0"; tm_at "hp") | fail "no way"))
local macro_rules | `(tactic| tm_at "free0") => `(tactic| (first | assumption | (apply updFree; assumption) | (apply updFree; apply updFree; assumption) | (apply updFree; apply updFree; apply updFree; assumption) | (apply updFree; apply updFree; apply updFree; apply updFree; assumption) | fail "no way"))
local macro_rules | `(tactic| tm_at "free") => `(tactic| (first | tm_at "free0" | (apply Fr.free; assumption; tm_at "free0") | (apply Box.free; assumption; tm_at "fr"; tm_at "free0") | (apply Fr.free; assumption; apply Fr.free; assumption; tm_at "free0") | fail "no way"))
local macro_rules | `(tactic| tm_at "fr") => `(tactic| (first | assumption | exact Fr.refl0 _ | exact Fr.refl (Box.nt (by assumption)) | (refine Fr.comp0 ?_ (by tm_at "f0"); tm_at "fr") | (refine Fr.comp ?_ (by assumption); tm_at "fr") | (refine Fr.compN ?_ (by assumption) (by tm_at "free"); tm_at "fr") | fail "no way"))
local macro_rules | `(tactic| tm_at "call") => `(tactic| fail "no call")
local macro_rules | `(tactic| tm_at "call") => `(tactic| (apply take_step; tm_at "hp"; tm_at "sc"; tm_at "sc"; intro r H1 h0 h1 hB fr))
local macro_rules | `(tactic| tm_at "ty") => `(tactic| (first | assumption | exact .base .non | exact .base (.bl _) | exact .base (.int _) | exact .base (.str _) | (apply TyX.base; apply TyOf.lst; tm_at "hp") | (apply TyX.base; apply TyOf.tup; tm_at "hp") | fail "no way"))
local macro_rules | `(tactic| tm_at "pre") => `(tactic| fail "none")
local macro_rules | `(tactic| tm_at "go1") => `(tactic| (first | tm_at "pre" | refine ⟨_, rfl, ?_⟩ | refine ⟨_, _, rfl, rfl, ?_⟩ | (apply set_step; tm_at "hp"; tm_at "sc"; tm_at "sc"; intro H1 hp fr) | (with_reducible refine iteDI ?_ ?_ <;> intro c) | (with_reducible refine iteDS ?_ ?_ <;> intro c) | (with_reducible refine iteD ?_ ?_ <;> intro c) | (with_reducible refine iteEM ?_ ?_ <;> intro c) | (with_reducible refine iteE ?_ ?_ <;> intro c) | with_reducible refine iteN ?_ | with_reducible refine iteF ?_ | with_reducible refine iteT ?_ | (refine fun (p : Addr) (np : _ = (none : Option HO)) => ?_; fail_if_success (refine ⟨fun (_ _ : Nat) (_ : Hp) => True, ?_⟩)) | (apply isi_tt; tm_at "ty"; focus (decide +kernel)) | (apply isi_ff; tm_at "ty"; focus (decide +kernel)) | (apply sl_step; tm_at "hp"; intro qq H1 ms nq hq fr) | (apply sum_step; tm_at "hp"; intro i) | (apply tru_step; tm_at "hp") | (apply len_step; tm_at "hp") | (apply lenq_step; assumption) | (apply ixq_step; assumption; tm_at "sc"; tm_at "sc"; intro v hv) | (apply lst_step; tm_at "hp") | (apply tupl_step; tm_at "hp") | (apply ixr_step; tm_at "hp"; exact rfl) | (apply ix0_step; tm_at "hp") | (apply ix1_step; tm_at "hp") | (apply ix2_step; tm_at "hp") | (apply ixi_step; tm_at "hp"; tm_at "sc"; tm_at "sc"; intro n hn hn') | (apply ixl_step; tm_at "hp"; tm_at "sc"; tm_at "sc"; intro v hv) | (apply ixt_step; tm_at "hp"; tm_at "sc"; tm_at "sc"; intro v hm hv) | (apply in_step; tm_at "hp"; rfl; rfl) | (apply cat_step; tm_at "hp"; tm_at "hp"; tm_at "sc") | (apply catT_step; tm_at "hp"; tm_at "hp"; tm_at "sc1") | (apply tyL_and; tm_at "hp") | (apply app_step; tm_at "hp"; tm_at "sc"; intro H1 hp fr) | tm_at "call" | refine ⟨⟨_, rfl⟩, ?_⟩ | (apply ixs_step; tm_at "sc"; tm_at "sc"; tm_at "sc"; intro ch) | refine .inl ⟨_, rfl, ?_⟩ | refine .inr ⟨_, rfl, ?_⟩ | (apply And.intro; tm_at "sc") | (with_reducible refine wayB ?_ ?_ <;> intro c) | fail "no way"))
local macro_rules | `(tactic| tm_at "go") => `(tactic| (repeat tm_at "go1"))
local macro_rules | `(tactic| tm_at "goo") => `(tactic| (repeat' tm_at "go1"))
local macro_rules | `(tactic| tm_at "den") => `(tactic| (first | assumption | exact Den.str _ | exact Den.int _ | exact Den.bl _ | exact Den.non | (apply Den.tups; tm_at "hp"; tm_at "dens") | (apply Den.fr; tm_at "f0"; tm_at "den") | fail "no way"))
local macro_rules | `(tactic| tm_at "dens") => `(tactic| (first | assumption | exact Dens.nil | (apply Dens.cons; tm_at "den"; tm_at "dens") | (apply Dens.fr; tm_at "f0"; tm_at "dens") | fail "no way"))
local macro_rules | `(tactic| tm_at "ix") => `(tactic| (apply Ix.mk; tm_at "hp"; tm_at "ne"; assumption; assumption))
local macro_rules | `(tactic| tm_at "dep") => `(tactic| (first | assumption | exact Dep.int | exact Dep.str | exact Dep.bl | exact Dep.non | (apply Dep.tup; tm_at "dlen"; tm_at "deps") | (apply Dep.mono; assumption; decide) | fail "no way"))
local macro_rules | `(tactic| tm_at "deps") => `(tactic| (first | assumption | exact memN | (apply memC; tm_at "dep"; tm_at "deps") | fail "no way"))
local macro_rules | `(tactic| tm_at "dlen") => `(tactic| (first | assumption | (focus (simp; done)) | omega | fail "no way"))

local macro_rules | `(tactic| tm_at "lk") => `(tactic| (first | with_reducible exact lookup_eq | ((with_reducible apply lookup_ne); (focus (decide +kernel)); tm_at "lk") | assumption | rfl | fail "no way"))
local macro_rules | `(tactic| tm_at "pf") => `(tactic| (first | with_reducible exact putF_nil | with_reducible exact putF_eq | ((with_reducible apply putF_ne); (focus (decide +kernel)); tm_at "pf") | fail "no way"))
local macro_rules | `(tactic| tm_at "fl") => `(tactic| (first | assumption | focus (simp only [List.length_cons, List.length_nil]; omega) | focus (simp only [List.length_cons, List.length_nil]; done) | focus (decide) | focus (simp; done) | focus (simp; omega) | fail "no way"))
local macro_rules | `(tactic| tm_at "pre") => `(tactic| (apply fld_step; tm_at "hp"; assumption; assumption; tm_at "lk"))
local macro_rules | `(tactic| tm_at "pre") => `(tactic| (apply putf_step; tm_at "hp"; assumption; assumption; tm_at "fl"; tm_at "pf"; intro H1 hp fr))
local macro_rules | `(tactic| tm_at "pre") => `(tactic| (apply aug_step; tm_at "hp"; assumption; assumption; tm_at "lk"))
local macro_rules | `(tactic| tm_at "pre") => `(tactic| (apply put2_step; tm_at "hp"; tm_at "fl"; tm_at "pf"; intro H1 hp fr))
local macro_rules | `(tactic| tm_at "pre") => `(tactic| (apply dget_step; tm_at "hp"; tm_at "lk"))
local macro_rules | `(tactic| tm_at "pre") => `(tactic| (apply dput_step; tm_at "hp"; (focus (omega)); intro H1 hp fr))
local macro_rules | `(tactic| tm_at "pre") => `(tactic| (apply mth_step; tm_at "hp"; tm_at "lk"))
local macro_rules | `(tactic| tm_at "pre") => `(tactic| (apply lenD_step; tm_at "hp"))
local macro_rules | `(tactic| tm_at "pre") => `(tactic| (apply addI_step))
local macro_rules | `(tactic| tm_at "pre") => `(tactic| (apply newD_step; intro dn H1 nd hp fr))
local macro_rules | `(tactic| tm_at "fr2") => `(tactic| (first | assumption | (apply Fr.appMb; assumption; (focus (simp; done)); tm_at "fr2") | (apply Fr.app0b; tm_at "f0"; tm_at "fr2") | (apply Fr.appNb; assumption; tm_at "free"; tm_at "fr2") | fail "no way"))
local macro_rules | `(tactic| tm_at "ne") => `(tactic| (apply ne_role; assumption; assumption; (focus (decide))))

/-! ### changing the bank -/
@[irreducible] def spLen (K : PySem.W.Frag) (CT C : Addr) : Sp := fun vs H Q _ => ∃ (ρ : Role) (s : Nat) (step : Int) (tl : List (Str × V)) (B D : Addr) (ys : List Th), vs = [.ref B] ∧ BkA K ρ s step CT C tl H B D ys ∧ Q (.int ys.length) H
theorem len_own_step {CT C : Addr} {ρ : Role} {s : Nat} {step : Int} {tl : List (Str × V)} {B D : Addr} {ys : List Th} {H : Hp} {Q : VK} (h : BkA K ρ s step CT C tl H B D ys) (q : Q (.int ys.length) H) : rxLenO C (spLen K CT C) [.ref B] H Q := by
  unfold rxLenO spLen
  obtain ⟨dx, gr, hB⟩ := h.at_
  exact ⟨B, _, _, rfl, hB, ρ, s, step, tl, B, D, ys, rfl, h, _, rfl, by omega, by have := h.len; omega, q⟩
abbrev s_Store_len : Stmt := inClass (top 5) 2
theorem sc_Store_len : FnScope ["self"] ["self"] (defScope s_Store_len) := ⟨rfl, rfl, rfl, by decide +kernel, rfl, by decide +kernel, by decide +kernel⟩

theorem ok_len {C CT : Addr} (cf : ClF K C CT) (T : Bl mg) (D : Def2 K C "__len__" "Store.__len__" s_Store_len) : CalM P w K mg base 1 C "__len__" ["self"] (spLen K CT C) := by
  refine D.cal cf.cC sc_Store_len (fun _ _ _ _ _ _ us hl => match us, hl with | [_], _ => rfl) (fun vs H Q E h => ?_) (fun f cdv A outer s H vs Q E hr h => ?_) <;> unfold spLen at h
  · obtain ⟨ρ, sd, step, tl, B, dD, ys, rfl, _⟩ := h
    rfl
  · obtain ⟨ρ, sd, step, tl, B, dD, ys, rfl, hb, q⟩ := h
    obtain ⟨c1, a1, a2, c2, n1, n2, n3, n4⟩ := cf
    obtain ⟨dx, gr, hB⟩ := hb.at_
    obtain ⟨kvs, hD, hl, hg, _⟩ := hb.dk
    rw [← hl] at q
    refine ⟨_, (pss_one (ps_ret (pe_callB call_lenDx (by rfl) T.z_len (by decide +kernel) (pa_cons (pe_fldx K (pv 0) rfl) pa_nil)))), ?_⟩
    tm_at "goo"
    exact q
/-- the bank behind a set slot -/
theorem BkA.set {ρ : Role} {s : Nat} {step : Int} {CT C : Addr} {tl : List (Str × V)} {H H' : Hp} {B D : Addr} {ys : List Th} {k : Nat} {y y' : Th} (h : BkA K ρ s step CT C tl H B D ys) (hy : ys[k]? = some y) (e1 : y'.th = y.th) (e2 : y'.sl = y.sl) (e3 : y'.kd = y.kd) (e4 : y'.tv = y.tv) (e5 : y'.tg = y.tg)
    (hs : H' y.sl = some (.lst y'.ss)) (f : Fr [y.sl] H H') (ds : Dens K H' y'.ss y'.us) (dd : ∀ t ∈ y'.us, Dep 2 t) (l : y'.ss.length ≤ 200) : BkA K ρ s step CT C tl H' B D (ys.set k y') := by
  have rs := (h.sl k y hy).2
  have nm : ∀ (a : Addr) (i j : Nat), ρ a = some (s, i, j) → i ≠ 6 → a ∉ [y.sl] := fun a i j e n m => by
    have z : a = y.sl := by simpa using m
    rw [z, rs] at e
    injection e with e
    injection e with _ e
    injection e with e _
    exact n e.symm
  have hk := (List.getElem?_eq_some_iff.mp hy).1
  have get : ∀ (i : Nat) (z : Th), (ys.set k y')[i]? = some z → (i = k ∧ z = y') ∨ (i ≠ k ∧ ys[i]? = some z) := fun i z e => by
    by_cases q : i = k
    · subst q
      rw [List.getElem?_set_self hk] at e
      exact .inl ⟨rfl, (Option.some.inj e).symm⟩
    · rw [List.getElem?_set_ne (Ne.symm q)] at e
      exact .inr ⟨q, e⟩
  refine ⟨let ⟨dx, gr, z⟩ := h.at_; ⟨dx, gr, f.kp _ _ z (nm _ _ _ h.rB (by decide))⟩, h.rB, ?_, h.rD, fun i z e => ?_, fun i z e => ?_, fun i z e => ?_, by rw [List.length_set]; exact h.len, h.tll, h.st⟩
  · obtain ⟨kvs, z, l1, g1, g2⟩ := h.dk
    refine ⟨kvs, f.kp _ _ z (nm _ _ _ h.rD (by decide)), by rw [List.length_set]; exact l1, fun i z e => ?_, fun z q => g2 z fun i hi => q i (by rw [List.length_set]; exact hi)⟩
    rcases get i z e with ⟨rfl, rfl⟩ | ⟨_, e⟩
    · rw [e1]; exact g1 _ y hy
    · exact g1 i z e
  · rcases get i z e with ⟨rfl, rfl⟩ | ⟨_, e⟩
    · obtain ⟨⟨dx, z⟩, r⟩ := h.th _ y hy
      rw [e1, e2, e3, e4]
      exact ⟨⟨dx, f.kp _ _ z (nm _ _ _ r (by decide))⟩, r⟩
    · obtain ⟨⟨dx, z⟩, r⟩ := h.th i z e
      exact ⟨⟨dx, f.kp _ _ z (nm _ _ _ r (by decide))⟩, r⟩
  · rcases get i z e with ⟨rfl, rfl⟩ | ⟨n, e⟩
    · rw [e2]; exact ⟨hs, rs⟩
    · obtain ⟨a, r⟩ := h.sl i z e
      exact ⟨f.kp _ _ a (by simpa using ne_rolej r rs n), r⟩
  · rcases get i z e with ⟨rfl, rfl⟩ | ⟨_, e⟩
    · obtain ⟨_, _, c, d, _⟩ := h.ok _ y hy
      rw [e4, e5]
      exact ⟨ds, dd, c.fr f, d, l⟩
    · obtain ⟨a, b, c, d⟩ := h.ok i z e
      exact ⟨a.fr f, b, c.fr f, d⟩
@[irreducible] def spSetSlot (K : PySem.W.Frag) (CT C : Addr) (step : Int) : Sp := fun vs H Q _ => ∃ (ρ : Role) (s : Nat) (tl : List (Str × V)) (B D va : Addr) (ys : List Th) (u : V) (k : Nat) (y : Th) (i : Int) (v : V) (t : T),
  vs = [.ref B, .ref va, .int i, v] ∧ BkA K ρ s step CT C tl H B D ys ∧ H va = some (.tup [u, .int (gT step k)]) ∧ ys[k]? = some y ∧ 0 ≤ i ∧ i < y.ss.length ∧ Den K H v t ∧ Dep 2 t ∧
  ∀ H', BkA K ρ s step CT C tl H' B D (ys.set k { y with ss := y.ss.set i.toNat v, us := y.us.set i.toNat t }) → Fr [y.sl] H H' → Q .non H'
theorem setslot_step {CT C : Addr} {ρ : Role} {s : Nat} {step : Int} {tl : List (Str × V)} {B D va : Addr} {ys : List Th} {u : V} {k : Nat} {y : Th} {i : Int} {v : V} {t : T} {H : Hp} {Q : VK} {E : XK} (h : BkA K ρ s step CT C tl H B D ys) (ha : H va = some (.tup [u, .int (gT step k)])) (hy : ys[k]? = some y)
    (h0 : 0 ≤ i) (h1 : i < y.ss.length) (dv : Den K H v t) (dt : Dep 2 t) (q : ∀ H', BkA K ρ s step CT C tl H' B D (ys.set k { y with ss := y.ss.set i.toNat v, us := y.us.set i.toNat t }) → Fr [y.sl] H H' → Q .non H') : spSetSlot K CT C step [.ref B, .ref va, .int i, v] H Q E := by
  unfold spSetSlot; exact ⟨ρ, s, tl, B, D, va, ys, u, k, y, i, v, t, rfl, h, ha, hy, h0, h1, dv, dt, q⟩
theorem Dens.set {H : Hp} {xs : List V} {ts : List T} {x : V} {t : T} {i : Nat} (h : Dens K H xs ts) (d : Den K H x t) : Dens K H (xs.set i x) (ts.set i t) := by
  refine ⟨by rw [List.length_set, List.length_set]; exact h.1, fun j a b ea eb => ?_⟩
  by_cases q : i = j
  · subst q
    have hi := (List.getElem?_eq_some_iff.mp ea).1
    have hj := (List.getElem?_eq_some_iff.mp eb).1
    rw [List.length_set] at hi hj
    rw [List.getElem?_set_self hi] at ea
    rw [List.getElem?_set_self hj] at eb
    cases ea; cases eb
    exact d
  · rw [List.getElem?_set_ne q] at ea eb
    exact h.2 j a b ea eb
theorem in_set {α : Type} {p : α → Prop} {xs : List α} {y : α} {i : Nat} (h : ∀ x ∈ xs, p x) (hy : p y) : ∀ x ∈ xs.set i y, p x := fun x m => by
  rcases List.mem_or_eq_of_mem_set m with m | rfl
  · exact h x m
  · exact hy
abbrev s_Store_set_slot : Stmt := inClass (top 5) 9
theorem sc_Store_set_slot : FnScope ["self", "value", "index", "entry", "thing"] ["self", "value", "index", "entry"] (defScope s_Store_set_slot) := ⟨rfl, rfl, rfl, by decide +kernel, rfl, by decide +kernel, by decide +kernel⟩

theorem fn_set_slot {C CT : Addr} {step : Int} (cf : ClF K C CT) (T : Bl mg) {f : Addr} {fd : FuncData} (D : FnP K "set_slot" "Store.set_slot" s_Store_set_slot f fd) : FnOk P w K mg base CX0 1 f fd ["self", "value", "index", "entry"] (spSetSlot K CT C step) ∧ Binds K fd ["self", "value", "index", "entry"] [] := by
  refine fnp_cal D sc_Store_set_slot (fun _ _ _ _ _ _ us hl => match us, hl with | [_, _, _, _], _ => rfl) (fun vs H Q E h => ?_) (fun f cdv A outer s H vs Q E hr h => ?_) <;> unfold spSetSlot at h
  · obtain ⟨ρ, sd, tl, B, dD, va, ys, u, k, y, i, v, t, rfl, _⟩ := h
    rfl
  · obtain ⟨ρ, sd, tl, B, dD, va, ys, u, k, y, i, v, t, rfl, hb, hv, hy, i0, i1, dv, dt0, q⟩ := h
    obtain ⟨c1, a1, a2, c2, n1, n2, n3, n4⟩ := cf
    obtain ⟨dx, gr, hB⟩ := hb.at_
    obtain ⟨kvs, hD, hl, hg, _⟩ := hb.dk
    obtain ⟨⟨dt, ht⟩, rt⟩ := hb.th k y hy
    have e := hg k y hy
    have hu := room_hu hr
    have hs := (hb.sl k y hy).1
    obtain ⟨o1, o2, o3, o4, o5⟩ := hb.ok k y hy
    refine ⟨_, (pss_cons (ps_set (i := 4) sc_Store_set_slot.nd rfl (Or.inl rfl) (pe_dgetx hu (pe_fldx K (pv 0) rfl) (pe_ix (ixT K) (pv 1) pe_int (fun _ _ => rfl)) (fun _ _ => rfl)))
    (pss_one (ps_asg (pv 3) (pg_sub (pe_fldx K (pv 4) rfl) (pv 2) setL)))), ?_⟩
    tm_at "goo"
    exact q _ (hb.set hy rfl rfl rfl rfl rfl hp fr ((o1.fr fr).set (dv.fr fr)) (in_set o2 dt0) (by simpa using o5)) fr
theorem ok_set_slot {C CT : Addr} {step : Int} (cf : ClF K C CT) (T : Bl mg) (D : Def2 K C "set_slot" "Store.set_slot" s_Store_set_slot) : CalM P w K mg base 1 C "set_slot" ["self", "value", "index", "entry"] (spSetSlot K CT C step) := by
  obtain ⟨f, fd, F, g⟩ := D
  obtain ⟨h1, h2⟩ := fn_set_slot (P := P) (w := w) (mg := mg) (base := base) cf T F
  exact ⟨f, fd, h1, cf.cC, g, h2⟩
end
end M14
set_option Elab.async false
set_option linter.all false
set_option maxRecDepth 100000
set_option maxHeartbeats 4000000
namespace M14
open PySem PySem.Spec PyProof.Rows L2

section
variable {P : Program} {w : World} {K : PySem.W.Frag} {mg : Str → Option Value} {base : Heap}
set_option hygiene false
local macro_rules | `(tactic| tm_at "sc") => `(tactic| (first | omega | (simp only [List.length_cons, List.length_nil, List.length_map, List.length_set, List.length_append]; omega) | (simp only [List.length_map] at h1 ⊢; omega) | (simp only [List.length_map] at c ⊢; omega) | with_reducible assumption | exact And.intro (by omega) (by omega) | exact Or.inl (And.intro (by omega) (by omega)) | exact Or.inr (And.intro (by omega) (by omega)) | decide +kernel | exact len1000 (by simp) | rfl | fail "no way"))
local macro_rules | `(tactic| tm_at "sc1") => `(tactic| (focus (simp; done)))
local macro_rules | `(tactic| tm_at "ne") => `(tactic| (first | assumption | exact Ne.symm (by assumption) | (apply Box.ne2; assumption; tm_at "hp") | (apply Ne.symm; apply Box.ne2; assumption; tm_at "hp") | (apply ne_of_none2; assumption; tm_at "hp") | (apply Ne.symm; apply ne_of_none2; assumption; tm_at "hp") | fail "no way"))
local macro_rules | `(tactic| tm_at "f0") => `(tactic| (first | assumption | (apply Fr.new; assumption) | fail "no way"))
local macro_rules | `(tactic| tm_at "hp") => `(tactic| (first | assumption | exact upd_same | (apply SqL.of; first | assumption | exact upd_same) | (apply Fr.at0; tm_at "f0"; tm_at "hp") | (apply Fr.at1n; assumption; tm_at "ne"; tm_at "hp") | (apply sqFr0; tm_at "f0"; tm_at "hp") | (apply sqFr1; assumption; tm_at "ne"; tm_at "hp") | (apply Box.fr0; tm_at "f0"; tm_at "hp") | (apply Box.fr1; assumption; tm_at "ne"; tm_at "hp") | (apply Den.fr; tm_at "f0"; tm_at "hp") | (apply Dens.fr; tm_at "f0"; tm_at "hp") | fail "no way"))
local macro_rules | `(tactic| tm_at "free0") => `(tactic| (first | assumption | (apply updFree; assumption) | (apply updFree; apply updFree; assumption) | (apply updFree; apply updFree; apply updFree; assumption) | (apply updFree; apply updFree; apply updFree; apply updFree; assumption) | fail "no way"))
local macro_rules | `(tactic| tm_at "free") => `(tactic| (first | tm_at "free0" | (apply Fr.free; assumption; tm_at "free0") | (apply Box.free; assumption; tm_at "fr"; tm_at "free0") | (apply Fr.free; assumption; apply Fr.free; assumption; tm_at "free0") | fail "no way"))
local macro_rules | `(tactic| tm_at "fr") => `(tactic| (first | assumption | exact Fr.refl0 _ | exact Fr.refl (Box.nt (by assumption)) | (refine Fr.comp0 ?_ (by tm_at "f0"); tm_at "fr") | (refine Fr.comp ?_ (by assumption); tm_at "fr") | (refine Fr.compN ?_ (by assumption) (by tm_at "free"); tm_at "fr") | fail "no way"))
local macro_rules | `(tactic| tm_at "call") => `(tactic| fail "no call")
local macro_rules | `(tactic| tm_at "call") => `(tactic| (apply take_step; tm_at "hp"; tm_at "sc"; tm_at "sc"; intro r H1 h0 h1 hB fr))
local macro_rules | `(tactic| tm_at "ty") => `(tactic| (first | assumption | exact .base .non | exact .base (.bl _) | exact .base (.int _) | exact .base (.str _) | (apply TyX.base; apply TyOf.lst; tm_at "hp") | (apply TyX.base; apply TyOf.tup; tm_at "hp") | fail "no way"))
local macro_rules | `(tactic| tm_at "pre") => `(tactic| fail "none")
local macro_rules | `(tactic| tm_at "go1") => `(tactic| (first | tm_at "pre" | refine ⟨_, rfl, ?_⟩ | refine ⟨_, _, rfl, rfl, ?_⟩ | (apply set_step; tm_at "hp"; tm_at "sc"; tm_at "sc"; intro H1 hp fr) | (with_reducible refine iteDI ?_ ?_ <;> intro c) | (with_reducible refine iteDS ?_ ?_ <;> intro c) | (with_reducible refine iteD ?_ ?_ <;> intro c) | (with_reducible refine iteEM ?_ ?_ <;> intro c) | (with_reducible refine iteE ?_ ?_ <;> intro c) | with_reducible refine iteN ?_ | with_reducible refine iteF ?_ | with_reducible refine iteT ?_ | (refine fun (p : Addr) (np : _ = (none : Option HO)) => ?_; fail_if_success (refine ⟨fun (_ _ : Nat) (_ : Hp) => True, ?_⟩)) | (apply isi_tt; tm_at "ty"; focus (decide +kernel)) | (apply isi_ff; tm_at "ty"; focus (decide +kernel)) | (apply sl_step; tm_at "hp"; intro qq H1 ms nq hq fr) | (apply sum_step; tm_at "hp"; intro i) | (apply tru_step; tm_at "hp") | (apply len_step; tm_at "hp") | (apply lenq_step; assumption) | (apply ixq_step; assumption; tm_at "sc"; tm_at "sc"; intro v hv) | (apply lst_step; tm_at "hp") | (apply tupl_step; tm_at "hp") | (apply ixr_step; tm_at "hp"; exact rfl) | (apply ix0_step; tm_at "hp") | (apply ix1_step; tm_at "hp") | (apply ix2_step; tm_at "hp") | (apply ixi_step; tm_at "hp"; tm_at "sc"; tm_at "sc"; intro n hn hn') | (apply ixl_step; tm_at "hp"; tm_at "sc"; tm_at "sc"; intro v hv) | (apply ixt_step; tm_at "hp"; tm_at "sc"; tm_at "sc"; intro v hm hv) | (apply in_step; tm_at "hp"; rfl; rfl) | (apply cat_step; tm_at "hp"; tm_at "hp"; tm_at "sc") | (apply catT_step; tm_at "hp"; tm_at "hp"; tm_at "sc1") | (apply tyL_and; tm_at "hp") | (apply app_step; tm_at "hp"; tm_at "sc"; intro H1 hp fr) | tm_at "call" | refine ⟨⟨_, rfl⟩, ?_⟩ | (apply ixs_step; tm_at "sc"; tm_at "sc"; tm_at "sc"; intro ch) | refine .inl ⟨_, rfl, ?_⟩ | refine .inr ⟨_, rfl, ?_⟩ | (apply And.intro; tm_at "sc") | (with_reducible refine wayB ?_ ?_ <;> intro c) | fail "no way"))
local macro_rules | `(tactic| tm_at "go") => `(tactic| (repeat tm_at "go1"))
local macro_rules | `(tactic| tm_at "goo") => `(tactic| (repeat' tm_at "go1"))
local macro_rules | `(tactic| tm_at "den") => `(tactic| (first | assumption | exact Den.str _ | exact Den.int _ | exact Den.bl _ | exact Den.non | (apply Den.tups; tm_at "hp"; tm_at "dens") | (apply Den.fr; tm_at "f0"; tm_at "den") | fail "no way"))
local macro_rules | `(tactic| tm_at "dens") => `(tactic| (first | assumption | exact Dens.nil | (apply Dens.cons; tm_at "den"; tm_at "dens") | (apply Dens.fr; tm_at "f0"; tm_at "dens") | fail "no way"))
local macro_rules | `(tactic| tm_at "ix") => `(tactic| (apply Ix.mk; tm_at "hp"; tm_at "ne"; assumption; assumption))
local macro_rules | `(tactic| tm_at "dep") => `(tactic| (first | assumption | exact Dep.int | exact Dep.str | exact Dep.bl | exact Dep.non | (apply Dep.tup; tm_at "dlen"; tm_at "deps") | (apply Dep.mono; assumption; decide) | fail "no way"))
local macro_rules | `(tactic| tm_at "deps") => `(tactic| (first | assumption | exact memN | (apply memC; tm_at "dep"; tm_at "deps") | fail "no way"))
local macro_rules | `(tactic| tm_at "dlen") => `(tactic| (first | assumption | (focus (simp; done)) | omega | fail "no way"))

local macro_rules | `(tactic| tm_at "lk") => `(tactic| (first | with_reducible exact lookup_eq | ((with_reducible apply lookup_ne); (focus (decide +kernel)); tm_at "lk") | assumption | rfl | fail "no way"))
local macro_rules | `(tactic| tm_at "pf") => `(tactic| (first | with_reducible exact putF_nil | with_reducible exact putF_eq | ((with_reducible apply putF_ne); (focus (decide +kernel)); tm_at "pf") | fail "no way"))
local macro_rules | `(tactic| tm_at "fl") => `(tactic| (first | assumption | focus (simp only [List.length_cons, List.length_nil]; omega) | focus (simp only [List.length_cons, List.length_nil]; done) | focus (decide) | focus (simp; done) | focus (simp; omega) | fail "no way"))
local macro_rules | `(tactic| tm_at "pre") => `(tactic| (apply fld_step; tm_at "hp"; assumption; assumption; tm_at "lk"))
local macro_rules | `(tactic| tm_at "pre") => `(tactic| (apply putf_step; tm_at "hp"; assumption; assumption; tm_at "fl"; tm_at "pf"; intro H1 hp fr))
local macro_rules | `(tactic| tm_at "pre") => `(tactic| (apply aug_step; tm_at "hp"; assumption; assumption; tm_at "lk"))
local macro_rules | `(tactic| tm_at "pre") => `(tactic| (apply put2_step; tm_at "hp"; tm_at "fl"; tm_at "pf"; intro H1 hp fr))
local macro_rules | `(tactic| tm_at "pre") => `(tactic| (apply dget_step; tm_at "hp"; tm_at "lk"))
local macro_rules | `(tactic| tm_at "pre") => `(tactic| (apply dput_step; tm_at "hp"; (focus (omega)); intro H1 hp fr))
local macro_rules | `(tactic| tm_at "pre") => `(tactic| (apply mth_step; tm_at "hp"; tm_at "lk"))
local macro_rules | `(tactic| tm_at "pre") => `(tactic| (apply lenD_step; tm_at "hp"))
local macro_rules | `(tactic| tm_at "pre") => `(tactic| (apply addI_step))
local macro_rules | `(tactic| tm_at "pre") => `(tactic| (apply newD_step; intro dn H1 nd hp fr))
local macro_rules | `(tactic| tm_at "fr2") => `(tactic| (first | assumption | (apply Fr.appMb; assumption; (focus (simp; done)); tm_at "fr2") | (apply Fr.app0b; tm_at "f0"; tm_at "fr2") | (apply Fr.appNb; assumption; tm_at "free"; tm_at "fr2") | fail "no way"))
local macro_rules | `(tactic| tm_at "ne") => `(tactic| (apply ne_role; assumption; assumption; (focus (decide))))

theorem Fr.refl2 {H : Hp} {a b C C' dx : Addr} {fs : List (Str × V)} {o : HO} (h : H a = some (.ins C dx fs)) (h' : H b = some o) (n : ∀ xs, o ≠ .tup xs) : Fr [a, b] H H := .refl fun x m ys e => by
  simp only [List.mem_cons, List.not_mem_nil, or_false] at m
  rcases m with rfl | rfl
  · rw [h] at e; cases e
  · rw [h'] at e; exact n _ (Option.some.inj e)
theorem Fr.app0b {M : List Addr} {H H1 H2 : Hp} (b : Fr [] H1 H2) (a : Fr M H H1) : Fr M H H2 := a.tr b
theorem Fr.appMb {M : List Addr} {H H1 H2 : Hp} {x : Addr} (b : Fr [x] H1 H2) (m : x ∈ M) (a : Fr M H H1) : Fr M H H2 := a.appM b m
theorem Fr.appNb {M : List Addr} {H H1 H2 : Hp} {x : Addr} (b : Fr [x] H1 H2) (n : H x = none) (a : Fr M H H1) : Fr M H H2 := a.appN b n
theorem up_role {ρ : Role} {H : Hp} {l : Addr} {r : Nat × Nat × Nat} (h : H l = none) : Ext H ρ (fun a => if a = l then some r else ρ a) := fun a n => if_neg fun e => n (by rw [e]; exact h)
theorem ext_trans {H : Hp} {r1 r2 r3 : Role} (a : Ext H r1 r2) (b : Ext H r2 r3) : Ext H r1 r3 := fun x n => (b x n).trans (a x n)
/-- not among two of other roles -/
theorem not2 {ρ : Role} {x a b : Addr} {s i j : Nat} {p q : Nat × Nat × Nat} (h : ρ x = some (s, i, j)) (ha : ρ a = some p) (hb : ρ b = some q) (na : (s, i, j) ≠ p) (nb : (s, i, j) ≠ q) : x ∉ [a, b] := fun m => by
  simp only [List.mem_cons, List.not_mem_nil, or_false] at m
  rcases m with rfl | rfl
  · rw [h] at ha; exact na (Option.some.inj ha)
  · rw [h] at hb; exact nb (Option.some.inj hb)
theorem BkA.chg {ρ : Role} {s : Nat} {step : Int} {CT C : Addr} {tl : List (Str × V)} {H H' : Hp} {B D l : Addr} {ys : List Th} {k : Nat} {y : Th} {tv : V} {tg : T} {xs : List V} {ts : List T} {dx dt : Addr} {gr : Int} (h : BkA K ρ s step CT C tl H B D ys) (hy : ys[k]? = some y)
    (hl : H l = none) (hl' : H' l = some (.lst xs)) (ht : H' y.th = some (.ins CT dt (thF (.str y.kd) tv (.ref l)))) (hB : H' B = some (.ins C dx (bkF D gr tl))) (f : Fr [B, y.th] H H') (ds : Dens K H' xs ts) (dd : ∀ t ∈ ts, Dep 2 t) (dv : Den K H' tv tg) (dp : Dep 3 tg) (lx : xs.length ≤ 200) :
    BkA K (fun a => if a = l then some (s, 6, k) else ρ a) s step CT C tl H' B D (ys.set k { y with tv := tv, tg := tg, sl := l, ss := xs, us := ts }) := by
  have rt := (h.th k y hy).2
  have hk := (List.getElem?_eq_some_iff.mp hy).1
  have up : ∀ {a o} {r : Nat × Nat × Nat}, H a = some o → ρ a = some r → (if a = l then some (s, 6, k) else ρ a) = some r := fun e r => by rw [if_neg fun z => by rw [z, hl] at e; cases e]; exact r
  have get : ∀ (i : Nat) (z : Th), (ys.set k { y with tv := tv, tg := tg, sl := l, ss := xs, us := ts })[i]? = some z → (i = k ∧ z = { y with tv := tv, tg := tg, sl := l, ss := xs, us := ts }) ∨ (i ≠ k ∧ ys[i]? = some z) := fun i z e => by
    by_cases q : i = k
    · subst q
      rw [List.getElem?_set_self hk] at e
      exact .inl ⟨rfl, (Option.some.inj e).symm⟩
    · rw [List.getElem?_set_ne (Ne.symm q)] at e
      exact .inr ⟨q, e⟩
  obtain ⟨dx0, gr0, hB0⟩ := h.at_
  refine ⟨⟨dx, gr, hB⟩, up hB0 h.rB, ?_, let ⟨_, z, _⟩ := h.dk; up z h.rD, fun i z e => ?_, fun i z e => ?_, fun i z e => ?_, by rw [List.length_set]; exact h.len, h.tll, h.st⟩
  · obtain ⟨kvs, z, l1, g1, g2⟩ := h.dk
    refine ⟨kvs, f.kp _ _ z (not2 h.rD h.rB rt (by simp) (by simp)), by rw [List.length_set]; exact l1, fun i z e => ?_, fun z q => g2 z fun i hi => q i (by rw [List.length_set]; exact hi)⟩
    rcases get i z e with ⟨rfl, rfl⟩ | ⟨_, e⟩
    · exact g1 _ y hy
    · exact g1 i z e
  · rcases get i z e with ⟨rfl, rfl⟩ | ⟨n, e⟩
    · obtain ⟨⟨_, z⟩, r⟩ := h.th _ y hy
      exact ⟨⟨dt, ht⟩, up z r⟩
    · obtain ⟨⟨dx, z⟩, r⟩ := h.th i z e
      exact ⟨⟨dx, f.kp _ _ z (not2 r h.rB rt (by simp) (by simp [n]))⟩, up z r⟩
  · rcases get i z e with ⟨rfl, rfl⟩ | ⟨n, e⟩
    · exact ⟨hl', if_pos rfl⟩
    · obtain ⟨a, r⟩ := h.sl i z e
      exact ⟨f.kp _ _ a (not2 r h.rB rt (by simp) (by simp)), up a r⟩
  · rcases get i z e with ⟨rfl, rfl⟩ | ⟨_, e⟩
    · exact ⟨ds, dd, dv, dp, lx⟩
    · obtain ⟨a, b, c, d⟩ := h.ok i z e
      exact ⟨a.fr f, b, c.fr f, d⟩
theorem BkA.keep {ρ : Role} {s : Nat} {step : Int} {CT C : Addr} {tl : List (Str × V)} {H H' : Hp} {B D l x : Addr} {ys : List Th} {kd : Str} {tv : V} {tg : T} {xs : List V} {ts : List T} {dx dt : Addr} {gr : Int} {kvs : List (Key × V)} (h : BkA K ρ s step CT C tl H B D ys) (hk : H D = some (.dK kvs))
    (hl : H l = none) (hx : H x = none) (nx : x ≠ l) (hl' : H' l = some (.lst xs)) (ht : H' x = some (.ins CT dt (thF (.str kd) tv (.ref l)))) (hB : H' B = some (.ins C dx (bkF D gr tl))) (hD : H' D = some (.dK (putK kvs (.inl (gT step ys.length)) (.ref x)))) (f : Fr [B, D] H H')
    (ds : Dens K H' xs ts) (dd : ∀ t ∈ ts, Dep 2 t) (dv : Den K H' tv tg) (dp : Dep 3 tg) (lx : xs.length ≤ 200) (ln : ys.length < 1000) :
    BkA K (fun a => if a = x then some (s, 5, ys.length) else if a = l then some (s, 6, ys.length) else ρ a) s step CT C tl H' B D (ys ++ [⟨x, l, kd, tv, tg, xs, ts⟩]) := by
  have up : ∀ {a o} {r : Nat × Nat × Nat}, H a = some o → ρ a = some r → (if a = x then some (s, 5, ys.length) else if a = l then some (s, 6, ys.length) else ρ a) = some r := fun e r => by
    rw [if_neg (fun z => (by rw [z, hx] at e; cases e)), if_neg (fun z => (by rw [z, hl] at e; cases e))]; exact r
  have get : ∀ (i : Nat) (z : Th), (ys ++ [(⟨x, l, kd, tv, tg, xs, ts⟩ : Th)])[i]? = some z → (i = ys.length ∧ z = ⟨x, l, kd, tv, tg, xs, ts⟩) ∨ (i < ys.length ∧ ys[i]? = some z) := fun i z e => by
    by_cases q : i < ys.length
    · rw [List.getElem?_append_left q] at e
      exact .inr ⟨q, e⟩
    · rw [List.getElem?_append_right (by omega)] at e
      have := (List.getElem?_eq_some_iff.mp e).1
      have q2 : i = ys.length := by simp at this; omega
      subst q2
      simp at e
      exact .inl ⟨rfl, e.symm⟩
  obtain ⟨dx0, gr0, hB0⟩ := h.at_
  obtain ⟨kvs', z0, l1, g1, g2⟩ := h.dk
  rw [hk] at z0; cases z0
  have nk : valV kvs (.inl (gT step ys.length)) = none := g2 _ fun i hi e => by
    have := gT_inj h.st e
    omega
  refine ⟨⟨dx, gr, hB⟩, up hB0 h.rB, ⟨_, hD, ?_, fun i z e => ?_, fun z q => ?_⟩, up hk h.rD, fun i z e => ?_, fun i z e => ?_, fun i z e => ?_, by simp; omega, h.tll, h.st⟩
  · rw [putK_new _ nk]; simp [l1]
  · rw [valV_put]
    rcases get i z e with ⟨rfl, rfl⟩ | ⟨n, e⟩
    · rw [if_pos rfl]
    · rw [if_neg fun e => by have := gT_inj h.st (Sum.inl.inj e); omega]
      exact g1 i z e
  · rw [valV_put, if_neg fun e => q ys.length (by simp) (Sum.inl.inj e)]
    exact g2 z fun i hi => q i (by simp; omega)
  · rcases get i z e with ⟨rfl, rfl⟩ | ⟨n, e⟩
    · exact ⟨⟨dt, ht⟩, if_pos rfl⟩
    · obtain ⟨⟨dx, z⟩, r⟩ := h.th i z e
      exact ⟨⟨dx, f.kp _ _ z (not2 r h.rB h.rD (by simp) (by simp))⟩, up z r⟩
  · rcases get i z e with ⟨rfl, rfl⟩ | ⟨n, e⟩
    · exact ⟨hl', by rw [if_neg (Ne.symm nx)]; exact if_pos rfl⟩
    · obtain ⟨a, r⟩ := h.sl i z e
      exact ⟨f.kp _ _ a (not2 r h.rB h.rD (by simp) (by simp)), up a r⟩
  · rcases get i z e with ⟨rfl, rfl⟩ | ⟨_, e⟩
    · exact ⟨ds, dd, dv, dp, lx⟩
    · obtain ⟨a, b, c, d⟩ := h.ok i z e
      exact ⟨a.fr f, b, c.fr f, d⟩
@[irreducible] def spChange (K : PySem.W.Frag) (CT C : Addr) (step : Int) : Sp := fun vs H Q _ => ∃ (ρ : Role) (s : Nat) (tl : List (Str × V)) (B D va l : Addr) (ys : List Th) (u : V) (k : Nat) (y : Th) (tv : V) (tg : T) (xs : List V) (ts : List T),
  vs = [.ref B, .ref va, tv, .ref l] ∧ BkA K ρ s step CT C tl H B D ys ∧ H va = some (.tup [u, .int (gT step k)]) ∧ ys[k]? = some y ∧ H l = some (.lst xs) ∧ Dens K H xs ts ∧ (∀ t ∈ ts, Dep 2 t) ∧ Den K H tv tg ∧ Dep 3 tg ∧ xs.length ≤ 200 ∧
  ∀ H' ρ' l', BkA K ρ' s step CT C tl H' B D (ys.set k { y with tv := tv, tg := tg, sl := l', ss := xs, us := ts }) → Ext H ρ ρ' → Fr [B, y.th] H H' → Q .non H'
theorem change_step {CT C : Addr} {ρ : Role} {s : Nat} {step : Int} {tl : List (Str × V)} {B D va l : Addr} {ys : List Th} {u : V} {k : Nat} {y : Th} {tv : V} {tg : T} {xs : List V} {ts : List T} {H : Hp} {Q : VK} {E : XK} (h : BkA K ρ s step CT C tl H B D ys) (ha : H va = some (.tup [u, .int (gT step k)])) (hy : ys[k]? = some y)
    (h1 : H l = some (.lst xs)) (h2 : Dens K H xs ts) (h3 : ∀ t ∈ ts, Dep 2 t) (h4 : Den K H tv tg) (h5 : Dep 3 tg) (h6 : xs.length ≤ 200)
    (q : ∀ H' ρ' l', BkA K ρ' s step CT C tl H' B D (ys.set k { y with tv := tv, tg := tg, sl := l', ss := xs, us := ts }) → Ext H ρ ρ' → Fr [B, y.th] H H' → Q .non H') : spChange K CT C step [.ref B, .ref va, tv, .ref l] H Q E := by
  unfold spChange; exact ⟨ρ, s, tl, B, D, va, l, ys, u, k, y, tv, tg, xs, ts, rfl, h, ha, hy, h1, h2, h3, h4, h5, h6, q⟩
local macro_rules | `(tactic| tm_at "ne") => `(tactic| (apply ne_role; assumption; assumption; (focus (decide))))
theorem chg_fin {ρ : Role} {s : Nat} {step : Int} {CT C : Addr} {tl : List (Str × V)} {H H' : Hp} {B D l : Addr} {ys : List Th} {k : Nat} {y : Th} {tv : V} {tg : T} {xs : List V} {ts : List T} {dx dt : Addr} {gr : Int} {Q : VK}
    (q : ∀ H' ρ' l', BkA K ρ' s step CT C tl H' B D (ys.set k { y with tv := tv, tg := tg, sl := l', ss := xs, us := ts }) → Ext H ρ ρ' → Fr [B, y.th] H H' → Q .non H') (h : BkA K ρ s step CT C tl H B D ys) (hy : ys[k]? = some y)
    (hl : H l = none) (ds : Dens K H xs ts) (dd : ∀ t ∈ ts, Dep 2 t) (dv : Den K H tv tg) (dp : Dep 3 tg) (lx : xs.length ≤ 200) (f : Fr [B, y.th] H H') (hl' : H' l = some (.lst xs)) (ht : H' y.th = some (.ins CT dt (thF (.str y.kd) tv (.ref l)))) (hB : H' B = some (.ins C dx (bkF D gr tl))) : Q .non H' :=
  q _ _ _ (h.chg hy hl hl' ht hB f (ds.fr f) dd (dv.fr f) dp lx) (up_role hl) f
local macro_rules | `(tactic| tm_at "fr2") => `(tactic| (first | assumption | (apply Fr.appMb; assumption; (focus (simp; done)); tm_at "fr2") | (apply Fr.app0b; tm_at "f0"; tm_at "fr2") | (apply Fr.appNb; assumption; tm_at "free"; tm_at "fr2") | fail "no way"))
abbrev s_Store_change : Stmt := inClass (top 5) 10
theorem sc_Store_change : FnScope ["self", "value", "tag", "slots", "thing", "kept"] ["self", "value", "tag", "slots"] (defScope s_Store_change) := ⟨rfl, rfl, rfl, by decide +kernel, rfl, by decide +kernel, by decide +kernel⟩

theorem fn_change {C CT : Addr} {step : Int} (cf : ClF K C CT) (T : Bl mg) {f : Addr} {fd : FuncData} (D : FnP K "change" "Store.change" s_Store_change f fd) : FnOk P w K mg base CX0 1 f fd ["self", "value", "tag", "slots"] (spChange K CT C step) ∧ Binds K fd ["self", "value", "tag", "slots"] [] := by
  refine fnp_cal D sc_Store_change (fun _ _ _ _ _ _ us hl => match us, hl with | [_, _, _, _], _ => rfl) (fun vs H Q E h => ?_) (fun f cdv A outer s H vs Q E hr h => ?_) <;> unfold spChange at h
  · obtain ⟨ρ, sd, tl, B, dD, va, l, ys, u, k, y, tv, tg, xs, ts, rfl, _⟩ := h
    rfl
  · obtain ⟨ρ, sd, tl, B, dD, va, l, ys, u, k, y, tv, tg, xs, ts, rfl, hb, hv, hy, hlx, dx0, dd0, dv0, dp0, lx0, q⟩ := h
    obtain ⟨c1, a1, a2, c2, n1, n2, n3, n4⟩ := cf
    obtain ⟨dx, gr, hB⟩ := hb.at_
    obtain ⟨kvs, hD, hl, hg, _⟩ := hb.dk
    obtain ⟨⟨dt, ht⟩, rt⟩ := hb.th k y hy
    have e := hg k y hy
    have hu := room_hu hr
    have hs := (hb.sl k y hy).1
    have rs := (hb.sl k y hy).2
    have rB := hb.rB
    have rD := hb.rD
    have tl0 := hb.tll.len
    have nbt : B ≠ y.th := ne_role rB rt (by decide)
    have nst : y.sl ≠ y.th := ne_role rs rt (by decide)
    have nsb : y.sl ≠ B := ne_role rs rB (by decide)
    have r0 := Fr.refl2 (C' := C) hB ht (by intro _ z; cases z)
    refine ⟨_, (pss_cons (ps_set (i := 4) sc_Store_change.nd rfl (Or.inl rfl) (pe_dgetx hu (pe_fldx K (pv 0) rfl) (pe_ix (ixT K) (pv 1) pe_int (fun _ _ => rfl)) (fun _ _ => rfl)))
    (pss_cons (ps_set (i := 5) sc_Store_change.nd rfl (Or.inl rfl) (pe_callTy (cList K) (by rfl) T.z_list (by decide +kernel) (pa_cons (pv 3) pa_nil)))
    (pss_cons (ps_if (pt_cmpR op_gt (pe_callB (cLen K) (by rfl) T.z_len (by decide +kernel) (pa_cons (pv 5) pa_nil)) (pe_callB (cLen K) (by rfl) T.z_len (by decide +kernel) (pa_cons (pe_fldx K (pv 4) rfl) pa_nil)) (nomark _))
      (pss_one (ps_fldaugx K (pv 0) (pe_op op_sub (pe_callB (cLen K) (by rfl) T.z_len (by decide +kernel) (pa_cons (pv 5) pa_nil)) (pe_callB (cLen K) (by rfl) T.z_len (by decide +kernel) (pa_cons (pe_fldx K (pv 4) rfl) pa_nil))) in_addx))
      pss_nil)
    (pss_cons (ps_fldx K (pv 4) (pv 2) rfl)
    (pss_one (ps_fldx K (pv 4) (pv 5) rfl)))))), ?_⟩
    tm_at "goo"
    all_goals (apply chg_fin q hb hy np dx0 dd0 dv0 dp0 lx0; tm_at "fr2"; tm_at "hp"; tm_at "hp"; tm_at "hp")
theorem ok_change {C CT : Addr} {step : Int} (cf : ClF K C CT) (T : Bl mg) (D : Def2 K C "change" "Store.change" s_Store_change) : CalM P w K mg base 1 C "change" ["self", "value", "tag", "slots"] (spChange K CT C step) := by
  obtain ⟨f, fd, F, g⟩ := D
  obtain ⟨h1, h2⟩ := fn_change (P := P) (w := w) (mg := mg) (base := base) cf T F
  exact ⟨f, fd, h1, cf.cC, g, h2⟩
end
end M14
set_option Elab.async false
set_option linter.all false
set_option maxRecDepth 100000
set_option maxHeartbeats 4000000
namespace M14
open PySem PySem.Spec PyProof.Rows L2

section
variable {P : Program} {w : World} {K : PySem.W.Frag} {mg : Str → Option Value} {base : Heap}
set_option hygiene false
local macro_rules | `(tactic| tm_at "sc") => `(tactic| (first | omega | (simp only [List.length_cons, List.length_nil, List.length_map, List.length_set, List.length_append]; omega) | (simp only [List.length_map] at h1 ⊢; omega) | (simp only [List.length_map] at c ⊢; omega) | with_reducible assumption | exact And.intro (by omega) (by omega) | exact Or.inl (And.intro (by omega) (by omega)) | exact Or.inr (And.intro (by omega) (by omega)) | decide +kernel | exact len1000 (by simp) | rfl | fail "no way"))
local macro_rules | `(tactic| tm_at "sc1") => `(tactic| (focus (simp; done)))
local macro_rules | `(tactic| tm_at "ne") => `(tactic| (first | assumption | exact Ne.symm (by assumption) | (apply Box.ne2; assumption; tm_at "hp") | (apply Ne.symm; apply Box.ne2; assumption; tm_at "hp") | (apply ne_of_none2; assumption; tm_at "hp") | (apply Ne.symm; apply ne_of_none2; assumption; tm_at "hp") | fail "no way"))
local macro_rules | `(tactic| tm_at "f0") => `(tactic| (first | assumption | (apply Fr.new; assumption) | fail "no way"))
local macro_rules | `(tactic| tm_at "hp") => `(tactic| (first | assumption | exact upd_same | (apply SqL.of; first | assumption | exact upd_same) | (apply Fr.at0; tm_at "f0"; tm_at "hp") | (apply Fr.at1n; assumption; tm_at "ne"; tm_at "hp") | (apply sqFr0; tm_at "f0"; tm_at "hp") | (apply sqFr1; assumption; tm_at "ne"; tm_at "hp") | (apply Box.fr0; tm_at "f0"; tm_at "hp") | (apply Box.fr1; assumption; tm_at "ne"; tm_at "hp") | (apply Den.fr; tm_at "f0"; tm_at "hp") | (apply Dens.fr; tm_at "f0"; tm_at "hp") | fail "no way"))
local macro_rules | `(tactic| tm_at "free0") => `(tactic| (first | assumption | (apply updFree; assumption) | (apply updFree; apply updFree; assumption) | (apply updFree; apply updFree; apply updFree; assumption) | (apply updFree; apply updFree; apply updFree; apply updFree; assumption) | fail "no way"))
local macro_rules | `(tactic| tm_at "free") => `(tactic| (first | tm_at "free0" | (apply Fr.free; assumption; tm_at "free0") | (apply Box.free; assumption; tm_at "fr"; tm_at "free0") | (apply Fr.free; assumption; apply Fr.free; assumption; tm_at "free0") | fail "no way"))
local macro_rules | `(tactic| tm_at "fr") => `(tactic| (first | assumption | exact Fr.refl0 _ | exact Fr.refl (Box.nt (by assumption)) | (refine Fr.comp0 ?_ (by tm_at "f0"); tm_at "fr") | (refine Fr.comp ?_ (by assumption); tm_at "fr") | (refine Fr.compN ?_ (by assumption) (by tm_at "free"); tm_at "fr") | fail "no way"))
local macro_rules | `(tactic| tm_at "call") => `(tactic| fail "no call")
local macro_rules | `(tactic| tm_at "call") => `(tactic| (apply take_step; tm_at "hp"; tm_at "sc"; tm_at "sc"; intro r H1 h0 h1 hB fr))
local macro_rules | `(tactic| tm_at "ty") => `(tactic| (first | assumption | exact .base .non | exact .base (.bl _) | exact .base (.int _) | exact .base (.str _) | (apply TyX.base; apply TyOf.lst; tm_at "hp") | (apply TyX.base; apply TyOf.tup; tm_at "hp") | fail "no way"))
local macro_rules | `(tactic| tm_at "pre") => `(tactic| fail "none")
local macro_rules | `(tactic| tm_at "go1") => `(tactic| (first | tm_at "pre" | refine ⟨_, rfl, ?_⟩ | refine ⟨_, _, rfl, rfl, ?_⟩ | (apply set_step; tm_at "hp"; tm_at "sc"; tm_at "sc"; intro H1 hp fr) | (with_reducible refine iteDI ?_ ?_ <;> intro c) | (with_reducible refine iteDS ?_ ?_ <;> intro c) | (with_reducible refine iteD ?_ ?_ <;> intro c) | (with_reducible refine iteEM ?_ ?_ <;> intro c) | (with_reducible refine iteE ?_ ?_ <;> intro c) | with_reducible refine iteN ?_ | with_reducible refine iteF ?_ | with_reducible refine iteT ?_ | (refine fun (p : Addr) (np : _ = (none : Option HO)) => ?_; fail_if_success (refine ⟨fun (_ _ : Nat) (_ : Hp) => True, ?_⟩)) | (apply isi_tt; tm_at "ty"; focus (decide +kernel)) | (apply isi_ff; tm_at "ty"; focus (decide +kernel)) | (apply sl_step; tm_at "hp"; intro qq H1 ms nq hq fr) | (apply sum_step; tm_at "hp"; intro i) | (apply tru_step; tm_at "hp") | (apply len_step; tm_at "hp") | (apply lenq_step; assumption) | (apply ixq_step; assumption; tm_at "sc"; tm_at "sc"; intro v hv) | (apply lst_step; tm_at "hp") | (apply tupl_step; tm_at "hp") | (apply ixr_step; tm_at "hp"; exact rfl) | (apply ix0_step; tm_at "hp") | (apply ix1_step; tm_at "hp") | (apply ix2_step; tm_at "hp") | (apply ixi_step; tm_at "hp"; tm_at "sc"; tm_at "sc"; intro n hn hn') | (apply ixl_step; tm_at "hp"; tm_at "sc"; tm_at "sc"; intro v hv) | (apply ixt_step; tm_at "hp"; tm_at "sc"; tm_at "sc"; intro v hm hv) | (apply in_step; tm_at "hp"; rfl; rfl) | (apply cat_step; tm_at "hp"; tm_at "hp"; tm_at "sc") | (apply catT_step; tm_at "hp"; tm_at "hp"; tm_at "sc1") | (apply tyL_and; tm_at "hp") | (apply app_step; tm_at "hp"; tm_at "sc"; intro H1 hp fr) | tm_at "call" | refine ⟨⟨_, rfl⟩, ?_⟩ | (apply ixs_step; tm_at "sc"; tm_at "sc"; tm_at "sc"; intro ch) | refine .inl ⟨_, rfl, ?_⟩ | refine .inr ⟨_, rfl, ?_⟩ | (apply And.intro; tm_at "sc") | (with_reducible refine wayB ?_ ?_ <;> intro c) | fail "no way"))
local macro_rules | `(tactic| tm_at "go") => `(tactic| (repeat tm_at "go1"))
local macro_rules | `(tactic| tm_at "goo") => `(tactic| (repeat' tm_at "go1"))
local macro_rules | `(tactic| tm_at "den") => `(tactic| (first | assumption | exact Den.str _ | exact Den.int _ | exact Den.bl _ | exact Den.non | (apply Den.tups; tm_at "hp"; tm_at "dens") | (apply Den.fr; tm_at "f0"; tm_at "den") | fail "no way"))
local macro_rules | `(tactic| tm_at "dens") => `(tactic| (first | assumption | exact Dens.nil | (apply Dens.cons; tm_at "den"; tm_at "dens") | (apply Dens.fr; tm_at "f0"; tm_at "dens") | fail "no way"))
local macro_rules | `(tactic| tm_at "ix") => `(tactic| (apply Ix.mk; tm_at "hp"; tm_at "ne"; assumption; assumption))
local macro_rules | `(tactic| tm_at "dep") => `(tactic| (first | assumption | exact Dep.int | exact Dep.str | exact Dep.bl | exact Dep.non | (apply Dep.tup; tm_at "dlen"; tm_at "deps") | (apply Dep.mono; assumption; decide) | fail "no way"))
local macro_rules | `(tactic| tm_at "deps") => `(tactic| (first | assumption | exact memN | (apply memC; tm_at "dep"; tm_at "deps") | fail "no way"))
local macro_rules | `(tactic| tm_at "dlen") => `(tactic| (first | assumption | (focus (simp; done)) | omega | fail "no way"))

local macro_rules | `(tactic| tm_at "lk") => `(tactic| (first | with_reducible exact lookup_eq | ((with_reducible apply lookup_ne); (focus (decide +kernel)); tm_at "lk") | assumption | rfl | fail "no way"))
local macro_rules | `(tactic| tm_at "pf") => `(tactic| (first | with_reducible exact putF_nil | with_reducible exact putF_eq | ((with_reducible apply putF_ne); (focus (decide +kernel)); tm_at "pf") | fail "no way"))
local macro_rules | `(tactic| tm_at "fl") => `(tactic| (first | assumption | focus (simp only [List.length_cons, List.length_nil]; omega) | focus (simp only [List.length_cons, List.length_nil]; done) | focus (decide) | focus (simp; done) | focus (simp; omega) | fail "no way"))
local macro_rules | `(tactic| tm_at "pre") => `(tactic| (apply fld_step; tm_at "hp"; assumption; assumption; tm_at "lk"))
local macro_rules | `(tactic| tm_at "pre") => `(tactic| (apply putf_step; tm_at "hp"; assumption; assumption; tm_at "fl"; tm_at "pf"; intro H1 hp fr))
local macro_rules | `(tactic| tm_at "pre") => `(tactic| (apply aug_step; tm_at "hp"; assumption; assumption; tm_at "lk"))
local macro_rules | `(tactic| tm_at "pre") => `(tactic| (apply put2_step; tm_at "hp"; tm_at "fl"; tm_at "pf"; intro H1 hp fr))
local macro_rules | `(tactic| tm_at "pre") => `(tactic| (apply dget_step; tm_at "hp"; tm_at "lk"))
local macro_rules | `(tactic| tm_at "pre") => `(tactic| (apply dput_step; tm_at "hp"; (focus (omega)); intro H1 hp fr))
local macro_rules | `(tactic| tm_at "pre") => `(tactic| (apply mth_step; tm_at "hp"; tm_at "lk"))
local macro_rules | `(tactic| tm_at "pre") => `(tactic| (apply lenD_step; tm_at "hp"))
local macro_rules | `(tactic| tm_at "pre") => `(tactic| (apply addI_step))
local macro_rules | `(tactic| tm_at "pre") => `(tactic| (apply newD_step; intro dn H1 nd hp fr))
local macro_rules | `(tactic| tm_at "fr2") => `(tactic| (first | assumption | (apply Fr.appMb; assumption; (focus (simp; done)); tm_at "fr2") | (apply Fr.app0b; tm_at "f0"; tm_at "fr2") | (apply Fr.appNb; assumption; tm_at "free"; tm_at "fr2") | fail "no way"))
local macro_rules | `(tactic| tm_at "ne") => `(tactic| (apply ne_role; assumption; assumption; (focus (decide))))

abbrev refS : V := .str (Str.ofString "ref")
theorem thing_step {CT x dx : Addr} {kd tv sl : V} {H : Hp} {Q : VK} {E : XK} (h : H x = some (.ins CT dx [])) (q : ∀ H', H' x = some (.ins CT dx (thF kd tv sl)) → Fr [x] H H' → Q .non H') : spThing CT [.ref x, kd, tv, sl] H Q E := by
  unfold spThing; exact ⟨x, dx, kd, tv, sl, rfl, h, q⟩
@[irreducible] def spKeep (K : PySem.W.Frag) (CT C : Addr) : Sp := fun vs H Q _ => ∃ (ρ : Role) (s : Nat) (step : Int) (tl : List (Str × V)) (B D l : Addr) (ys : List Th) (z : Int) (kd : Str) (tv : V) (tg : T) (xs : List V) (ts : List T),
  vs = [.ref B, .int z, .str kd, tv, .ref l] ∧ BkA K ρ s step CT C tl H B D ys ∧ z = gT step ys.length ∧ ys.length < 1000 ∧ H l = some (.lst xs) ∧ Dens K H xs ts ∧ (∀ t ∈ ts, Dep 2 t) ∧ Den K H tv tg ∧ Dep 3 tg ∧ xs.length ≤ 200 ∧
  ∀ r H' ρ' x l', H r = none → H' r = some (.tup [refS, .int z]) → BkA K ρ' s step CT C tl H' B D (ys ++ [⟨x, l', kd, tv, tg, xs, ts⟩]) → Ext H ρ ρ' → Fr [B, D] H H' → Q (.ref r) H'
section
variable {CT C : Addr} {ρ : Role} {s : Nat} {step : Int} {tl : List (Str × V)} {B D l : Addr} {ys : List Th} {z : Int} {kd : Str} {tv : V} {tg : T} {xs : List V} {ts : List T} {H : Hp} {Q : VK} {E : XK}
theorem keep_step (h : BkA K ρ s step CT C tl H B D ys) (hz : z = gT step ys.length) (hn : ys.length < 1000) (h1 : H l = some (.lst xs)) (h2 : Dens K H xs ts) (h3 : ∀ t ∈ ts, Dep 2 t) (h4 : Den K H tv tg) (h5 : Dep 3 tg) (h6 : xs.length ≤ 200)
    (q : ∀ r H' ρ' x l', H r = none → H' r = some (.tup [refS, .int z]) → BkA K ρ' s step CT C tl H' B D (ys ++ [⟨x, l', kd, tv, tg, xs, ts⟩]) → Ext H ρ ρ' → Fr [B, D] H H' → Q (.ref r) H') : spKeep K CT C [.ref B, .int z, .str kd, tv, .ref l] H Q E := by
  unfold spKeep; exact ⟨ρ, s, step, tl, B, D, l, ys, z, kd, tv, tg, xs, ts, rfl, h, hz, hn, h1, h2, h3, h4, h5, h6, q⟩
theorem keep_fin {H' : Hp} {r l' x dx dt : Addr} {gr : Int} {kvs : List (Key × V)} (q : ∀ r H' ρ' x l', H r = none → H' r = some (.tup [refS, .int z]) → BkA K ρ' s step CT C tl H' B D (ys ++ [⟨x, l', kd, tv, tg, xs, ts⟩]) → Ext H ρ ρ' → Fr [B, D] H H' → Q (.ref r) H')
    (h : BkA K ρ s step CT C tl H B D ys) (hz : z = gT step ys.length) (hn : ys.length < 1000) (h2 : Dens K H xs ts) (h3 : ∀ t ∈ ts, Dep 2 t) (h4 : Den K H tv tg) (h5 : Dep 3 tg) (h6 : xs.length ≤ 200) (hk : H D = some (.dK kvs)) (hl : H l' = none) (hx : H x = none) (hr : H r = none)
    (f : Fr [B, D] H H') (hl' : H' l' = some (.lst xs)) (ht : H' x = some (.ins CT dt (thF (.str kd) tv (.ref l')))) (hB : H' B = some (.ins C dx (bkF D gr tl))) (hD : H' D = some (.dK (putK kvs (.inl z) (.ref x)))) (hr' : H' r = some (.tup [refS, .int z])) : Q (.ref r) H' := by
  have nx : x ≠ l' := fun e => by rw [e, hl'] at ht; cases ht
  subst hz
  exact q _ _ _ _ _ hr hr' (h.keep hk hl hx nx hl' ht hB hD f (h2.fr f) h3 (h4.fr f) h5 h6 hn) (fun a n => by rw [if_neg fun e => n (by rw [e]; exact hx), if_neg fun e => n (by rw [e]; exact hl)]) f
end
abbrev s_Store_keep : Stmt := inClass (top 5) 4
theorem sc_Store_keep : FnScope ["self", "address", "kind", "tag", "slots", "kept"] ["self", "address", "kind", "tag", "slots"] (defScope s_Store_keep) := ⟨rfl, rfl, rfl, by decide +kernel, rfl, by decide +kernel, by decide +kernel⟩

theorem ok_keep {C CT : Addr} (cf : ClF K C CT) (T : Bl mg) (G_Thing : CalC P w K mg base 1 CT "Thing" ["self", "kind", "tag", "slots"] (spThing CT)) (D : Def2 K C "_keep" "Store._keep" s_Store_keep) : CalM P w K mg base 3 C "_keep" ["self", "address", "kind", "tag", "slots"] (spKeep K CT C) := by
  refine D.cal cf.cC sc_Store_keep (fun _ _ _ _ _ _ us hl => match us, hl with | [_, _, _, _, _], _ => rfl) (fun vs H Q E h => ?_) (fun f cdv A outer s H vs Q E hr h => ?_) <;> unfold spKeep at h
  · obtain ⟨ρ, sd, step, tl, B, dD, l, ys, z, kd, tv, tg, xs, ts, rfl, _⟩ := h
    rfl
  · obtain ⟨ρ, sd, step, tl, B, dD, l, ys, z, kd, tv, tg, xs, ts, rfl, hb, hz, hn0, hlx, dx0, dd0, dv0, dp0, lx0, q⟩ := h
    obtain ⟨c1, a1, a2, c2, n1, n2, n3, n4⟩ := cf
    obtain ⟨dx, gr, hB⟩ := hb.at_
    obtain ⟨kvs, hD, hl, hg, _⟩ := hb.dk
    have hu := room_hu hr
    have hr1 := hr
    have rB := hb.rB
    have rD := hb.rD
    have tl0 := hb.tll.len
    have nbd : B ≠ dD := ne_role rB rD (by decide)
    have r0 := Fr.refl2 (C' := C) hB hD (by intro _ z; cases z)
    refine ⟨_, (pss_cons (ps_set (i := 5) sc_Store_keep.nd rfl (Or.inl rfl) (pe_callTy (cList K) (by rfl) T.z_list (by decide +kernel) (pa_cons (pv 4) pa_nil)))
    (pss_cons (ps_dputx hu (pe_fldx K (pv 0) rfl) (pv 1) (pe_mkx G_Thing (hr.mono (by omega)) (by rfl) (pa_cons (pv 2) (pa_cons (pv 3) (pa_cons (pv 5) pa_nil)))) rfl)
    (pss_cons (ps_fldaugx K (pv 0) (pe_op op_add pe_int (pe_callB (cLen K) (by rfl) T.z_len (by decide +kernel) (pa_cons (pv 5) pa_nil))) in_addx)
    (pss_one (ps_ret (pe_tup (pa_cons pe_str (pa_cons (pv 1) pa_nil)))))))), ?_⟩
    tm_at "goo"
    revert p
    intro l0 nl0
    refine mk_step fun x dt H1 hx0 hx fr => ?_
    refine thing_step hx fun H2 hx2 frx => ?_
    refine ⟨rfl, ?_⟩
    tm_at "goo"
    have hx00 := updFree hx0
    have nxl : x ≠ l0 := (ne_of_none2 hx0 upd_same).symm
    have F : Fr [B, dD] H H1 := by tm_at "fr2"
    have eB : H1 B ≠ none := some_ne hp
    have eD' : H1 dD = some (.dK (putK kvs (.inl z) (.ref x))) := by tm_at "hp"
    have nr : H p = none := F.freeM (fun a m => by
      simp only [List.mem_cons, List.not_mem_nil, or_false] at m
      rcases m with rfl | rfl
      · exact eB
      · exact some_ne eD') np
    have ex : H1 x = some (.ins CT dt (thF (.str kd) tv (.ref l0))) := by
      have a : x ≠ dD := (ne_of_none2 hx00 hD).symm
      have b : x ≠ B := (ne_of_none2 hx00 hB).symm
      tm_at "hp"
    have el : H1 l0 = some (.lst xs) := by
      have a : l0 ≠ dD := (ne_of_none2 nl0 hD).symm
      have b : l0 ≠ B := (ne_of_none2 nl0 hB).symm
      have d := nxl.symm
      tm_at "hp"
    refine keep_fin q hb hz hn0 dx0 dd0 dv0 dp0 lx0 hD nl0 hx00 nr (F.app0 (Fr.new np)) (Fr.at0 (Fr.new np) el) (Fr.at0 (Fr.new np) ex) (Fr.at0 (Fr.new np) (by assumption)) (Fr.at0 (Fr.new np) eD') upd_same
/-! ### Store.make -/
@[irreducible] def spMake (K : PySem.W.Frag) (CT C : Addr) (step : Int) (tlf : Addr → Nat → List (Str × V)) : Sp := fun vs H Q _ => ∃ (R : Addr) (ρ : Role) (s : Nat) (B D l : Addr) (ys : List Th) (kd : Str) (tv : V) (tg : T) (xs : List V) (ts : List T),
  vs = [.ref B, .str kd, tv, .ref l] ∧ BkA K ρ s step CT C (tlf R ys.length) H B D ys ∧ ys.length < 1000 ∧ H l = some (.lst xs) ∧ Dens K H xs ts ∧ (∀ t ∈ ts, Dep 2 t) ∧ Den K H tv tg ∧ Dep 3 tg ∧ xs.length ≤ 200 ∧
  ∀ r H' ρ' x l', H r = none → H' r = some (.tup [refS, .int (gT step ys.length)]) → BkA K ρ' s step CT C (tlf R (ys.length + 1)) H' B D (ys ++ [⟨x, l', kd, tv, tg, xs, ts⟩]) → Ext H ρ ρ' → Fr [B, D] H H' → Q (.ref r) H'
theorem make_step {CT C : Addr} {ρ : Role} {s : Nat} {step : Int} {tlf : Addr → Nat → List (Str × V)} {R : Addr} {B D l : Addr} {ys : List Th} {kd : Str} {tv : V} {tg : T} {xs : List V} {ts : List T} {H : Hp} {Q : VK} {E : XK} (h : BkA K ρ s step CT C (tlf R ys.length) H B D ys) (hn : ys.length < 1000) (h1 : H l = some (.lst xs)) (h2 : Dens K H xs ts) (h3 : ∀ t ∈ ts, Dep 2 t) (h4 : Den K H tv tg) (h5 : Dep 3 tg) (h6 : xs.length ≤ 200)
    (q : ∀ r H' ρ' x l', H r = none → H' r = some (.tup [refS, .int (gT step ys.length)]) → BkA K ρ' s step CT C (tlf R (ys.length + 1)) H' B D (ys ++ [⟨x, l', kd, tv, tg, xs, ts⟩]) → Ext H ρ ρ' → Fr [B, D] H H' → Q (.ref r) H') : spMake K CT C step tlf [.ref B, .str kd, tv, .ref l] H Q E := by
  unfold spMake; exact ⟨R, ρ, s, B, D, l, ys, kd, tv, tg, xs, ts, rfl, h, hn, h1, h2, h3, h4, h5, h6, q⟩
abbrev s_Store_make : Stmt := inClass (top 5) 3
theorem sc_Store_make : FnScope ["self", "kind", "tag", "slots"] ["self", "kind", "tag", "slots"] (defScope s_Store_make) := ⟨rfl, rfl, rfl, by decide +kernel, rfl, by decide +kernel, by decide +kernel⟩

theorem ok_make {C CT : Addr} (cf : ClF K C CT) (T : Bl mg) (M_keep : CalM P w K mg base 3 C "_keep" ["self", "address", "kind", "tag", "slots"] (spKeep K CT C)) (D : Def2 K C "make" "Store.make" s_Store_make) : CalM P w K mg base 4 C "make" ["self", "kind", "tag", "slots"] (spMake K CT C 1 fun _ _ => []) := by
  refine D.cal cf.cC sc_Store_make (fun _ _ _ _ _ _ us hl => match us, hl with | [_, _, _, _], _ => rfl) (fun vs H Q E h => ?_) (fun f cdv A outer s H vs Q E hr h => ?_) <;> unfold spMake at h
  · obtain ⟨R, ρ, sd, B, dD, l, ys, kd, tv, tg, xs, ts, rfl, _⟩ := h
    rfl
  · obtain ⟨R, ρ, sd, B, dD, l, ys, kd, tv, tg, xs, ts, rfl, hb, hn0, hlx, dx0, dd0, dv0, dp0, lx0, q⟩ := h
    obtain ⟨c1, a1, a2, c2, n1, n2, n3, n4⟩ := cf
    obtain ⟨dx, gr, hB⟩ := hb.at_
    obtain ⟨kvs, hD, hl, hg, _⟩ := hb.dk
    refine ⟨_, (pss_one (ps_ret (pe_mcalx (pv 0) M_keep (hr.mono (by omega)) (pa_cons (pe_callB call_lenDx (by rfl) T.z_len (by decide +kernel) (pa_cons (pe_fldx K (pv 0) rfl) pa_nil)) (pa_cons (pv 1) (pa_cons (pv 2) (pa_cons (pv 3) pa_nil))))))), ?_⟩
    tm_at "goo"
    have e : (kvs.length : Int) = gT 1 ys.length := by unfold gT; omega
    rw [e]
    exact keep_step hb rfl hn0 hlx dx0 dd0 dv0 dp0 lx0 q
end
end M14
set_option Elab.async false
set_option linter.all false
set_option maxRecDepth 100000
set_option maxHeartbeats 4000000
/-! super().m(..) as the first statement of a method. -/
namespace M14
open PySem PySem.Spec PyProof.Rows L2
abbrev suFn (name qual : Str) (st : Stmt) (dV kV doc pm : Value) (an : Option Addr) (cdv ct : Value) (cc : Addr) : FuncData := PySem.W.ksFn name qual (defArgs st) (defBody st) (defScope st) dV kV doc pm an cdv ct cc
/-- a method that closes over the class at D -/
structure SupF (P : Program) (K : PySem.W.Frag) (name qual : Str) (st : Stmt) (D : Addr) (f : Addr) (fd : FuncData) : Prop where
  ex : ∃ (oc : Value) (od : Option Addr) (kV doc pm : Value) (an : Option Addr) (cda : Addr) (ct : Value) (osl : Array (Option Value)) (cc : Addr) (ocl : Value) (odl : Option Addr) (cls : Value) (cld : Option Addr) (csl ksl : Array (Option Value)) (vs : Array Value) (file : Str) (tf : Tok) (ar : Arg),
    fd = suFn name qual st .none kV doc pm an (.ref cda) ct cc ∧ K.lookup f = some ⟨oc, od, .func fd, osl⟩ ∧ PySem.W.codeIn K (.ref cda) qual = true ∧ K.lookup cda = some ⟨ocl, odl, .fields vs, ksl⟩ ∧ vs[2]? = some (.str file tf) ∧ ((P.main.file : Str) == file) = true ∧
    K.lookup cc = some ⟨cls, cld, .cell (some (.ref D)), csl⟩ ∧ ((defArgs st).posonlyargs ++ (defArgs st).args).head? = some ar ∧ ar.arg = "self"
  kp : PySem.W.keepIn K (.ref f) = true
/-- the scope of such a method -/
structure SuScope (N ps : List Str) (sc : Scope) : Prop where
  kind : sc.kind = .function
  co : sc.isCoroutine = false
  gen : sc.isGenerator = false
  nd : N.Nodup
  pre : N.take ps.length = ps
  par : ∀ x ∈ ps, sc.names.lookup x = some .local
  nocell : ∀ x ∈ sc.names, x.2 ≠ .cell
  free : ∀ x ∈ sc.names, x.2 = .free → x.1 = ("__class__" : Str)
  n0 : N[0]? = some ("self" : Str)
  cl : sc.names.lookup ("__class__" : Str) = some .free
  su : sc.names.lookup ("super" : Str) = some .globalImplicit
def cxS (CX : CXT) (P : Program) (w : World) (K : PySem.W.Frag) (mg : Str → Option Value) (base : Heap) (N : List Str) (qual : Str) (scope : Scope) (f : Addr) (cd : Value) (cc : Addr) (A : Around) (outer : List Env) (s : Shared) (H : Hp) (E : XK) : Cx where
  prog := P
  w := w
  K := K
  mg := mg
  base := base
  A := A.deeper (PySem.W.ksEnv qual scope s.heap.objs.size f cd cc)
  N := N
  s_0 := s
  H_0 := H
  env := PySem.W.ksEnv qual scope s.heap.objs.size f cd cc
  outer := outer
  stack := PySem.W.ksEnv qual scope s.heap.objs.size f cd cc :: outer
  ex := []
  calm := true
  fn := fun _ => false
  pn := []
  xe := fun e s' => wpAny (model P w) (A.deeper (PySem.W.ksEnv qual scope s.heap.objs.size f cd cc)) (leaving (PySem.W.ksEnv qual scope s.heap.objs.size f cd cc) e) (fun _ s'' => CX outer H s E e s'') (fun e' s'' => CX outer H s E e' s'') s'
theorem zip_look {ps : List Str} {us : List Value} {i : Nat} {y : Str} {u : Value} (nd : ps.Nodup) (hp : ps[i]? = some y) (hu : us[i]? = some u) : (ps.zip us).reverse.lookup y = some u := by
  induction ps generalizing us i with
  | nil => simp at hp
  | cons p ps ih =>
    cases us with
    | nil => simp at hu
    | cons v us =>
      rw [List.zip_cons_cons, List.reverse_cons, List.lookup_append]
      have nd' := List.nodup_cons.mp nd
      cases i with
      | zero =>
        simp at hp hu
        subst hp hu
        have e : (ps.zip us).reverse.lookup p = none := by
          rw [List.lookup_eq_none_iff]
          intro q hq
          have m := List.of_mem_zip (a := q.1) (b := q.2) (List.mem_reverse.mp hq)
          simp only [bne_iff_ne, ne_eq, beq_eq_false_iff_ne, Bool.not_eq_true]
          intro z
          first
          | exact nd'.1 (z ▸ m.1)
          | exact nd'.1 (by rw [z]; exact m.1)
          | exact nd'.1 (by rw [← z]; exact m.1)
        rw [e]
        simp [List.lookup]
      | succ i =>
        rw [ih nd'.2 (by simpa using hp) (by simpa using hu)]
        rfl
theorem inv_startS {CX : CXT} {P : Program} {w : World} {K : PySem.W.Frag} {mg : Str → Option Value} {base : Heap} {N ps : List Str} {qual : Str} {scope : Scope} {f cc : Addr} {cd v0 : Value} {A : Around} {outer : List Env} {s : Shared} {H : Hp} {E : XK} {us : List Value} {vs : List V} {h1 : Heap} {tk : Nat}
    (S : SuScope N ps scope) (hd : A.handled = none) (e0 : Env0 P w K mg base A outer s H) (hl : vs.length = ps.length) (r : Vals vs us) (hcc : ∃ o, base.get? cc = some o ∧ o.data = .cell (some v0))
    (hns : h1.Ns s.heap.objs.size (fun x => (ps.zip us).reverse.lookup x)) (hk : ∀ b o, s.heap.get? b = some o → h1.get? b = some o) :
    Inv (cxS CX P w K mg base N qual scope f cd cc A outer s H E) [] (L2.start N vs) H { s with heap := h1, toks := tk } := by
  have hpl : ps.length ≤ N.length := by have := congrArg List.length S.pre; rw [List.length_take] at this; omega
  obtain ⟨oc, hc1, hc2⟩ := hcc
  have cells : ∀ {x c}, List.lookup x [(("__class__" : Str), cc)] = some c → x = ("__class__" : Str) ∧ c = cc := fun {x c} h => by
    rw [List.lookup_cons] at h
    split at h
    · rename_i z
      exact ⟨by simpa using z, (Option.some.inj h).symm⟩
    · cases h
  have noA : ∀ b : Addr, b ∉ (cxS CX P w K mg base N qual scope f cd cc A outer s H E).ex := fun b z => absurd (show b ∈ ([] : List Addr) from z) (by simp)
  have ccs := e0.bs _ _ hc1
  refine ⟨⟨e0.mod, S.kind, rfl, rfl, Nat.le_refl _, fun y z c h1 h2 => (cells h1).1.trans (cells h2).1.symm, fun y hy => ?_, fun y c h _ => (nomatch h), fun _ => hd, Around.frames_deeper e0.frames, .inr ⟨rfl, rfl⟩, fun b z => absurd z (noA b), e0.bs, e0.bsz, fun b _ _ => noA b, fun b z => absurd z (noA b), e0.funs, e0.frf⟩,
    rfl, e0.bare, Un.kept hk, ⟨_, hns, fun i y v h1 h2 h3 => ?_⟩, fun y c h => ?_, e0.hok.fresh (Nat.le_refl _), fun y c h => ?_, fun p hp => absurd (show p ∈ ([] : List (Addr × Obj)) from hp) (by simp), e0.hok.kept hk, ?_⟩
  · have hy : scope.names.lookup y = some .cell ∨ scope.names.lookup y = some .free := hy
    rcases hy with hy | hy
    · exact absurd rfl (S.nocell _ (PySem.mem_of_lookup hy))
    · have z := S.free _ (PySem.mem_of_lookup hy) rfl
      exact ⟨cc, by show List.lookup y [(("__class__" : Str), cc)] = some cc; rw [show y = ("__class__" : Str) from z]; simp [List.lookup]⟩
  · have hi : i < vs.length := by
      unfold L2.start at h2
      by_cases hi : i < vs.length
      · exact hi
      · rw [List.getElem?_append_right (by simpa using hi)] at h2
        rw [List.getElem?_replicate] at h2
        split at h2 <;> cases h2
    have ha : vs[i]? = some v := by
      unfold L2.start at h2
      rw [List.getElem?_append_left (by simpa using hi), List.getElem?_map] at h2
      cases e : vs[i]? with
      | none => rw [e] at h2; cases h2
      | some a => rw [e] at h2; cases h2; rfl
    obtain ⟨u, hu, rv⟩ := r.get ha
    have hp : ps[i]? = some y := by
      rw [← S.pre, List.getElem?_take_of_lt (by omega)]; exact h1
    have ndP : ps.Nodup := by rw [← S.pre]; exact S.nd.sublist (List.take_sublist _ _)
    exact ⟨u, rv, .inl ⟨S.par y (List.mem_of_getElem? hp), zip_look ndP hp hu⟩⟩
  · obtain ⟨_, rfl⟩ := cells h
    exact ⟨some v0, oc, hk _ _ ccs.1, hc2⟩
  · obtain ⟨_, rfl⟩ := cells h
    exact ccs.2
  · unfold L2.start
    show _ = N.length
    rw [List.length_append, List.length_map, List.length_replicate]
    omega

/-- the method that super() finds -/
structure SupM (P : Program) (K : PySem.W.Frag) (mg : Str → Option Value) (C D : Addr) (m : Str) (f2 : Addr) : Prop where
  sup : PySem.W.ks_superIn K C D m = some (some (.ref f2))
  fn : PySem.W.typeIn K (.ref f2) = some (.type "function")
  fi : PySem.W.fnIn K f2 = true
  sub : PySem.W.mroIn K C (.ref D) = some true
  cC : ∃ cd, PySem.W.clsIn K C = some cd
  cD : ∃ cd, PySem.W.clsIn K D = some cd
  op : PySem.W.nsIn K PySem.cStatics "thirdparty.any" = some none
  sg : mg "super" = none
  top : (P.main.scope.names.lookup ("super" : Str)).isSome = false
  nm : (m == ("__class__" : Str)) = false
section
variable {CX : CXT} {P : Program} {w : World} {K : PySem.W.Frag} {mg : Str → Option Value} {base : Heap} {N ps : List Str} {qual nam : Str} {st : Stmt} {f cc C D f2 : Addr} {cda : Addr} {A : Around} {outer : List Env} {s0 : Shared} {H0 : Hp} {E0' : XK}
/-- what the body's context knows of its own def -/
structure SuKn (P : Program) (K : PySem.W.Frag) (st : Stmt) (f cda cc D : Addr) : Prop where
  fd : ∃ oc od fd osl ar, K.lookup f = some ⟨oc, od, .func fd, osl⟩ ∧ (fd.params.posonlyargs ++ fd.params.args).head? = some ar ∧ ar.arg = ("self" : Str)
  cd : ∃ (ocl : Value) (odl : Option Addr) (vs : Array Value) (ksl : Array (Option Value)) (file : Str) (tf : Tok), K.lookup cda = some ⟨ocl, odl, .fields vs, ksl⟩ ∧ vs[2]? = some (.str file tf) ∧ ((P.main.file : Str) == file) = true
  cl : ∃ (cls : Value) (cld : Option Addr) (csl : Array (Option Value)), K.lookup cc = some ⟨cls, cld, .cell (some (.ref D)), csl⟩
abbrev XS (CX : CXT) (P : Program) (w : World) (K : PySem.W.Frag) (mg : Str → Option Value) (base : Heap) (N : List Str) (qual : Str) (scope : Scope) (f cda cc : Addr) (A : Around) (outer : List Env) (s : Shared) (H : Hp) (E : XK) : Cx := cxS CX P w K mg base N qual scope f (.ref cda) cc A outer s H E
theorem su_base {pins : List (Addr × Obj)} {σ : L2.St} {H : Hp} {s : Shared} {x dx : Addr} {fs : List (Str × V)} {m : Str} {p0 p1 : Pos} {whole : Sem Value} {body0 : List Stmt} {Q : Value → Shared → Prop} {E : Value → Shared → Prop} {sc : Scope}
    (S : SuScope N ps sc) (hps : ps[0]? = some ("self" : Str)) (kn : SuKn P K st f cda cc D) (sm : SupM P K mg C D m f2) (I : Inv (XS CX P w K mg base N qual sc f cda cc A outer s0 H0 E0') pins σ H s) (h0 : σ[0]? = some (some (.ref x))) (hx : H x = some (.ins C dx fs))
    (h : ∀ so s', Inv (XS CX P w K mg base N qual sc f cda cc A outer s0 H0 E0') ((so, PySem.W.ks_superObj D x C) :: pins) σ H s' → Q (.ref so) s') :
    _root_.PySem.wpAt (model P w) (XS CX P w K mg base N qual sc f cda cc A outer s0 H0 E0').A (.func body0 (XS CX P w K mg base N qual sc f cda cc A outer s0 H0 E0').env) (attributeBase (.Call (.Name "super" p0) [] [] p1) m (XS CX P w K mg base N qual sc f cda cc A outer s0 H0 E0').env whole) Q E s := by
  have KX := I.kIn
  have KX' : K.In s.heap := KX
  obtain ⟨mA, J, _⟩ := ins_get I.hok hx
  obtain ⟨od, J, _⟩ := J.look
  obtain ⟨mm, hns, hloc⟩ := I.loc
  have slf : sc.names.lookup ("self" : Str) = some .local := S.par _ (List.mem_of_getElem? hps)
  obtain ⟨u, ru, lk⟩ := hloc 0 "self" (.ref x) S.n0 h0 (.inl slf)
  obtain rfl : u = Value.ref x := ru
  have mself : mm ("self" : Str) = some (.ref x) := by
    rcases lk with ⟨_, e⟩ | ⟨z, _⟩
    · exact e
    · have e : sc.names.lookup ("self" : Str) = some .cell ∨ sc.names.lookup ("self" : Str) = some .free := z
      rw [slf] at e
      rcases e with e | e <;> cases e
  obtain ⟨oc, odf, fd, osl, ar, lf, hp, har⟩ := kn.fd
  obtain ⟨ocl, odl, vs, ksl, file, tf, lc, hvs, hfile⟩ := kn.cd
  obtain ⟨cls, cld, csl, lcc⟩ := kn.cl
  obtain ⟨cdD, hD⟩ := sm.cD
  have KX2 : K.In s.heap := KX'
  obtain ⟨mb, hb1, hb2⟩ := I.mod.blt
  have G := I.mod.glob.keeps I.bk
  have B := hb1.keeps I.bk
  obtain ⟨oD, hD1, hD2⟩ : ∃ oD, s.heap.get? D = some oD ∧ oD.data = .cls cdD := by
    unfold PySem.W.clsIn at hD
    split at hD
    · rename_i c d cd' sl ho
      cases hD
      exact ⟨_, KX' _ _ ho, rfl⟩
    · cases hD
  refine ks_wpAt_super_base (env := PySem.W.ksEnv qual sc s0.heap.objs.size f (.ref cda) cc) S.su S.cl sm.nm rfl (KX' _ _ lf) rfl hp rfl (KX' _ _ lc) rfl hvs hfile sm.top ?_
  refine PySem.W.ks_loadName_global S.kind S.su (Calls.loadGlobal_builtin (env := PySem.W.ksEnv qual sc s0.heap.objs.size f (.ref cda) cc) G sm.sg B ((hb2 "super" (by decide)).trans (by first | rfl | kernel_rfl)) ⟨rfl, ?_⟩)
  refine wpAny_loadName_free (c := cc) S.kind S.cl (by show List.lookup ("__class__" : Str) [(("__class__" : Str), cc)] = some cc; simp [List.lookup]) ⟨_, KX' _ _ lcc, rfl⟩ ?_
  rw [har]
  refine wpAny_loadName_local S.kind slf hns mself ?_
  obtain ⟨hh, g, d, t, os⟩ := s
  refine ks_wpAny_isType_cls hD1 hD2 ⟨rfl, ?_⟩
  refine ks_wpAny_call_super hD1 hD2 J.at_ J.cls (fun c e => ?_) (PySem.W.looks_mroIn KX' sm.sub) (fun h' e k => ?_)
  · have := J.no
    unfold PySem.W.notCls at this
    rw [e] at this
    exact Bool.noConfusion this
  · exact h _ _ (ClX.pin_new I k (Nat.le_refl _) e (fun v z => nomatch z))

def tSup (C : Addr) (sp : Sp) (t : TA) : TE := fun σ H Q => ∃ x dx fs, σ[0]? = some (some (.ref x)) ∧ H x = some (.ins C dx fs) ∧ t σ H fun vs H2 => sp (.ref x :: vs) H2 Q E0
def SuE (X : Cx) (e : Expr) (t : TE) : Prop := ∀ (body0 : List Stmt) (pins : List (Addr × Obj)) (s : Shared) (σ : L2.St) (H : Hp) (Q : VK), Inv X pins σ H s → t σ H Q →
  _root_.PySem.wpAt (model X.prog X.w) X.A (.func body0 X.env) (eval e X.env) (EP X pins σ Q) X.xe s
def SuSs (X : Cx) (body : List Stmt) (t : TS) : Prop := ∀ (body0 : List Stmt) (pins : List (Addr × Obj)) (s : Shared) (σ : L2.St) (H : Hp) (D : Ends), Inv X pins σ H s → t D σ H →
  _root_.PySem.wpAt (model X.prog X.w) X.A (.func body0 X.env) (execs body X.env) (SP X pins D) X.xe s
section
variable {sc : Scope} {k : Nat} {ps2 : List Str} {sp : Sp} {fd2 : FuncData}
theorem run_fnC {X : Cx} {CX : CXT} {E : XK} {Q : VK} {us : List Value} {vs : List V} {pins : List (Addr × Obj)} {σ : L2.St} {H : Hp} {s : Shared} {f : Addr} {fd : FuncData} {ps : List Str} (F : FnOk X.prog X.w X.K X.mg X.base CX k f fd ps sp) (hr : Room k X.A) (hb : Binds X.K fd ps []) (hx : Passes CX X E) (I : Inv X pins σ H s) (r : Vals vs us) (h : sp vs H Q E) :
    codeAny (model X.prog X.w) X.A (.call (.ref f) ⟨us, []⟩) (fun r s' => match r with | .ok (.ret v) => EP X pins σ Q v s' | .ok _ => False | .error e => X.xe e s') s := by
  have hl : (us ++ []).length = ps.length := by rw [List.append_nil, ← r.length]; exact F.len _ _ _ _ h
  have b := hb s us I.kIn hl
  rw [List.append_nil] at b
  refine codeAny_mono (F.run X.A X.stack s H ⟨us, []⟩ us vs Q E hr I.env0 b r h) fun r s' hq => ?_
  cases r with
  | error e => exact hx pins σ H s e s' I hq
  | ok fl =>
    cases fl with
    | ret u => exact I.after hq
    | next => exact False.elim hq
    | brk => exact False.elim hq
    | cont => exact False.elim hq
theorem su_call {m : Str} {e : Expr} {es : List Expr} {p0 p1 apos pos : Pos} {pl : Sem Bool} {t : TA} (S : SuScope N ps sc) (hps : ps[0]? = some ("self" : Str)) (kn : SuKn P K st f cda cc D) (sm : SupM P K mg C D m f2)
    (F : FnOk P w K mg base CX0 k f2 fd2 ps2 sp) (hb : Binds K fd2 ps2 []) (hr : Room k (XS CX0 P w K mg base N qual sc f cda cc A outer s0 H0 E0').A) (hx : Passes CX0 (XS CX0 P w K mg base N qual sc f cda cc A outer s0 H0 E0') E0) (ha : PA (XS CX0 P w K mg base N qual sc f cda cc A outer s0 H0 E0') (e :: es) t)
    (hst : starEach (e :: es) (XS CX0 P w K mg base N qual sc f cda cc A outer s0 H0 E0').env = (false, eval e (XS CX0 P w K mg base N qual sc f cda cc A outer s0 H0 E0').env) :: starEach es (XS CX0 P w K mg base N qual sc f cda cc A outer s0 H0 E0').env := by rfl)
    (hpl : (backTo pos (starEach es (XS CX0 P w K mg base N qual sc f cda cc A outer s0 H0 E0').env)).any (·.1) = false := by rfl)
    (ht : eval (.Call (.Attribute (.Call (.Name "super" p0) [] [] p1) m apos) (e :: es) [] pos) (XS CX0 P w K mg base N qual sc f cda cc A outer s0 H0 E0').env = (do
      let ov ← attributeBase (.Call (.Name "super" p0) [] [] p1) m (XS CX0 P w K mg base N qual sc f cda cc A outer s0 H0 E0').env (eval (.Call (.Name "super" p0) [] [] p1) (XS CX0 P w K mg base N qual sc f cda cc A outer s0 H0 E0').env)
      standAt apos.atName
      let (g, first) ← holding [ov] (getMethod ov m pl)
      callWith pos g first (backTo pos (starEach (e :: es) (XS CX0 P w K mg base N qual sc f cda cc A outer s0 H0 E0').env)) []) := by rfl) :
    SuE (XS CX0 P w K mg base N qual sc f cda cc A outer s0 H0 E0') (.Call (.Attribute (.Call (.Name "super" p0) [] [] p1) m apos) (e :: es) [] pos) (tSup C sp t) := by
  intro body0 pins s σ H Q I ⟨x, dx, fs, h0, hxx, hq⟩
  refine ks_wpAt_MethodCall (pl := pl) ?_ ht
  refine su_base S hps kn sm I h0 hxx fun so s1 I1 => ?_
  obtain ⟨mA, J, _⟩ := ins_get I1.hok hxx
  obtain ⟨od, J, _⟩ := J.look
  obtain ⟨cd, hC⟩ := sm.cC
  have KX : K.In s1.heap := I1.kIn
  have hsup := sm.sup
  unfold PySem.W.ks_superIn at hsup
  rw [hC] at hsup
  have hso := ClX.pin_at I1
  obtain ⟨of, hof, hofc⟩ : ∃ of, s1.heap.get? f2 = some of ∧ of.cls = .type "function" := by
    have ht' : (K.lookup f2).map (·.cls) = some (.type "function") := sm.fn
    cases z : K.lookup f2 with
    | none => rw [z] at ht'; cases ht'
    | some of => rw [z] at ht'; exact ⟨of, KX _ _ z, Option.some.inj ht'⟩
  obtain ⟨hh, g, d, tk, os⟩ := s1
  refine ks_wpAny_getMethod_super hso (PySem.W.looks_opaque KX sm.op) (l₀ := cd.mro) ?_ rfl KX hsup hof hofc (PySem.W.ks_ne KX J hC) sm.nm ?_
  · exact fun A Q E s k q => wpAny_bind ((PySem.W.looks_clsIn KX hC) A _ E s k (wpAny_pure q))
  · have I2 := ClX.met_new (g := f2) (C := x) I1
    refine ClX.callwith_cm I2 (ClX.base_none I1 (Nat.le_refl _)) sm.fi (thn (ha.run pos _ _ σ H _ I2 hq) fun us s3 ⟨vs, H2, I3, rv, q2⟩ => ⟨⟨ClX.pin_at I3, I3.kIn⟩, ?_⟩) hst hpl
    have z := wpAny_call (PySem.W.method_call (ClX.pin_at I3) (run_fnC (vs := .ref x :: vs) F hr hb hx I3 (.cons rfl rv) q2))
    exact thn z fun _ _ y => ClX.unpinE (ClX.unpinE y)
theorem su_first {X : Cx} {e : Expr} {pos : Pos} {rest : List Stmt} {te : TE} {u : TS} (he : SuE X e te) (hr : PSs X rest u) (hs : swapsWith e none pos.line X.env = pure false := by rfl) : SuSs X (.Expr e pos :: rest) (tSeq (tDrop te) u) := by
  intro body0 pins s σ H D I h
  refine ks_wpAt_execs_cons (ks_wpAt_Expr_any (ks_wpAt_mono (he body0 pins s σ H _ I h) (fun v s' hv => ?_) fun _ _ y => y) I.quiet hs)
  obtain ⟨x, H1, I1, _, q⟩ := hv
  exact wpAt_of_wpAny (hr.run pins s' σ H1 D I1 q)
theorem su_call0 {m : Str} {p0 p1 apos pos : Pos} {pl : Sem Bool} (S : SuScope N ps sc) (hps : ps[0]? = some ("self" : Str)) (kn : SuKn P K st f cda cc D) (sm : SupM P K mg C D m f2)
    (F : FnOk P w K mg base CX0 k f2 fd2 ps2 sp) (hb : Binds K fd2 ps2 []) (hr : Room k (XS CX0 P w K mg base N qual sc f cda cc A outer s0 H0 E0').A) (hx : Passes CX0 (XS CX0 P w K mg base N qual sc f cda cc A outer s0 H0 E0') E0)
    (ht : eval (.Call (.Attribute (.Call (.Name "super" p0) [] [] p1) m apos) [] [] pos) (XS CX0 P w K mg base N qual sc f cda cc A outer s0 H0 E0').env = (do
      let ov ← attributeBase (.Call (.Name "super" p0) [] [] p1) m (XS CX0 P w K mg base N qual sc f cda cc A outer s0 H0 E0').env (eval (.Call (.Name "super" p0) [] [] p1) (XS CX0 P w K mg base N qual sc f cda cc A outer s0 H0 E0').env)
      standAt apos.atName
      let (g, first) ← holding [ov] (getMethod ov m pl)
      callWith pos g first (backTo pos (starEach [] (XS CX0 P w K mg base N qual sc f cda cc A outer s0 H0 E0').env)) []) := by rfl) :
    SuE (XS CX0 P w K mg base N qual sc f cda cc A outer s0 H0 E0') (.Call (.Attribute (.Call (.Name "super" p0) [] [] p1) m apos) [] [] pos) (tSup C sp tNil) := by
  intro body0 pins s σ H Q I ⟨x, dx, fs, h0, hxx, hq⟩
  refine ks_wpAt_MethodCall (pl := pl) ?_ ht
  refine su_base S hps kn sm I h0 hxx fun so s1 I1 => ?_
  obtain ⟨mA, J, _⟩ := ins_get I1.hok hxx
  obtain ⟨od, J, _⟩ := J.look
  obtain ⟨cd, hC⟩ := sm.cC
  have KX : K.In s1.heap := I1.kIn
  have hsup := sm.sup
  unfold PySem.W.ks_superIn at hsup
  rw [hC] at hsup
  have hso := ClX.pin_at I1
  obtain ⟨of, hof, hofc⟩ : ∃ of, s1.heap.get? f2 = some of ∧ of.cls = .type "function" := by
    have ht' : (K.lookup f2).map (·.cls) = some (.type "function") := sm.fn
    cases z : K.lookup f2 with
    | none => rw [z] at ht'; cases ht'
    | some of => rw [z] at ht'; exact ⟨of, KX _ _ z, Option.some.inj ht'⟩
  obtain ⟨hh, g, d, tk, os⟩ := s1
  refine ks_wpAny_getMethod_super hso (PySem.W.looks_opaque KX sm.op) (l₀ := cd.mro) ?_ rfl KX hsup hof hofc (PySem.W.ks_ne KX J hC) sm.nm ?_
  · exact fun A Q E s k q => wpAny_bind ((PySem.W.looks_clsIn KX hC) A _ E s k (wpAny_pure q))
  · have I2 := ClX.met_new (g := f2) (C := x) I1
    refine PySem.W.callWith_M0 (K := K) (self := .ref x) ⟨ClX.pin_at I2, I2.kIn⟩ sm.fi ?_
    have z := wpAny_call (PySem.W.method_call (ClX.pin_at I2) (run_fnC (vs := [.ref x]) F hr hb hx I2 (.cons rfl .nil) hq))
    exact thn z fun _ _ y => ClX.unpinE (ClX.unpinE y)
end
end
section
variable {P : Program} {w : World} {K : PySem.W.Frag} {mg : Str → Option Value} {base : Heap} {N ps : List Str} {nam qual : Str} {st : Stmt} {f C D : Addr} {fd : FuncData} {k : Nat} {sp : Sp}
theorem fn_su (Fs : SupF P K nam qual st D f fd) (S : SuScope N ps (defScope st)) (len : ∀ vs H Q E, sp vs H Q E → vs.length = ps.length)
    (hbody : ∀ (cda cc : Addr) (A : Around) (outer : List Env) (s : Shared) (H : Hp) (vs : List V) (Q : VK) (E : XK), SuKn P K st f cda cc D → Room k (A.deeper (PySem.W.ksEnv qual (defScope st) s.heap.objs.size f (.ref cda) cc)) → sp vs H Q E →
      ∃ t, SuSs (XS CX0 P w K mg base N qual (defScope st) f cda cc A outer s H E) (defBody st) t ∧ t { nx := fun _ H' => Q .non H', rt := Q } (L2.start N vs) H) : FnOk P w K mg base CX0 (k + 1) f fd ps sp := by
  obtain ⟨oc, od, kV, doc, pm, an, cda, ct, osl, cc, ocl, odl, cls, cld, csl, ksl, vvs, file, tf, ar, rfl, lk, hcd, lc, hvs, hfile, lcc, har, hself⟩ := Fs.ex
  have kn : SuKn P K st f cda cc D := ⟨⟨oc, od, _, osl, ar, lk, har, hself⟩, ⟨ocl, odl, vvs, ksl, file, tf, lc, hvs, hfile⟩, ⟨cls, cld, csl, lcc⟩⟩
  refine ⟨len, fun A outer s H args us vs Q E hr e0 hb r hsp => ?_⟩
  have hl := len _ _ _ _ hsp
  have KB : K.In base := e0.mod.kin
  have KX : K.In s.heap := e0.mod.kin.keeps fun b o e => (e0.bs b o e).1
  have lim : s.heap.NoLimit := e0.mod.nolimit.keeps fun b o e => (e0.bs b o e).1
  refine ks_codeAny_call_defAt (fd := suFn nam qual st .none kV doc pm an (.ref cda) ct cc) (body := defBody st) (binds := ps.zip us) hr.depth (KX _ _ lk) rfl lim (PySem.W.codeRec_of KX hcd) rfl hb S.nocell (fun y hy => S.par y.1 (List.of_mem_zip (a := y.1) (b := y.2) hy).1) (fun h₁ hns hk => ?_) S.co S.gen S.kind
  obtain ⟨t, ht, hq⟩ := hbody cda cc A outer s H vs Q E kn (hr.deeper _) hsp
  have I : Inv (XS CX0 P w K mg base N qual (defScope st) f cda cc A outer s H E) [] (L2.start N vs) H { s with heap := h₁, toks := s.toks + (ps.zip us).length } :=
    inv_startS S hr.hd e0 hl r ⟨_, KB _ _ lcc, rfl⟩ hns hk
  refine ks_wpAt_mono (ht (defBody st) [] _ _ H _ I hq) (fun fl s' hs => ?_) fun _ _ y => y
  have fin : ∀ {σ' : L2.St} {H' : Hp} {v : V} {u : Value}, Inv (XS CX0 P w K mg base N qual (defScope st) f cda cc A outer s H E) [] σ' H' s' → RelV v u → Q v H' → CE outer P w H s Q u s' :=
    fun {σ' H' v u} J rv q => ⟨v, H', J.os, J.bare, J.base, J.hok, rv, q⟩
  cases fl with
  | ret u =>
    obtain ⟨v, σ', H', J, rv, q⟩ := hs
    exact fin J rv q
  | next =>
    obtain ⟨σ', H', J, q⟩ := hs
    exact fin (v := V.non) (u := Value.none) J rfl q
  | brk =>
    obtain ⟨_, _, _, q⟩ := hs
    exact False.elim q
  | cont =>
    obtain ⟨_, _, _, q⟩ := hs
    exact False.elim q
end
end M14
set_option Elab.async false
set_option linter.all false
set_option maxRecDepth 100000
set_option maxHeartbeats 4000000
namespace M14
open PySem PySem.Spec PyProof.Rows L2

section
variable {P : Program} {w : World} {K : PySem.W.Frag} {mg : Str → Option Value} {base : Heap}
set_option hygiene false
local macro_rules | `(tactic| tm_at "sc") => `(tactic| (first | omega | (simp only [List.length_cons, List.length_nil, List.length_map, List.length_set, List.length_append]; omega) | (simp only [List.length_map] at h1 ⊢; omega) | (simp only [List.length_map] at c ⊢; omega) | with_reducible assumption | exact And.intro (by omega) (by omega) | exact Or.inl (And.intro (by omega) (by omega)) | exact Or.inr (And.intro (by omega) (by omega)) | decide +kernel | exact len1000 (by simp) | rfl | fail "no way"))
local macro_rules | `(tactic| tm_at "sc1") => `(tactic| (focus (simp; done)))
local macro_rules | `(tactic| tm_at "ne") => `(tactic| (first | assumption | exact Ne.symm (by assumption) | (apply Box.ne2; assumption; tm_at "hp") | (apply Ne.symm; apply Box.ne2; assumption; tm_at "hp") | (apply ne_of_none2; assumption; tm_at "hp") | (apply Ne.symm; apply ne_of_none2; assumption; tm_at "hp") | fail "no way"))
local macro_rules | `(tactic| tm_at "f0") => `(tactic| (first | assumption | (apply Fr.new; assumption) | fail "no way"))
local macro_rules | `(tactic| tm_at "hp") => `(tactic| (first | assumption | exact upd_same | (apply SqL.of; first | assumption | exact upd_same) | (apply Fr.at0; tm_at "f0"; tm_at "hp") | (apply Fr.at1n; assumption; tm_at "ne"; tm_at "hp") | (apply sqFr0; tm_at "f0"; tm_at "hp") | (apply sqFr1; assumption; tm_at "ne"; tm_at "hp") | (apply Box.fr0; tm_at "f0"; tm_at "hp") | (apply Box.fr1; assumption; tm_at "ne"; tm_at "hp") | (apply Den.fr; tm_at "f0"; tm_at "hp") | (apply Dens.fr; tm_at "f0"; tm_at "hp") | fail "no way"))
local macro_rules | `(tactic| tm_at "free0") => `(tactic| (first | assumption | (apply updFree; assumption) | (apply updFree; apply updFree; assumption) | (apply updFree; apply updFree; apply updFree; assumption) | (apply updFree; apply updFree; apply updFree; apply updFree; assumption) | fail "no way"))
local macro_rules | `(tactic| tm_at "free") => `(tactic| (first | tm_at "free0" | (apply Fr.free; assumption; tm_at "free0") | (apply Box.free; assumption; tm_at "fr"; tm_at "free0") | (apply Fr.free; assumption; apply Fr.free; assumption; tm_at "free0") | fail "no way"))
local macro_rules | `(tactic| tm_at "fr") => `(tactic| (first | assumption | exact Fr.refl0 _ | exact Fr.refl (Box.nt (by assumption)) | (refine Fr.comp0 ?_ (by tm_at "f0"); tm_at "fr") | (refine Fr.comp ?_ (by assumption); tm_at "fr") | (refine Fr.compN ?_ (by assumption) (by tm_at "free"); tm_at "fr") | fail "no way"))
local macro_rules | `(tactic| tm_at "call") => `(tactic| fail "no call")
local macro_rules | `(tactic| tm_at "call") => `(tactic| (apply take_step; tm_at "hp"; tm_at "sc"; tm_at "sc"; intro r H1 h0 h1 hB fr))
local macro_rules | `(tactic| tm_at "ty") => `(tactic| (first | assumption | exact .base .non | exact .base (.bl _) | exact .base (.int _) | exact .base (.str _) | (apply TyX.base; apply TyOf.lst; tm_at "hp") | (apply TyX.base; apply TyOf.tup; tm_at "hp") | fail "no way"))
local macro_rules | `(tactic| tm_at "pre") => `(tactic| fail "none")
local macro_rules | `(tactic| tm_at "go1") => `(tactic| (first | tm_at "pre" | refine ⟨_, rfl, ?_⟩ | refine ⟨_, _, rfl, rfl, ?_⟩ | (apply set_step; tm_at "hp"; tm_at "sc"; tm_at "sc"; intro H1 hp fr) | (with_reducible refine iteDI ?_ ?_ <;> intro c) | (with_reducible refine iteDS ?_ ?_ <;> intro c) | (with_reducible refine iteD ?_ ?_ <;> intro c) | (with_reducible refine iteEM ?_ ?_ <;> intro c) | (with_reducible refine iteE ?_ ?_ <;> intro c) | with_reducible refine iteN ?_ | with_reducible refine iteF ?_ | with_reducible refine iteT ?_ | (refine fun (p : Addr) (np : _ = (none : Option HO)) => ?_; fail_if_success (refine ⟨fun (_ _ : Nat) (_ : Hp) => True, ?_⟩)) | (apply isi_tt; tm_at "ty"; focus (decide +kernel)) | (apply isi_ff; tm_at "ty"; focus (decide +kernel)) | (apply sl_step; tm_at "hp"; intro qq H1 ms nq hq fr) | (apply sum_step; tm_at "hp"; intro i) | (apply tru_step; tm_at "hp") | (apply len_step; tm_at "hp") | (apply lenq_step; assumption) | (apply ixq_step; assumption; tm_at "sc"; tm_at "sc"; intro v hv) | (apply lst_step; tm_at "hp") | (apply tupl_step; tm_at "hp") | (apply ixr_step; tm_at "hp"; exact rfl) | (apply ix0_step; tm_at "hp") | (apply ix1_step; tm_at "hp") | (apply ix2_step; tm_at "hp") | (apply ixi_step; tm_at "hp"; tm_at "sc"; tm_at "sc"; intro n hn hn') | (apply ixl_step; tm_at "hp"; tm_at "sc"; tm_at "sc"; intro v hv) | (apply ixt_step; tm_at "hp"; tm_at "sc"; tm_at "sc"; intro v hm hv) | (apply in_step; tm_at "hp"; rfl; rfl) | (apply cat_step; tm_at "hp"; tm_at "hp"; tm_at "sc") | (apply catT_step; tm_at "hp"; tm_at "hp"; tm_at "sc1") | (apply tyL_and; tm_at "hp") | (apply app_step; tm_at "hp"; tm_at "sc"; intro H1 hp fr) | tm_at "call" | refine ⟨⟨_, rfl⟩, ?_⟩ | (apply ixs_step; tm_at "sc"; tm_at "sc"; tm_at "sc"; intro ch) | refine .inl ⟨_, rfl, ?_⟩ | refine .inr ⟨_, rfl, ?_⟩ | (apply And.intro; tm_at "sc") | (with_reducible refine wayB ?_ ?_ <;> intro c) | fail "no way"))
local macro_rules | `(tactic| tm_at "go") => `(tactic| (repeat tm_at "go1"))
local macro_rules | `(tactic| tm_at "goo") => `(tactic| (repeat' tm_at "go1"))
local macro_rules | `(tactic| tm_at "den") => `(tactic| (first | assumption | exact Den.str _ | exact Den.int _ | exact Den.bl _ | exact Den.non | (apply Den.tups; tm_at "hp"; tm_at "dens") | (apply Den.fr; tm_at "f0"; tm_at "den") | fail "no way"))
local macro_rules | `(tactic| tm_at "dens") => `(tactic| (first | assumption | exact Dens.nil | (apply Dens.cons; tm_at "den"; tm_at "dens") | (apply Dens.fr; tm_at "f0"; tm_at "dens") | fail "no way"))
local macro_rules | `(tactic| tm_at "ix") => `(tactic| (apply Ix.mk; tm_at "hp"; tm_at "ne"; assumption; assumption))
local macro_rules | `(tactic| tm_at "dep") => `(tactic| (first | assumption | exact Dep.int | exact Dep.str | exact Dep.bl | exact Dep.non | (apply Dep.tup; tm_at "dlen"; tm_at "deps") | (apply Dep.mono; assumption; decide) | fail "no way"))
local macro_rules | `(tactic| tm_at "deps") => `(tactic| (first | assumption | exact memN | (apply memC; tm_at "dep"; tm_at "deps") | fail "no way"))
local macro_rules | `(tactic| tm_at "dlen") => `(tactic| (first | assumption | (focus (simp; done)) | omega | fail "no way"))

local macro_rules | `(tactic| tm_at "lk") => `(tactic| (first | with_reducible exact lookup_eq | ((with_reducible apply lookup_ne); (focus (decide +kernel)); tm_at "lk") | assumption | rfl | fail "no way"))
local macro_rules | `(tactic| tm_at "pf") => `(tactic| (first | with_reducible exact putF_nil | with_reducible exact putF_eq | ((with_reducible apply putF_ne); (focus (decide +kernel)); tm_at "pf") | fail "no way"))
local macro_rules | `(tactic| tm_at "fl") => `(tactic| (first | assumption | focus (simp only [List.length_cons, List.length_nil]; omega) | focus (simp only [List.length_cons, List.length_nil]; done) | focus (decide) | focus (simp; done) | focus (simp; omega) | fail "no way"))
local macro_rules | `(tactic| tm_at "pre") => `(tactic| (apply fld_step; tm_at "hp"; assumption; assumption; tm_at "lk"))
local macro_rules | `(tactic| tm_at "pre") => `(tactic| (apply putf_step; tm_at "hp"; assumption; assumption; tm_at "fl"; tm_at "pf"; intro H1 hp fr))
local macro_rules | `(tactic| tm_at "pre") => `(tactic| (apply aug_step; tm_at "hp"; assumption; assumption; tm_at "lk"))
local macro_rules | `(tactic| tm_at "pre") => `(tactic| (apply put2_step; tm_at "hp"; tm_at "fl"; tm_at "pf"; intro H1 hp fr))
local macro_rules | `(tactic| tm_at "pre") => `(tactic| (apply dget_step; tm_at "hp"; tm_at "lk"))
local macro_rules | `(tactic| tm_at "pre") => `(tactic| (apply dput_step; tm_at "hp"; (focus (omega)); intro H1 hp fr))
local macro_rules | `(tactic| tm_at "pre") => `(tactic| (apply mth_step; tm_at "hp"; tm_at "lk"))
local macro_rules | `(tactic| tm_at "pre") => `(tactic| (apply lenD_step; tm_at "hp"))
local macro_rules | `(tactic| tm_at "pre") => `(tactic| (apply addI_step))
local macro_rules | `(tactic| tm_at "pre") => `(tactic| (apply newD_step; intro dn H1 nd hp fr))
local macro_rules | `(tactic| tm_at "fr2") => `(tactic| (first | assumption | (apply Fr.appMb; assumption; (focus (simp; done)); tm_at "fr2") | (apply Fr.app0b; tm_at "f0"; tm_at "fr2") | (apply Fr.appNb; assumption; tm_at "free"; tm_at "fr2") | fail "no way"))
local macro_rules | `(tactic| tm_at "ne") => `(tactic| (apply ne_role; assumption; assumption; (focus (decide))))

/-! ### the stores' beginnings -/
@[irreducible] def spInit (C : Addr) : Sp := fun vs H Q _ => ∃ (x dx : Addr), vs = [.ref x] ∧ H x = some (.ins C dx []) ∧ ∀ D H', H D = none → H' D = some (.dK []) → H' x = some (.ins C dx (bkF D 0 [])) → Fr [x] H H' → Q .non H'
theorem init_step {C x dx : Addr} {H : Hp} {Q : VK} {E : XK} (h : H x = some (.ins C dx [])) (q : ∀ D H', H D = none → H' D = some (.dK []) → H' x = some (.ins C dx (bkF D 0 [])) → Fr [x] H H' → Q .non H') : spInit C [.ref x] H Q E := by
  unfold spInit; exact ⟨x, dx, rfl, h, q⟩
theorem reflI {H : Hp} {x C dx : Addr} {fs : List (Str × V)} (hx : H x = some (.ins C dx fs)) : Fr [x] H H := .refl fun b m ys e => by
  have z : b = x := by simpa using m
  rw [z, hx] at e; cases e
abbrev s_Store_init : Stmt := inClass (top 5) 1
theorem sc_Store_init : FnScope ["self"] ["self"] (defScope s_Store_init) := ⟨rfl, rfl, rfl, by decide +kernel, rfl, by decide +kernel, by decide +kernel⟩

theorem ok_init {C : Addr} {f : Addr} {fd : FuncData} (c1 : Cls K C) (a1 : NoAttr K C "_things") (a2 : NoAttr K C "grown") (F : FnP K "__init__" "Store.__init__" s_Store_init f fd) : FnOk P w K mg base CX0 1 f fd ["self"] (spInit C) := by
  refine F.ok sc_Store_init (fun vs H Q E h => ?_) (fun cdv A outer s H vs Q E hr h => ?_)
  · unfold spInit at h
    obtain ⟨x, dx, rfl, _⟩ := h
    rfl
  · unfold spInit at h
    obtain ⟨x, dx, rfl, hx, q⟩ := h
    have r0 := reflI hx
    refine ⟨_, (pss_cons (ps_fldx K (pv 0) pe_dnewK rfl)
    (pss_one (ps_fldx K (pv 0) pe_int rfl))), ?_⟩
    tm_at "goo"
    have npx : p ≠ x := (ne_of_none2 np hx).symm
    exact q p _ np (by tm_at "hp") (by assumption) (by tm_at "fr2")
/-! ### the heap -/
abbrev hTl (R : Addr) (n : Nat) : List (Str × V) := [("_young", .int n), ("_old", .int 0), ("_remembered", .ref R)]
theorem sup_step {C x dx : Addr} {sp : Sp} {t : TA} {fs : List (Str × V)} {r : L2.St} {H : Hp} {Q : VK} (h : H x = some (.ins C dx fs)) (k : t (some (.ref x) :: r) H fun vs H2 => sp (.ref x :: vs) H2 Q E0) : tSup C sp t (some (.ref x) :: r) H Q := ⟨x, dx, fs, rfl, h, k⟩
@[irreducible] def spHInit (C : Addr) : Sp := fun vs H Q _ => ∃ (x dx : Addr), vs = [.ref x] ∧ H x = some (.ins C dx []) ∧ ∀ D R H', H D = none → H' D = some (.dK []) → H' x = some (.ins C dx (bkF D 0 (hTl R 0))) → Fr [x] H H' → Q .non H'
theorem hinit_step {C x dx : Addr} {H : Hp} {Q : VK} {E : XK} (h : H x = some (.ins C dx [])) (q : ∀ D R H', H D = none → H' D = some (.dK []) → H' x = some (.ins C dx (bkF D 0 (hTl R 0))) → Fr [x] H H' → Q .non H') : spHInit C [.ref x] H Q E := by
  unfold spHInit; exact ⟨x, dx, rfl, h, q⟩
structure HpF (K : PySem.W.Frag) (C : Addr) : Prop where
  y : NoAttr K C "_young"
  o : NoAttr K C "_old"
  r : NoAttr K C "_remembered"
abbrev s_HInit : Stmt := inClass (top 9) 0
theorem su_HInit : SuScope ["self"] ["self"] (defScope s_HInit) := ⟨rfl, rfl, rfl, by decide +kernel, rfl, by decide +kernel, by decide +kernel, by decide +kernel, rfl, rfl, rfl⟩
theorem ok_hinit {C D f f2 : Addr} {fd fd2 : FuncData} (c1 : Cls K C) (a1 : NoAttr K C "_things") (a2 : NoAttr K C "grown") (hf : HpF K C) (Fs : SupF P K "__init__" "Heap.__init__" s_HInit D f fd) (sm : SupM P K mg C D "__init__" f2)
    (F : FnOk P w K mg base CX0 1 f2 fd2 ["self"] (spInit C)) (hb : Binds K fd2 ["self"] []) : FnOk P w K mg base CX0 2 f fd ["self"] (spHInit C) := by
  refine fn_su Fs su_HInit (fun vs H Q E h => ?_) (fun cda cc A outer s H vs Q E kn hr h => ?_)
  · unfold spHInit at h
    obtain ⟨x, dx, rfl, _⟩ := h
    rfl
  · unfold spHInit at h
    obtain ⟨x, dx, rfl, hx, q⟩ := h
    obtain ⟨h1, h2, h3⟩ := hf
    refine ⟨_, su_first (su_call0 su_HInit rfl kn sm F hb hr pass0) (pss_cons (ps_fldx K (pv 0) pe_int rfl) (pss_cons (ps_fldx K (pv 0) pe_int rfl) (pss_one (ps_fldx K (pv 0) pe_dnewK rfl)))), ?_⟩
    refine sup_step hx ?_
    refine init_step hx fun dD H1 nD hD hx1 fr1 => ?_
    tm_at "goo"
    have nDx : dD ≠ x := (ne_of_none2 nD hx).symm
    exact q dD p _ nD (by tm_at "hp") (by assumption) (by tm_at "fr2")
/-! ### Heap's other methods -/
abbrev s_Heap_len : Stmt := inClass (top 9) 1
theorem sc_Heap_len : FnScope ["self"] ["self"] (defScope s_Heap_len) := ⟨rfl, rfl, rfl, by decide +kernel, rfl, by decide +kernel, by decide +kernel⟩

theorem ok_hlen {C CT : Addr} (cf : ClF K C CT) (T : Bl mg) (D : Def2 K C "__len__" "Heap.__len__" s_Heap_len) : CalM P w K mg base 1 C "__len__" ["self"] (spLen K CT C) := by
  refine D.cal cf.cC sc_Heap_len (fun _ _ _ _ _ _ us hl => match us, hl with | [_], _ => rfl) (fun vs H Q E h => ?_) (fun f cdv A outer s H vs Q E hr h => ?_) <;> unfold spLen at h
  · obtain ⟨ρ, sd, step, tl, B, dD, ys, rfl, _⟩ := h
    rfl
  · obtain ⟨ρ, sd, step, tl, B, dD, ys, rfl, hb, q⟩ := h
    obtain ⟨c1, a1, a2, c2, n1, n2, n3, n4⟩ := cf
    obtain ⟨dx, gr, hB⟩ := hb.at_
    obtain ⟨kvs, hD, hl, hg, _⟩ := hb.dk
    rw [← hl] at q
    refine ⟨_, (pss_one (ps_ret (pe_callB call_lenDx (by rfl) T.z_len (by decide +kernel) (pa_cons (pe_fldx K (pv 0) rfl) pa_nil)))), ?_⟩
    tm_at "goo"
    exact q
theorem hTl_ok (R : Addr) (n : Nat) : TlOk (hTl R n) := ⟨by simp, fun m h => by
  have a : ∀ m ∈ mths, (m == ("_young" : Str)) = false ∧ (m == ("_old" : Str)) = false ∧ (m == ("_remembered" : Str)) = false := by decide +kernel
  obtain ⟨a, b, c⟩ := a m h
  rw [List.lookup_cons, a]
  show List.lookup m [("_old", V.int 0), ("_remembered", V.ref R)] = none
  rw [List.lookup_cons, b]
  show List.lookup m [("_remembered", V.ref R)] = none
  rw [List.lookup_cons, c]
  rfl⟩
/-- the bank with another tail -/
theorem BkA.tail {ρ : Role} {s : Nat} {step : Int} {CT C : Addr} {tl tl' : List (Str × V)} {H H' : Hp} {B D dx : Addr} {gr : Int} {ys : List Th} (h : BkA K ρ s step CT C tl H B D ys) (hB : H' B = some (.ins C dx (bkF D gr tl'))) (f : Fr [B] H H') (l : TlOk tl') : BkA K ρ s step CT C tl' H' B D ys := by
  have nm : ∀ (a : Addr) (i j : Nat), ρ a = some (s, i, j) → i ≠ 0 → a ∉ [B] := fun a i j e n m => by
    have z : a = B := by simpa using m
    rw [z, h.rB] at e
    injection e with e
    injection e with _ e
    injection e with e _
    exact n e.symm
  exact ⟨⟨dx, gr, hB⟩, h.rB, let ⟨kvs, z, r⟩ := h.dk; ⟨kvs, f.kp _ _ z (nm _ _ _ h.rD (by decide)), r⟩, h.rD,
    fun i y q => let ⟨⟨dx, z⟩, r⟩ := h.th i y q; ⟨⟨dx, f.kp _ _ z (nm _ _ _ r (by decide))⟩, r⟩, fun i y q => let ⟨z, r⟩ := h.sl i y q; ⟨f.kp _ _ z (nm _ _ _ r (by decide)), r⟩,
    fun i y q => let ⟨a, b, c, d⟩ := h.ok i y q; ⟨a.fr f, b, c.fr f, d⟩, h.len, l, h.st⟩
abbrev s_Heap_make : Stmt := inClass (top 9) 5
theorem sc_Heap_make : FnScope ["self", "kind", "tag", "slots", "value"] ["self", "kind", "tag", "slots"] (defScope s_Heap_make) := ⟨rfl, rfl, rfl, by decide +kernel, rfl, by decide +kernel, by decide +kernel⟩

theorem ok_hmake {C CT : Addr} (cf : ClF K C CT) (hf : HpF K C) (T : Bl mg) (M_keep : CalM P w K mg base 3 C "_keep" ["self", "address", "kind", "tag", "slots"] (spKeep K CT C)) (D : Def2 K C "make" "Heap.make" s_Heap_make) : CalM P w K mg base 4 C "make" ["self", "kind", "tag", "slots"] (spMake K CT C 2 hTl) := by
  refine D.cal cf.cC sc_Heap_make (fun _ _ _ _ _ _ us hl => match us, hl with | [_, _, _, _], _ => rfl) (fun vs H Q E h => ?_) (fun f cdv A outer s H vs Q E hr h => ?_) <;> unfold spMake at h
  · obtain ⟨R, ρ, sd, B, dD, l, ys, kd, tv, tg, xs, ts, rfl, _⟩ := h
    rfl
  · obtain ⟨R, ρ, sd, B, dD, l, ys, kd, tv, tg, xs, ts, rfl, hb, hn0, hlx, dx0, dd0, dv0, dp0, lx0, q⟩ := h
    obtain ⟨c1, a1, a2, c2, n1, n2, n3, n4⟩ := cf
    obtain ⟨h1, h2, h3⟩ := hf
    obtain ⟨dx, gr, hB⟩ := hb.at_
    refine ⟨_, (pss_cons (ps_set (i := 4) sc_Heap_make.nd rfl (Or.inl rfl) (pe_mcalx (pv 0) M_keep (hr.mono (by omega)) (pa_cons (pe_op op_add (pe_op op_mul pe_int (pe_fldx K (pv 0) rfl)) pe_int) (pa_cons (pv 1) (pa_cons (pv 2) (pa_cons (pv 3) pa_nil))))))
    (pss_cons (ps_fldaugx K (pv 0) pe_int in_addx)
    (pss_one (ps_ret (pv 4))))), ?_⟩
    tm_at "goo"
    refine keep_step hb (by unfold gT; omega) hn0 hlx dx0 dd0 dv0 dp0 lx0 fun r H1 ρ' x l' nr hr1 hb1 ex fr1 => ?_
    obtain ⟨dx1, gr1, hB1⟩ := hb1.at_
    tm_at "goo"
    have F := fr1.appM fr (by simp)
    have eg : (2 : Int) * (ys.length : Int) + 1 = gT 2 ys.length := by unfold gT; omega
    have nrB : r ≠ B := (ne_of_none2 nr hB).symm
    rw [eg] at hr1
    exact q r _ ρ' x l' nr (by tm_at "hp") (hb1.tail (tl' := hTl R (ys.length + 1)) hp fr (hTl_ok R _)) ex F
@[irreducible] def spRem : Sp := fun vs H Q _ => ∃ (x v : V) (z : Int), vs = [x, .int z, v] ∧ z % 2 = 1 ∧ Q .non H
theorem rem_step {x v : V} {z : Int} {H : Hp} {Q : VK} {E : XK} (h : z % 2 = 1) (q : Q .non H) : spRem [x, .int z, v] H Q E := by unfold spRem; exact ⟨x, v, z, rfl, h, q⟩
abbrev s_young_ones : Stmt := top 8
theorem sc_young_ones : FnScope ["entries", "entry"] ["entries"] (defScope s_young_ones) := ⟨rfl, rfl, rfl, by decide +kernel, rfl, by decide +kernel, by decide +kernel⟩

abbrev s_Heap_remember : Stmt := inClass (top 9) 8
theorem sc_Heap_remember : FnScope ["self", "address", "entries"] ["self", "address", "entries"] (defScope s_Heap_remember) := ⟨rfl, rfl, rfl, by decide +kernel, rfl, by decide +kernel, by decide +kernel⟩

theorem ok_remember {C : Addr} (c1 : Cls K C) (T : Bl mg) (DY : Def1 K mg "_young_ones" s_young_ones) (D : Def2 K C "_remember" "Heap._remember" s_Heap_remember) : CalM P w K mg base 1 C "_remember" ["self", "address", "entries"] spRem := by
  have G_young_ones : Cal P w K mg base 0 "_young_ones" ["entries"] (fun _ _ _ _ => False) := DY.never fun _ _ _ _ _ _ us hl => match us, hl with | [_], _ => rfl
  refine D.cal c1 sc_Heap_remember (fun _ _ _ _ _ _ us hl => match us, hl with | [_, _, _], _ => rfl) (fun vs H Q E h => ?_) (fun f cdv A outer s H vs Q E hr h => ?_) <;> unfold spRem at h
  · obtain ⟨x, v, z, rfl, _⟩ := h
    rfl
  · obtain ⟨x, v, z, rfl, hz, q⟩ := h
    have hu := room_hu hr
    refine ⟨_, (pss_one (ps_if (PW.pt (pw_and (pt_cmpR op_eq (pe_op op_mod (pv 1) pe_int) pe_int (nomark _)) (pw_and1 (pt_cmpR op_gt (pe_callB (cLen K) (by rfl) T.z_len (by decide +kernel) (pa_cons (pe_cal G_young_ones (hr.mono (by omega)) (by rfl) (pa_cons (pv 2) pa_nil)) pa_nil)) pe_int (nomark _)))))
      (pss_one (ps_dputx hu (pe_fldx K (pv 0) rfl) (pv 1) pe_bl rfl))
      pss_nil)), ?_⟩
    tm_at "goo"
    · exact absurd c (by omega)
    · exact q
abbrev s_HSet : Stmt := inClass (top 9) 6
theorem su_HSet : SuScope ["self", "value", "index", "entry"] ["self", "value", "index", "entry"] (defScope s_HSet) := ⟨rfl, rfl, rfl, by decide +kernel, rfl, by decide +kernel, by decide +kernel, by decide +kernel, rfl, rfl, rfl⟩
theorem ok_hset {C CT D f f2 : Addr} {fd fd2 : FuncData} (cf : ClF K C CT) (Fs : SupF P K "set_slot" "Heap.set_slot" s_HSet D f fd) (sm : SupM P K mg C D "set_slot" f2)
    (F : FnOk P w K mg base CX0 1 f2 fd2 ["self", "value", "index", "entry"] (spSetSlot K CT C 2)) (hb2 : Binds K fd2 ["self", "value", "index", "entry"] []) (M_remember : CalM P w K mg base 1 C "_remember" ["self", "address", "entries"] spRem) :
    FnOk P w K mg base CX0 2 f fd ["self", "value", "index", "entry"] (spSetSlot K CT C 2) := by
  refine fn_su Fs su_HSet (fun vs H Q E h => ?_) (fun cda cc A outer s H vs Q E kn hr h => ?_) <;> unfold spSetSlot at h
  · obtain ⟨ρ, sd, tl, B, dD, va, ys, u, k, y, i, v, t, rfl, _⟩ := h
    rfl
  · obtain ⟨ρ, sd, tl, B, dD, va, ys, u, k, y, i, v, t, rfl, hb, hv, hy, i0, i1, dv, dt0, q⟩ := h
    obtain ⟨dx, gr, hB⟩ := hb.at_
    refine ⟨_, su_first (su_call su_HSet rfl kn sm F hb2 hr pass0 (pa_cons (pv 1) (pa_cons (pv 2) (pa_cons (pv 3) pa_nil)))) (pss_one (ps_expr (pe_mcalx (pv 0) M_remember (hr.mono (by omega)) (pa_cons (pe_ix (ixT K) (pv 1) pe_int (fun _ _ => rfl)) (pa_cons (pe_lst (pa_cons (pv 3) pa_nil)) pa_nil))))), ?_⟩
    refine sup_step hB ?_
    tm_at "goo"
    refine setslot_step hb hv hy i0 i1 dv dt0 fun H1 hb1 fr => ?_
    have hv1 : H1 va = some (.tup [u, .int (gT 2 k)]) := fr.tup hv
    obtain ⟨dx1, gr1, hB1⟩ := hb1.at_
    have nomr : tl.lookup ("_remember" : Str) = none := hb1.tll.nom _ (by decide +kernel)
    tm_at "goo"
    refine rem_step (by unfold gT; omega) ?_
    exact q _ (hb1.of0 (Fr.new np)) (fr.tr (Fr.new np))
abbrev s_HChg : Stmt := inClass (top 9) 7
theorem su_HChg : SuScope ["self", "value", "tag", "slots"] ["self", "value", "tag", "slots"] (defScope s_HChg) := ⟨rfl, rfl, rfl, by decide +kernel, rfl, by decide +kernel, by decide +kernel, by decide +kernel, rfl, rfl, rfl⟩
theorem ok_hchange {C CT D f f2 : Addr} {fd fd2 : FuncData} (cf : ClF K C CT) (Fs : SupF P K "change" "Heap.change" s_HChg D f fd) (sm : SupM P K mg C D "change" f2)
    (F : FnOk P w K mg base CX0 1 f2 fd2 ["self", "value", "tag", "slots"] (spChange K CT C 2)) (hb2 : Binds K fd2 ["self", "value", "tag", "slots"] []) (M_remember : CalM P w K mg base 1 C "_remember" ["self", "address", "entries"] spRem) :
    FnOk P w K mg base CX0 2 f fd ["self", "value", "tag", "slots"] (spChange K CT C 2) := by
  refine fn_su Fs su_HChg (fun vs H Q E h => ?_) (fun cda cc A outer s H vs Q E kn hr h => ?_) <;> unfold spChange at h
  · obtain ⟨ρ, sd, tl, B, dD, va, l, ys, u, k, y, tv, tg, xs, ts, rfl, _⟩ := h
    rfl
  · obtain ⟨ρ, sd, tl, B, dD, va, l, ys, u, k, y, tv, tg, xs, ts, rfl, hb, hv, hy, hlx, dx0, dd0, dv0, dp0, lx0, q⟩ := h
    obtain ⟨dx, gr, hB⟩ := hb.at_
    refine ⟨_, su_first (su_call su_HChg rfl kn sm F hb2 hr pass0 (pa_cons (pv 1) (pa_cons (pv 2) (pa_cons (pv 3) pa_nil)))) (pss_one (ps_expr (pe_mcalx (pv 0) M_remember (hr.mono (by omega)) (pa_cons (pe_ix (ixT K) (pv 1) pe_int (fun _ _ => rfl)) (pa_cons (pv 3) pa_nil))))), ?_⟩
    refine sup_step hB ?_
    tm_at "goo"
    refine change_step hb hv hy hlx dx0 dd0 dv0 dp0 lx0 fun H1 ρ' l' hb1 ex fr => ?_
    have hv1 : H1 va = some (.tup [u, .int (gT 2 k)]) := fr.tup hv
    obtain ⟨dx1, gr1, hB1⟩ := hb1.at_
    have nomr : tl.lookup ("_remember" : Str) = none := hb1.tll.nom _ (by decide +kernel)
    tm_at "goo"
    refine rem_step (by unfold gT; omega) ?_
    exact q _ _ _ hb1 ex fr
/-- from such a method to the call of it -/
theorem sup_bind {nam qual : Str} {st : Stmt} {D f : Addr} {fd : FuncData} {ps : List Str} (Fs : SupF P K nam qual st D f fd)
    (hb : ∀ (kV doc pm : Value) (an : Option Addr) (cdv ct : Value) (cc : Addr) (us : List Value), us.length = ps.length → bindArgs (suFn nam qual st .none kV doc pm an cdv ct cc) ⟨us, []⟩ = pure (ps.zip us)) : Binds K fd ps [] := by
  obtain ⟨oc, od, kV, doc, pm, an, cda, ct, osl, cc, ocl, odl, cls, cld, csl, ksl, vvs, file, tf, ar, rfl, _⟩ := Fs.ex
  exact .all fun us hl => hb _ _ _ _ _ _ _ us hl
/-- a super method of the class at C -/
def Def2S (P : Program) (K : PySem.W.Frag) (C D : Addr) (m qual : Str) (st : Stmt) : Prop := ∃ f fd, SupF P K m qual st D f fd ∧ Meth K C m f
theorem ok_HSet {C CT D f2 : Addr} {fd2 : FuncData} (cf : ClF K C CT) (T : Bl mg) (Ds : Def2S P K C D "set_slot" "Heap.set_slot" s_HSet) (D2 : FnP K "set_slot" "Store.set_slot" s_Store_set_slot f2 fd2) (sm : SupM P K mg C D "set_slot" f2)
    (M_remember : CalM P w K mg base 1 C "_remember" ["self", "address", "entries"] spRem) : CalM P w K mg base 2 C "set_slot" ["self", "value", "index", "entry"] (spSetSlot K CT C 2) := by
  obtain ⟨f, fd, Fs, g⟩ := Ds
  obtain ⟨h1, h2⟩ := fn_set_slot (P := P) (w := w) (mg := mg) (base := base) (step := 2) cf T D2
  exact ⟨f, fd, ok_hset cf Fs sm h1 h2 M_remember, cf.cC, g, sup_bind Fs fun _ _ _ _ _ _ _ us hl => match us, hl with | [_, _, _, _], _ => rfl⟩
theorem ok_HChg {C CT D f2 : Addr} {fd2 : FuncData} (cf : ClF K C CT) (T : Bl mg) (Ds : Def2S P K C D "change" "Heap.change" s_HChg) (D2 : FnP K "change" "Store.change" s_Store_change f2 fd2) (sm : SupM P K mg C D "change" f2)
    (M_remember : CalM P w K mg base 1 C "_remember" ["self", "address", "entries"] spRem) : CalM P w K mg base 2 C "change" ["self", "value", "tag", "slots"] (spChange K CT C 2) := by
  obtain ⟨f, fd, Fs, g⟩ := Ds
  obtain ⟨h1, h2⟩ := fn_change (P := P) (w := w) (mg := mg) (base := base) (step := 2) cf T D2
  exact ⟨f, fd, ok_hchange cf Fs sm h1 h2 M_remember, cf.cC, g, sup_bind Fs fun _ _ _ _ _ _ _ us hl => match us, hl with | [_, _, _, _], _ => rfl⟩
theorem ok_HInit {C D f2 : Addr} {fd2 : FuncData} (c1 : Cls K C) (a1 : NoAttr K C "_things") (a2 : NoAttr K C "grown") (hf : HpF K C) (Ds : ∃ f fd, SupF P K "__init__" "Heap.__init__" s_HInit D f fd ∧ mg "Heap" = some (.ref C) ∧ Mk K C f) (D2 : FnP K "__init__" "Store.__init__" s_Store_init f2 fd2)
    (sm : SupM P K mg C D "__init__" f2) : CalC P w K mg base 2 C "Heap" ["self"] (spHInit C) := by
  obtain ⟨f, fd, Fs, g, M⟩ := Ds
  have h2 : Binds K fd2 ["self"] [] := D2.bindsN (fun _ _ _ _ _ _ us hl => match us, hl with | [_], _ => rfl)
  exact ⟨f, fd, ok_hinit c1 a1 a2 hf Fs sm (ok_init c1 a1 a2 D2) h2, g, M, sup_bind Fs fun _ _ _ _ _ _ _ us hl => match us, hl with | [_], _ => rfl⟩
theorem ok_SInit {C : Addr} (c1 : Cls K C) (a1 : NoAttr K C "_things") (a2 : NoAttr K C "grown") (D : DefC K mg C "Store" "Store.__init__" s_Store_init) : CalC P w K mg base 1 C "Store" ["self"] (spInit C) := by
  obtain ⟨f, fd, F, g, M⟩ := D
  exact ⟨f, fd, ok_init c1 a1 a2 F, g, M, F.bindsN (fun _ _ _ _ _ _ us hl => match us, hl with | [_], _ => rfl)⟩
end
end M14
set_option Elab.async false
set_option linter.all false
set_option maxRecDepth 100000
set_option maxHeartbeats 4000000
namespace M14
open PySem PySem.Spec PyProof.Rows L2

/-! ### the law's defs over a bank -/
/-- what a kind of bank offers -/
structure BankC (P : Program) (w : World) (K : PySem.W.Frag) (mg : Str → Option Value) (base : Heap) (C CT : Addr) (step : Int) (tlf : Addr → Nat → List (Str × V)) : Prop where
  make : CalM P w K mg base 4 C "make" ["self", "kind", "tag", "slots"] (spMake K CT C step tlf)
  kind_of : CalM P w K mg base 1 C "kind_of" ["self", "value"] (spKindOf K CT C)
  tag_of : CalM P w K mg base 1 C "tag_of" ["self", "value"] (spTagOf K CT C)
  slots_of : CalM P w K mg base 1 C "slots_of" ["self", "value"] (spSlotsOf K CT C)
  slot : CalM P w K mg base 1 C "slot" ["self", "value", "index"] (spSlot K CT C)
  set_slot : CalM P w K mg base 2 C "set_slot" ["self", "value", "index", "entry"] (spSetSlot K CT C step)
  change : CalM P w K mg base 2 C "change" ["self", "value", "tag", "slots"] (spChange K CT C step)
  len : CalM P w K mg base 1 C "__len__" ["self"] (spLen K CT C)
/-- bank and nodes agree -/
structure Side (K : PySem.W.Frag) (ρ : Role) (s : Nat) (step : Int) (CT C : Addr) (tl : List (Str × V)) (H : Hp) (B D N : Addr) (ys : List Th) (xs : List Nd) : Prop where
  bk : BkA K ρ s step CT C tl H B D ys
  nd : NdA K ρ s xs.length H N xs
  len : ys.length = xs.length
  rel : ∀ (i : Nat) (y : Th) (x : Nd), ys[i]? = some y → xs[i]? = some x → y.kd = x.kd ∧ y.tg = x.tg ∧ y.us = x.ts.map (movT (gT step))
theorem Side.frM {K : PySem.W.Frag} {ρ : Role} {s : Nat} {step : Int} {CT C : Addr} {tl : List (Str × V)} {H H' : Hp} {B D N : Addr} {ys : List Th} {xs : List Nd} {M : List Addr} (h : Side K ρ s step CT C tl H B D N ys xs) (f : Fr M H H') (aw : Away ρ s M) : Side K ρ s step CT C tl H' B D N ys xs := ⟨h.bk.frM f aw, h.nd.frM f aw, h.len, h.rel⟩
theorem Side.of0 {K : PySem.W.Frag} {ρ : Role} {s : Nat} {step : Int} {CT C : Addr} {tl : List (Str × V)} {H H' : Hp} {B D N : Addr} {ys : List Th} {xs : List Nd} (f : Fr [] H H') (h : Side K ρ s step CT C tl H B D N ys xs) : Side K ρ s step CT C tl H' B D N ys xs := h.frM f .nil
theorem Side.ext {K : PySem.W.Frag} {ρ ρ' : Role} {s : Nat} {step : Int} {CT C : Addr} {tl : List (Str × V)} {H : Hp} {B D N : Addr} {ys : List Th} {xs : List Nd} (h : Side K ρ s step CT C tl H B D N ys xs) (e : Ext H ρ ρ') : Side K ρ' s step CT C tl H B D N ys xs := ⟨h.bk.ext e, h.nd.ext e, h.len, h.rel⟩
theorem tab_at {step : Int} {n : Nat} {k : Nat} (h : k < n) : (tab step n)[k]? = some (gT step k) := by
  unfold tab gT
  rw [List.getElem?_map, List.getElem?_range h]
  rfl
theorem tabix_step {K : PySem.W.Frag} {H : Hp} {p : Addr} {step z : Int} {n : Nat} {Q : VK} (hp : SqL K H p ((tab step n).map V.int)) (h0 : 0 ≤ z) (h1 : z < n) (k : Q (.int (gT step z)) H) : rxL K (.ref p) (.int z) H Q := by
  refine ixi_step hp h0 (by rw [tab_len]; exact h1) fun m _ e => ?_
  rw [tab_get h0 e]
  exact k
section
variable {P : Program} {w : World} {K : PySem.W.Frag} {mg : Str → Option Value} {base : Heap}
set_option hygiene false
local macro_rules | `(tactic| tm_at "sc") => `(tactic| (first | omega | (simp only [List.length_cons, List.length_nil, List.length_map, List.length_set, List.length_append]; omega) | (simp only [List.length_map] at h1 ⊢; omega) | (simp only [List.length_map] at c ⊢; omega) | with_reducible assumption | exact And.intro (by omega) (by omega) | exact Or.inl (And.intro (by omega) (by omega)) | exact Or.inr (And.intro (by omega) (by omega)) | decide +kernel | exact len1000 (by simp) | rfl | fail "no way"))
local macro_rules | `(tactic| tm_at "sc1") => `(tactic| (focus (simp; done)))
local macro_rules | `(tactic| tm_at "ne") => `(tactic| (first | assumption | exact Ne.symm (by assumption) | (apply Box.ne2; assumption; tm_at "hp") | (apply Ne.symm; apply Box.ne2; assumption; tm_at "hp") | (apply ne_of_none2; assumption; tm_at "hp") | (apply Ne.symm; apply ne_of_none2; assumption; tm_at "hp") | fail "no way"))
local macro_rules | `(tactic| tm_at "f0") => `(tactic| (first | assumption | (apply Fr.new; assumption) | fail "no way"))
local macro_rules | `(tactic| tm_at "hp") => `(tactic| (first | assumption | exact upd_same | (apply SqL.of; first | assumption | exact upd_same) | (apply Fr.at0; tm_at "f0"; tm_at "hp") | (apply Fr.at1n; assumption; tm_at "ne"; tm_at "hp") | (apply sqFr0; tm_at "f0"; tm_at "hp") | (apply sqFr1; assumption; tm_at "ne"; tm_at "hp") | (apply Box.fr0; tm_at "f0"; tm_at "hp") | (apply Box.fr1; assumption; tm_at "ne"; tm_at "hp") | (apply Den.fr; tm_at "f0"; tm_at "hp") | (apply Dens.fr; tm_at "f0"; tm_at "hp") | fail "no way"))
local macro_rules | `(tactic| tm_at "free0") => `(tactic| (first | assumption | (apply updFree; assumption) | (apply updFree; apply updFree; assumption) | (apply updFree; apply updFree; apply updFree; assumption) | (apply updFree; apply updFree; apply updFree; apply updFree; assumption) | fail "no way"))
local macro_rules | `(tactic| tm_at "free") => `(tactic| (first | tm_at "free0" | (apply Fr.free; assumption; tm_at "free0") | (apply Box.free; assumption; tm_at "fr"; tm_at "free0") | (apply Fr.free; assumption; apply Fr.free; assumption; tm_at "free0") | fail "no way"))
local macro_rules | `(tactic| tm_at "fr") => `(tactic| (first | assumption | exact Fr.refl0 _ | exact Fr.refl (Box.nt (by assumption)) | (refine Fr.comp0 ?_ (by tm_at "f0"); tm_at "fr") | (refine Fr.comp ?_ (by assumption); tm_at "fr") | (refine Fr.compN ?_ (by assumption) (by tm_at "free"); tm_at "fr") | fail "no way"))
local macro_rules | `(tactic| tm_at "call") => `(tactic| fail "no call")
local macro_rules | `(tactic| tm_at "call") => `(tactic| (apply take_step; tm_at "hp"; tm_at "sc"; tm_at "sc"; intro r H1 h0 h1 hB fr))
local macro_rules | `(tactic| tm_at "ty") => `(tactic| (first | assumption | exact .base .non | exact .base (.bl _) | exact .base (.int _) | exact .base (.str _) | (apply TyX.base; apply TyOf.lst; tm_at "hp") | (apply TyX.base; apply TyOf.tup; tm_at "hp") | fail "no way"))
local macro_rules | `(tactic| tm_at "pre") => `(tactic| fail "none")
local macro_rules | `(tactic| tm_at "go1") => `(tactic| (first | tm_at "pre" | refine ⟨_, rfl, ?_⟩ | refine ⟨_, _, rfl, rfl, ?_⟩ | (apply set_step; tm_at "hp"; tm_at "sc"; tm_at "sc"; intro H1 hp fr) | (with_reducible refine iteDI ?_ ?_ <;> intro c) | (with_reducible refine iteDS ?_ ?_ <;> intro c) | (with_reducible refine iteD ?_ ?_ <;> intro c) | (with_reducible refine iteEM ?_ ?_ <;> intro c) | (with_reducible refine iteE ?_ ?_ <;> intro c) | with_reducible refine iteN ?_ | with_reducible refine iteF ?_ | with_reducible refine iteT ?_ | (refine fun (p : Addr) (np : _ = (none : Option HO)) => ?_; fail_if_success (refine ⟨fun (_ _ : Nat) (_ : Hp) => True, ?_⟩)) | (apply isi_tt; tm_at "ty"; focus (decide +kernel)) | (apply isi_ff; tm_at "ty"; focus (decide +kernel)) | (apply sl_step; tm_at "hp"; intro qq H1 ms nq hq fr) | (apply sum_step; tm_at "hp"; intro i) | (apply tru_step; tm_at "hp") | (apply len_step; tm_at "hp") | (apply lenq_step; assumption) | (apply ixq_step; assumption; tm_at "sc"; tm_at "sc"; intro v hv) | (apply lst_step; tm_at "hp") | (apply tupl_step; tm_at "hp") | (apply ixr_step; tm_at "hp"; exact rfl) | (apply ix0_step; tm_at "hp") | (apply ix1_step; tm_at "hp") | (apply ix2_step; tm_at "hp") | (apply ixi_step; tm_at "hp"; tm_at "sc"; tm_at "sc"; intro n hn hn') | (apply ixl_step; tm_at "hp"; tm_at "sc"; tm_at "sc"; intro v hv) | (apply ixt_step; tm_at "hp"; tm_at "sc"; tm_at "sc"; intro v hm hv) | (apply in_step; tm_at "hp"; rfl; rfl) | (apply cat_step; tm_at "hp"; tm_at "hp"; tm_at "sc") | (apply catT_step; tm_at "hp"; tm_at "hp"; tm_at "sc1") | (apply tyL_and; tm_at "hp") | (apply app_step; tm_at "hp"; tm_at "sc"; intro H1 hp fr) | tm_at "call" | refine ⟨⟨_, rfl⟩, ?_⟩ | (apply ixs_step; tm_at "sc"; tm_at "sc"; tm_at "sc"; intro ch) | refine .inl ⟨_, rfl, ?_⟩ | refine .inr ⟨_, rfl, ?_⟩ | (apply And.intro; tm_at "sc") | (with_reducible refine wayB ?_ ?_ <;> intro c) | fail "no way"))
local macro_rules | `(tactic| tm_at "go") => `(tactic| (repeat tm_at "go1"))
local macro_rules | `(tactic| tm_at "goo") => `(tactic| (repeat' tm_at "go1"))
local macro_rules | `(tactic| tm_at "den") => `(tactic| (first | assumption | exact Den.str _ | exact Den.int _ | exact Den.bl _ | exact Den.non | (apply Den.tups; tm_at "hp"; tm_at "dens") | (apply Den.fr; tm_at "f0"; tm_at "den") | fail "no way"))
local macro_rules | `(tactic| tm_at "dens") => `(tactic| (first | assumption | exact Dens.nil | (apply Dens.cons; tm_at "den"; tm_at "dens") | (apply Dens.fr; tm_at "f0"; tm_at "dens") | fail "no way"))
local macro_rules | `(tactic| tm_at "ix") => `(tactic| (apply Ix.mk; tm_at "hp"; tm_at "ne"; assumption; assumption))
local macro_rules | `(tactic| tm_at "dep") => `(tactic| (first | assumption | exact Dep.int | exact Dep.str | exact Dep.bl | exact Dep.non | (apply Dep.tup; tm_at "dlen"; tm_at "deps") | (apply Dep.mono; assumption; decide) | fail "no way"))
local macro_rules | `(tactic| tm_at "deps") => `(tactic| (first | assumption | exact memN | (apply memC; tm_at "dep"; tm_at "deps") | fail "no way"))
local macro_rules | `(tactic| tm_at "dlen") => `(tactic| (first | assumption | (focus (simp; done)) | omega | fail "no way"))

local macro_rules | `(tactic| tm_at "lk") => `(tactic| (first | with_reducible exact lookup_eq | ((with_reducible apply lookup_ne); (focus (decide +kernel)); tm_at "lk") | assumption | rfl | fail "no way"))
local macro_rules | `(tactic| tm_at "pf") => `(tactic| (first | with_reducible exact putF_nil | with_reducible exact putF_eq | ((with_reducible apply putF_ne); (focus (decide +kernel)); tm_at "pf") | fail "no way"))
local macro_rules | `(tactic| tm_at "fl") => `(tactic| (first | assumption | focus (simp only [List.length_cons, List.length_nil]; omega) | focus (simp only [List.length_cons, List.length_nil]; done) | focus (decide) | focus (simp; done) | focus (simp; omega) | fail "no way"))
local macro_rules | `(tactic| tm_at "pre") => `(tactic| (apply fld_step; tm_at "hp"; assumption; assumption; tm_at "lk"))
local macro_rules | `(tactic| tm_at "pre") => `(tactic| (apply putf_step; tm_at "hp"; assumption; assumption; tm_at "fl"; tm_at "pf"; intro H1 hp fr))
local macro_rules | `(tactic| tm_at "pre") => `(tactic| (apply aug_step; tm_at "hp"; assumption; assumption; tm_at "lk"))
local macro_rules | `(tactic| tm_at "pre") => `(tactic| (apply put2_step; tm_at "hp"; tm_at "fl"; tm_at "pf"; intro H1 hp fr))
local macro_rules | `(tactic| tm_at "pre") => `(tactic| (apply dget_step; tm_at "hp"; tm_at "lk"))
local macro_rules | `(tactic| tm_at "pre") => `(tactic| (apply dput_step; tm_at "hp"; (focus (omega)); intro H1 hp fr))
local macro_rules | `(tactic| tm_at "pre") => `(tactic| (apply mth_step; tm_at "hp"; tm_at "lk"))
local macro_rules | `(tactic| tm_at "pre") => `(tactic| (apply lenD_step; tm_at "hp"))
local macro_rules | `(tactic| tm_at "pre") => `(tactic| (apply addI_step))
local macro_rules | `(tactic| tm_at "pre") => `(tactic| (apply newD_step; intro dn H1 nd hp fr))
local macro_rules | `(tactic| tm_at "fr2") => `(tactic| (first | assumption | (apply Fr.appMb; assumption; (focus (simp; done)); tm_at "fr2") | (apply Fr.app0b; tm_at "f0"; tm_at "fr2") | (apply Fr.appNb; assumption; tm_at "free"; tm_at "fr2") | fail "no way"))
local macro_rules | `(tactic| tm_at "ne") => `(tactic| (apply ne_role; assumption; assumption; (focus (decide))))

local macro_rules | `(tactic| tm_at "nda") => `(tactic| (first | assumption | (apply NdA.of0; tm_at "f0"; tm_at "nda") | (apply NdA.of1; assumption; assumption; tm_at "nda") | fail "no way"))
local macro_rules | `(tactic| tm_at "bka") => `(tactic| (first | assumption | (apply BkA.of0; tm_at "f0"; tm_at "bka") | (apply BkA.of1; assumption; assumption; tm_at "bka") | fail "no way"))
local macro_rules | `(tactic| tm_at "pre") => `(tactic| (apply nd_step; tm_at "nda"; tm_at "sc"; tm_at "sc"; intro xn hxn hnd hrow))
local macro_rules | `(tactic| tm_at "pre") => `(tactic| (apply len_own_step; tm_at "bka"))
local macro_rules | `(tactic| tm_at "call") => `(tactic| (apply table_step; (focus (omega)); intro tb H1 ntb htb fr))
local macro_rules | `(tactic| tm_at "call") => `(tactic| (apply kindof_step; tm_at "bka"; tm_at "hp"; assumption))
local macro_rules | `(tactic| tm_at "call") => `(tactic| (apply tagof_step; tm_at "bka"; tm_at "hp"; assumption))
local macro_rules | `(tactic| tm_at "call") => `(tactic| (apply slotsof_step; tm_at "bka"; tm_at "hp"; assumption; intro sl H1 nsl hsl fr))
local macro_rules | `(tactic| tm_at "pre") => `(tactic| (apply tabix_step; tm_at "hp"; tm_at "sc"; tm_at "sc"))
/-! ### told -/
/-- what a def's body owes -/
def BodyOk (P : Program) (w : World) (K : PySem.W.Frag) (mg : Str → Option Value) (base : Heap) (x : Str) (st : Stmt) (N : List Str) (k : Nat) (sp : Sp) : Prop :=
  ∀ (f : Addr) (cdv : Value) (A : Around) (outer : List Env) (s : Shared) (H : Hp) (vs : List V) (Q : VK) (E : XK), Room k (A.deeper (envOfC x (defScope st) s.heap.objs.size f cdv)) → sp vs H Q E →
      ∃ t, PSs (cxOf CX0 P w K mg base N x (defScope st) f cdv A outer s H E).nox (defBody st) t ∧ t { nx := fun _ H' => Q .non H', rt := Q } (start N vs) H
@[irreducible] def spTold (K : PySem.W.Frag) (CT C : Addr) (step : Int) : Sp := fun vs H Q _ => ∃ (ρ : Role) (s : Nat) (tl : List (Str × V)) (B D N : Addr) (ys : List Th) (xs : List Nd), vs = [.ref B, .ref N, .int step] ∧ Side K ρ s step CT C tl H B D N ys xs ∧ ∀ H', Fr [] H H' → Q (.bl true) H'
@[irreducible] def TMid (H : Hp) (σ : L2.St) (_ : Nat) (σ' : L2.St) (H' : Hp) : Prop := (∃ a b c d e f g, σ' = σ ++ [a, b, c, d, e, f, g]) ∧ Fr [] H H'
theorem TMid.of {H : Hp} {σ : L2.St} {i : Nat} {σ' : L2.St} {H' : Hp} {a b c d e f g : Option V} (h : σ' = σ ++ [a, b, c, d, e, f, g]) (fr : Fr [] H H') : TMid H σ i σ' H' := by unfold TMid; exact ⟨⟨a, b, c, d, e, f, g, h⟩, fr⟩
abbrev s_told : Stmt := top 37
theorem sc_told : FnScope ["_law_bank", "_law_nodes", "_law_step", "_law_table_here", "_law_k", "_law_node", "_law_value", "_law_due", "_law_row", "_law_second", "_law_at"] ["_law_bank", "_law_nodes", "_law_step"] (defScope s_told) := ⟨rfl, rfl, rfl, by decide +kernel, rfl, by decide +kernel, by decide +kernel⟩

theorem len_told {CT C : Addr} {step : Int} : ∀ vs H Q E, spTold K CT C step vs H Q E → vs.length = 3 := fun vs H Q E h => by
  unfold spTold at h
  obtain ⟨ρ, sd, tl, B, dD, N, ys, xs, rfl, _⟩ := h
  rfl
theorem body_told {C CT : Addr} {step : Int} {tlf : Addr → Nat → List (Str × V)} (T : Bl mg) (BC : BankC P w K mg base C CT step tlf) (G_same : Cal P w K mg base 4 "_law_same" ["_law_told_here", "_law_due"] (spSm K 4)) (G_spoil : Cal P w K mg base 5 "_law_spoil" ["_law_row", "_law_due"] (spSpoil K))
    (G_table : Cal P w K mg base 1 "_law_table" ["_law_many", "_law_step"] spTable) (G_sent : Cal P w K mg base 3 "_law_sent" ["_law_entries", "_law_table_here"] (spSent K)) : BodyOk P w K mg base "_law_told" s_told ["_law_bank", "_law_nodes", "_law_step", "_law_table_here", "_law_k", "_law_node", "_law_value", "_law_due", "_law_row", "_law_second", "_law_at"] 5 (spTold K CT C step) := by
  intro f cdv A outer s H vs Q E hr h
  unfold spTold at h
  · obtain ⟨ρ, sd, tl, B, dD, N, ys, xs, rfl, hS, q⟩ := h
    have M_kind_of := BC.kind_of
    have M_tag_of := BC.tag_of
    have M_slots_of := BC.slots_of
    have M_slot := BC.slot
    have M_len := BC.len
    have hb := hS.bk
    have hN := hS.nd
    have hN0 := hN.at_
    have hl := hS.len
    have hx := hN.len
    obtain ⟨dx, gr, hB⟩ := hb.at_
    have k1 : tl.lookup ("kind_of" : Str) = none := hb.tll.nom _ (by decide +kernel)
    have k2 : tl.lookup ("tag_of" : Str) = none := hb.tll.nom _ (by decide +kernel)
    have k3 : tl.lookup ("slots_of" : Str) = none := hb.tll.nom _ (by decide +kernel)
    have k4 : tl.lookup ("slot" : Str) = none := hb.tll.nom _ (by decide +kernel)
    refine ⟨_, (pss_cons (ps_if (pt_cmpR op_ne (pe_callB (call_lenOwn M_len (hr.mono (by omega))) (by rfl) T.z_len (by decide +kernel) (pa_cons (pv 0) pa_nil)) (pe_callB (cLen K) (by rfl) T.z_len (by decide +kernel) (pa_cons (pv 1) pa_nil)) (nomark _))
      (pss_one (ps_ret pe_bl))
      pss_nil)
    (pss_cons (ps_set (i := 3) sc_told.nd rfl (Or.inl rfl) (pe_cal G_table (hr.mono (by omega)) (by rfl) (pa_cons (pe_callB (cLen K) (by rfl) T.z_len (by decide +kernel) (pa_cons (pv 1) pa_nil)) (pa_cons (pv 2) pa_nil))))
    (pss_cons (ps_for PassesOwn.never rfl (pi_range1 (by rfl) T.z_range (pa_cons (pe_callB (cLen K) (by rfl) T.z_len (by decide +kernel) (pa_cons (pv 1) pa_nil)) pa_nil)) (pg_name (i := 4) sc_told.nd rfl (Or.inl rfl))
      (pss_cons (ps_set (i := 5) sc_told.nd rfl (Or.inl rfl) (pe_ix (ixL K) (pv 1) (pv 4) (fun _ _ => rfl)))
      (pss_cons (ps_set (i := 6) sc_told.nd rfl (Or.inl rfl) (pe_tup (pa_cons pe_str (pa_cons (pe_ix (ixL K) (pv 3) (pv 4) (fun _ _ => rfl)) pa_nil))))
      (pss_cons (ps_set (i := 7) sc_told.nd rfl (Or.inl rfl) (pe_cal G_sent (hr.mono (by omega)) (by rfl) (pa_cons (pe_ix (ixL K) (pv 5) pe_int (fun _ _ => rfl)) (pa_cons (pv 3) pa_nil))))
      (pss_cons (ps_if (PW.pt (pw_or (pt_not (pt_val (pe_cal G_same (hr.mono (by omega)) (by rfl) (pa_cons (pe_mcalx (pv 0) M_kind_of (hr.mono (by omega)) (pa_cons (pv 6) pa_nil)) (pa_cons (pe_ix (ixL K) (pv 5) pe_int (fun _ _ => rfl)) pa_nil))))) (pw_or1 (pt_not (pt_val (pe_cal G_same (hr.mono (by omega)) (by rfl) (pa_cons (pe_mcalx (pv 0) M_tag_of (hr.mono (by omega)) (pa_cons (pv 6) pa_nil)) (pa_cons (pe_ix (ixL K) (pv 5) pe_int (fun _ _ => rfl)) pa_nil))))))))
        (pss_one (ps_ret pe_bl))
        pss_nil)
      (pss_cons (ps_set (i := 8) sc_told.nd rfl (Or.inl rfl) (pe_mcalx (pv 0) M_slots_of (hr.mono (by omega)) (pa_cons (pv 6) pa_nil)))
      (pss_cons (ps_set (i := 9) sc_told.nd rfl (Or.inl rfl) (pe_mcalx (pv 0) M_slots_of (hr.mono (by omega)) (pa_cons (pv 6) pa_nil)))
      (pss_cons (ps_if (PW.pt (pw_or (pt_not (pt_val (pe_cal G_spoil (hr.mono (by omega)) (by rfl) (pa_cons (pv 8) (pa_cons (pv 7) pa_nil))))) (pw_or1 (pt_not (pt_val (pe_cal G_same (hr.mono (by omega)) (by rfl) (pa_cons (pv 9) (pa_cons (pv 7) pa_nil))))))))
        (pss_one (ps_ret pe_bl))
        pss_nil)
      (pss_cons (ps_if (pt_not (pt_val (pe_cal G_same (hr.mono (by omega)) (by rfl) (pa_cons (pe_mcalx (pv 0) M_slots_of (hr.mono (by omega)) (pa_cons (pv 6) pa_nil)) (pa_cons (pv 7) pa_nil)))))
        (pss_one (ps_ret pe_bl))
        pss_nil)
      (pss_one (ps_for PassesOwn.never rfl (pi_range1 (by rfl) T.z_range (pa_cons (pe_callB (cLen K) (by rfl) T.z_len (by decide +kernel) (pa_cons (pv 7) pa_nil)) pa_nil)) (pg_name (i := 10) sc_told.nd rfl (Or.inl rfl))
        (pss_one (ps_if (pt_not (pt_val (pe_cal G_same (hr.mono (by omega)) (by rfl) (pa_cons (pe_mcalx (pv 0) M_slot (hr.mono (by omega)) (pa_cons (pv 6) (pa_cons (pv 10) pa_nil))) (pa_cons (pe_ix (ixL K) (pv 7) (pv 10) (fun _ _ => rfl)) pa_nil)))))
          (pss_one (ps_ret pe_bl))
          pss_nil)))))))))))))
    (pss_one (ps_ret pe_bl))))), ?_⟩
    tm_at "goo"
    · simp only [List.length_map] at htb
      refine forR (TMid H1 [some (.ref B), some (.ref N), some (.int step), some (.ref tb)]) (TMid.of (a := none) (b := none) (c := none) (d := none) (e := none) (f := none) (g := none) rfl (Fr.refl0 _)) (fun i σ' H2 hi hP => ?_) (fun σ' H2 hP => ?_)
      · unfold TMid at hP
        obtain ⟨⟨a, b, c', d, e, f', g, rfl⟩, f2⟩ := hP
        have f02 : Fr [] H H2 := fr.tr f2
        have hb2 := hb.of0 f02
        have hN2 := hN.fr0 f02
        have htb2 := f2.at0 htb
        have hi' : i < xs.length := by simpa using hi
        have hB2 := f02.at0 hB
        rw [show (0 : Int) + (i : Int) = i from Int.zero_add _]
        have F02 := f02
        have f2' := f2
        clear f2 f02 fr
        tm_at "goo"
        have exn : xs[i]? = some xn := by simpa using hxn
        obtain ⟨dxs, eok, dtv, dtp, lrow⟩ := hN2.ok i xn exn
        have hy0 : i < ys.length := by omega
        have ey : ys[i]? = some ys[i] := List.getElem?_eq_getElem hy0
        generalize ys[i] = y at ey
        obtain ⟨r1, r2, r3⟩ := hS.rel i y xn ey exn
        obtain ⟨oy1, oy2, oy3, oy4, oy5⟩ := hb2.ok i y ey
        rw [r3] at oy1 oy2
        rw [r2] at oy3
        refine sent_step (xs := xn.rs) (ts := xn.ts) (step := step) (n := xs.length) (by tm_at "hp") (by tm_at "hp") (by tm_at "hp") (by exact_mod_cast eok) (by omega) fun du H3 ds ndu hdu ddu fr => ?_
        tm_at "goo"
        have oyd : ∀ t ∈ xn.ts.map (movT (gT step)), Dep 2 t := oy2
        refine sm_step (by rw [r1]; exact Sm.leaf rfl) ?_
        tm_at "goo"
        refine sm_step (Sm.of_den (t := xn.tg) (by tm_at "hp") (by tm_at "hp") dtp) ?_
        tm_at "goo"
        rename_i s1 H4 ns1 hs1 fr4
        have oy1' : Dens K H1 y.ss (xn.ts.map (movT (gT step))) := by tm_at "hp"
        have ddu' : Dens K H1 ds (xn.ts.map (movT (gT step))) := by tm_at "hp"
        refine spoil_step (xs := y.ss) (ys := ds) (by tm_at "hp") (by tm_at "hp") oy1' ddu' (by omega) oyd fun H5 fr5 => ?_
        tm_at "goo"
        obtain ⟨s3, hs3⟩ : ∃ z, z = sl := ⟨sl, rfl⟩
        subst hs3
        have e1 : H5 s3 = some (.lst y.ss) := by tm_at "hp"
        have e2 : H5 du = some (.lst ds) := by tm_at "hp"
        have d1 := oy1'.fr fr5
        have d2 := ddu'.fr fr5
        have ln : y.ss.length = ds.length := by rw [d1.1, d2.1]
        refine sm_step (.of_dens e1 e2 d1 d2 (by omega) oyd) ?_
        have hp5 : H5 p = some (.tup [refS, .int (gT step i)]) := by tm_at "hp"
        have n1 : H2 s1 = none := updFree ((by assumption : Fr [] (upd H2 p (.tup [refS, .int (gT step i)])) H3).free ns1)
        have F25 : Fr [] H2 H5 := by
          refine Fr.compN ?_ fr5 n1
          tm_at "fr"
        have hb5 := hb2.of0 F25
        have hB5 := F25.at0 hB2
        tm_at "goo"
        have e3 : H1 du = some (.lst ds) := by tm_at "hp"
        have d3 : Dens K H1 y.ss (xn.ts.map (movT (gT step))) := d1.fr fr
        have d4 : Dens K H1 ds (xn.ts.map (movT (gT step))) := d2.fr fr
        refine sm_step (.of_dens hsl e3 d3 d4 (by omega) oyd) ?_
        have F26 : Fr [] H2 H1 := F25.tr fr
        have hb6 := hb2.of0 F26
        have hp6 := Fr.at0 fr hp5
        have hB6 := F26.at0 hB2
        tm_at "goo"
        have lds : ds.length ≤ 200 := by omega
        refine forR (SMid H1 [some (.ref B), some (.ref N), some (.int step), some (.ref tb), some (.int i), some (.ref xn.nd), some (.ref p), some (.ref du), some (.ref s1), some (.ref s3)]) (SMid.of (x := g) rfl) (fun j σ' H' hj hP => ?_) (fun σ' H' hP => ?_)
        · unfold SMid at hP
          obtain ⟨x, rfl, rfl⟩ := hP
          have hj' : j < ds.length := by simpa using hj
          rw [show (0 : Int) + (j : Int) = j from Int.zero_add _]
          tm_at "goo"
          refine slot_step hb6 hp6 ey (by omega) (by omega) fun v1 hv1 => ?_
          tm_at "goo"
          obtain ⟨t1, et1, dt1⟩ := d3.get hv1
          refine sm_step (Sm.of_den dt1 (d4.2 _ _ _ hv et1) ((oyd _ (List.mem_of_getElem? et1)).mono (by omega))) ?_
          tm_at "goo"
          exact SMid.of rfl
        · unfold SMid at hP
          obtain ⟨x, rfl, rfl⟩ := hP
          exact TMid.of rfl (f2'.tr F26)
      · unfold TMid at hP
        obtain ⟨_, f2⟩ := hP
        exact q _ (fr.tr f2)
    · exact absurd (by simp [hl]) c
end
end M14
set_option Elab.async false
set_option linter.all false
set_option maxRecDepth 100000
set_option maxHeartbeats 4000000
namespace M14
open PySem PySem.Spec PyProof.Rows L2

/-- what a deed leaves -/
def After (K : PySem.W.Frag) (ρ : Role) (s : Nat) (step : Int) (CT C : Addr) (tlf : Addr → Nat → List (Str × V)) (R b B D N : Addr) (m : Nat) (H H' : Hp) : Prop :=
  ∃ (ρ' : Role) (ys' : List Th) (xs' : List Nd) (M : List Addr), Side K ρ' s step CT C (tlf R ys'.length) H' B D N ys' xs' ∧ xs'.length ≤ m ∧ Box H' b ∧ Ext H ρ ρ' ∧ Fr M H H' ∧ ∀ a ∈ M, a = b ∨ ∃ i j, ρ a = some (s, i, j)
section
variable {K : PySem.W.Frag} {ρ : Role} {s : Nat} {step : Int} {CT C : Addr} {tl : List (Str × V)} {H H' : Hp} {B D N : Addr} {ys : List Th} {xs : List Nd}
/-- the nodes with one more -/
theorem NdA.add {n n' : Int} {a l : Addr} {kd : Str} {tv : V} {tg : T} {rs : List V} {ts : List T} (h : NdA K ρ s n H N xs) (le : n ≤ n') (ha : H a = none) (hl : H l = none) (nal : a ≠ l) (hN : H' N = some (.lst ((xs.map fun x => V.ref x.nd) ++ [.ref a]))) (ha' : H' a = some (.lst [.str kd, tv, .ref l])) (hl' : H' l = some (.lst rs))
    (f : Fr [N] H H') (d : Dens K H' rs ts) (ok : ∀ t ∈ ts, EntOk n' t) (dv : Den K H' tv tg) (dp : Dep 3 tg) (lr : rs.length ≤ 200) (lx : xs.length < 1000) :
    NdA K (fun x => if x = a then some (s, 3, xs.length) else if x = l then some (s, 4, xs.length) else ρ x) s n' H' N (xs ++ [⟨a, l, kd, tv, tg, rs, ts⟩]) := by
  have up : ∀ {x o} {r : Nat × Nat × Nat}, H x = some o → ρ x = some r → (if x = a then some (s, 3, xs.length) else if x = l then some (s, 4, xs.length) else ρ x) = some r := fun e r => by
    rw [if_neg (fun z => (by rw [z, ha] at e; cases e)), if_neg (fun z => (by rw [z, hl] at e; cases e))]; exact r
  have get : ∀ (i : Nat) (z : Nd), (xs ++ [(⟨a, l, kd, tv, tg, rs, ts⟩ : Nd)])[i]? = some z → (i = xs.length ∧ z = ⟨a, l, kd, tv, tg, rs, ts⟩) ∨ (i < xs.length ∧ xs[i]? = some z) := fun i z e => by
    by_cases q : i < xs.length
    · rw [List.getElem?_append_left q] at e
      exact .inr ⟨q, e⟩
    · rw [List.getElem?_append_right (by omega)] at e
      have := (List.getElem?_eq_some_iff.mp e).1
      have q2 : i = xs.length := by simp at this; omega
      subst q2
      simp at e
      exact .inl ⟨rfl, e.symm⟩
  have nN : ∀ {x : Addr} {i j : Nat}, ρ x = some (s, i, j) → i ≠ 2 → x ∉ [N] := fun e n m => by
    have z := List.mem_singleton.mp m
    rw [z, h.rN] at e
    injection e with e
    injection e with _ e
    injection e with e _
    exact n e.symm
  refine ⟨by rw [hN]; simp, up h.at_ h.rN, fun i z e => ?_, fun i z e => ?_, fun i z e => ?_, by simp; omega⟩
  · rcases get i z e with ⟨rfl, rfl⟩ | ⟨_, e⟩
    · exact ⟨ha', if_pos rfl⟩
    · obtain ⟨q, r⟩ := h.nd i z e
      exact ⟨f.kp _ _ q (nN r (by decide)), up q r⟩
  · rcases get i z e with ⟨rfl, rfl⟩ | ⟨_, e⟩
    · exact ⟨hl', by rw [if_neg (Ne.symm nal)]; exact if_pos rfl⟩
    · obtain ⟨q, r⟩ := h.row i z e
      exact ⟨f.kp _ _ q (nN r (by decide)), up q r⟩
  · rcases get i z e with ⟨rfl, rfl⟩ | ⟨_, e⟩
    · exact ⟨d, ok, dv, dp, lr⟩
    · obtain ⟨q1, q2, q3, q4⟩ := h.ok i z e
      exact ⟨q1.fr f, fun t m => (q2 t m).mono le, q3.fr f, q4⟩
theorem NdA.frN {n : Int} {M : List Addr} (h : NdA K ρ s n H N xs) (f : Fr M H H') (aw : ∀ a ∈ M, ∀ i j, ρ a = some (s, i, j) → i ≠ 2 ∧ i ≠ 3 ∧ i ≠ 4) : NdA K ρ s n H' N xs :=
  ⟨f.kp _ _ h.at_ fun m => (aw _ m _ _ h.rN).1 rfl, h.rN, fun i x e => ⟨f.kp _ _ (h.nd i x e).1 fun m => (aw _ m _ _ (h.nd i x e).2).2.1 rfl, (h.nd i x e).2⟩,
    fun i x e => ⟨f.kp _ _ (h.row i x e).1 fun m => (aw _ m _ _ (h.row i x e).2).2.2 rfl, (h.row i x e).2⟩,
    fun i x e => let ⟨a, b, c, d⟩ := h.ok i x e; ⟨a.fr f, b, c.fr f, d⟩, h.len⟩
theorem BkA.frN {tl : List (Str × V)} {M : List Addr} (h : BkA K ρ s step CT C tl H B D ys) (f : Fr M H H') (aw : ∀ a ∈ M, ∀ i j, ρ a = some (s, i, j) → i ≠ 0 ∧ i ≠ 1 ∧ i ≠ 5 ∧ i ≠ 6) : BkA K ρ s step CT C tl H' B D ys :=
  ⟨let ⟨dx, gr, z⟩ := h.at_; ⟨dx, gr, f.kp _ _ z fun m => (aw _ m _ _ h.rB).1 rfl⟩, h.rB, let ⟨kvs, z, r⟩ := h.dk; ⟨kvs, f.kp _ _ z fun m => (aw _ m _ _ h.rD).2.1 rfl, r⟩, h.rD,
    fun i y q => let ⟨⟨dx, z⟩, r⟩ := h.th i y q; ⟨⟨dx, f.kp _ _ z fun m => (aw _ m _ _ r).2.2.1 rfl⟩, r⟩, fun i y q => let ⟨z, r⟩ := h.sl i y q; ⟨f.kp _ _ z fun m => (aw _ m _ _ r).2.2.2 rfl, r⟩,
    fun i y q => let ⟨a, b, c, d⟩ := h.ok i y q; ⟨a.fr f, b, c.fr f, d⟩, h.len, h.tll, h.st⟩
/-- one role each -/
theorem awOne {a : Addr} {r j : Nat} {p : Nat → Prop} (h : ρ a = some (s, r, j)) (n : p r) : ∀ x ∈ [a], ∀ i j, ρ x = some (s, i, j) → p i := fun x m i j' e => by
  have z : x = a := by simpa using m
  rw [z, h] at e
  injection e with e
  injection e with _ e
  injection e with e _
  rw [← e]; exact n
theorem awTwo {a b : Addr} {r r' j j' : Nat} {p : Nat → Prop} (h : ρ a = some (s, r, j)) (h' : ρ b = some (s, r', j')) (n : p r) (n' : p r') : ∀ x ∈ [a, b], ∀ i j, ρ x = some (s, i, j) → p i := fun x m i k e => by
  simp only [List.mem_cons, List.not_mem_nil, or_false] at m
  rcases m with rfl | rfl
  · exact awOne h n _ (by simp) i k e
  · exact awOne h' n' _ (by simp) i k e
theorem alive {M : List Addr} (f : Fr M H H') (m : ∀ a ∈ M, H' a ≠ none) : ∀ a, H a ≠ none → H' a ≠ none := fun a n => by
  by_cases q : a ∈ M
  · exact m a q
  · cases e : H a with
    | none => exact absurd e n
    | some o => rw [f.kp a o e q]; exact fun z => nomatch z
theorem extT {r1 r2 r3 : Role} (a : Ext H r1 r2) (b : Ext H' r2 r3) (al : ∀ a, H a ≠ none → H' a ≠ none) : Ext H r1 r3 := fun x n => (b x (al x n)).trans (a x n)
theorem Side.live {tl : List (Str × V)} (h : Side K ρ s step CT C tl H B D N ys xs) : ∀ a ∈ [B, D, N], H a ≠ none := fun a m => by
  obtain ⟨_, _, hB⟩ := h.bk.at_
  obtain ⟨_, hD, _⟩ := h.bk.dk
  simp only [List.mem_cons, List.not_mem_nil, or_false] at m
  rcases m with rfl | rfl | rfl
  · exact some_ne hB
  · exact some_ne hD
  · exact some_ne h.nd.at_
@[irreducible] def MMid (K : PySem.W.Frag) (ρ : Role) (s : Nat) (step : Int) (CT C : Addr) (tlf : Addr → Nat → List (Str × V)) (R B D N : Addr) (n0 : Nat) (Hs : Hp) (σ : L2.St) (i : Nat) (σ' : L2.St) (H' : Hp) : Prop :=
  ∃ (u v : Option V) (ρ' : Role) (ys' : List Th) (xs' : List Nd), σ' = σ ++ [u, v] ∧ Side K ρ' s step CT C (tlf R ys'.length) H' B D N ys' xs' ∧ xs'.length = n0 + i ∧ Ext Hs ρ ρ' ∧ Fr [B, D, N] Hs H'
theorem MMid.of {tlf : Addr → Nat → List (Str × V)} {R : Addr} {n0 : Nat} {Hs : Hp} {σ σ' : L2.St} {i : Nat} {u v : Option V} {ρ' : Role} (e : σ' = σ ++ [u, v]) (h : Side K ρ' s step CT C (tlf R ys.length) H' B D N ys xs) (l : xs.length = n0 + i) (x : Ext Hs ρ ρ') (f : Fr [B, D, N] Hs H') : MMid K ρ s step CT C tlf R B D N n0 Hs σ i σ' H' := by
  unfold MMid; exact ⟨u, v, ρ', ys, xs, e, h, l, x, f⟩
theorem Side.refl3 {tl : List (Str × V)} (h : Side K ρ s step CT C tl H B D N ys xs) : Fr [B, D, N] H H := .refl fun a m zs e => by
  obtain ⟨_, _, hB⟩ := h.bk.at_
  obtain ⟨_, hD, _⟩ := h.bk.dk
  simp only [List.mem_cons, List.not_mem_nil, or_false] at m
  rcases m with rfl | rfl | rfl
  · rw [hB] at e; cases e
  · rw [hD] at e; cases e
  · rw [h.nd.at_] at e; cases e
/-- forget the roles of what stood nowhere -/
def hide (ρ : Role) (M : List Addr) : Role := fun a => if a ∈ M then none else ρ a
theorem hide_ext {M : List Addr} (h : ∀ a ∈ M, H a = none) : Ext H ρ (hide ρ M) := fun a n => if_neg fun m => n (h a m)
theorem hide_at {M : List Addr} {a : Addr} (h : a ∈ M) : hide ρ M a = none := if_pos h
end
section
variable {K : PySem.W.Frag} {ρ : Role} {s : Nat} {step : Int} {CT C : Addr} {tl : List (Str × V)} {H H' : Hp} {B D N : Addr} {ys : List Th} {xs : List Nd}
/-- the roles with two more -/
def role2 (ρ : Role) (s k : Nat) (a l : Addr) : Role := fun x => if x = a then some (s, 3, k) else if x = l then some (s, 4, k) else ρ x
theorem role2_ext {k : Nat} {a l : Addr} (ha : H a = none) (hl : H l = none) : Ext H ρ (role2 ρ s k a l) := fun x n => by
  unfold role2
  rw [if_neg fun e => n (by rw [e]; exact ha), if_neg fun e => n (by rw [e]; exact hl)]
/-- both with one more -/
theorem Side.add {y : Th} {a l : Addr} {kd : Str} {tv : V} {tg : T} {rs : List V} {ts : List T} {n' : Nat} (hb : BkA K ρ s step CT C tl H B D (ys ++ [y])) (hn : NdA K ρ s xs.length H N xs) (ln : ys.length = xs.length)
    (rel : ∀ (i : Nat) (y : Th) (x : Nd), ys[i]? = some y → xs[i]? = some x → y.kd = x.kd ∧ y.tg = x.tg ∧ y.us = x.ts.map (movT (gT step)))
    (ha : H a = none) (hl : H l = none) (nal : a ≠ l) (hN : H' N = some (.lst ((xs.map fun x => V.ref x.nd) ++ [.ref a]))) (ha' : H' a = some (.lst [.str kd, tv, .ref l])) (hl' : H' l = some (.lst rs))
    (f : Fr [N] H H') (d : Dens K H' rs ts) (le : n' ≤ xs.length) (ok : ∀ t ∈ ts, EntOk n' t) (dv : Den K H' tv tg) (dp : Dep 3 tg) (lr : rs.length ≤ 200) (lx : xs.length < 1000) (e1 : y.kd = kd) (e2 : y.tg = tg) (e3 : y.us = ts.map (movT (gT step))) :
    Side K (role2 ρ s xs.length a l) s step CT C tl H' B D N (ys ++ [y]) (xs ++ [⟨a, l, kd, tv, tg, rs, ts⟩]) := by
  have rx := role2_ext (ρ := ρ) (s := s) (k := xs.length) ha hl
  refine ⟨(hb.ext rx).frN f (awOne (hn.ext rx).rN (p := fun i => i ≠ 0 ∧ i ≠ 1 ∧ i ≠ 5 ∧ i ≠ 6) (by decide)), ?_, by simp [ln], fun i y' x' h1 h2 => ?_⟩
  · exact hn.add (n' := ((xs ++ [(⟨a, l, kd, tv, tg, rs, ts⟩ : Nd)]).length : Int)) (by simp; omega) ha hl nal hN ha' hl' f d (fun t m => (ok t m).mono (by simp; omega)) dv dp lr lx
  · by_cases q : i < xs.length
    · rw [List.getElem?_append_left (by omega)] at h1 h2
      exact rel i y' x' h1 h2
    · rw [List.getElem?_append_right (by omega)] at h1 h2
      have z := (List.getElem?_eq_some_iff.mp h2).1
      have z2 : i = xs.length := by simp at z; omega
      subst z2
      rw [ln] at h1
      simp at h1 h2
      rw [← h1, ← h2]
      exact ⟨e1, e2, e3⟩
/-- a row's item replaced -/
theorem NdA.set {n : Int} {k : Nat} {x : Nd} {i : Nat} {v : V} {t : T} (h : NdA K ρ s n H N xs) (hx : xs[k]? = some x) (f : Fr [x.row] H H') (hr : H' x.row = some (.lst (x.rs.set i v))) (d : Den K H' v t) (e : EntOk n t) :
    NdA K ρ s n H' N (xs.set k { x with rs := x.rs.set i v, ts := x.ts.set i t }) := by
  have hk := (List.getElem?_eq_some_iff.mp hx).1
  have rr := (h.row k x hx).2
  have get : ∀ (j : Nat) (z : Nd), (xs.set k { x with rs := x.rs.set i v, ts := x.ts.set i t })[j]? = some z → (j = k ∧ z = { x with rs := x.rs.set i v, ts := x.ts.set i t }) ∨ (j ≠ k ∧ xs[j]? = some z) := fun j z e => by
    by_cases q : j = k
    · subst q
      rw [List.getElem?_set_self hk] at e
      exact .inl ⟨rfl, (Option.some.inj e).symm⟩
    · rw [List.getElem?_set_ne (Ne.symm q)] at e
      exact .inr ⟨q, e⟩
  have nn : ∀ {a : Addr} {r j : Nat}, ρ a = some (s, r, j) → (r ≠ 4 ∨ j ≠ k) → a ∉ [x.row] := fun e n m => by
    have z := List.mem_singleton.mp m
    rw [z, rr] at e
    injection e with e
    injection e with _ e
    injection e with e1 e2
    rcases n with n | n
    · exact n e1.symm
    · exact n e2.symm
  refine ⟨?_, h.rN, fun j z e' => ?_, fun j z e' => ?_, fun j z e' => ?_, by rw [List.length_set]; exact h.len⟩
  · rw [f.kp _ _ h.at_ (nn h.rN (.inl (by decide)))]
    congr 2
    refine List.ext_getElem? fun j => ?_
    rw [List.getElem?_map, List.getElem?_map]
    by_cases q : k = j
    · subst q
      rw [List.getElem?_set_self hk, hx]; rfl
    · rw [List.getElem?_set_ne q]
  · rcases get j z e' with ⟨rfl, rfl⟩ | ⟨_, e'⟩
    · exact ⟨f.kp _ _ (h.nd _ x hx).1 (nn (h.nd _ x hx).2 (.inl (by decide))), (h.nd _ x hx).2⟩
    · exact ⟨f.kp _ _ (h.nd _ z e').1 (nn (h.nd _ z e').2 (.inl (by decide))), (h.nd _ z e').2⟩
  · rcases get j z e' with ⟨rfl, rfl⟩ | ⟨q, e'⟩
    · exact ⟨hr, rr⟩
    · exact ⟨f.kp _ _ (h.row _ z e').1 (nn (h.row _ z e').2 (.inr q)), (h.row _ z e').2⟩
  · rcases get j z e' with ⟨rfl, rfl⟩ | ⟨q, e'⟩
    · obtain ⟨q1, q2, q3, q4, q5⟩ := h.ok _ x hx
      exact ⟨(q1.fr f).set d, in_set q2 e, q3.fr f, q4, by simpa using q5⟩
    · obtain ⟨q1, q2, q3, q4⟩ := h.ok _ z e'
      exact ⟨q1.fr f, q2, q3.fr f, q4⟩
/-- a node replaced by a new one -/
theorem NdA.put {n : Int} {k : Nat} {a l : Addr} {kd : Str} {tv : V} {tg : T} {rs : List V} {ts : List T} (h : NdA K ρ s n H N xs) (hk : k < xs.length) (ha : H a = none) (hl : H l = none) (nal : a ≠ l) (hN : H' N = some (.lst ((xs.map fun x => V.ref x.nd).set k (.ref a)))) (ha' : H' a = some (.lst [.str kd, tv, .ref l])) (hl' : H' l = some (.lst rs))
    (f : Fr [N] H H') (d : Dens K H' rs ts) (ok : ∀ t ∈ ts, EntOk n t) (dv : Den K H' tv tg) (dp : Dep 3 tg) (lr : rs.length ≤ 200) :
    NdA K (role2 ρ s k a l) s n H' N (xs.set k ⟨a, l, kd, tv, tg, rs, ts⟩) := by
  have h := h.ext (role2_ext (s := s) (k := k) ha hl)
  have get : ∀ (j : Nat) (z : Nd), (xs.set k ⟨a, l, kd, tv, tg, rs, ts⟩)[j]? = some z → (j = k ∧ z = ⟨a, l, kd, tv, tg, rs, ts⟩) ∨ (j ≠ k ∧ xs[j]? = some z) := fun j z e => by
    by_cases q : j = k
    · subst q
      rw [List.getElem?_set_self hk] at e
      exact .inl ⟨rfl, (Option.some.inj e).symm⟩
    · rw [List.getElem?_set_ne (Ne.symm q)] at e
      exact .inr ⟨q, e⟩
  have nN : ∀ {x : Addr} {i j : Nat}, role2 ρ s k a l x = some (s, i, j) → i ≠ 2 → x ∉ [N] := fun e n m => by
    have z := List.mem_singleton.mp m
    rw [z, h.rN] at e
    injection e with e
    injection e with _ e
    injection e with e _
    exact n e.symm
  have ra : role2 ρ s k a l a = some (s, 3, k) := if_pos rfl
  have rl : role2 ρ s k a l l = some (s, 4, k) := by unfold role2; rw [if_neg (Ne.symm nal)]; exact if_pos rfl
  refine ⟨?_, h.rN, fun j z e' => ?_, fun j z e' => ?_, fun j z e' => ?_, by rw [List.length_set]; exact h.len⟩
  · rw [hN]
    congr 2
    refine List.ext_getElem? fun j => ?_
    rw [List.getElem?_map]
    by_cases q : k = j
    · subst q
      rw [List.getElem?_set_self hk, List.getElem?_set_self (by simpa using hk)]; rfl
    · rw [List.getElem?_set_ne q, List.getElem?_set_ne q, List.getElem?_map]
  · rcases get j z e' with ⟨rfl, rfl⟩ | ⟨_, e'⟩
    · exact ⟨ha', ra⟩
    · exact ⟨f.kp _ _ (h.nd _ z e').1 (nN (h.nd _ z e').2 (by decide)), (h.nd _ z e').2⟩
  · rcases get j z e' with ⟨rfl, rfl⟩ | ⟨_, e'⟩
    · exact ⟨hl', rl⟩
    · exact ⟨f.kp _ _ (h.row _ z e').1 (nN (h.row _ z e').2 (by decide)), (h.row _ z e').2⟩
  · rcases get j z e' with ⟨rfl, rfl⟩ | ⟨_, e'⟩
    · exact ⟨d, ok, dv, dp, lr⟩
    · obtain ⟨q1, q2, q3, q4⟩ := h.ok _ z e'
      exact ⟨q1.fr f, q2, q3.fr f, q4⟩
/-- two lists that agree, with one place changed alike -/
theorem rel_set {xs : List Nd} {k : Nat} {y' : Th} {x' : Nd} (rel : ∀ (i : Nat) (y : Th) (x : Nd), ys[i]? = some y → xs[i]? = some x → y.kd = x.kd ∧ y.tg = x.tg ∧ y.us = x.ts.map (movT (gT step)))
    (e : y'.kd = x'.kd ∧ y'.tg = x'.tg ∧ y'.us = x'.ts.map (movT (gT step))) : ∀ (i : Nat) (y : Th) (x : Nd), (ys.set k y')[i]? = some y → (xs.set k x')[i]? = some x → y.kd = x.kd ∧ y.tg = x.tg ∧ y.us = x.ts.map (movT (gT step)) := fun i y x h1 h2 => by
  by_cases q : k = i
  · subst q
    have z1 := (List.getElem?_eq_some_iff.mp h1).1
    have z2 := (List.getElem?_eq_some_iff.mp h2).1
    rw [List.length_set] at z1 z2
    rw [List.getElem?_set_self z1] at h1
    rw [List.getElem?_set_self z2] at h2
    cases h1; cases h2
    exact e
  · rw [List.getElem?_set_ne q] at h1 h2
    exact rel i y x h1 h2
/-- both with one slot set -/
theorem Side.set {k i : Nat} {y : Th} {x : Nd} {v v' : V} {t : T} (hb : BkA K ρ s step CT C tl H B D (ys.set k { y with ss := y.ss.set i v', us := y.us.set i (movT (gT step) t) })) (hn : NdA K ρ s xs.length H N (xs.set k { x with rs := x.rs.set i v, ts := x.ts.set i t }))
    (ln : ys.length = xs.length) (rel : ∀ (i : Nat) (y : Th) (x : Nd), ys[i]? = some y → xs[i]? = some x → y.kd = x.kd ∧ y.tg = x.tg ∧ y.us = x.ts.map (movT (gT step))) (hy : ys[k]? = some y) (hx : xs[k]? = some x) :
    Side K ρ s step CT C tl H B D N (ys.set k { y with ss := y.ss.set i v', us := y.us.set i (movT (gT step) t) }) (xs.set k { x with rs := x.rs.set i v, ts := x.ts.set i t }) := by
  obtain ⟨r1, r2, r3⟩ := rel k y x hy hx
  refine ⟨hb, by rw [List.length_set]; exact hn, by rw [List.length_set, List.length_set]; exact ln, rel_set rel ⟨r1, r2, ?_⟩⟩
  show y.us.set i _ = (x.ts.set i t).map _
  rw [r3, List.map_set]
/-- both with one object changed -/
theorem Side.put {k : Nat} {y : Th} {a l sl : Addr} {kd : Str} {tv tv' : V} {tg : T} {rs ss : List V} {ts : List T} (hb : BkA K ρ s step CT C tl H B D (ys.set k { y with tv := tv', tg := tg, sl := sl, ss := ss, us := ts.map (movT (gT step)) })) (hn : NdA K ρ s xs.length H N xs)
    (ln : ys.length = xs.length) (rel : ∀ (i : Nat) (y : Th) (x : Nd), ys[i]? = some y → xs[i]? = some x → y.kd = x.kd ∧ y.tg = x.tg ∧ y.us = x.ts.map (movT (gT step))) (hk : k < xs.length) (ky : y.kd = kd) (ha : H a = none) (hl : H l = none) (nal : a ≠ l)
    (hN : H' N = some (.lst ((xs.map fun x => V.ref x.nd).set k (.ref a)))) (ha' : H' a = some (.lst [.str kd, tv, .ref l])) (hl' : H' l = some (.lst rs)) (f : Fr [N] H H') (d : Dens K H' rs ts) (ok : ∀ t ∈ ts, EntOk xs.length t) (dv : Den K H' tv tg) (dp : Dep 3 tg) (lr : rs.length ≤ 200) :
    Side K (role2 ρ s k a l) s step CT C tl H' B D N (ys.set k { y with tv := tv', tg := tg, sl := sl, ss := ss, us := ts.map (movT (gT step)) }) (xs.set k ⟨a, l, kd, tv, tg, rs, ts⟩) := by
  have rx := role2_ext (ρ := ρ) (s := s) (k := k) ha hl
  refine ⟨(hb.ext rx).frN f (awOne (hn.ext rx).rN (p := fun i => i ≠ 0 ∧ i ≠ 1 ∧ i ≠ 5 ∧ i ≠ 6) (by decide)), ?_, by rw [List.length_set, List.length_set]; exact ln, rel_set rel ⟨ky, rfl, rfl⟩⟩
  rw [List.length_set]
  exact hn.put hk ha hl nal hN ha' hl' f d ok dv dp lr
theorem after_fr {b l : Addr} {H1 H5 H6 : Hp} {tl : List (Str × V)} (hB : Box H b) (hS : Side K ρ s step CT C tl H B D N ys xs) (F : Fr [b] H H1) (f5 : Fr [B, D, N] H1 H5) (f6 : Fr [l] H5 H6) (hl : H l = none) : Fr [b, B, D, N] H H6 := by
  refine ((F.to (fun x m => .inl (by simp at m; rw [m]; simp)) fun a m => ?_).app f5 fun x m => .inl (List.mem_cons_of_mem _ m)).app f6 fun x m => .inr (by simp at m; rw [m]; exact hl)
  rcases List.mem_cons.mp m with rfl | m
  · exact hB.nt _ (by simp)
  · exact hS.refl3.nt _ m
theorem after_aw {b : Addr} {tl : List (Str × V)} (hS : Side K ρ s step CT C tl H B D N ys xs) : ∀ a ∈ [b, B, D, N], a = b ∨ ∃ i j, ρ a = some (s, i, j) := fun a m => by
  simp only [List.mem_cons, List.not_mem_nil, or_false] at m
  rcases m with rfl | rfl | rfl | rfl
  · exact .inl rfl
  · exact .inr ⟨_, _, hS.bk.rB⟩
  · exact .inr ⟨_, _, hS.bk.rD⟩
  · exact .inr ⟨_, _, hS.nd.rN⟩
end
end M14
set_option Elab.async false
set_option linter.all false
set_option maxRecDepth 100000
set_option maxHeartbeats 4000000
namespace M14
open PySem PySem.Spec PyProof.Rows L2

section
variable {P : Program} {w : World} {K : PySem.W.Frag} {mg : Str → Option Value} {base : Heap}
set_option hygiene false
local macro_rules | `(tactic| tm_at "sc") => `(tactic| (first | omega | (simp only [List.length_cons, List.length_nil, List.length_map, List.length_set, List.length_append]; omega) | (simp only [List.length_map] at h1 ⊢; omega) | (simp only [List.length_map] at c ⊢; omega) | with_reducible assumption | exact And.intro (by omega) (by omega) | exact Or.inl (And.intro (by omega) (by omega)) | exact Or.inr (And.intro (by omega) (by omega)) | decide +kernel | exact len1000 (by simp) | rfl | fail "no way"))
local macro_rules | `(tactic| tm_at "sc1") => `(tactic| (focus (simp; done)))
local macro_rules | `(tactic| tm_at "ne") => `(tactic| (first | assumption | exact Ne.symm (by assumption) | (apply Box.ne2; assumption; tm_at "hp") | (apply Ne.symm; apply Box.ne2; assumption; tm_at "hp") | (apply ne_of_none2; assumption; tm_at "hp") | (apply Ne.symm; apply ne_of_none2; assumption; tm_at "hp") | fail "no way"))
local macro_rules | `(tactic| tm_at "f0") => `(tactic| (first | assumption | (apply Fr.new; assumption) | fail "no way"))
local macro_rules | `(tactic| tm_at "hp") => `(tactic| (first | assumption | exact upd_same | (apply SqL.of; first | assumption | exact upd_same) | (apply Fr.at0; tm_at "f0"; tm_at "hp") | (apply Fr.at1n; assumption; tm_at "ne"; tm_at "hp") | (apply sqFr0; tm_at "f0"; tm_at "hp") | (apply sqFr1; assumption; tm_at "ne"; tm_at "hp") | (apply Box.fr0; tm_at "f0"; tm_at "hp") | (apply Box.fr1; assumption; tm_at "ne"; tm_at "hp") | (apply Den.fr; tm_at "f0"; tm_at "hp") | (apply Dens.fr; tm_at "f0"; tm_at "hp") | fail "no way"))
local macro_rules | `(tactic| tm_at "free0") => `(tactic| (first | assumption | (apply updFree; assumption) | (apply updFree; apply updFree; assumption) | (apply updFree; apply updFree; apply updFree; assumption) | (apply updFree; apply updFree; apply updFree; apply updFree; assumption) | fail "no way"))
local macro_rules | `(tactic| tm_at "free") => `(tactic| (first | tm_at "free0" | (apply Fr.free; assumption; tm_at "free0") | (apply Box.free; assumption; tm_at "fr"; tm_at "free0") | (apply Fr.free; assumption; apply Fr.free; assumption; tm_at "free0") | fail "no way"))
local macro_rules | `(tactic| tm_at "fr") => `(tactic| (first | assumption | exact Fr.refl0 _ | exact Fr.refl (Box.nt (by assumption)) | (refine Fr.comp0 ?_ (by tm_at "f0"); tm_at "fr") | (refine Fr.comp ?_ (by assumption); tm_at "fr") | (refine Fr.compN ?_ (by assumption) (by tm_at "free"); tm_at "fr") | fail "no way"))
local macro_rules | `(tactic| tm_at "call") => `(tactic| fail "no call")
local macro_rules | `(tactic| tm_at "call") => `(tactic| (apply take_step; tm_at "hp"; tm_at "sc"; tm_at "sc"; intro r H1 h0 h1 hB fr))
local macro_rules | `(tactic| tm_at "ty") => `(tactic| (first | assumption | exact .base .non | exact .base (.bl _) | exact .base (.int _) | exact .base (.str _) | (apply TyX.base; apply TyOf.lst; tm_at "hp") | (apply TyX.base; apply TyOf.tup; tm_at "hp") | fail "no way"))
local macro_rules | `(tactic| tm_at "pre") => `(tactic| fail "none")
local macro_rules | `(tactic| tm_at "go1") => `(tactic| (first | tm_at "pre" | refine ⟨_, rfl, ?_⟩ | refine ⟨_, _, rfl, rfl, ?_⟩ | (apply set_step; tm_at "hp"; tm_at "sc"; tm_at "sc"; intro H1 hp fr) | (with_reducible refine iteDI ?_ ?_ <;> intro c) | (with_reducible refine iteDS ?_ ?_ <;> intro c) | (with_reducible refine iteD ?_ ?_ <;> intro c) | (with_reducible refine iteEM ?_ ?_ <;> intro c) | (with_reducible refine iteE ?_ ?_ <;> intro c) | with_reducible refine iteN ?_ | with_reducible refine iteF ?_ | with_reducible refine iteT ?_ | (refine fun (p : Addr) (np : _ = (none : Option HO)) => ?_; fail_if_success (refine ⟨fun (_ _ : Nat) (_ : Hp) => True, ?_⟩)) | (apply isi_tt; tm_at "ty"; focus (decide +kernel)) | (apply isi_ff; tm_at "ty"; focus (decide +kernel)) | (apply sl_step; tm_at "hp"; intro qq H1 ms nq hq fr) | (apply sum_step; tm_at "hp"; intro i) | (apply tru_step; tm_at "hp") | (apply len_step; tm_at "hp") | (apply lenq_step; assumption) | (apply ixq_step; assumption; tm_at "sc"; tm_at "sc"; intro v hv) | (apply lst_step; tm_at "hp") | (apply tupl_step; tm_at "hp") | (apply ixr_step; tm_at "hp"; exact rfl) | (apply ix0_step; tm_at "hp") | (apply ix1_step; tm_at "hp") | (apply ix2_step; tm_at "hp") | (apply ixi_step; tm_at "hp"; tm_at "sc"; tm_at "sc"; intro n hn hn') | (apply ixl_step; tm_at "hp"; tm_at "sc"; tm_at "sc"; intro v hv) | (apply ixt_step; tm_at "hp"; tm_at "sc"; tm_at "sc"; intro v hm hv) | (apply in_step; tm_at "hp"; rfl; rfl) | (apply cat_step; tm_at "hp"; tm_at "hp"; tm_at "sc") | (apply catT_step; tm_at "hp"; tm_at "hp"; tm_at "sc1") | (apply tyL_and; tm_at "hp") | (apply app_step; tm_at "hp"; tm_at "sc"; intro H1 hp fr) | tm_at "call" | refine ⟨⟨_, rfl⟩, ?_⟩ | (apply ixs_step; tm_at "sc"; tm_at "sc"; tm_at "sc"; intro ch) | refine .inl ⟨_, rfl, ?_⟩ | refine .inr ⟨_, rfl, ?_⟩ | (apply And.intro; tm_at "sc") | (with_reducible refine wayB ?_ ?_ <;> intro c) | fail "no way"))
local macro_rules | `(tactic| tm_at "go") => `(tactic| (repeat tm_at "go1"))
local macro_rules | `(tactic| tm_at "goo") => `(tactic| (repeat' tm_at "go1"))
local macro_rules | `(tactic| tm_at "den") => `(tactic| (first | assumption | exact Den.str _ | exact Den.int _ | exact Den.bl _ | exact Den.non | (apply Den.tups; tm_at "hp"; tm_at "dens") | (apply Den.fr; tm_at "f0"; tm_at "den") | fail "no way"))
local macro_rules | `(tactic| tm_at "dens") => `(tactic| (first | assumption | exact Dens.nil | (apply Dens.cons; tm_at "den"; tm_at "dens") | (apply Dens.fr; tm_at "f0"; tm_at "dens") | fail "no way"))
local macro_rules | `(tactic| tm_at "ix") => `(tactic| (apply Ix.mk; tm_at "hp"; tm_at "ne"; assumption; assumption))
local macro_rules | `(tactic| tm_at "dep") => `(tactic| (first | assumption | exact Dep.int | exact Dep.str | exact Dep.bl | exact Dep.non | (apply Dep.tup; tm_at "dlen"; tm_at "deps") | (apply Dep.mono; assumption; decide) | fail "no way"))
local macro_rules | `(tactic| tm_at "deps") => `(tactic| (first | assumption | exact memN | (apply memC; tm_at "dep"; tm_at "deps") | fail "no way"))
local macro_rules | `(tactic| tm_at "dlen") => `(tactic| (first | assumption | (focus (simp; done)) | omega | fail "no way"))

local macro_rules | `(tactic| tm_at "call") => `(tactic| (apply word_step; tm_at "hp"; intro v H1 hv hB fr))
local macro_rules | `(tactic| tm_at "call") => `(tactic| (apply name_step; tm_at "hp"; intro v H1 hv hB fr))
local macro_rules | `(tactic| tm_at "call") => `(tactic| (apply plain_step; tm_at "hp"; intro v H1 t hd he hB fr))
local macro_rules | `(tactic| tm_at "call") => `(tactic| (apply entry_step; tm_at "hp"; tm_at "ix"; tm_at "ix"; intro v H1 t hd he hB fr))
local macro_rules | `(tactic| tm_at "call") => `(tactic| (apply kinds_step; intro p H1 np hp fr))
local macro_rules | `(tactic| tm_at "call") => `(tactic| (apply kind_step; tm_at "hp"; intro v H1 hv hB fr))
local macro_rules | `(tactic| tm_at "call") => `(tactic| (apply marks_step; intro m))
local macro_rules | `(tactic| tm_at "pre") => `(tactic| (apply strInt_step; tm_at "sc"; intro s hs))
local macro_rules | `(tactic| tm_at "pre") => `(tactic| (apply addS_step; tm_at "sc"; intro s hs))

local macro_rules | `(tactic| tm_at "lk") => `(tactic| (first | with_reducible exact lookup_eq | ((with_reducible apply lookup_ne); (focus (decide +kernel)); tm_at "lk") | assumption | rfl | fail "no way"))
local macro_rules | `(tactic| tm_at "pf") => `(tactic| (first | with_reducible exact putF_nil | with_reducible exact putF_eq | ((with_reducible apply putF_ne); (focus (decide +kernel)); tm_at "pf") | fail "no way"))
local macro_rules | `(tactic| tm_at "fl") => `(tactic| (first | assumption | focus (simp only [List.length_cons, List.length_nil]; omega) | focus (simp only [List.length_cons, List.length_nil]; done) | focus (decide) | focus (simp; done) | focus (simp; omega) | fail "no way"))
local macro_rules | `(tactic| tm_at "pre") => `(tactic| (apply fld_step; tm_at "hp"; assumption; assumption; tm_at "lk"))
local macro_rules | `(tactic| tm_at "pre") => `(tactic| (apply putf_step; tm_at "hp"; assumption; assumption; tm_at "fl"; tm_at "pf"; intro H1 hp fr))
local macro_rules | `(tactic| tm_at "pre") => `(tactic| (apply aug_step; tm_at "hp"; assumption; assumption; tm_at "lk"))
local macro_rules | `(tactic| tm_at "pre") => `(tactic| (apply put2_step; tm_at "hp"; tm_at "fl"; tm_at "pf"; intro H1 hp fr))
local macro_rules | `(tactic| tm_at "pre") => `(tactic| (apply dget_step; tm_at "hp"; tm_at "lk"))
local macro_rules | `(tactic| tm_at "pre") => `(tactic| (apply dput_step; tm_at "hp"; (focus (omega)); intro H1 hp fr))
local macro_rules | `(tactic| tm_at "pre") => `(tactic| (apply mth_step; tm_at "hp"; tm_at "lk"))
local macro_rules | `(tactic| tm_at "pre") => `(tactic| (apply lenD_step; tm_at "hp"))
local macro_rules | `(tactic| tm_at "pre") => `(tactic| (apply addI_step))
local macro_rules | `(tactic| tm_at "pre") => `(tactic| (apply newD_step; intro dn H1 nd hp fr))
local macro_rules | `(tactic| tm_at "fr2") => `(tactic| (first | assumption | (apply Fr.appMb; assumption; (focus (simp; done)); tm_at "fr2") | (apply Fr.app0b; tm_at "f0"; tm_at "fr2") | (apply Fr.appNb; assumption; tm_at "free"; tm_at "fr2") | fail "no way"))
local macro_rules | `(tactic| tm_at "ne") => `(tactic| (apply ne_role; assumption; assumption; (focus (decide))))

local macro_rules | `(tactic| tm_at "nda") => `(tactic| (first | assumption | (apply NdA.of0; tm_at "f0"; tm_at "nda") | (apply NdA.of1; assumption; assumption; tm_at "nda") | fail "no way"))
local macro_rules | `(tactic| tm_at "pre") => `(tactic| (apply nd_step; tm_at "nda"; tm_at "sc"; tm_at "sc"; intro xn hxn hnd hrow))
local macro_rules | `(tactic| tm_at "pre") => `(tactic| (apply tabix_step; tm_at "hp"; tm_at "sc"; tm_at "sc"))
local macro_rules | `(tactic| tm_at "call") => `(tactic| (apply table_step; (focus (first | omega | (simp only [List.length_map]; omega))); intro tb H1 ntb htb fr))
local macro_rules | `(tactic| tm_at "call") => `(tactic| (apply errors_step; tm_at "nda"; intro er H1 es ner her les ies fr))
local macro_rules | `(tactic| tm_at "call") => `(tactic| (apply form_step; tm_at "hp"; tm_at "ix"; tm_at "ix"; intro fm l tg es2 H1 hF hB fr))
@[irreducible] def spLMake (K : PySem.W.Frag) (CT C : Addr) (step : Int) (tlf : Addr → Nat → List (Str × V)) : Sp := fun vs H Q _ => ∃ (ρ : Role) (s : Nat) (R b B D N : Addr) (ys : List Th) (xs : List Nd), vs = [.ref b, .ref B, .ref N, .int step] ∧ Box H b ∧ ρ b = none ∧ Side K ρ s step CT C (tlf R ys.length) H B D N ys xs ∧ xs.length ≤ 900 ∧
  ∀ H', After K ρ s step CT C tlf R b B D N (xs.length + 2) H H' → Q (.bl true) H'
/-- the pool of all object numbers -/
theorem pool_ix {H : Hp} {p b : Addr} {n : Nat} (hp : H p = some (.lst (((List.range n).map fun i : Nat => (0 : Int) + (i : Int)).map V.int))) (ne : p ≠ b) (hn : n ≤ 1000) : Ix K H p b n ((List.range n).map fun i : Nat => (0 : Int) + (i : Int)) :=
  ⟨.of hp, ne, by simpa using hn, fun x m => by
    obtain ⟨i, hi, rfl⟩ := List.mem_map.mp m
    have := List.mem_range.mp hi
    omega⟩
abbrev s_make : Stmt := top 33
theorem sc_make : FnScope ["_law_box_here", "_law_bank", "_law_nodes", "_law_step", "_law_pool", "_law_k", "_law_kind_here", "_law_form_here", "_law_given", "_law_due", "_law_again", "_law_value"] ["_law_box_here", "_law_bank", "_law_nodes", "_law_step"] (defScope s_make) := ⟨rfl, rfl, rfl, by decide +kernel, rfl, by decide +kernel, by decide +kernel⟩

theorem ok_lmake {C CT : Addr} {step : Int} {tlf : Addr → Nat → List (Str × V)} (T : Bl mg) (BC : BankC P w K mg base C CT step tlf) (G_same : Cal P w K mg base 4 "_law_same" ["_law_told_here", "_law_due"] (spSm K 4)) (G_spoil : Cal P w K mg base 5 "_law_spoil" ["_law_row", "_law_due"] (spSpoil K))
    (G_table : Cal P w K mg base 1 "_law_table" ["_law_many", "_law_step"] spTable) (G_sent : Cal P w K mg base 3 "_law_sent" ["_law_entries", "_law_table_here"] (spSent K)) (G_errors : Cal P w K mg base 1 "_law_errors" ["_law_nodes"] (spErrors K)) (G_take : CTake P w K mg base) (G_kind : Cal P w K mg base 2 "_law_kind" ["_law_box_here"] spKind)
    (G_form : Cal P w K mg base 7 "_law_form" ["_law_box_here", "_law_kind_here", "_law_pool", "_law_errors_here"] (spForm K)) (D : Def1 K mg "_law_make" s_make) : Cal P w K mg base 8 "_law_make" ["_law_box_here", "_law_bank", "_law_nodes", "_law_step"] (spLMake K CT C step tlf) := by
  refine D.cal sc_make (fun _ _ _ _ _ _ us hl => match us, hl with | [_, _, _, _], _ => rfl) (fun vs H Q E h => ?_) (fun f cdv A outer s H vs Q E hr h => ?_) <;> unfold spLMake at h
  · obtain ⟨ρ, sd, R, b, B, dD, N, ys, xs, rfl, _⟩ := h
    rfl
  · obtain ⟨ρ, sd, R, b, B, dD, N, ys, xs, rfl, hB0, rb, hS, hx, q⟩ := h
    have M_make := BC.make
    have hN := hS.nd
    have hN0 := hN.at_
    refine ⟨_, (pss_cons (ps_setLc (i := 4) (own := [("_law_k", 5)]) (g := gName 5) (by rfl) sc_make.nd rfl rfl (sw_true rfl rfl rfl (by decide +kernel)) (pi_range1 (by rfl) T.z_range (pa_cons (pe_callB (cLen K) (by rfl) T.z_len (by decide +kernel) (pa_cons (pv 2) pa_nil)) pa_nil)) (blkOk_by (own := [("_law_k", 5)]) (N := [("_law_box_here" : Str), ("_law_bank" : Str), ("_law_nodes" : Str), ("_law_step" : Str), ("_law_pool" : Str), ("_law_k" : Str), ("_law_kind_here" : Str), ("_law_form_here" : Str), ("_law_given" : Str), ("_law_due" : Str), ("_law_again" : Str), ("_law_value" : Str)]) (sc := defScope s_make) (by decide +kernel)) (fun _ _ _ _ _ => pg_name (i := 5) sc_make.nd rfl (Or.inl rfl)) (fun _ _ _ _ _ => pts_nil) (fun _ _ _ _ _ => (pv 5)))
    (pss_cons (ps_set (i := 6) sc_make.nd rfl (Or.inl rfl) (pe_cal G_kind (hr.mono (by omega)) (by rfl) (pa_cons (pv 0) pa_nil)))
    (pss_cons (ps_set (i := 7) sc_make.nd rfl (Or.inl rfl) (pe_cal G_form (hr.mono (by omega)) (by rfl) (pa_cons (pv 0) (pa_cons (pv 6) (pa_cons (pv 4) (pa_cons (pe_cal G_errors (hr.mono (by omega)) (by rfl) (pa_cons (pv 2) pa_nil)) pa_nil))))))
    (pss_cons (ps_set (i := 8) sc_make.nd rfl (Or.inl rfl) (pe_cal G_sent (hr.mono (by omega)) (by rfl) (pa_cons (pe_ix (ixT K) (pv 7) pe_int (fun _ _ => rfl)) (pa_cons (pe_cal G_table (hr.mono (by omega)) (by rfl) (pa_cons (pe_callB (cLen K) (by rfl) T.z_len (by decide +kernel) (pa_cons (pv 2) pa_nil)) (pa_cons (pv 3) pa_nil))) pa_nil))))
    (pss_cons (ps_set (i := 9) sc_make.nd rfl (Or.inl rfl) (pe_callTy (cList K) (by rfl) T.z_list (by decide +kernel) (pa_cons (pv 8) pa_nil)))
    (pss_cons (ps_for PassesOwn.never rfl (pi_range1 (by rfl) T.z_range (pa_cons (pe_op op_add pe_int (pe_callTy call_int1 (by rfl) T.z_int (by decide +kernel) (pa_cons (pe_cmpR op_eq (pe_cal G_take (hr.mono (by omega)) (by rfl) (pa_cons (pv 0) (pa_cons pe_int pa_nil))) pe_int (nomark _)) pa_nil))) pa_nil)) (pg_name (i := 10) sc_make.nd rfl (Or.inl rfl))
      (pss_cons (ps_set (i := 11) sc_make.nd rfl (Or.inl rfl) (pe_mcalx (pv 1) M_make (hr.mono (by omega)) (pa_cons (pv 6) (pa_cons (pe_ix (ixT K) (pv 7) pe_int (fun _ _ => rfl)) (pa_cons (pv 8) pa_nil)))))
      (pss_cons (ps_if (pt_not (pt_val (pe_cal G_same (hr.mono (by omega)) (by rfl) (pa_cons (pv 11) (pa_cons (pe_tup (pa_cons pe_str (pa_cons (pe_op op_sub (pe_op op_add (pe_op op_mul (pv 3) (pe_callB (cLen K) (by rfl) T.z_len (by decide +kernel) (pa_cons (pv 2) pa_nil))) (pv 3)) pe_int) pa_nil))) pa_nil)))))
        (pss_one (ps_ret pe_bl))
        pss_nil)
      (pss_one (ps_expr (pe_bm PySem.F.plainAttrs_list PySem.F.slot_list_append PySem.F.type_list_append mtApp (pv 2) (pa_cons (pe_lst (pa_cons (pv 6) (pa_cons (pe_ix (ixT K) (pv 7) pe_int (fun _ _ => rfl)) (pa_cons (pe_callTy (cList K) (by rfl) T.z_list (by decide +kernel) (pa_cons (pe_ix (ixT K) (pv 7) pe_int (fun _ _ => rfl)) pa_nil)) pa_nil)))) pa_nil)))))))
    (pss_one (ps_ret (pe_cal G_spoil (hr.mono (by omega)) (by rfl) (pa_cons (pv 8) (pa_cons (pv 9) pa_nil))))))))))), ?_⟩
    tm_at "goo"
    refine lcR (fun _ => true) (fun _ i y => y = .int (0 + (i : Int))) (Cg.nil _) stab_v (by simp; omega) (fun i H hi hS f => tyes_ok trivial (fun _ h => nomatch h)) (fun i H2 hi _ hS f R kk => ?_) (fun pl H2 ps npl hpl m _ fr => ?_)
    · tm_at "goo"
      exact kk _ _ trivial (by tm_at "fr") rfl
    · rw [keptN_all] at m
      rw [m.ints, show ((((xs.map fun x => V.ref x.nd).length : Nat) : Int)).toNat = xs.length by simp] at hpl
      tm_at "goo"
      obtain ⟨kd, rfl, _⟩ := hv
      have b1 : Box H1 b := by tm_at "hp"
      have hpl1 : H1 pl = some (.lst (((List.range xs.length).map fun i : Nat => (0 : Int) + (i : Int)).map V.int)) := by tm_at "hp"
      have npb : pl ≠ b := by tm_at "ne"
      have neb : er ≠ b := by tm_at "ne"
      have F01 : Fr [b] H H1 := by tm_at "fr"
      refine form_step (n := xs.length) b1 (pool_ix hpl1 npb (by omega)) ⟨.of her, neb, by omega, ies⟩ fun fm l tg es2 H3 hF hB3 fr3 => ?_
      have F03 : Fr [b] H H3 := F01.trans fr3
      have hS3 := hS.frM F03 (.one rb)
      have hN3 := hS3.nd
      have hN30 := hN3.at_
      obtain ⟨ft, fl, fnew, flen, ⟨fts, fden, fok⟩, ⟨ftg, ftd, ftp⟩⟩ := hF
      tm_at "goo"
      simp only [List.length_map] at htb
      refine sent_step (xs := es2) (ts := fts) (step := step) (n := xs.length) (by tm_at "hp") (by tm_at "hp") (by tm_at "hp") fok (by omega) fun gv H4 gs ngv hgv dgv frS => ?_
      have g0 : H3 gv = none := by tm_at "free"
      have f34 : Fr [] H3 H4 := by tm_at "fr"
      tm_at "goo"
      have F : Fr [b] H H1 := by tm_at "fr"
      have l0 : H l = none := b1.free F01 fnew
      have p0 : H3 p = none := f34.free np
      have g00 := hB3.free F03 g0
      have p00 := hB3.free F03 p0
      have ex1 : Ext H ρ (hide ρ [l, gv, p]) := hide_ext fun a m => by
        simp only [List.mem_cons, List.not_mem_nil, or_false] at m
        rcases m with rfl | rfl | rfl <;> assumption
      have rb1 : hide ρ [l, gv, p] b = none := by
        unfold hide
        split
        · rfl
        · exact rb
      have hS1 := (hS.ext ex1).frM F (.one rb1)
      have rl : hide ρ [l, gv, p] l = none := hide_at (by simp)
      have rg : hide ρ [l, gv, p] gv = none := hide_at (by simp)
      have rp : hide ρ [l, gv, p] p = none := hide_at (by simp)
      generalize hide ρ [l, gv, p] = ρ1 at *
      have en : ∀ c : Bool, ∃ n : Nat, n ≤ 2 ∧ ((1 : Int) + (if c = true then 1 else 0)).toNat = n := fun c => by cases c <;> exact ⟨_, by decide, rfl⟩
      have nlb : l ≠ b := b1.ne fnew
      have ngb : gv ≠ b := hB3.ne g0
      have npb2 : p ≠ b := hB3.ne p0
      have F31 : Fr [b] H3 H1 := (((Fr.refl hB3.nt).tr f34).tr (Fr.new np)).trans (by assumption)
      have ft1 := F31.tup ft
      have fl1 := F31.at1 fl nlb
      have F41 : Fr [b] (upd H4 p (.lst gs)) H1 := by assumption
      have gv1 := F41.at1 ((Fr.new np).at0 hgv) ngb
      have p1 := F41.at1 (upd_same (a := p)) npb2
      have fd1 := fden.fr F31
      have td1 := ftd.fr F31
      refine forR (MMid K ρ1 sd step CT C tlf R B dD N xs.length H1 [some (.ref b), some (.ref B), some (.ref N), some (.int step), some (.ref pl), none, some (.str kd), some (.ref fm), some (.ref gv), some (.ref p)]) (MMid.of (u := none) (v := none) rfl hS1 rfl Ext.refl hS1.refl3) (fun i σ' H5 hi hP => ?_) (fun σ' H5 hP => ?_)
      · unfold MMid at hP
        obtain ⟨u, v, ρ', ys', xs', rfl, hS5, l5, ex5, f5⟩ := hP
        have fi : ∀ {a : Addr} {o : HO}, H1 a = some o → ρ1 a = none → H5 a = some o := fun e n => f5.kp _ _ e fun m => by
          simp only [List.mem_cons, List.not_mem_nil, or_false] at m
          rcases m with rfl | rfl | rfl
          · rw [hS1.bk.rB] at n; cases n
          · rw [hS1.bk.rD] at n; cases n
          · rw [hS1.nd.rN] at n; cases n
        have ft5 := f5.tup ft1
        have fl5 := fi fl1 rl
        have gv5 := fi gv1 rg
        have fd5 := fd1.fr f5
        have dg5 : Dens K H5 gs (fts.map (movT (gT step))) := (dgv.fr (Fr.new np)).fr F41 |>.fr f5
        have td5 := td1.fr f5
        have hN5 := hS5.nd.at_
        obtain ⟨dx5, gr5, hB5⟩ := hS5.bk.at_
        have km : (tlf R ys'.length).lookup ("make" : Str) = none := hS5.bk.tll.nom _ (by decide +kernel)
        tm_at "goo"
        have dpt : ∀ t ∈ fts.map (movT (gT step)), Dep 2 t := fun t m => by
          obtain ⟨t0, m0, rfl⟩ := List.mem_map.mp m
          exact movT_dep (fok t0 m0)
        have lgs : gs.length ≤ 200 := by
          have := dgv.1
          have := fden.1
          simp at *
          omega
        have l5' := hS5.len
        have i2 : i < 2 := by
          refine Nat.lt_of_lt_of_le hi ?_
          split <;> decide
        refine make_step (R := R) hS5.bk (by omega) gv5 dg5 dpt td5 ftp lgs fun r6 H6 ρ6 x6 l6 nr6 hr6 hb6 ex6 fr6 => ?_
        have hN6 := (hS5.nd.frN fr6 (awTwo (p := fun i => i ≠ 2 ∧ i ≠ 3 ∧ i ≠ 4) hS5.bk.rB hS5.bk.rD (by decide) (by decide)))
        have hN60 := hN6.at_
        have ft6 := fr6.tup ft5
        have hst := hS5.bk.st
        tm_at "goo"
        have eg : step * ((xs'.map fun x => V.ref x.nd).length : Int) + step - 1 = gT step ys'.length := by unfold gT; rw [List.length_map, l5']
        refine sm_step (Sm.of_den (t := .tup [.str (Str.ofString "ref"), .int (gT step ys'.length)]) (Den.tups (Fr.at0 (Fr.new np) hr6) (.cons (.str _) (.cons (.int _) .nil))) (Den.tups upd_same (.cons (.str _) (.cons (by rw [← eg]; exact Den.int _) .nil))) (by tm_at "dep")) ?_
        have nlB : l ≠ B := fun e => by rw [e] at rl; rw [hS1.bk.rB] at rl; cases rl
        have nlD : l ≠ dD := fun e => by rw [e] at rl; rw [hS1.bk.rD] at rl; cases rl
        have fl6 : H6 l = some (.lst es2) := fr6.kp _ _ fl5 (by simp [nlB, nlD])
        tm_at "goo"
        rename_i pd npd pc npc
        have fN : Fr [N] H6 H1 := ((((Fr.reflL hN60).tr (Fr.new npd)).tr (Fr.new npc)).tr (Fr.new np)).trans (by assumption)
        have qc : H6 pc = none := updFree npc
        have qa : H6 p = none := updFree (updFree np)
        have nac : p ≠ pc := (ne_of_none2 np upd_same).symm
        have naN : p ≠ N := (ne_of_none2 qa hN60).symm
        have ncN : pc ≠ N := (ne_of_none2 qc hN60).symm
        have fr' := fr
        have ea : H1 p = some (.lst [.str kd, tg, .ref pc]) := fr'.at1n naN upd_same
        have el : H1 pc = some (.lst es2) := fr'.at1n ncN (by rw [upd_ne (Ne.symm nac)]; exact upd_same)
        have hn6 : NdA K ρ6 sd xs'.length H6 N xs' := (hS5.nd.ext ex6).frN fr6 (awTwo (p := fun i => i ≠ 2 ∧ i ≠ 3 ∧ i ≠ 4) hb6.rB hb6.rD (by decide) (by decide))
        have hS7 := Side.add hb6 hn6 l5' hS5.rel qa qc nac hp ea el fN ((fd5.fr fr6).fr fN) (by omega : xs.length ≤ xs'.length) fok ((td5.fr fr6).fr fN) ftp flen (by omega) rfl rfl rfl
        have al6 : ∀ a, H5 a ≠ none → H6 a ≠ none := alive fr6 fun a m => by
          obtain ⟨_, _, hB⟩ := hb6.at_
          obtain ⟨_, hD, _⟩ := hb6.dk
          simp only [List.mem_cons, List.not_mem_nil, or_false] at m
          rcases m with rfl | rfl
          · exact some_ne hB
          · exact some_ne hD
        have al5 := alive f5 hS5.live
        refine MMid.of rfl (by rw [show ∀ y : Th, (ys' ++ [y]).length = ys'.length + 1 from fun y => by simp]; exact hS7) (by simp [l5]; omega) (extT (extT ex5 ex6 al5) (role2_ext qa qc) fun a n => al6 a (al5 a n)) ((f5.app fr6 fun x m => .inl (by simp at m; rcases m with rfl | rfl <;> simp)).app fN fun x m => .inl (by simp at m; rw [m]; simp))
      · unfold MMid at hP
        obtain ⟨u, v, ρ', ys', xs', rfl, hS5, l5, ex5, f5⟩ := hP
        have fi : ∀ {a : Addr} {o : HO}, H1 a = some o → ρ1 a = none → H5 a = some o := fun e n => f5.kp _ _ e fun m => by
          simp only [List.mem_cons, List.not_mem_nil, or_false] at m
          rcases m with rfl | rfl | rfl
          · rw [hS1.bk.rB] at n; cases n
          · rw [hS1.bk.rD] at n; cases n
          · rw [hS1.nd.rN] at n; cases n
        have gv5 := fi gv1 rg
        have p5 := fi p1 rp
        have dg5 : Dens K H5 gs (fts.map (movT (gT step))) := (dgv.fr (Fr.new np)).fr F41 |>.fr f5
        tm_at "goo"
        have dpt : ∀ t ∈ fts.map (movT (gT step)), Dep 2 t := fun t m => by
          obtain ⟨t0, m0, rfl⟩ := List.mem_map.mp m
          exact movT_dep (fok t0 m0)
        have lgs : gs.length ≤ 1000 := by
          have := dgv.1
          have := fden.1
          simp at *
          omega
        refine spoil_step gv5 p5 dg5 dg5 lgs dpt fun H6 fr6 => ?_
        obtain ⟨i0, i1, i2, i3, i4, hb1⟩ : Box H1 b := by assumption
        have hb6 := fr6.at1n ngb.symm (fi hb1 rb1)
        have n2 : xs'.length ≤ xs.length + 2 := by
          rw [l5]
          split <;> simp
        refine q _ ⟨ρ', ys', xs', [b, B, dD, N], hS5.frM fr6 (.one ((ex5 gv (some_ne gv1)).trans rg)), n2, ⟨_, _, _, _, _, hb6⟩, extT ex1 ex5 (alive F fun a m => by
          have z : a = b := by simpa using m
          rw [z]; exact some_ne hb1), ?_, ?_⟩
        · exact after_fr hB0 hS F f5 fr6 g00
        · exact after_aw hS
end
end M14
set_option Elab.async false
set_option linter.all false
set_option maxRecDepth 100000
set_option maxHeartbeats 4000000
namespace M14
open PySem PySem.Spec PyProof.Rows L2

section
variable {P : Program} {w : World} {K : PySem.W.Frag} {mg : Str → Option Value} {base : Heap}
set_option hygiene false
local macro_rules | `(tactic| tm_at "sc") => `(tactic| (first | omega | (simp only [List.length_cons, List.length_nil, List.length_map, List.length_set, List.length_append]; omega) | (simp only [List.length_map] at h1 ⊢; omega) | (simp only [List.length_map] at c ⊢; omega) | with_reducible assumption | exact And.intro (by omega) (by omega) | exact Or.inl (And.intro (by omega) (by omega)) | exact Or.inr (And.intro (by omega) (by omega)) | decide +kernel | exact len1000 (by simp) | rfl | fail "no way"))
local macro_rules | `(tactic| tm_at "sc1") => `(tactic| (focus (simp; done)))
local macro_rules | `(tactic| tm_at "ne") => `(tactic| (first | assumption | exact Ne.symm (by assumption) | (apply Box.ne2; assumption; tm_at "hp") | (apply Ne.symm; apply Box.ne2; assumption; tm_at "hp") | (apply ne_of_none2; assumption; tm_at "hp") | (apply Ne.symm; apply ne_of_none2; assumption; tm_at "hp") | fail "no way"))
local macro_rules | `(tactic| tm_at "f0") => `(tactic| (first | assumption | (apply Fr.new; assumption) | fail "no way"))
local macro_rules | `(tactic| tm_at "hp") => `(tactic| (first | assumption | exact upd_same | (apply SqL.of; first | assumption | exact upd_same) | (apply Fr.at0; tm_at "f0"; tm_at "hp") | (apply Fr.at1n; assumption; tm_at "ne"; tm_at "hp") | (apply sqFr0; tm_at "f0"; tm_at "hp") | (apply sqFr1; assumption; tm_at "ne"; tm_at "hp") | (apply Box.fr0; tm_at "f0"; tm_at "hp") | (apply Box.fr1; assumption; tm_at "ne"; tm_at "hp") | (apply Den.fr; tm_at "f0"; tm_at "hp") | (apply Dens.fr; tm_at "f0"; tm_at "hp") | fail "no way"))
local macro_rules | `(tactic| tm_at "free0") => `(tactic| (first | assumption | (apply updFree; assumption) | (apply updFree; apply updFree; assumption) | (apply updFree; apply updFree; apply updFree; assumption) | (apply updFree; apply updFree; apply updFree; apply updFree; assumption) | fail "no way"))
local macro_rules | `(tactic| tm_at "free") => `(tactic| (first | tm_at "free0" | (apply Fr.free; assumption; tm_at "free0") | (apply Box.free; assumption; tm_at "fr"; tm_at "free0") | (apply Fr.free; assumption; apply Fr.free; assumption; tm_at "free0") | fail "no way"))
local macro_rules | `(tactic| tm_at "fr") => `(tactic| (first | assumption | exact Fr.refl0 _ | exact Fr.refl (Box.nt (by assumption)) | (refine Fr.comp0 ?_ (by tm_at "f0"); tm_at "fr") | (refine Fr.comp ?_ (by assumption); tm_at "fr") | (refine Fr.compN ?_ (by assumption) (by tm_at "free"); tm_at "fr") | fail "no way"))
local macro_rules | `(tactic| tm_at "call") => `(tactic| fail "no call")
local macro_rules | `(tactic| tm_at "call") => `(tactic| (apply take_step; tm_at "hp"; tm_at "sc"; tm_at "sc"; intro r H1 h0 h1 hB fr))
local macro_rules | `(tactic| tm_at "ty") => `(tactic| (first | assumption | exact .base .non | exact .base (.bl _) | exact .base (.int _) | exact .base (.str _) | (apply TyX.base; apply TyOf.lst; tm_at "hp") | (apply TyX.base; apply TyOf.tup; tm_at "hp") | fail "no way"))
local macro_rules | `(tactic| tm_at "pre") => `(tactic| fail "none")
local macro_rules | `(tactic| tm_at "go1") => `(tactic| (first | tm_at "pre" | refine ⟨_, rfl, ?_⟩ | refine ⟨_, _, rfl, rfl, ?_⟩ | (apply set_step; tm_at "hp"; tm_at "sc"; tm_at "sc"; intro H1 hp fr) | (with_reducible refine iteDI ?_ ?_ <;> intro c) | (with_reducible refine iteDS ?_ ?_ <;> intro c) | (with_reducible refine iteD ?_ ?_ <;> intro c) | (with_reducible refine iteEM ?_ ?_ <;> intro c) | (with_reducible refine iteE ?_ ?_ <;> intro c) | with_reducible refine iteN ?_ | with_reducible refine iteF ?_ | with_reducible refine iteT ?_ | (refine fun (p : Addr) (np : _ = (none : Option HO)) => ?_; fail_if_success (refine ⟨fun (_ _ : Nat) (_ : Hp) => True, ?_⟩)) | (apply isi_tt; tm_at "ty"; focus (decide +kernel)) | (apply isi_ff; tm_at "ty"; focus (decide +kernel)) | (apply sl_step; tm_at "hp"; intro qq H1 ms nq hq fr) | (apply sum_step; tm_at "hp"; intro i) | (apply tru_step; tm_at "hp") | (apply len_step; tm_at "hp") | (apply lenq_step; assumption) | (apply ixq_step; assumption; tm_at "sc"; tm_at "sc"; intro v hv) | (apply lst_step; tm_at "hp") | (apply tupl_step; tm_at "hp") | (apply ixr_step; tm_at "hp"; exact rfl) | (apply ix0_step; tm_at "hp") | (apply ix1_step; tm_at "hp") | (apply ix2_step; tm_at "hp") | (apply ixi_step; tm_at "hp"; tm_at "sc"; tm_at "sc"; intro n hn hn') | (apply ixl_step; tm_at "hp"; tm_at "sc"; tm_at "sc"; intro v hv) | (apply ixt_step; tm_at "hp"; tm_at "sc"; tm_at "sc"; intro v hm hv) | (apply in_step; tm_at "hp"; rfl; rfl) | (apply cat_step; tm_at "hp"; tm_at "hp"; tm_at "sc") | (apply catT_step; tm_at "hp"; tm_at "hp"; tm_at "sc1") | (apply tyL_and; tm_at "hp") | (apply app_step; tm_at "hp"; tm_at "sc"; intro H1 hp fr) | tm_at "call" | refine ⟨⟨_, rfl⟩, ?_⟩ | (apply ixs_step; tm_at "sc"; tm_at "sc"; tm_at "sc"; intro ch) | refine .inl ⟨_, rfl, ?_⟩ | refine .inr ⟨_, rfl, ?_⟩ | (apply And.intro; tm_at "sc") | (with_reducible refine wayB ?_ ?_ <;> intro c) | fail "no way"))
local macro_rules | `(tactic| tm_at "go") => `(tactic| (repeat tm_at "go1"))
local macro_rules | `(tactic| tm_at "goo") => `(tactic| (repeat' tm_at "go1"))
local macro_rules | `(tactic| tm_at "den") => `(tactic| (first | assumption | exact Den.str _ | exact Den.int _ | exact Den.bl _ | exact Den.non | (apply Den.tups; tm_at "hp"; tm_at "dens") | (apply Den.fr; tm_at "f0"; tm_at "den") | fail "no way"))
local macro_rules | `(tactic| tm_at "dens") => `(tactic| (first | assumption | exact Dens.nil | (apply Dens.cons; tm_at "den"; tm_at "dens") | (apply Dens.fr; tm_at "f0"; tm_at "dens") | fail "no way"))
local macro_rules | `(tactic| tm_at "ix") => `(tactic| (apply Ix.mk; tm_at "hp"; tm_at "ne"; assumption; assumption))
local macro_rules | `(tactic| tm_at "dep") => `(tactic| (first | assumption | exact Dep.int | exact Dep.str | exact Dep.bl | exact Dep.non | (apply Dep.tup; tm_at "dlen"; tm_at "deps") | (apply Dep.mono; assumption; decide) | fail "no way"))
local macro_rules | `(tactic| tm_at "deps") => `(tactic| (first | assumption | exact memN | (apply memC; tm_at "dep"; tm_at "deps") | fail "no way"))
local macro_rules | `(tactic| tm_at "dlen") => `(tactic| (first | assumption | (focus (simp; done)) | omega | fail "no way"))

local macro_rules | `(tactic| tm_at "call") => `(tactic| (apply word_step; tm_at "hp"; intro v H1 hv hB fr))
local macro_rules | `(tactic| tm_at "call") => `(tactic| (apply name_step; tm_at "hp"; intro v H1 hv hB fr))
local macro_rules | `(tactic| tm_at "call") => `(tactic| (apply plain_step; tm_at "hp"; intro v H1 t hd he hB fr))
local macro_rules | `(tactic| tm_at "call") => `(tactic| (apply entry_step; tm_at "hp"; tm_at "ix"; tm_at "ix"; intro v H1 t hd he hB fr))
local macro_rules | `(tactic| tm_at "call") => `(tactic| (apply kinds_step; intro p H1 np hp fr))
local macro_rules | `(tactic| tm_at "call") => `(tactic| (apply kind_step; tm_at "hp"; intro v H1 hv hB fr))
local macro_rules | `(tactic| tm_at "call") => `(tactic| (apply marks_step; intro m))
local macro_rules | `(tactic| tm_at "pre") => `(tactic| (apply strInt_step; tm_at "sc"; intro s hs))
local macro_rules | `(tactic| tm_at "pre") => `(tactic| (apply addS_step; tm_at "sc"; intro s hs))

local macro_rules | `(tactic| tm_at "lk") => `(tactic| (first | with_reducible exact lookup_eq | ((with_reducible apply lookup_ne); (focus (decide +kernel)); tm_at "lk") | assumption | rfl | fail "no way"))
local macro_rules | `(tactic| tm_at "pf") => `(tactic| (first | with_reducible exact putF_nil | with_reducible exact putF_eq | ((with_reducible apply putF_ne); (focus (decide +kernel)); tm_at "pf") | fail "no way"))
local macro_rules | `(tactic| tm_at "fl") => `(tactic| (first | assumption | focus (simp only [List.length_cons, List.length_nil]; omega) | focus (simp only [List.length_cons, List.length_nil]; done) | focus (decide) | focus (simp; done) | focus (simp; omega) | fail "no way"))
local macro_rules | `(tactic| tm_at "pre") => `(tactic| (apply fld_step; tm_at "hp"; assumption; assumption; tm_at "lk"))
local macro_rules | `(tactic| tm_at "pre") => `(tactic| (apply putf_step; tm_at "hp"; assumption; assumption; tm_at "fl"; tm_at "pf"; intro H1 hp fr))
local macro_rules | `(tactic| tm_at "pre") => `(tactic| (apply aug_step; tm_at "hp"; assumption; assumption; tm_at "lk"))
local macro_rules | `(tactic| tm_at "pre") => `(tactic| (apply put2_step; tm_at "hp"; tm_at "fl"; tm_at "pf"; intro H1 hp fr))
local macro_rules | `(tactic| tm_at "pre") => `(tactic| (apply dget_step; tm_at "hp"; tm_at "lk"))
local macro_rules | `(tactic| tm_at "pre") => `(tactic| (apply dput_step; tm_at "hp"; (focus (omega)); intro H1 hp fr))
local macro_rules | `(tactic| tm_at "pre") => `(tactic| (apply mth_step; tm_at "hp"; tm_at "lk"))
local macro_rules | `(tactic| tm_at "pre") => `(tactic| (apply lenD_step; tm_at "hp"))
local macro_rules | `(tactic| tm_at "pre") => `(tactic| (apply addI_step))
local macro_rules | `(tactic| tm_at "pre") => `(tactic| (apply newD_step; intro dn H1 nd hp fr))
local macro_rules | `(tactic| tm_at "fr2") => `(tactic| (first | assumption | (apply Fr.appMb; assumption; (focus (simp; done)); tm_at "fr2") | (apply Fr.app0b; tm_at "f0"; tm_at "fr2") | (apply Fr.appNb; assumption; tm_at "free"; tm_at "fr2") | fail "no way"))
local macro_rules | `(tactic| tm_at "ne") => `(tactic| (apply ne_role; assumption; assumption; (focus (decide))))

local macro_rules | `(tactic| tm_at "nda") => `(tactic| (first | assumption | (apply NdA.of0; tm_at "f0"; tm_at "nda") | (apply NdA.of1; assumption; assumption; tm_at "nda") | fail "no way"))
local macro_rules | `(tactic| tm_at "pre") => `(tactic| (apply nd_step; tm_at "nda"; tm_at "sc"; tm_at "sc"; intro xn hxn hnd hrow))
local macro_rules | `(tactic| tm_at "pre") => `(tactic| (apply tabix_step; tm_at "hp"; tm_at "sc"; tm_at "sc"))
local macro_rules | `(tactic| tm_at "call") => `(tactic| (apply table_step; (focus (first | omega | (simp only [List.length_map]; omega))); intro tb H1 ntb htb fr))
local macro_rules | `(tactic| tm_at "call") => `(tactic| (apply errors_step; tm_at "nda"; intro er H1 es ner her les ies fr))
/-- the places of one that may be set -/
def Holds (xs : List Nd) (h : Int) : Prop := 0 ≤ h ∧ ∃ x, xs[h.toNat]? = some x ∧ freeL x.kd x.rs.length ≠ []
@[irreducible] def spLSet (K : PySem.W.Frag) (CT C : Addr) (step : Int) (tlf : Addr → Nat → List (Str × V)) : Sp := fun vs H Q _ => ∃ (ρ : Role) (s : Nat) (R b B D N Lh : Addr) (ys : List Th) (xs : List Nd) (hs : List Int), vs = [.ref b, .ref B, .ref N, .int step, .ref Lh] ∧ Box H b ∧ ρ b = none ∧ Side K ρ s step CT C (tlf R ys.length) H B D N ys xs ∧ xs.length ≤ 900 ∧
  H Lh = some (.lst (hs.map V.int)) ∧ Lh ≠ b ∧ 0 < hs.length ∧ hs.length ≤ 1000 ∧ (∀ h ∈ hs, Holds xs h) ∧ ∀ H', After K ρ s step CT C tlf R b B D N (xs.length + 2) H H' → Q (.bl true) H'
abbrev s_set : Stmt := top 34
theorem sc_set : FnScope ["_law_box_here", "_law_bank", "_law_nodes", "_law_step", "_law_holders", "_law_pool", "_law_k", "_law_node", "_law_places", "_law_at", "_law_entry_here", "_law_row", "_law_table_here"] ["_law_box_here", "_law_bank", "_law_nodes", "_law_step", "_law_holders"] (defScope s_set) := ⟨rfl, rfl, rfl, by decide +kernel, rfl, by decide +kernel, by decide +kernel⟩

theorem ok_lset {C CT : Addr} {step : Int} {tlf : Addr → Nat → List (Str × V)} (T : Bl mg) (BC : BankC P w K mg base C CT step tlf) 
    (G_table : Cal P w K mg base 1 "_law_table" ["_law_many", "_law_step"] spTable) (G_errors : Cal P w K mg base 1 "_law_errors" ["_law_nodes"] (spErrors K)) (G_take : CTake P w K mg base) (G_free : Cal P w K mg base 1 "_law_free" ["_law_node"] (spFree K))
    (G_entry : CEntry P w K mg base) (G_marks : Cal P w K mg base 1 "_law_marks" ["_law_kind_here"] spMarks) (G_moved : Cal P w K mg base 2 "_law_moved" ["_law_entry_here", "_law_table_here"] (spMov K))
    (D : Def1 K mg "_law_set" s_set) : Cal P w K mg base 8 "_law_set" ["_law_box_here", "_law_bank", "_law_nodes", "_law_step", "_law_holders"] (spLSet K CT C step tlf) := by
  refine D.cal sc_set (fun _ _ _ _ _ _ us hl => match us, hl with | [_, _, _, _, _], _ => rfl) (fun vs H Q E h => ?_) (fun f cdv A outer s H vs Q E hr h => ?_) <;> unfold spLSet at h
  · obtain ⟨ρ, sd, R, b, B, dD, N, Lh, ys, xs, hs, rfl, _⟩ := h
    rfl
  · obtain ⟨ρ, sd, R, b, B, dD, N, Lh, ys, xs, hs, rfl, hB0, rb, hS, hx, hL, nLb, l0, l1, hh, q⟩ := h
    have M_set_slot := BC.set_slot
    have hN := hS.nd
    have hN0 := hN.at_
    refine ⟨_, (pss_cons (ps_setLc (i := 5) (own := [("_law_k", 6)]) (g := gName 6) (by rfl) sc_set.nd rfl rfl (sw_true rfl rfl rfl (by decide +kernel)) (pi_range1 (by rfl) T.z_range (pa_cons (pe_callB (cLen K) (by rfl) T.z_len (by decide +kernel) (pa_cons (pv 2) pa_nil)) pa_nil)) (blkOk_by (own := [("_law_k", 6)]) (N := [("_law_box_here" : Str), ("_law_bank" : Str), ("_law_nodes" : Str), ("_law_step" : Str), ("_law_holders" : Str), ("_law_pool" : Str), ("_law_k" : Str), ("_law_node" : Str), ("_law_places" : Str), ("_law_at" : Str), ("_law_entry_here" : Str), ("_law_row" : Str), ("_law_table_here" : Str)]) (sc := defScope s_set) (by decide +kernel)) (fun _ _ _ _ _ => pg_name (i := 6) sc_set.nd rfl (Or.inl rfl)) (fun _ _ _ _ _ => pts_nil) (fun _ _ _ _ _ => (pv 6)))
    (pss_cons (ps_set (i := 7) sc_set.nd rfl (Or.inl rfl) (pe_ix (ixL K) (pv 4) (pe_cal G_take (hr.mono (by omega)) (by rfl) (pa_cons (pv 0) (pa_cons (pe_callB (cLen K) (by rfl) T.z_len (by decide +kernel) (pa_cons (pv 4) pa_nil)) pa_nil))) (fun _ _ => rfl)))
    (pss_cons (ps_set (i := 8) sc_set.nd rfl (Or.inl rfl) (pe_cal G_free (hr.mono (by omega)) (by rfl) (pa_cons (pe_ix (ixL K) (pv 2) (pv 7) (fun _ _ => rfl)) pa_nil)))
    (pss_cons (ps_set (i := 9) sc_set.nd rfl (Or.inl rfl) (pe_ix (ixL K) (pv 8) (pe_cal G_take (hr.mono (by omega)) (by rfl) (pa_cons (pv 0) (pa_cons (pe_callB (cLen K) (by rfl) T.z_len (by decide +kernel) (pa_cons (pv 8) pa_nil)) pa_nil))) (fun _ _ => rfl)))
    (pss_cons (ps_set (i := 10) sc_set.nd rfl (Or.inl rfl) (pe_cal G_entry (hr.mono (by omega)) (by rfl) (pa_cons (pv 0) (pa_cons (pv 5) (pa_cons (pe_cal G_errors (hr.mono (by omega)) (by rfl) (pa_cons (pv 2) pa_nil)) (pa_cons (pe_cal G_marks (hr.mono (by omega)) (by rfl) (pa_cons (pe_ix (ixL K) (pe_ix (ixL K) (pv 2) (pv 7) (fun _ _ => rfl)) pe_int (fun _ _ => rfl)) pa_nil)) pa_nil))))))
    (pss_cons (ps_set (i := 11) sc_set.nd rfl (Or.inl rfl) (pe_ix (ixL K) (pe_ix (ixL K) (pv 2) (pv 7) (fun _ _ => rfl)) pe_int (fun _ _ => rfl)))
    (pss_cons (ps_asg (pv 10) (pg_sub (pv 11) (pv 9) setL))
    (pss_cons (ps_set (i := 12) sc_set.nd rfl (Or.inl rfl) (pe_cal G_table (hr.mono (by omega)) (by rfl) (pa_cons (pe_callB (cLen K) (by rfl) T.z_len (by decide +kernel) (pa_cons (pv 2) pa_nil)) (pa_cons (pv 3) pa_nil))))
    (pss_one (ps_ret (pe_cmpR op_isN (pe_mcalx (pv 1) M_set_slot (hr.mono (by omega)) (pa_cons (pe_tup (pa_cons pe_str (pa_cons (pe_ix (ixL K) (pv 12) (pv 7) (fun _ _ => rfl)) pa_nil))) (pa_cons (pv 9) (pa_cons (pe_cal G_moved (hr.mono (by omega)) (by rfl) (pa_cons (pv 10) (pa_cons (pv 12) pa_nil))) pa_nil)))) pe_non (nomark _)))))))))))), ?_⟩
    tm_at "goo"
    refine lcR (fun _ => true) (fun _ i y => y = .int (0 + (i : Int))) (Cg.nil _) stab_v (by simp; omega) (fun i H hi hS f => tyes_ok trivial (fun _ h => nomatch h)) (fun i H2 hi _ hS f R kk => ?_) (fun pl H2 ps npl hpl m _ fr => ?_)
    · tm_at "goo"
      exact kk _ _ trivial (by tm_at "fr") rfl
    · rw [keptN_all] at m
      rw [m.ints, show ((((xs.map fun x => V.ref x.nd).length : Nat) : Int)).toNat = xs.length by simp] at hpl
      have npb := hB0.ne npl
      tm_at "goo"
      obtain ⟨n0, x, ex, fx⟩ := hh n hn
      have n1 : n < xs.length := by
        have := (List.getElem?_eq_some_iff.mp ex).1
        omega
      tm_at "goo"
      rw [ex] at hxn
      cases hxn
      obtain ⟨rd, ro, rv, rt', lrow⟩ := hN.ok _ x ex
      have rN := hN.rN
      have rrow := (hN.row _ x ex).2
      have rB := hS.bk.rB
      have nBb : B ≠ b := fun e => by rw [e, rb] at rB; cases rB
      have nNb : N ≠ b := fun e => by rw [e, rb] at rN; cases rN
      have nrb : x.row ≠ b := fun e => by rw [e, rb] at rrow; cases rrow
      have nNr : N ≠ x.row := ne_role rN rrow (by decide)
      have nBr : B ≠ x.row := ne_role rB rrow (by decide)
      obtain ⟨dx, gr, hBk⟩ := hS.bk.at_
      have km : (tlf R ys.length).lookup ("set_slot" : Str) = none := hS.bk.tll.nom _ (by decide +kernel)
      refine free_step hnd hrow lrow fun fl H3 nfl hfl frf => ?_
      have lf : 0 < (freeL x.kd x.rs.length).length := List.length_pos_iff.mpr fx
      have lf1 : (freeL x.kd x.rs.length).length ≤ 1000 := Nat.le_trans freeL_len (by omega)
      have fin : ∀ e ∈ freeL x.kd x.rs.length, 0 ≤ e ∧ e < x.rs.length := fun e m => freeL_lt m
      generalize freeL x.kd x.rs.length = fs at *
      obtain ⟨z, hz⟩ : ∃ z : Nat, (z : Int) = n := ⟨n.toNat, by omega⟩
      subst hz
      have hNx := hN
      simp only [Int.toNat_natCast] at ex rrow
      tm_at "goo"
      rw [Int.toNat_natCast, ex] at hxn
      cases hxn
      obtain ⟨i0, i1⟩ := fin n hn
      refine entry_step (n := xs.length) (by tm_at "hp") (pool_ix (by tm_at "hp") (by tm_at "ne") (by omega)) ⟨.of (by tm_at "hp"), by tm_at "ne", by omega, ies⟩ fun v H4 t hd he hB fr => ?_
      tm_at "goo"
      rw [Int.toNat_natCast, ex] at hxn
      cases hxn
      have hR4 : H4 x.row = some (.lst x.rs) := by tm_at "hp"
      have F04 : Fr [b] H H4 := by tm_at "fr"
      refine set_step hR4 i0 i1 fun H5 hR5 f5 => ?_
      have hS4 := hS.frM F04 (.one rb)
      have hN5 : NdA K ρ sd xs.length H5 N _ := hS4.nd.set ex f5 hR5 (hd.fr f5) he
      have hb5 := hS4.bk.frN f5 (awOne (p := fun i => i ≠ 0 ∧ i ≠ 1 ∧ i ≠ 5 ∧ i ≠ 6) rrow (by decide))
      have hB5 : Box H5 b := Box.fr1 f5 nrb.symm (by assumption)
      have hd5 := hd.fr f5
      have hN50 : H5 N = some (.lst (xs.map fun x => V.ref x.nd)) := f5.at1n nNr hS4.nd.at_
      obtain ⟨dx5, gr5, hBk5⟩ := hb5.at_
      tm_at "goo"
      simp only [List.length_map] at htb
      refine mov_step (n := xs.length) (step := step) (by tm_at "hp") (by tm_at "hp") he fun v' H6 f6 hd6 => ?_
      tm_at "goo"
      have ly : z < ys.length := by have := hS.len; omega
      have ey : ys[z]? = some ys[z] := List.getElem?_eq_getElem ly
      generalize ys[z] = y at ey
      obtain ⟨q1, q2, q3⟩ := hS.rel z y x ey ex
      have lss : y.ss.length = x.rs.length := by
        rw [(hS.bk.ok z y ey).1.1, q3, List.length_map, rd.1]
      have f56 : Fr [] H5 H6 := (fr.tr (Fr.new np)).tr f6
      have hp6 := f6.at0 (upd_same (a := p))
      refine setslot_step (hb5.of0 f56) hp6 ey i0 (by omega) hd6 (movT_dep he) fun H7 hb7 f7 => ?_
      refine ⟨rfl, fin_bl (decide_eq_true rfl) (q _ ?_)⟩
      have rsl := (hS.bk.sl z y ey).2
      have hn7 := (hN5.fr0 f56).frN f7 (awOne (p := fun i => i ≠ 2 ∧ i ≠ 3 ∧ i ≠ 4) rsl (by decide))
      have hB6 : Box H6 b := hB5.fr0 f56
      have nslb : y.sl ≠ b := fun e => by rw [e, rb] at rsl; cases rsl
      have hS7 := Side.set hb7 hn7 hS.len hS.rel ey ex
      refine ⟨ρ, _, _, [b, x.row, y.sl], by rw [List.length_set]; exact hS7, by rw [List.length_set]; omega, hB6.fr1 f7 nslb.symm, Ext.refl, ?_, fun a m => ?_⟩
      · refine (((F04.to (fun a m => .inl (by simp at m; rw [m]; simp)) fun a m zs e => ?_).app f5 fun a m => .inl (by simp at m; rw [m]; simp)).tr f56).app f7 fun a m => .inl (by simp at m; rw [m]; simp)
        simp only [List.mem_cons, List.not_mem_nil, or_false] at m
        rcases m with rfl | rfl | rfl
        · exact hB0.nt _ (by simp) zs e
        · rw [(hN.row _ x ex).1] at e; cases e
        · rw [(hS.bk.sl z y ey).1] at e; cases e
      · simp only [List.mem_cons, List.not_mem_nil, or_false] at m
        rcases m with rfl | rfl | rfl
        · exact .inl rfl
        · exact .inr ⟨_, _, rrow⟩
        · exact .inr ⟨_, _, rsl⟩
end
end M14
set_option Elab.async false
set_option linter.all false
set_option maxRecDepth 100000
set_option maxHeartbeats 4000000
namespace M14
open PySem PySem.Spec PyProof.Rows L2

/-- between the parts of a change -/
structure CMd (K : PySem.W.Frag) (ρ : Role) (s : Nat) (step : Int) (CT C : Addr) (tlf : Addr → Nat → List (Str × V)) (R b B D N tb : Addr) (xs : List Nd) (H : Hp) (f gv l : Addr) (tg : V) (tgT : T) (es gs : List V) (ts : List T) (ρ' : Role) (ys' : List Th) (xs' : List Nd) (M : List Addr) (H' : Hp) : Prop where
  ft : H' f = some (.tup [tg, .ref l])
  fl : H' l = some (.lst es)
  rl : ρ' l = none
  de : Dens K H' es ts
  ok : ∀ t ∈ ts, EntOk xs.length t
  le : es.length ≤ 200
  dt : Den K H' tg tgT
  dp : Dep 3 tgT
  gl : H' gv = some (.lst gs)
  rg : ρ' gv = none
  g0 : H gv = none
  dg : Dens K H' gs (ts.map (movT (gT step)))
  tl : H' tb = some (.lst ((tab step xs.length).map V.int))
  rt : ρ' tb = none
  sd : Side K ρ' s step CT C (tlf R ys'.length) H' B D N ys' xs'
  ln : xs'.length = xs.length
  kd : ∀ (i : Nat) (x' : Nd), xs'[i]? = some x' → ∃ x, xs[i]? = some x ∧ x'.kd = x.kd
  bx : Box H' b
  rb : ρ' b = none
  ex : Ext H ρ ρ'
  fr : Fr M H H'
  aw : ∀ a ∈ M, a = b ∨ ∃ i j, ρ a = some (s, i, j)
  al : ∀ a, H a ≠ none → H' a ≠ none
@[irreducible] def CMid (K : PySem.W.Frag) (ρ : Role) (s : Nat) (step : Int) (CT C : Addr) (tlf : Addr → Nat → List (Str × V)) (R b B D N tb : Addr) (xs : List Nd) (H : Hp) (σ : Addr → Addr → L2.St) (σ' : L2.St) (H' : Hp) : Prop :=
  ∃ (f gv l : Addr) (tg : V) (tgT : T) (es gs : List V) (ts : List T) (ρ' : Role) (ys' : List Th) (xs' : List Nd) (M : List Addr), σ' = σ f gv ∧ CMd K ρ s step CT C tlf R b B D N tb xs H f gv l tg tgT es gs ts ρ' ys' xs' M H'
section
variable {K : PySem.W.Frag} {ρ : Role} {s : Nat} {step : Int} {CT C : Addr} {tlf : Addr → Nat → List (Str × V)} {R b B D N tb : Addr} {xs : List Nd} {H : Hp} {f gv l : Addr} {tg : V} {tgT : T} {es gs : List V} {ts : List T} {ρ' : Role} {ys' : List Th} {xs' : List Nd} {M : List Addr} {H' : Hp}
theorem CMid.of {σ : Addr → Addr → L2.St} {σ' : L2.St} (e : σ' = σ f gv) (h : CMd K ρ s step CT C tlf R b B D N tb xs H f gv l tg tgT es gs ts ρ' ys' xs' M H') : CMid K ρ s step CT C tlf R b B D N tb xs H σ σ' H' := by
  unfold CMid; exact ⟨f, gv, l, tg, tgT, es, gs, ts, ρ', ys', xs', M, e, h⟩
/-- behind the drawing -/
theorem CMd.start {ys : List Th} (hB0 : Box H b) (hS : Side K ρ s step CT C (tlf R ys.length) H B D N ys xs) (rb : ρ b = none) (F : Fr [b] H H') (hB : Box H' b) (l0 : H l = none) (g0 : H gv = none) (t0 : H tb = none) (ft : H' f = some (.tup [tg, .ref l])) (fl : H' l = some (.lst es))
    (de : Dens K H' es ts) (ok : ∀ t ∈ ts, EntOk xs.length t) (le : es.length ≤ 200) (dt : Den K H' tg tgT) (dp : Dep 3 tgT) (gl : H' gv = some (.lst gs)) (dg : Dens K H' gs (ts.map (movT (gT step)))) (tl : H' tb = some (.lst ((tab step xs.length).map V.int))) :
    CMd K ρ s step CT C tlf R b B D N tb xs H f gv l tg tgT es gs ts (hide ρ [l, gv, tb]) ys xs [b] H' := by
  have ex1 : Ext H ρ (hide ρ [l, gv, tb]) := hide_ext fun a m => by
    simp only [List.mem_cons, List.not_mem_nil, or_false] at m
    rcases m with rfl | rfl | rfl <;> assumption
  have rb1 : hide ρ [l, gv, tb] b = none := by
    unfold hide
    split
    · rfl
    · exact rb
  refine ⟨ft, fl, hide_at (by simp), de, ok, le, dt, dp, gl, hide_at (by simp), g0, dg, tl, hide_at (by simp), (hS.ext ex1).frM F (.one rb1), rfl, fun i x' e => ⟨x', e, rfl⟩, hB, rb1, ex1, F, fun a m => .inl (by simpa using m), alive F fun a m => ?_⟩
  have z : a = b := by simpa using m
  obtain ⟨o, q⟩ := hB.has
  rw [z]; exact some_ne q
/-- one object changed in the bank and among the nodes -/
theorem CMd.turn {k : Nat} {y : Th} {kd : Str} {Hv H2 H3 : Hp} {ρ2 : Role} {sl a c : Addr} {x : Nd} (m : CMd K ρ s step CT C tlf R b B D N tb xs H f gv l tg tgT es gs ts ρ' ys' xs' M H') (hy : ys'[k]? = some y) (hx : xs'[k]? = some x) (ek : x.kd = kd)
    (hb : BkA K ρ2 s step CT C (tlf R ys'.length) H2 B D (ys'.set k { y with tv := tg, tg := tgT, sl := sl, ss := gs, us := ts.map (movT (gT step)) })) (e : Ext Hv ρ' ρ2) (fv : Fr [] H' Hv) (f2 : Fr [B, y.th] Hv H2)
    (qa : H2 a = none) (qc : H2 c = none) (nac : a ≠ c) (fN : Fr [N] H2 H3) (hN : H3 N = some (.lst ((xs'.map fun x => V.ref x.nd).set k (.ref a)))) (ea : H3 a = some (.lst [.str kd, tg, .ref c])) (ec : H3 c = some (.lst es)) :
    ∃ M', CMd K ρ s step CT C tlf R b B D N tb xs H f gv l tg tgT es gs ts (role2 ρ2 s k a c) (ys'.set k { y with tv := tg, tg := tgT, sl := sl, ss := gs, us := ts.map (movT (gT step)) }) (xs'.set k ⟨a, c, kd, tg, tgT, es, ts⟩) M' H3 := by
  have hk := (List.getElem?_eq_some_iff.mp hx).1
  obtain ⟨⟨dt, ht⟩, rth⟩ := m.sd.bk.th k y hy
  have rB := m.sd.bk.rB
  have rN := m.sd.nd.rN
  obtain ⟨dxB, grB, hB⟩ := m.sd.bk.at_
  have hvB := fv.at0 hB
  have hvt := fv.at0 ht
  have hvN := fv.at0 m.sd.nd.at_
  -- what is owned by none stays
  have st : ∀ {q : Addr} {o : HO}, H' q = some o → ρ' q = none → H3 q = some o ∧ role2 ρ2 s k a c q = none := fun {q o} hq rq => by
    have hv := fv.at0 hq
    have h2 := f2.kp _ _ hv fun z => by
      simp only [List.mem_cons, List.not_mem_nil, or_false] at z
      rcases z with rfl | rfl
      · rw [rB] at rq; cases rq
      · rw [rth] at rq; cases rq
    refine ⟨fN.kp _ _ h2 fun z => ?_, ?_⟩
    · have z := List.mem_singleton.mp z
      rw [z, rN] at rq; cases rq
    · rw [role2_ext qa qc q (some_ne h2), e q (some_ne hv)]
      exact rq
  have hN2 : NdA K ρ2 s xs'.length H2 N xs' := ((m.sd.nd.fr0 fv).ext e).frN f2 (awTwo (p := fun i => i ≠ 2 ∧ i ≠ 3 ∧ i ≠ 4) (by rw [e _ (some_ne hvB)]; exact rB) (by rw [e _ (some_ne hvt)]; exact rth) (by decide) (by decide))
  have ky : y.kd = kd := by rw [(m.sd.rel k y x hy hx).1, ek]
  have F3 : Fr [B, y.th, N] H' H3 := by
    refine (((Fr.refl fun q z zs e => ?_).app fv fun x z => nomatch z).app f2 fun x z => .inl (by simp at z; rcases z with rfl | rfl <;> simp)).app fN fun x z => .inl (by simp at z; rw [z]; simp)
    simp only [List.mem_cons, List.not_mem_nil, or_false] at z
    rcases z with rfl | rfl | rfl
    · rw [hB] at e; cases e
    · rw [ht] at e; cases e
    · rw [m.sd.nd.at_] at e; cases e
  have al2 : ∀ q, Hv q ≠ none → H2 q ≠ none := alive f2 fun q z => by
    simp only [List.mem_cons, List.not_mem_nil, or_false] at z
    have hkk := (List.getElem?_eq_some_iff.mp hy).1
    rcases z with rfl | rfl
    · obtain ⟨_, _, z⟩ := hb.at_
      exact some_ne z
    · obtain ⟨⟨_, z⟩, _⟩ := hb.th k _ (List.getElem?_set_self hkk)
      exact some_ne z
  have alv : ∀ q, H' q ≠ none → Hv q ≠ none := fun q n => by
    cases z : H' q with
    | none => exact absurd z n
    | some o => rw [fv.at0 z]; exact fun z => nomatch z
  obtain ⟨st1, st2⟩ := st m.fl m.rl
  obtain ⟨st3, st4⟩ := st m.gl m.rg
  obtain ⟨st5, st6⟩ := st m.tl m.rt
  obtain ⟨i0, i1, i2, i3, i4, hbx⟩ := m.bx
  obtain ⟨st7, st8⟩ := st hbx m.rb
  have al3 : ∀ q, H q ≠ none → H3 q ≠ none := fun q n => alive fN (fun q z => by
    rw [List.mem_singleton.mp z, hN]; exact fun z => nomatch z) q (al2 q (alv q (m.al q n)))
  have ex3 : Ext H ρ (role2 ρ2 s k a c) := fun q n => by
    have n1 := alv q (m.al q n)
    rw [role2_ext qa qc q (al2 q n1), e q n1, m.ex q n]
  have rl : ∀ q ∈ [B, y.th, N], ∃ i j, ρ' q = some (s, i, j) := fun q z => by
    simp only [List.mem_cons, List.not_mem_nil, or_false] at z
    rcases z with rfl | rfl | rfl
    · exact ⟨_, _, rB⟩
    · exact ⟨_, _, rth⟩
    · exact ⟨_, _, rN⟩
  have F4 : Fr (M ++ [B, y.th, N].filter fun q => (H q).isSome) H H3 := by
    refine ((m.fr.to (fun x z => .inl (List.mem_append_left _ z)) fun q z zs e => ?_).app F3 fun x z => ?_)
    · rcases List.mem_append.mp z with z | z
      · exact m.fr.nt q z zs e
      · exact F3.nt q (List.mem_filter.mp z).1 zs (m.fr.tup e)
    · cases e : H x with
      | none => exact .inr rfl
      | some o => exact .inl (List.mem_append_right _ (List.mem_filter.mpr ⟨z, by rw [e]; rfl⟩))
  refine ⟨_, F3.tup m.ft, st1, st2, m.de.fr F3, m.ok, m.le, m.dt.fr F3, m.dp, st3, st4, m.g0, m.dg.fr F3, st5, st6, ?_, by rw [List.length_set]; exact m.ln, fun i x' ei => ?_, ⟨_, _, _, _, _, st7⟩, st8, ex3, F4, fun q z => ?_, al3⟩
  · rw [List.length_set]
    exact Side.put hb hN2 m.sd.len m.sd.rel hk ky qa qc nac hN ea ec fN (m.de.fr F3) (by rw [m.ln]; exact m.ok) (m.dt.fr F3) m.dp m.le
  · by_cases q : k = i
    · subst q
      rw [List.getElem?_set_self hk] at ei
      cases ei
      obtain ⟨x0, e0, e1⟩ := m.kd k x hx
      exact ⟨x0, e0, by rw [← e1, ek]⟩
    · rw [List.getElem?_set_ne q] at ei
      exact m.kd i x' ei
  · rcases List.mem_append.mp z with z | z
    · exact m.aw q z
    · obtain ⟨z, n⟩ := List.mem_filter.mp z
      obtain ⟨i, j, r⟩ := rl q z
      exact .inr ⟨i, j, by rw [← m.ex q fun e => by rw [e] at n; cases n]; exact r⟩
end
section
variable {P : Program} {w : World} {K : PySem.W.Frag} {mg : Str → Option Value} {base : Heap}
set_option hygiene false
local macro_rules | `(tactic| tm_at "sc") => `(tactic| (first | omega | (simp only [List.length_cons, List.length_nil, List.length_map, List.length_set, List.length_append]; omega) | (simp only [List.length_map] at h1 ⊢; omega) | (simp only [List.length_map] at c ⊢; omega) | with_reducible assumption | exact And.intro (by omega) (by omega) | exact Or.inl (And.intro (by omega) (by omega)) | exact Or.inr (And.intro (by omega) (by omega)) | decide +kernel | exact len1000 (by simp) | rfl | fail "no way"))
local macro_rules | `(tactic| tm_at "sc1") => `(tactic| (focus (simp; done)))
local macro_rules | `(tactic| tm_at "ne") => `(tactic| (first | assumption | exact Ne.symm (by assumption) | (apply Box.ne2; assumption; tm_at "hp") | (apply Ne.symm; apply Box.ne2; assumption; tm_at "hp") | (apply ne_of_none2; assumption; tm_at "hp") | (apply Ne.symm; apply ne_of_none2; assumption; tm_at "hp") | fail "no way"))
local macro_rules | `(tactic| tm_at "f0") => `(tactic| (first | assumption | (apply Fr.new; assumption) | fail "no way"))
local macro_rules | `(tactic| tm_at "hp") => `(tactic| (first | assumption | exact upd_same | (apply SqL.of; first | assumption | exact upd_same) | (apply Fr.at0; tm_at "f0"; tm_at "hp") | (apply Fr.at1n; assumption; tm_at "ne"; tm_at "hp") | (apply sqFr0; tm_at "f0"; tm_at "hp") | (apply sqFr1; assumption; tm_at "ne"; tm_at "hp") | (apply Box.fr0; tm_at "f0"; tm_at "hp") | (apply Box.fr1; assumption; tm_at "ne"; tm_at "hp") | (apply Den.fr; tm_at "f0"; tm_at "hp") | (apply Dens.fr; tm_at "f0"; tm_at "hp") | fail "no way"))
local macro_rules | `(tactic| tm_at "free0") => `(tactic| (first | assumption | (apply updFree; assumption) | (apply updFree; apply updFree; assumption) | (apply updFree; apply updFree; apply updFree; assumption) | (apply updFree; apply updFree; apply updFree; apply updFree; assumption) | fail "no way"))
local macro_rules | `(tactic| tm_at "free") => `(tactic| (first | tm_at "free0" | (apply Fr.free; assumption; tm_at "free0") | (apply Box.free; assumption; tm_at "fr"; tm_at "free0") | (apply Fr.free; assumption; apply Fr.free; assumption; tm_at "free0") | fail "no way"))
local macro_rules | `(tactic| tm_at "fr") => `(tactic| (first | assumption | exact Fr.refl0 _ | exact Fr.refl (Box.nt (by assumption)) | (refine Fr.comp0 ?_ (by tm_at "f0"); tm_at "fr") | (refine Fr.comp ?_ (by assumption); tm_at "fr") | (refine Fr.compN ?_ (by assumption) (by tm_at "free"); tm_at "fr") | fail "no way"))
local macro_rules | `(tactic| tm_at "call") => `(tactic| fail "no call")
local macro_rules | `(tactic| tm_at "call") => `(tactic| (apply take_step; tm_at "hp"; tm_at "sc"; tm_at "sc"; intro r H1 h0 h1 hB fr))
local macro_rules | `(tactic| tm_at "ty") => `(tactic| (first | assumption | exact .base .non | exact .base (.bl _) | exact .base (.int _) | exact .base (.str _) | (apply TyX.base; apply TyOf.lst; tm_at "hp") | (apply TyX.base; apply TyOf.tup; tm_at "hp") | fail "no way"))
local macro_rules | `(tactic| tm_at "pre") => `(tactic| fail "none")
local macro_rules | `(tactic| tm_at "go1") => `(tactic| (first | tm_at "pre" | refine ⟨_, rfl, ?_⟩ | refine ⟨_, _, rfl, rfl, ?_⟩ | (apply set_step; tm_at "hp"; tm_at "sc"; tm_at "sc"; intro H1 hp fr) | (with_reducible refine iteDI ?_ ?_ <;> intro c) | (with_reducible refine iteDS ?_ ?_ <;> intro c) | (with_reducible refine iteD ?_ ?_ <;> intro c) | (with_reducible refine iteEM ?_ ?_ <;> intro c) | (with_reducible refine iteE ?_ ?_ <;> intro c) | with_reducible refine iteN ?_ | with_reducible refine iteF ?_ | with_reducible refine iteT ?_ | (refine fun (p : Addr) (np : _ = (none : Option HO)) => ?_; fail_if_success (refine ⟨fun (_ _ : Nat) (_ : Hp) => True, ?_⟩)) | (apply isi_tt; tm_at "ty"; focus (decide +kernel)) | (apply isi_ff; tm_at "ty"; focus (decide +kernel)) | (apply sl_step; tm_at "hp"; intro qq H1 ms nq hq fr) | (apply sum_step; tm_at "hp"; intro i) | (apply tru_step; tm_at "hp") | (apply len_step; tm_at "hp") | (apply lenq_step; assumption) | (apply ixq_step; assumption; tm_at "sc"; tm_at "sc"; intro v hv) | (apply lst_step; tm_at "hp") | (apply tupl_step; tm_at "hp") | (apply ixr_step; tm_at "hp"; exact rfl) | (apply ix0_step; tm_at "hp") | (apply ix1_step; tm_at "hp") | (apply ix2_step; tm_at "hp") | (apply ixi_step; tm_at "hp"; tm_at "sc"; tm_at "sc"; intro n hn hn') | (apply ixl_step; tm_at "hp"; tm_at "sc"; tm_at "sc"; intro v hv) | (apply ixt_step; tm_at "hp"; tm_at "sc"; tm_at "sc"; intro v hm hv) | (apply in_step; tm_at "hp"; rfl; rfl) | (apply cat_step; tm_at "hp"; tm_at "hp"; tm_at "sc") | (apply catT_step; tm_at "hp"; tm_at "hp"; tm_at "sc1") | (apply tyL_and; tm_at "hp") | (apply app_step; tm_at "hp"; tm_at "sc"; intro H1 hp fr) | tm_at "call" | refine ⟨⟨_, rfl⟩, ?_⟩ | (apply ixs_step; tm_at "sc"; tm_at "sc"; tm_at "sc"; intro ch) | refine .inl ⟨_, rfl, ?_⟩ | refine .inr ⟨_, rfl, ?_⟩ | (apply And.intro; tm_at "sc") | (with_reducible refine wayB ?_ ?_ <;> intro c) | fail "no way"))
local macro_rules | `(tactic| tm_at "go") => `(tactic| (repeat tm_at "go1"))
local macro_rules | `(tactic| tm_at "goo") => `(tactic| (repeat' tm_at "go1"))
local macro_rules | `(tactic| tm_at "den") => `(tactic| (first | assumption | exact Den.str _ | exact Den.int _ | exact Den.bl _ | exact Den.non | (apply Den.tups; tm_at "hp"; tm_at "dens") | (apply Den.fr; tm_at "f0"; tm_at "den") | fail "no way"))
local macro_rules | `(tactic| tm_at "dens") => `(tactic| (first | assumption | exact Dens.nil | (apply Dens.cons; tm_at "den"; tm_at "dens") | (apply Dens.fr; tm_at "f0"; tm_at "dens") | fail "no way"))
local macro_rules | `(tactic| tm_at "ix") => `(tactic| (apply Ix.mk; tm_at "hp"; tm_at "ne"; assumption; assumption))
local macro_rules | `(tactic| tm_at "dep") => `(tactic| (first | assumption | exact Dep.int | exact Dep.str | exact Dep.bl | exact Dep.non | (apply Dep.tup; tm_at "dlen"; tm_at "deps") | (apply Dep.mono; assumption; decide) | fail "no way"))
local macro_rules | `(tactic| tm_at "deps") => `(tactic| (first | assumption | exact memN | (apply memC; tm_at "dep"; tm_at "deps") | fail "no way"))
local macro_rules | `(tactic| tm_at "dlen") => `(tactic| (first | assumption | (focus (simp; done)) | omega | fail "no way"))

local macro_rules | `(tactic| tm_at "call") => `(tactic| (apply word_step; tm_at "hp"; intro v H1 hv hB fr))
local macro_rules | `(tactic| tm_at "call") => `(tactic| (apply name_step; tm_at "hp"; intro v H1 hv hB fr))
local macro_rules | `(tactic| tm_at "call") => `(tactic| (apply plain_step; tm_at "hp"; intro v H1 t hd he hB fr))
local macro_rules | `(tactic| tm_at "call") => `(tactic| (apply entry_step; tm_at "hp"; tm_at "ix"; tm_at "ix"; intro v H1 t hd he hB fr))
local macro_rules | `(tactic| tm_at "call") => `(tactic| (apply kinds_step; intro p H1 np hp fr))
local macro_rules | `(tactic| tm_at "call") => `(tactic| (apply kind_step; tm_at "hp"; intro v H1 hv hB fr))
local macro_rules | `(tactic| tm_at "call") => `(tactic| (apply marks_step; intro m))
local macro_rules | `(tactic| tm_at "pre") => `(tactic| (apply strInt_step; tm_at "sc"; intro s hs))
local macro_rules | `(tactic| tm_at "pre") => `(tactic| (apply addS_step; tm_at "sc"; intro s hs))

local macro_rules | `(tactic| tm_at "lk") => `(tactic| (first | with_reducible exact lookup_eq | ((with_reducible apply lookup_ne); (focus (decide +kernel)); tm_at "lk") | assumption | rfl | fail "no way"))
local macro_rules | `(tactic| tm_at "pf") => `(tactic| (first | with_reducible exact putF_nil | with_reducible exact putF_eq | ((with_reducible apply putF_ne); (focus (decide +kernel)); tm_at "pf") | fail "no way"))
local macro_rules | `(tactic| tm_at "fl") => `(tactic| (first | assumption | focus (simp only [List.length_cons, List.length_nil]; omega) | focus (simp only [List.length_cons, List.length_nil]; done) | focus (decide) | focus (simp; done) | focus (simp; omega) | fail "no way"))
local macro_rules | `(tactic| tm_at "pre") => `(tactic| (apply fld_step; tm_at "hp"; assumption; assumption; tm_at "lk"))
local macro_rules | `(tactic| tm_at "pre") => `(tactic| (apply putf_step; tm_at "hp"; assumption; assumption; tm_at "fl"; tm_at "pf"; intro H1 hp fr))
local macro_rules | `(tactic| tm_at "pre") => `(tactic| (apply aug_step; tm_at "hp"; assumption; assumption; tm_at "lk"))
local macro_rules | `(tactic| tm_at "pre") => `(tactic| (apply put2_step; tm_at "hp"; tm_at "fl"; tm_at "pf"; intro H1 hp fr))
local macro_rules | `(tactic| tm_at "pre") => `(tactic| (apply dget_step; tm_at "hp"; tm_at "lk"))
local macro_rules | `(tactic| tm_at "pre") => `(tactic| (apply dput_step; tm_at "hp"; (focus (omega)); intro H1 hp fr))
local macro_rules | `(tactic| tm_at "pre") => `(tactic| (apply mth_step; tm_at "hp"; tm_at "lk"))
local macro_rules | `(tactic| tm_at "pre") => `(tactic| (apply lenD_step; tm_at "hp"))
local macro_rules | `(tactic| tm_at "pre") => `(tactic| (apply addI_step))
local macro_rules | `(tactic| tm_at "pre") => `(tactic| (apply newD_step; intro dn H1 nd hp fr))
local macro_rules | `(tactic| tm_at "fr2") => `(tactic| (first | assumption | (apply Fr.appMb; assumption; (focus (simp; done)); tm_at "fr2") | (apply Fr.app0b; tm_at "f0"; tm_at "fr2") | (apply Fr.appNb; assumption; tm_at "free"; tm_at "fr2") | fail "no way"))
local macro_rules | `(tactic| tm_at "ne") => `(tactic| (apply ne_role; assumption; assumption; (focus (decide))))

local macro_rules | `(tactic| tm_at "nda") => `(tactic| (first | assumption | (apply NdA.of0; tm_at "f0"; tm_at "nda") | (apply NdA.of1; assumption; assumption; tm_at "nda") | fail "no way"))
local macro_rules | `(tactic| tm_at "pre") => `(tactic| (apply nd_step; tm_at "nda"; tm_at "sc"; tm_at "sc"; intro xn hxn hnd hrow))
local macro_rules | `(tactic| tm_at "pre") => `(tactic| (apply tabix_step; tm_at "hp"; tm_at "sc"; tm_at "sc"))
local macro_rules | `(tactic| tm_at "call") => `(tactic| (apply table_step; (focus (first | omega | (simp only [List.length_map]; omega))); intro tb H1 ntb htb fr))
local macro_rules | `(tactic| tm_at "call") => `(tactic| (apply errors_step; tm_at "nda"; intro er H1 es ner her les ies fr))
theorem int_at {n i : Nat} {x : V} (h : (((List.range n).map fun i : Nat => (0 : Int) + (i : Int)).map V.int)[i]? = some x) : x = .int (0 + (i : Int)) ∧ i < n := by
  have hi := (List.getElem?_eq_some_iff.mp h).1
  have hi' : i < n := by simpa using hi
  rw [List.getElem?_map, List.getElem?_map, List.getElem?_range hi'] at h
  exact ⟨(Option.some.inj h).symm, hi'⟩
theorem isK_self {xs : List Nd} {x : Nd} {k : Nat} (h : xs[k]? = some x) : isK xs x.kd k = true := by
  unfold isK
  rw [h]
  exact decide_eq_true rfl
theorem isK_inv {xs : List Nd} {kd : Str} {k : Nat} (h : isK xs kd k = true) : ∃ x, xs[k]? = some x ∧ x.kd = kd := by
  unfold isK at h
  have h := of_decide_eq_true h
  cases e : xs[k]? with
  | none => rw [e] at h; cases h
  | some x =>
    rw [e] at h
    exact ⟨x, rfl, Option.some.inj h⟩
theorem kept_mem {f : Nat → Bool} {n i : Nat} (h : i < n) (q : f i = true) : i ∈ keptN f n := by
  unfold keptN
  exact List.mem_filter.mpr ⟨List.mem_range.mpr h, q⟩
@[irreducible] def spLChange (K : PySem.W.Frag) (CT C : Addr) (step : Int) (tlf : Addr → Nat → List (Str × V)) : Sp := fun vs H Q _ => ∃ (ρ : Role) (s : Nat) (R b B D N : Addr) (ys : List Th) (xs : List Nd), vs = [.ref b, .ref B, .ref N, .int step] ∧ Box H b ∧ ρ b = none ∧ Side K ρ s step CT C (tlf R ys.length) H B D N ys xs ∧ xs.length ≤ 900 ∧ 0 < xs.length ∧
  ∀ H', After K ρ s step CT C tlf R b B D N (xs.length + 2) H H' → Q (.bl true) H'
abbrev s_change : Stmt := top 35
theorem sc_change : FnScope ["_law_box_here", "_law_bank", "_law_nodes", "_law_step", "_law_pool", "_law_k", "_law_node", "_law_kind_here", "_law_alike", "_law_other", "_law_table_here", "_law_way", "_law_form_here", "_law_given"] ["_law_box_here", "_law_bank", "_law_nodes", "_law_step"] (defScope s_change) := ⟨rfl, rfl, rfl, by decide +kernel, rfl, by decide +kernel, by decide +kernel⟩

theorem ok_lchange {C CT : Addr} {step : Int} {tlf : Addr → Nat → List (Str × V)} (T : Bl mg) (BC : BankC P w K mg base C CT step tlf) (G_spoil : Cal P w K mg base 5 "_law_spoil" ["_law_row", "_law_due"] (spSpoil K))
    (G_table : Cal P w K mg base 1 "_law_table" ["_law_many", "_law_step"] spTable) (G_sent : Cal P w K mg base 3 "_law_sent" ["_law_entries", "_law_table_here"] (spSent K)) (G_errors : Cal P w K mg base 1 "_law_errors" ["_law_nodes"] (spErrors K)) (G_take : CTake P w K mg base)
    (G_form : Cal P w K mg base 7 "_law_form" ["_law_box_here", "_law_kind_here", "_law_pool", "_law_errors_here"] (spForm K)) 
    (D : Def1 K mg "_law_change" s_change) : Cal P w K mg base 8 "_law_change" ["_law_box_here", "_law_bank", "_law_nodes", "_law_step"] (spLChange K CT C step tlf) := by
  refine D.cal sc_change (fun _ _ _ _ _ _ us hl => match us, hl with | [_, _, _, _], _ => rfl) (fun vs H Q E h => ?_) (fun f cdv A outer s H vs Q E hr h => ?_) <;> unfold spLChange at h
  · obtain ⟨ρ, sd, R, b, B, dD, N, ys, xs, rfl, _⟩ := h
    rfl
  · obtain ⟨ρ, sd, R, b, B, dD, N, ys, xs, rfl, hB0, rb, hS, hx, hx0, q⟩ := h
    have M_change := BC.change
    have M_slots_of := BC.slots_of
    have hN := hS.nd
    have hN0 := hN.at_
    have rN := hN.rN
    have rB := hS.bk.rB
    have nBb : B ≠ b := fun e => by rw [e, rb] at rB; cases rB
    have nNb : N ≠ b := fun e => by rw [e, rb] at rN; cases rN
    obtain ⟨dx, gr, hBk⟩ := hS.bk.at_
    have km : (tlf R ys.length).lookup ("slots_of" : Str) = none := hS.bk.tll.nom _ (by decide +kernel)
    have km2 : (tlf R ys.length).lookup ("change" : Str) = none := hS.bk.tll.nom _ (by decide +kernel)
    refine ⟨_, (pss_cons (ps_setLc (i := 4) (own := [("_law_k", 5)]) (g := gName 5) (by rfl) sc_change.nd rfl rfl (sw_true rfl rfl rfl (by decide +kernel)) (pi_range1 (by rfl) T.z_range (pa_cons (pe_callB (cLen K) (by rfl) T.z_len (by decide +kernel) (pa_cons (pv 2) pa_nil)) pa_nil)) (blkOk_by (own := [("_law_k", 5)]) (N := [("_law_box_here" : Str), ("_law_bank" : Str), ("_law_nodes" : Str), ("_law_step" : Str), ("_law_pool" : Str), ("_law_k" : Str), ("_law_node" : Str), ("_law_kind_here" : Str), ("_law_alike" : Str), ("_law_other" : Str), ("_law_table_here" : Str), ("_law_way" : Str), ("_law_form_here" : Str), ("_law_given" : Str)]) (sc := defScope s_change) (by decide +kernel)) (fun _ _ _ _ _ => pg_name (i := 5) sc_change.nd rfl (Or.inl rfl)) (fun _ _ _ _ _ => pts_nil) (fun _ _ _ _ _ => (pv 5)))
    (pss_cons (ps_set (i := 6) sc_change.nd rfl (Or.inl rfl) (pe_cal G_take (hr.mono (by omega)) (by rfl) (pa_cons (pv 0) (pa_cons (pe_callB (cLen K) (by rfl) T.z_len (by decide +kernel) (pa_cons (pv 2) pa_nil)) pa_nil))))
    (pss_cons (ps_set (i := 7) sc_change.nd rfl (Or.inr rfl) (pe_ix (ixL K) (pe_ix (ixL K) (pv 2) (pv 6) (fun _ _ => rfl)) pe_int (fun _ _ => rfl)))
    (pss_cons (ps_setLc (i := 8) (own := [("_law_k", 5)]) (g := gName 5) (by rfl) sc_change.nd rfl rfl (sw_true rfl rfl rfl (by decide +kernel)) (pi_list (pv 4)) (blkOk_by (own := [("_law_k", 5)]) (N := [("_law_box_here" : Str), ("_law_bank" : Str), ("_law_nodes" : Str), ("_law_step" : Str), ("_law_pool" : Str), ("_law_k" : Str), ("_law_node" : Str), ("_law_kind_here" : Str), ("_law_alike" : Str), ("_law_other" : Str), ("_law_table_here" : Str), ("_law_way" : Str), ("_law_form_here" : Str), ("_law_given" : Str)]) (sc := defScope s_change) (by decide +kernel)) (fun _ _ _ _ _ => pg_name (i := 5) sc_change.nd rfl (Or.inl rfl)) (fun _ _ _ _ _ => (pts_one (pt_cmpR op_eq (pe_ix (ixL K) (pe_ix (ixL K) (pv 2) (pv 5) (fun _ _ => rfl)) pe_int (fun _ _ => rfl)) (pv 7) (nomark _)))) (fun _ _ _ _ _ => (pv 5)))
    (pss_cons (ps_set (i := 9) sc_change.nd rfl (Or.inl rfl) (pe_ix (ixL K) (pv 8) (pe_cal G_take (hr.mono (by omega)) (by rfl) (pa_cons (pv 0) (pa_cons (pe_callB (cLen K) (by rfl) T.z_len (by decide +kernel) (pa_cons (pv 8) pa_nil)) pa_nil))) (fun _ _ => rfl)))
    (pss_cons (ps_set (i := 10) sc_change.nd rfl (Or.inl rfl) (pe_cal G_table (hr.mono (by omega)) (by rfl) (pa_cons (pe_callB (cLen K) (by rfl) T.z_len (by decide +kernel) (pa_cons (pv 2) pa_nil)) (pa_cons (pv 3) pa_nil))))
    (pss_cons (ps_set (i := 11) sc_change.nd rfl (Or.inl rfl) (pe_cal G_take (hr.mono (by omega)) (by rfl) (pa_cons (pv 0) (pa_cons pe_int pa_nil))))
    (Evl.pss_cut (ps_if (pt_cmpR op_eq (pv 11) pe_int (nomark _))
      (pss_cons (ps_set (i := 12) sc_change.nd rfl (Or.inl rfl) (pe_tup (pa_cons (pe_ix (ixL K) (pe_ix (ixL K) (pv 2) (pv 6) (fun _ _ => rfl)) pe_int (fun _ _ => rfl)) (pa_cons (pe_callTy (cList K) (by rfl) T.z_list (by decide +kernel) (pa_cons (pe_ix (ixL K) (pe_ix (ixL K) (pv 2) (pv 6) (fun _ _ => rfl)) pe_int (fun _ _ => rfl)) pa_nil)) pa_nil))))
      (pss_one (ps_set (i := 13) sc_change.nd rfl (Or.inl rfl) (pe_mcalx (pv 1) M_slots_of (hr.mono (by omega)) (pa_cons (pe_tup (pa_cons pe_str (pa_cons (pe_ix (ixL K) (pv 10) (pv 6) (fun _ _ => rfl)) pa_nil))) pa_nil)))))
      (pss_cons (ps_set (i := 12) sc_change.nd rfl (Or.inl rfl) (pe_cal G_form (hr.mono (by omega)) (by rfl) (pa_cons (pv 0) (pa_cons (pv 7) (pa_cons (pv 4) (pa_cons (pe_cal G_errors (hr.mono (by omega)) (by rfl) (pa_cons (pv 2) pa_nil)) pa_nil))))))
      (pss_cons (ps_set (i := 13) sc_change.nd rfl (Or.inl rfl) (pe_cal G_sent (hr.mono (by omega)) (by rfl) (pa_cons (pe_ix (ixT K) (pv 12) pe_int (fun _ _ => rfl)) (pa_cons (pv 10) pa_nil))))
      (pss_cons (ps_if (pt_cmpR op_notN (pe_mcalx (pv 1) M_change (hr.mono (by omega)) (pa_cons (pe_tup (pa_cons pe_str (pa_cons (pe_ix (ixL K) (pv 10) (pv 6) (fun _ _ => rfl)) pa_nil))) (pa_cons (pe_ix (ixT K) (pv 12) pe_int (fun _ _ => rfl)) (pa_cons (pv 13) pa_nil)))) pe_non (nomark _))
        (pss_one (ps_ret pe_bl))
        pss_nil)
      (pss_one (ps_asg (pe_lst (pa_cons (pv 7) (pa_cons (pe_ix (ixT K) (pv 12) pe_int (fun _ _ => rfl)) (pa_cons (pe_callTy (cList K) (by rfl) T.z_list (by decide +kernel) (pa_cons (pe_ix (ixT K) (pv 12) pe_int (fun _ _ => rfl)) pa_nil)) pa_nil)))) (pg_sub (pv 2) (pv 6) setL)))))))
    (Evl.pss_cut (ps_if (pt_cmpR op_lt (pv 11) pe_int (nomark _))
      (pss_cons (ps_if (pt_cmpR op_notN (pe_mcalx (pv 1) M_change (hr.mono (by omega)) (pa_cons (pe_tup (pa_cons pe_str (pa_cons (pe_ix (ixL K) (pv 10) (pv 9) (fun _ _ => rfl)) pa_nil))) (pa_cons (pe_ix (ixT K) (pv 12) pe_int (fun _ _ => rfl)) (pa_cons (pv 13) pa_nil)))) pe_non (nomark _))
        (pss_one (ps_ret pe_bl))
        pss_nil)
      (pss_one (ps_asg (pe_lst (pa_cons (pv 7) (pa_cons (pe_ix (ixT K) (pv 12) pe_int (fun _ _ => rfl)) (pa_cons (pe_callTy (cList K) (by rfl) T.z_list (by decide +kernel) (pa_cons (pe_ix (ixT K) (pv 12) pe_int (fun _ _ => rfl)) pa_nil)) pa_nil)))) (pg_sub (pv 2) (pv 9) setL))))
      pss_nil)
    (pss_one (ps_ret (pe_cal G_spoil (hr.mono (by omega)) (by rfl) (pa_cons (pv 13) (pa_cons (pe_cal G_sent (hr.mono (by omega)) (by rfl) (pa_cons (pe_ix (ixT K) (pv 12) pe_int (fun _ _ => rfl)) (pa_cons (pv 10) pa_nil))) pa_nil)))))))))))))), ?_⟩
    tm_at "goo"
    refine lcR (fun _ => true) (fun _ i y => y = .int (0 + (i : Int))) (Cg.nil _) stab_v (by simp; omega) (fun i H hi hS f => tyes_ok trivial (fun _ h => nomatch h)) (fun i H2 hi _ hS f R kk => ?_) (fun pl H2 ps npl hpl m _ fr => ?_)
    · tm_at "goo"
      exact kk _ _ trivial (by tm_at "fr") rfl
    · rw [keptN_all] at m
      rw [m.ints, show ((((xs.map fun x => V.ref x.nd).length : Nat) : Int)).toNat = xs.length by simp] at hpl
      have npb := hB0.ne npl
      tm_at "goo"
      obtain ⟨k0, hk0⟩ : ∃ k0 : Nat, (k0 : Int) = r := ⟨r.toNat, by omega⟩
      subst hk0
      rw [Int.toNat_natCast] at hxn
      have hpl1 : H1 pl = some (.lst (((List.range xs.length).map fun i : Nat => (0 : Int) + (i : Int)).map V.int)) := by tm_at "hp"
      refine ⟨⟨_, SqL.of hpl1⟩, ?_⟩
      have hN1 : NdA K ρ sd xs.length H1 N xs := by tm_at "nda"
      refine lcL (isK xs xn.kd) (fun _ i y => y = .int (0 + (i : Int))) (Cg.nil _) stab_v (.of hpl1) (by simp) (by simp; omega) (fun i x H2 hi hS f R kk => ?_) (fun i x H2 hi _ hS f R kk => ?_) (fun al H2 as nal hal m2 _ fr => ?_)
      · obtain ⟨rfl, hi'⟩ := int_at hi
        have hN2 := hN1.fr0 f
        obtain ⟨x0, hx0⟩ : ∃ z, z = xn := ⟨xn, rfl⟩
        subst hx0
        tm_at "goo"
        rw [← isK_at hxn]
        exact kk _ trivial (by tm_at "fr")
      · obtain ⟨rfl, hi'⟩ := int_at hi
        tm_at "goo"
        exact kk _ _ trivial (by tm_at "fr") rfl
      · rw [m2.ints] at hal
        have hlen : ((((List.range xs.length).map fun i : Nat => (0 : Int) + (i : Int)).map V.int).length) = xs.length := by simp
        rw [hlen] at hal
        have hlk := (List.getElem?_eq_some_iff.mp hxn).1
        have mem0 : k0 ∈ keptN (isK xs xn.kd) xs.length := kept_mem hlk (isK_self hxn)
        have la0 : 0 < ((keptN (isK xs xn.kd) xs.length).map fun i : Nat => (0 : Int) + (i : Int)).length := by
          rw [List.length_map]; exact List.length_pos_of_mem mem0
        have la1 : ((keptN (isK xs xn.kd) xs.length).map fun i : Nat => (0 : Int) + (i : Int)).length ≤ 1000 := by
          rw [List.length_map]; exact Nat.le_trans (keptN_le _ _) (by omega)
        have lam : ∀ z ∈ (keptN (isK xs xn.kd) xs.length).map fun i : Nat => (0 : Int) + (i : Int), ∃ j : Nat, z = j ∧ ∃ x, xs[j]? = some x ∧ x.kd = xn.kd := fun z hz => by
          obtain ⟨j, hj, rfl⟩ := List.mem_map.mp hz
          exact ⟨j, by simp, isK_inv (kept_in hj).2⟩
        generalize (keptN (isK xs xn.kd) xs.length).map (fun i : Nat => (0 : Int) + (i : Int)) = als at *
        obtain ⟨x0, hx0⟩ : ∃ z, z = xn := ⟨xn, rfl⟩
        subst hx0
        have ex0 := hxn
        tm_at "goo"
        simp only [List.length_map] at htb
        have ntbb : tb ≠ b := Box.ne (by tm_at "hp") ntb
        have htb1 : H1 tb = some (.lst ((tab step xs.length).map V.int)) := by tm_at "hp"
        have hpl2 : H1 pl = some (.lst (((List.range xs.length).map fun i : Nat => (0 : Int) + (i : Int)).map V.int)) := by tm_at "hp"
        have tb0 : H tb = none := by
          refine Box.free (b := b) ?_ ?_ ntb
          · tm_at "hp"
          · tm_at "fr"
        have F0 : Fr [b] H H1 := by tm_at "fr"
        have hBa : Box H1 b := by assumption
        obtain ⟨Ha, hHa⟩ : ∃ z, z = H1 := ⟨_, rfl⟩
        subst hHa
        have hSa := hS.frM F0 (.one rb)
        obtain ⟨k2, rfl, x2, ex2, kx2⟩ := lam n hn
        refine ⟨CMid K ρ sd step CT C tlf R b B dD N tb xs H fun f gv => [some (.ref b), some (.ref B), some (.ref N), some (.int step), some (.ref pl), none, some (.int k0), some (.str x0.kd), some (.ref al), some (.int k2), some (.ref tb), some (.int r), some (.ref f), some (.ref gv)], ?_, ?_⟩
        · tm_at "goo"
          · rename_i xa hxa hna hra p1 np1 p2 np2
            rw [Int.toNat_natCast, ex0] at hxn hxa
            cases hxn; cases hxa
            have ly : k0 < ys.length := by have := hS.len; omega
            have ey : ys[k0]? = some ys[k0] := List.getElem?_eq_getElem ly
            generalize ys[k0] = y at ey
            have Fp := ((Fr.new (o := .lst x0.rs) np1).tr (Fr.new np2)).tr (Fr.new (o := .tup [refS, .int (gT step k0)]) np)
            obtain ⟨q1, q2, q3⟩ := hS.rel k0 y x0 ey ex0
            obtain ⟨o1, o2, o3, o4, o5⟩ := hN.ok k0 x0 ex0
            refine slotsof_step (hSa.bk.of0 Fp) upd_same ey fun l H4 nl hl f4 => ?_
            have Fa := (F0.tr Fp).tr f4
            refine CMid.of rfl (CMd.start (tgT := x0.tg) (ts := x0.ts) hB0 hS rb Fa ((hBa.fr0 Fp).fr0 f4) (hBa.free F0 np1) (hBa.free F0 (Fp.free nl)) tb0 (f4.at0 ((Fr.new np).at0 upd_same)) (f4.at0 ((Fr.new np).at0 ((Fr.new np2).at0 upd_same))) (o1.fr Fa) o2 o5 (o3.fr Fa) o4 hl ?_ (f4.at0 (Fp.at0 htb1)))
            have := (hS.bk.ok k0 y ey).1.fr Fa
            rw [q3] at this
            exact this
          · have b1 : Box H1 b := hBa.fr0 fr
            have neb : er ≠ b := hBa.ne ner
            refine form_step (n := xs.length) b1 (pool_ix (fr.at0 hpl2) npb (by omega)) ⟨.of her, neb, by omega, ies⟩ fun fm l tg es2 H3 hF hB3 fr3 => ?_
            obtain ⟨ft, fl, fnew, flen, ⟨fts, fden, fok⟩, ⟨ftg, ftd, ftp⟩⟩ := hF
            have htb3 := fr3.at1n ntbb (fr.at0 htb1)
            tm_at "goo"
            refine sent_step (xs := es2) (ts := fts) (step := step) (n := xs.length) (.of fl) (.of htb3) fden fok (by omega) fun gv H4 gs ngv hgv dgv frS => ?_
            have F3 := (F0.tr fr).trans fr3
            have m := CMd.start (f := fm) hB0 hS rb (F3.tr frS) (hB3.fr0 frS) (b1.free (F0.tr fr) fnew) (hB3.free F3 ngv) tb0 (frS.at0 ft) (frS.at0 fl) (fden.fr frS) fok flen (ftd.fr frS) ftp hgv dgv (frS.at0 htb3)
            generalize hide ρ [l, gv, tb] = ρ1 at m
            have ht4 := m.tl
            have ft4 := m.ft
            have fl4 := m.fl
            have hN4 := m.sd.nd
            have hN40 := hN4.at_
            obtain ⟨dx4, gr4, hB4⟩ := m.sd.bk.at_
            tm_at "goo"
            have rB4 := m.sd.bk.rB
            have rN4 := m.sd.nd.rN
            have lyk : k0 < ys.length := by
              have := m.sd.len
              have := (List.getElem?_eq_some_iff.mp ex0).1
              omega
            have eyk : ys[k0]? = some ys[k0] := List.getElem?_eq_getElem lyk
            generalize ys[k0] = yk at eyk
            obtain ⟨⟨dtk, htk⟩, rtk⟩ := m.sd.bk.th _ _ eyk
            have own : ∀ {a : Addr}, ρ1 a = none → a ∉ [B, yk.th] := fun e z => by
              simp only [List.mem_cons, List.not_mem_nil, or_false] at z
              rcases z with rfl | rfl
              · rw [rB4] at e; cases e
              · rw [rtk] at e; cases e
            have nNB : N ∉ [B, yk.th] := fun z => by
              simp only [List.mem_cons, List.not_mem_nil, or_false] at z
              rcases z with rfl | rfl
              · rw [rB4] at rN4; cases rN4
              · rw [rtk] at rN4; cases rN4
            have Fq := Fr.new (o := .tup [refS, .int (gT step k0)]) np
            have dpt : ∀ t ∈ fts.map (movT (gT step)), Dep 2 t := fun t z => by
              obtain ⟨t0, m0, rfl⟩ := List.mem_map.mp z
              exact movT_dep (m.ok t0 m0)
            have lgs : gs.length ≤ 200 := by
              have := m.dg.1
              have := m.de.1
              have := m.le
              simp at *
              omega
            refine change_step (m.sd.bk.of0 Fq) upd_same eyk (Fq.at0 m.gl) (m.dg.fr Fq) dpt (m.dt.fr Fq) m.dp lgs fun H5 ρ5 sl hb5 ex5 f5 => ?_
            have ft5 := f5.tup (Fq.at0 m.ft)
            have fl5 := f5.kp _ _ (Fq.at0 m.fl) (own m.rl)
            have hN5 := f5.kp _ _ (Fq.at0 m.sd.nd.at_) nNB
            clear htb1 hpl2
            tm_at "goo"
            rename_i pc npc
            have fN : Fr [N] H5 H1 := (((Fr.reflL hN5).tr (Fr.new npc)).tr (Fr.new np)).trans fr
            have qa : H5 p = none := updFree np
            have nac : p ≠ pc := (ne_of_none2 np upd_same).symm
            have ea : H1 p = some (.lst [.str x0.kd, tg, .ref pc]) := fr.at1n (ne_of_none2 qa hN5).symm upd_same
            have ec : H1 pc = some (.lst es2) := fr.at1n (ne_of_none2 npc hN5).symm (by rw [upd_ne nac.symm]; exact upd_same)
            rw [Int.toNat_natCast] at hp
            obtain ⟨M', m'⟩ := m.turn eyk ex0 rfl hb5 ex5 Fq f5 qa npc nac fN hp ea ec
            exact CMid.of rfl m'
        · intro σ' Hm hm
          unfold CMid at hm
          obtain ⟨fm, gv, l, tg, tgT, es2, gs, ts, ρ1, ys1, xs1, M, rfl, m⟩ := hm
          refine ⟨CMid K ρ sd step CT C tlf R b B dD N tb xs H fun f gv => [some (.ref b), some (.ref B), some (.ref N), some (.int step), some (.ref pl), none, some (.int k0), some (.str x0.kd), some (.ref al), some (.int k2), some (.ref tb), some (.int r), some (.ref f), some (.ref gv)], ?_, ?_⟩
          · have lx1 : k2 < xs1.length := by
              have := m.ln
              have := (List.getElem?_eq_some_iff.mp ex2).1
              omega
            have ex3 : xs1[k2]? = some xs1[k2] := List.getElem?_eq_getElem lx1
            generalize xs1[k2] = x3 at ex3
            have kx3 : x3.kd = x0.kd := by
              obtain ⟨z, e1, e2⟩ := m.kd k2 x3 ex3
              rw [ex2] at e1
              cases e1
              rw [e2, kx2]
            have ht4 := m.tl
            have ft4 := m.ft
            have fl4 := m.fl
            have hN4 := m.sd.nd
            have hN40 := hN4.at_
            obtain ⟨dx4, gr4, hB4⟩ := m.sd.bk.at_
            have km3 : (tlf R ys1.length).lookup ("change" : Str) = none := m.sd.bk.tll.nom _ (by decide +kernel)
            have hk2 : k2 < xs.length := (List.getElem?_eq_some_iff.mp ex2).1
            clear htb1 hpl2
            tm_at "goo"
            · have rB4 := m.sd.bk.rB
              have rN4 := m.sd.nd.rN
              have lyk : k2 < ys1.length := by
                have := m.sd.len
                have := (List.getElem?_eq_some_iff.mp ex3).1
                omega
              have eyk : ys1[k2]? = some ys1[k2] := List.getElem?_eq_getElem lyk
              generalize ys1[k2] = yk at eyk
              obtain ⟨⟨dtk, htk⟩, rtk⟩ := m.sd.bk.th _ _ eyk
              have own : ∀ {a : Addr}, ρ1 a = none → a ∉ [B, yk.th] := fun e z => by
                simp only [List.mem_cons, List.not_mem_nil, or_false] at z
                rcases z with rfl | rfl
                · rw [rB4] at e; cases e
                · rw [rtk] at e; cases e
              have nNB : N ∉ [B, yk.th] := fun z => by
                simp only [List.mem_cons, List.not_mem_nil, or_false] at z
                rcases z with rfl | rfl
                · rw [rB4] at rN4; cases rN4
                · rw [rtk] at rN4; cases rN4
              have Fq := Fr.new (o := .tup [refS, .int (gT step k2)]) np
              have dpt : ∀ t ∈ ts.map (movT (gT step)), Dep 2 t := fun t z => by
                obtain ⟨t0, m0, rfl⟩ := List.mem_map.mp z
                exact movT_dep (m.ok t0 m0)
              have lgs : gs.length ≤ 200 := by
                have := m.dg.1
                have := m.de.1
                have := m.le
                simp at *
                omega
              refine change_step (m.sd.bk.of0 Fq) upd_same eyk (Fq.at0 m.gl) (m.dg.fr Fq) dpt (m.dt.fr Fq) m.dp lgs fun H5 ρ5 sl hb5 ex5 f5 => ?_
              have ft5 := f5.tup (Fq.at0 m.ft)
              have fl5 := f5.kp _ _ (Fq.at0 m.fl) (own m.rl)
              have hN5 := f5.kp _ _ (Fq.at0 m.sd.nd.at_) nNB
              tm_at "goo"
              rename_i pc npc
              have fN : Fr [N] H5 H1 := (((Fr.reflL hN5).tr (Fr.new npc)).tr (Fr.new np)).trans fr
              have qa : H5 p = none := updFree np
              have nac : p ≠ pc := (ne_of_none2 np upd_same).symm
              have ea : H1 p = some (.lst [.str x0.kd, tg, .ref pc]) := fr.at1n (ne_of_none2 qa hN5).symm upd_same
              have ec : H1 pc = some (.lst es2) := fr.at1n (ne_of_none2 npc hN5).symm (by rw [upd_ne nac.symm]; exact upd_same)
              rw [Int.toNat_natCast] at hp
              obtain ⟨M', m'⟩ := m.turn eyk ex3 kx3 hb5 ex5 Fq f5 qa npc nac fN hp ea ec
              exact CMid.of rfl m'
            · exact CMid.of rfl m
          · clear m
            intro σ' H6 hm
            unfold CMid at hm
            obtain ⟨fm, gv, l, tg, tgT, es2, gs, ts, ρ1, ys1, xs1, M, rfl, m⟩ := hm
            have ht4 := m.tl
            have ft4 := m.ft
            have fl4 := m.fl
            clear htb1 hpl2
            tm_at "goo"
            refine sent_step (xs := es2) (ts := ts) (step := step) (n := xs.length) (.of m.fl) (.of m.tl) m.de m.ok (by have := m.le; omega) fun du H7 ds ndu hdu ddu f7 => ?_
            have dpt : ∀ t ∈ ts.map (movT (gT step)), Dep 2 t := fun t z => by
              obtain ⟨t0, m0, rfl⟩ := List.mem_map.mp z
              exact movT_dep (m.ok t0 m0)
            have lgs : gs.length ≤ 1000 := by
              have := m.dg.1
              have := m.de.1
              have := m.le
              simp at *
              omega
            refine spoil_step (f7.at0 m.gl) hdu (m.dg.fr f7) ddu lgs dpt fun H8 f8 => ?_
            have ngb : b ≠ gv := fun e => (by
              obtain ⟨o, z⟩ := hB0.has
              rw [e, m.g0] at z; cases z)
            exact q _ ⟨ρ1, ys1, xs1, M, (m.sd.of0 f7).frM f8 (.one m.rg), by rw [m.ln]; omega, (m.bx.fr0 f7).fr1 f8 ngb, m.ex, (m.fr.tr f7).compN f8 m.g0, m.aw⟩
end
end M14
set_option Elab.async false
set_option linter.all false
set_option maxRecDepth 100000
set_option maxHeartbeats 4000000
namespace M14
open PySem PySem.Spec PyProof.Rows L2

theorem After.pre {K : PySem.W.Frag} {ρ : Role} {s : Nat} {step : Int} {CT C : Addr} {tlf : Addr → Nat → List (Str × V)} {R b B D N : Addr} {m : Nat} {H H1 H' : Hp} (hB0 : Box H b) (hB1 : Box H1 b) (F : Fr [b] H H1) (h : After K ρ s step CT C tlf R b B D N m H1 H') : After K ρ s step CT C tlf R b B D N m H H' := by
  obtain ⟨ρ', ys', xs', M, h1, h2, h3, h4, h5, h6⟩ := h
  refine ⟨ρ', ys', xs', b :: M, h1, h2, h3, extT Ext.refl h4 (alive F fun a m => ?_), ((F.to (fun x m => .inl (by simp at m; rw [m]; simp)) fun a m zs e => ?_).app h5 fun x m => .inl (List.mem_cons_of_mem _ m)), fun a m => ?_⟩
  · have z : a = b := by simpa using m
    obtain ⟨o, q⟩ := hB1.has
    rw [z]; exact some_ne q
  · rcases List.mem_cons.mp m with rfl | m
    · exact hB0.nt _ (by simp) zs e
    · exact h5.nt a m zs (F.tup e)
  · rcases List.mem_cons.mp m with rfl | m
    · exact .inl rfl
    · exact h6 a m
def hasF (xs : List Nd) (i : Nat) : Bool := match xs[i]? with
  | some x => !(freeL x.kd x.rs.length).isEmpty
  | none => false
theorem hasF_at {xs : List Nd} {x : Nd} {i : Nat} (h : xs[i]? = some x) : hasF xs i = !(freeL x.kd x.rs.length).isEmpty := by unfold hasF; rw [h]
theorem hasF_inv {xs : List Nd} {i : Nat} (h : hasF xs i = true) : Holds xs (0 + (i : Int)) := by
  unfold hasF at h
  cases e : xs[i]? with
  | none => rw [e] at h; cases h
  | some x =>
    rw [e] at h
    refine ⟨by omega, x, by rw [show (0 + (i : Int)).toNat = i by omega]; exact e, fun z => ?_⟩
    have h : (!(freeL x.kd x.rs.length).isEmpty) = true := h
    rw [z] at h
    cases h
section
variable {P : Program} {w : World} {K : PySem.W.Frag} {mg : Str → Option Value} {base : Heap}
set_option hygiene false
local macro_rules | `(tactic| tm_at "sc") => `(tactic| (first | omega | (simp only [List.length_cons, List.length_nil, List.length_map, List.length_set, List.length_append]; omega) | (simp only [List.length_map] at h1 ⊢; omega) | (simp only [List.length_map] at c ⊢; omega) | with_reducible assumption | exact And.intro (by omega) (by omega) | exact Or.inl (And.intro (by omega) (by omega)) | exact Or.inr (And.intro (by omega) (by omega)) | decide +kernel | exact len1000 (by simp) | rfl | fail "no way"))
local macro_rules | `(tactic| tm_at "sc1") => `(tactic| (focus (simp; done)))
local macro_rules | `(tactic| tm_at "ne") => `(tactic| (first | assumption | exact Ne.symm (by assumption) | (apply Box.ne2; assumption; tm_at "hp") | (apply Ne.symm; apply Box.ne2; assumption; tm_at "hp") | (apply ne_of_none2; assumption; tm_at "hp") | (apply Ne.symm; apply ne_of_none2; assumption; tm_at "hp") | fail "no way"))
local macro_rules | `(tactic| tm_at "f0") => `(tactic| (first | assumption | (apply Fr.new; assumption) | fail "no way"))
local macro_rules | `(tactic| tm_at "hp") => `(tactic| (first | assumption | exact upd_same | (apply SqL.of; first | assumption | exact upd_same) | (apply Fr.at0; tm_at "f0"; tm_at "hp") | (apply Fr.at1n; assumption; tm_at "ne"; tm_at "hp") | (apply sqFr0; tm_at "f0"; tm_at "hp") | (apply sqFr1; assumption; tm_at "ne"; tm_at "hp") | (apply Box.fr0; tm_at "f0"; tm_at "hp") | (apply Box.fr1; assumption; tm_at "ne"; tm_at "hp") | (apply Den.fr; tm_at "f0"; tm_at "hp") | (apply Dens.fr; tm_at "f0"; tm_at "hp") | fail "no way"))
local macro_rules | `(tactic| tm_at "free0") => `(tactic| (first | assumption | (apply updFree; assumption) | (apply updFree; apply updFree; assumption) | (apply updFree; apply updFree; apply updFree; assumption) | (apply updFree; apply updFree; apply updFree; apply updFree; assumption) | fail "no way"))
local macro_rules | `(tactic| tm_at "free") => `(tactic| (first | tm_at "free0" | (apply Fr.free; assumption; tm_at "free0") | (apply Box.free; assumption; tm_at "fr"; tm_at "free0") | (apply Fr.free; assumption; apply Fr.free; assumption; tm_at "free0") | fail "no way"))
local macro_rules | `(tactic| tm_at "fr") => `(tactic| (first | assumption | exact Fr.refl0 _ | exact Fr.refl (Box.nt (by assumption)) | (refine Fr.comp0 ?_ (by tm_at "f0"); tm_at "fr") | (refine Fr.comp ?_ (by assumption); tm_at "fr") | (refine Fr.compN ?_ (by assumption) (by tm_at "free"); tm_at "fr") | fail "no way"))
local macro_rules | `(tactic| tm_at "call") => `(tactic| fail "no call")
local macro_rules | `(tactic| tm_at "call") => `(tactic| (apply take_step; tm_at "hp"; tm_at "sc"; tm_at "sc"; intro r H1 h0 h1 hB fr))
local macro_rules | `(tactic| tm_at "ty") => `(tactic| (first | assumption | exact .base .non | exact .base (.bl _) | exact .base (.int _) | exact .base (.str _) | (apply TyX.base; apply TyOf.lst; tm_at "hp") | (apply TyX.base; apply TyOf.tup; tm_at "hp") | fail "no way"))
local macro_rules | `(tactic| tm_at "pre") => `(tactic| fail "none")
local macro_rules | `(tactic| tm_at "go1") => `(tactic| (first | tm_at "pre" | refine ⟨_, rfl, ?_⟩ | refine ⟨_, _, rfl, rfl, ?_⟩ | (apply set_step; tm_at "hp"; tm_at "sc"; tm_at "sc"; intro H1 hp fr) | (with_reducible refine iteDI ?_ ?_ <;> intro c) | (with_reducible refine iteDS ?_ ?_ <;> intro c) | (with_reducible refine iteD ?_ ?_ <;> intro c) | (with_reducible refine iteEM ?_ ?_ <;> intro c) | (with_reducible refine iteE ?_ ?_ <;> intro c) | with_reducible refine iteN ?_ | with_reducible refine iteF ?_ | with_reducible refine iteT ?_ | (refine fun (p : Addr) (np : _ = (none : Option HO)) => ?_; fail_if_success (refine ⟨fun (_ _ : Nat) (_ : Hp) => True, ?_⟩)) | (apply isi_tt; tm_at "ty"; focus (decide +kernel)) | (apply isi_ff; tm_at "ty"; focus (decide +kernel)) | (apply sl_step; tm_at "hp"; intro qq H1 ms nq hq fr) | (apply sum_step; tm_at "hp"; intro i) | (apply tru_step; tm_at "hp") | (apply len_step; tm_at "hp") | (apply lenq_step; assumption) | (apply ixq_step; assumption; tm_at "sc"; tm_at "sc"; intro v hv) | (apply lst_step; tm_at "hp") | (apply tupl_step; tm_at "hp") | (apply ixr_step; tm_at "hp"; exact rfl) | (apply ix0_step; tm_at "hp") | (apply ix1_step; tm_at "hp") | (apply ix2_step; tm_at "hp") | (apply ixi_step; tm_at "hp"; tm_at "sc"; tm_at "sc"; intro n hn hn') | (apply ixl_step; tm_at "hp"; tm_at "sc"; tm_at "sc"; intro v hv) | (apply ixt_step; tm_at "hp"; tm_at "sc"; tm_at "sc"; intro v hm hv) | (apply in_step; tm_at "hp"; rfl; rfl) | (apply cat_step; tm_at "hp"; tm_at "hp"; tm_at "sc") | (apply catT_step; tm_at "hp"; tm_at "hp"; tm_at "sc1") | (apply tyL_and; tm_at "hp") | (apply app_step; tm_at "hp"; tm_at "sc"; intro H1 hp fr) | tm_at "call" | refine ⟨⟨_, rfl⟩, ?_⟩ | (apply ixs_step; tm_at "sc"; tm_at "sc"; tm_at "sc"; intro ch) | refine .inl ⟨_, rfl, ?_⟩ | refine .inr ⟨_, rfl, ?_⟩ | (apply And.intro; tm_at "sc") | (with_reducible refine wayB ?_ ?_ <;> intro c) | fail "no way"))
local macro_rules | `(tactic| tm_at "go") => `(tactic| (repeat tm_at "go1"))
local macro_rules | `(tactic| tm_at "goo") => `(tactic| (repeat' tm_at "go1"))
local macro_rules | `(tactic| tm_at "den") => `(tactic| (first | assumption | exact Den.str _ | exact Den.int _ | exact Den.bl _ | exact Den.non | (apply Den.tups; tm_at "hp"; tm_at "dens") | (apply Den.fr; tm_at "f0"; tm_at "den") | fail "no way"))
local macro_rules | `(tactic| tm_at "dens") => `(tactic| (first | assumption | exact Dens.nil | (apply Dens.cons; tm_at "den"; tm_at "dens") | (apply Dens.fr; tm_at "f0"; tm_at "dens") | fail "no way"))
local macro_rules | `(tactic| tm_at "ix") => `(tactic| (apply Ix.mk; tm_at "hp"; tm_at "ne"; assumption; assumption))
local macro_rules | `(tactic| tm_at "dep") => `(tactic| (first | assumption | exact Dep.int | exact Dep.str | exact Dep.bl | exact Dep.non | (apply Dep.tup; tm_at "dlen"; tm_at "deps") | (apply Dep.mono; assumption; decide) | fail "no way"))
local macro_rules | `(tactic| tm_at "deps") => `(tactic| (first | assumption | exact memN | (apply memC; tm_at "dep"; tm_at "deps") | fail "no way"))
local macro_rules | `(tactic| tm_at "dlen") => `(tactic| (first | assumption | (focus (simp; done)) | omega | fail "no way"))

local macro_rules | `(tactic| tm_at "call") => `(tactic| (apply word_step; tm_at "hp"; intro v H1 hv hB fr))
local macro_rules | `(tactic| tm_at "call") => `(tactic| (apply name_step; tm_at "hp"; intro v H1 hv hB fr))
local macro_rules | `(tactic| tm_at "call") => `(tactic| (apply plain_step; tm_at "hp"; intro v H1 t hd he hB fr))
local macro_rules | `(tactic| tm_at "call") => `(tactic| (apply entry_step; tm_at "hp"; tm_at "ix"; tm_at "ix"; intro v H1 t hd he hB fr))
local macro_rules | `(tactic| tm_at "call") => `(tactic| (apply kinds_step; intro p H1 np hp fr))
local macro_rules | `(tactic| tm_at "call") => `(tactic| (apply kind_step; tm_at "hp"; intro v H1 hv hB fr))
local macro_rules | `(tactic| tm_at "call") => `(tactic| (apply marks_step; intro m))
local macro_rules | `(tactic| tm_at "pre") => `(tactic| (apply strInt_step; tm_at "sc"; intro s hs))
local macro_rules | `(tactic| tm_at "pre") => `(tactic| (apply addS_step; tm_at "sc"; intro s hs))

local macro_rules | `(tactic| tm_at "lk") => `(tactic| (first | with_reducible exact lookup_eq | ((with_reducible apply lookup_ne); (focus (decide +kernel)); tm_at "lk") | assumption | rfl | fail "no way"))
local macro_rules | `(tactic| tm_at "pf") => `(tactic| (first | with_reducible exact putF_nil | with_reducible exact putF_eq | ((with_reducible apply putF_ne); (focus (decide +kernel)); tm_at "pf") | fail "no way"))
local macro_rules | `(tactic| tm_at "fl") => `(tactic| (first | assumption | focus (simp only [List.length_cons, List.length_nil]; omega) | focus (simp only [List.length_cons, List.length_nil]; done) | focus (decide) | focus (simp; done) | focus (simp; omega) | fail "no way"))
local macro_rules | `(tactic| tm_at "pre") => `(tactic| (apply fld_step; tm_at "hp"; assumption; assumption; tm_at "lk"))
local macro_rules | `(tactic| tm_at "pre") => `(tactic| (apply putf_step; tm_at "hp"; assumption; assumption; tm_at "fl"; tm_at "pf"; intro H1 hp fr))
local macro_rules | `(tactic| tm_at "pre") => `(tactic| (apply aug_step; tm_at "hp"; assumption; assumption; tm_at "lk"))
local macro_rules | `(tactic| tm_at "pre") => `(tactic| (apply put2_step; tm_at "hp"; tm_at "fl"; tm_at "pf"; intro H1 hp fr))
local macro_rules | `(tactic| tm_at "pre") => `(tactic| (apply dget_step; tm_at "hp"; tm_at "lk"))
local macro_rules | `(tactic| tm_at "pre") => `(tactic| (apply dput_step; tm_at "hp"; (focus (omega)); intro H1 hp fr))
local macro_rules | `(tactic| tm_at "pre") => `(tactic| (apply mth_step; tm_at "hp"; tm_at "lk"))
local macro_rules | `(tactic| tm_at "pre") => `(tactic| (apply lenD_step; tm_at "hp"))
local macro_rules | `(tactic| tm_at "pre") => `(tactic| (apply addI_step))
local macro_rules | `(tactic| tm_at "pre") => `(tactic| (apply newD_step; intro dn H1 nd hp fr))
local macro_rules | `(tactic| tm_at "fr2") => `(tactic| (first | assumption | (apply Fr.appMb; assumption; (focus (simp; done)); tm_at "fr2") | (apply Fr.app0b; tm_at "f0"; tm_at "fr2") | (apply Fr.appNb; assumption; tm_at "free"; tm_at "fr2") | fail "no way"))
local macro_rules | `(tactic| tm_at "ne") => `(tactic| (apply ne_role; assumption; assumption; (focus (decide))))

local macro_rules | `(tactic| tm_at "nda") => `(tactic| (first | assumption | (apply NdA.of0; tm_at "f0"; tm_at "nda") | (apply NdA.of1; assumption; assumption; tm_at "nda") | fail "no way"))
local macro_rules | `(tactic| tm_at "pre") => `(tactic| (apply nd_step; tm_at "nda"; tm_at "sc"; tm_at "sc"; intro xn hxn hnd hrow))
section
variable {CT C : Addr} {step : Int} {tlf : Addr → Nat → List (Str × V)} {ρ : Role} {s : Nat} {R b B D N Lh : Addr} {ys : List Th} {xs : List Nd} {hs : List Int} {H : Hp} {Q : VK} {E : XK}
theorem lmake_step (h1 : Box H b) (h2 : ρ b = none) (h3 : Side K ρ s step CT C (tlf R ys.length) H B D N ys xs) (h4 : xs.length ≤ 900) (q : ∀ H', After K ρ s step CT C tlf R b B D N (xs.length + 2) H H' → Q (.bl true) H') : spLMake K CT C step tlf ([.ref b, .ref B, .ref N, .int step] ++ []) H Q E := by
  unfold spLMake; exact ⟨ρ, s, R, b, B, D, N, ys, xs, rfl, h1, h2, h3, h4, q⟩
theorem lchange_step (h1 : Box H b) (h2 : ρ b = none) (h3 : Side K ρ s step CT C (tlf R ys.length) H B D N ys xs) (h4 : xs.length ≤ 900) (h5 : 0 < xs.length) (q : ∀ H', After K ρ s step CT C tlf R b B D N (xs.length + 2) H H' → Q (.bl true) H') : spLChange K CT C step tlf ([.ref b, .ref B, .ref N, .int step] ++ []) H Q E := by
  unfold spLChange; exact ⟨ρ, s, R, b, B, D, N, ys, xs, rfl, h1, h2, h3, h4, h5, q⟩
theorem lset_step (h1 : Box H b) (h2 : ρ b = none) (h3 : Side K ρ s step CT C (tlf R ys.length) H B D N ys xs) (h4 : xs.length ≤ 900) (h5 : H Lh = some (.lst (hs.map V.int))) (h6 : Lh ≠ b) (h7 : 0 < hs.length) (h8 : hs.length ≤ 1000) (h9 : ∀ h ∈ hs, Holds xs h) (q : ∀ H', After K ρ s step CT C tlf R b B D N (xs.length + 2) H H' → Q (.bl true) H') :
    spLSet K CT C step tlf ([.ref b, .ref B, .ref N, .int step, .ref Lh] ++ []) H Q E := by
  unfold spLSet; exact ⟨ρ, s, R, b, B, D, N, Lh, ys, xs, hs, rfl, h1, h2, h3, h4, h5, h6, h7, h8, h9, q⟩
end
@[irreducible] def spLDeed (K : PySem.W.Frag) (CT C : Addr) (step : Int) (tlf : Addr → Nat → List (Str × V)) : Sp := fun vs H Q _ => ∃ (ρ : Role) (s : Nat) (R b B D N : Addr) (ys : List Th) (xs : List Nd), vs = [.ref b, .ref B, .ref N, .int step] ∧ Box H b ∧ ρ b = none ∧ Side K ρ s step CT C (tlf R ys.length) H B D N ys xs ∧ xs.length ≤ 900 ∧
  ∀ H', After K ρ s step CT C tlf R b B D N (xs.length + 2) H H' → Q (.bl true) H'
theorem len_deed {CT C : Addr} {step : Int} {tlf : Addr → Nat → List (Str × V)} : ∀ vs H Q E, spLDeed K CT C step tlf vs H Q E → vs.length = 4 := fun vs H Q E h => by
  unfold spLDeed at h
  obtain ⟨ρ, sd, R, b, B, dD, N, ys, xs, rfl, _⟩ := h
  rfl
abbrev s_deed : Stmt := top 36
theorem sc_deed : FnScope ["_law_box_here", "_law_bank", "_law_nodes", "_law_step", "_law_holders", "_law_k", "_law_way"] ["_law_box_here", "_law_bank", "_law_nodes", "_law_step"] (defScope s_deed) := ⟨rfl, rfl, rfl, by decide +kernel, rfl, by decide +kernel, by decide +kernel⟩

theorem body_deed {C CT : Addr} {step : Int} {tlf : Addr → Nat → List (Str × V)} (T : Bl mg) (G_take : CTake P w K mg base) (G_free : Cal P w K mg base 1 "_law_free" ["_law_node"] (spFree K))
    (G_make : Cal P w K mg base 8 "_law_make" ["_law_box_here", "_law_bank", "_law_nodes", "_law_step"] (spLMake K CT C step tlf)) (G_set : Cal P w K mg base 8 "_law_set" ["_law_box_here", "_law_bank", "_law_nodes", "_law_step", "_law_holders"] (spLSet K CT C step tlf))
    (G_change : Cal P w K mg base 8 "_law_change" ["_law_box_here", "_law_bank", "_law_nodes", "_law_step"] (spLChange K CT C step tlf)) :
    BodyOk P w K mg base "_law_deed" s_deed ["_law_box_here", "_law_bank", "_law_nodes", "_law_step", "_law_holders", "_law_k", "_law_way"] 8 (spLDeed K CT C step tlf) := by
  intro f cdv A outer s H vs Q E hr h
  unfold spLDeed at h
  · obtain ⟨ρ, sd, R, b, B, dD, N, ys, xs, rfl, hB0, rb, hS, hx, q⟩ := h
    have hN := hS.nd
    have hN0 := hN.at_
    have rN := hN.rN
    have rB := hS.bk.rB
    have nBb : B ≠ b := fun e => by rw [e, rb] at rB; cases rB
    have nNb : N ≠ b := fun e => by rw [e, rb] at rN; cases rN
    refine ⟨_, (pss_cons (ps_setLc (i := 4) (own := [("_law_k", 5)]) (g := gName 5) (by rfl) sc_deed.nd rfl rfl (sw_true rfl rfl rfl (by decide +kernel)) (pi_range1 (by rfl) T.z_range (pa_cons (pe_callB (cLen K) (by rfl) T.z_len (by decide +kernel) (pa_cons (pv 2) pa_nil)) pa_nil)) (blkOk_by (own := [("_law_k", 5)]) (N := [("_law_box_here" : Str), ("_law_bank" : Str), ("_law_nodes" : Str), ("_law_step" : Str), ("_law_holders" : Str), ("_law_k" : Str), ("_law_way" : Str)]) (sc := defScope s_deed) (by decide +kernel)) (fun _ _ _ _ _ => pg_name (i := 5) sc_deed.nd rfl (Or.inl rfl)) (fun _ _ _ _ _ => (pts_one (ptTru K (pe_cal G_free (hr.mono (by omega)) (by rfl) (pa_cons (pe_ix (ixL K) (pv 2) (pv 5) (fun _ _ => rfl)) pa_nil))))) (fun _ _ _ _ _ => (pv 5)))
    (pss_cons (ps_set (i := 6) sc_deed.nd rfl (Or.inl rfl) (pe_cal G_take (hr.mono (by omega)) (by rfl) (pa_cons (pv 0) (pa_cons pe_int pa_nil))))
    (pss_cons (ps_if (PW.pt (pw_and (pt_cmpR op_gt (pv 6) pe_int (nomark _)) (pw_and1 (ptTru K (pv 2)))))
      (pss_one (ps_ret (pe_cal G_change (hr.mono (by omega)) (by rfl) (pa_cons (pv 0) (pa_cons (pv 1) (pa_cons (pv 2) (pa_cons (pv 3) pa_nil)))))))
      pss_nil)
    (pss_cons (ps_if (PW.pt (pw_and (pt_cmpR op_gt (pv 6) pe_int (nomark _)) (pw_and1 (ptTru K (pv 4)))))
      (pss_one (ps_ret (pe_cal G_set (hr.mono (by omega)) (by rfl) (pa_cons (pv 0) (pa_cons (pv 1) (pa_cons (pv 2) (pa_cons (pv 3) (pa_cons (pv 4) pa_nil))))))))
      pss_nil)
    (pss_one (ps_ret (pe_cal G_make (hr.mono (by omega)) (by rfl) (pa_cons (pv 0) (pa_cons (pv 1) (pa_cons (pv 2) (pa_cons (pv 3) pa_nil))))))))))), ?_⟩
    tm_at "goo"
    refine lcR (hasF xs) (fun _ i y => y = .int (0 + (i : Int))) (Cg.nil _) stab_v (by simp; omega) (fun i H2 hi hS f R kk => ?_) (fun i H2 hi _ hS f R kk => ?_) (fun Lh H2 ps nLh hLh m _ fr => ?_)
    · have hi' : i < xs.length := by simpa using hi
      have hN2 := hN.fr0 f
      rw [show (0 : Int) + (i : Int) = i from Int.zero_add _]
      tm_at "goo"
      rw [Int.toNat_natCast] at hxn
      refine free_step hnd hrow (hN.ok _ _ hxn).2.2.2.2 fun fl H3 nfl hfl f3 => ?_
      tm_at "goo"
      rw [hasF_at hxn] at kk
      have := kk _ trivial f3
      simpa using this
    · tm_at "goo"
      exact kk _ _ trivial (by tm_at "fr") rfl
    · rw [m.ints] at hLh
      have hlen : (((xs.map fun x => V.ref x.nd).length : Nat) : Int).toNat = xs.length := by simp
      rw [hlen] at hLh
      have la1 : ((keptN (hasF xs) xs.length).map fun i : Nat => (0 : Int) + (i : Int)).length ≤ 1000 := by
        rw [List.length_map]; exact Nat.le_trans (keptN_le _ _) (by omega)
      have lam : ∀ z ∈ (keptN (hasF xs) xs.length).map fun i : Nat => (0 : Int) + (i : Int), Holds xs z := fun z hz => by
        obtain ⟨j, hj, rfl⟩ := List.mem_map.mp hz
        exact hasF_inv (kept_in hj).2
      generalize (keptN (hasF xs) xs.length).map (fun i : Nat => (0 : Int) + (i : Int)) = hs at *
      have nLb : Lh ≠ b := hB0.ne nLh
      tm_at "goo"
      all_goals
        have F1 : Fr [b] H H1 := by tm_at "fr"
        have B1 : Box H1 b := by assumption
        have S1 := hS.frM F1 (.one rb)
        first
          | exact lmake_step B1 rb S1 hx fun H' a => q _ (a.pre hB0 B1 F1)
          | exact lchange_step B1 rb S1 hx (by assumption) fun H' a => q _ (a.pre hB0 B1 F1)
          | exact lset_step B1 rb S1 hx (F1.at1n nLb (by first | assumption | tm_at "hp")) nLb (by assumption) la1 lam fun H' a => q _ (a.pre hB0 B1 F1)
          | (have hL1 : H1 Lh = some (.lst (hs.map V.int)) := (by clear F1; tm_at "hp"); exact lset_step B1 rb S1 hx hL1 nLb (by assumption) la1 lam fun H' a => q _ (a.pre hB0 B1 F1))
end
end M14
set_option Elab.async false
set_option linter.all false
set_option maxRecDepth 100000
set_option maxHeartbeats 4000000
namespace M14
open PySem PySem.Spec PyProof.Rows L2

/-! ### the three memories side by side -/
def clsF (CS CH : Addr) (i : Nat) : Addr := if i = 2 then CH else CS
def stpF (i : Nat) : Int := if i = 2 then 2 else 1
def tlF (i : Nat) : Addr → Nat → List (Str × V) := if i = 2 then hTl else fun _ _ => []
theorem banks_of {P : Program} {w : World} {K : PySem.W.Frag} {mg : Str → Option Value} {base : Heap} {CS CH CT : Addr} (b1 : BankC P w K mg base CS CT 1 fun _ _ => []) (b2 : BankC P w K mg base CH CT 2 hTl) (i : Nat) : BankC P w K mg base (clsF CS CH i) CT (stpF i) (tlF i) := by
  unfold clsF stpF tlF
  by_cases e : i = 2
  · rw [if_pos e, if_pos e, if_pos e]; exact b2
  · rw [if_neg e, if_neg e, if_neg e]; exact b1
/-- the script's list: it stands, owned by none, or is written -/
def Scr (K : PySem.W.Frag) (ρ : Role) (H : Hp) (a : Addr) (xs : List V) : Prop := (∃ o, H a = some o ∧ ρ a = none ∧ ∀ H' : Hp, H' a = some o → SqL K H' a xs) ∨ ∀ H', SqL K H' a xs
theorem Scr.sq {K : PySem.W.Frag} {ρ : Role} {H : Hp} {a : Addr} {xs : List V} (h : Scr K ρ H a xs) : SqL K H a xs := by
  rcases h with ⟨o, e, _, q⟩ | q
  · exact q H e
  · exact q H
theorem Scr.of {K : PySem.W.Frag} {H : Hp} {a : Addr} {xs : List V} (h : SqL K H a xs) : Scr K (fun _ => none) H a xs := by
  rcases h with (h | ⟨o, h⟩) | h
  · exact .inl ⟨_, h, rfl, fun H' e => .inl (.inl e)⟩
  · exact .inl ⟨_, h, rfl, fun H' e => .inl (.inr ⟨_, e⟩)⟩
  · exact .inr fun H' => .inr h
section
variable {K : PySem.W.Frag} {ρ ρ' : Role} {H H' : Hp} {M : List Addr}
/-- what may change: new, or owned -/
def Own (ρ : Role) (H : Hp) (M : List Addr) (i : Nat) : Prop := ∀ x ∈ M, H x = none ∨ ∃ j k, ρ x = some (i, j, k)
theorem stays {i : Nat} {a : Addr} {o : HO} (ow : Own ρ H M i) (e : Ext H ρ ρ') (f : Fr M H H') (h : H a = some o) (r : ρ a = none) : H' a = some o ∧ ρ' a = none := by
  refine ⟨f.kp _ _ h fun m => ?_, by rw [e a (some_ne h)]; exact r⟩
  rcases ow a m with z | ⟨j, k, z⟩
  · rw [h] at z; cases z
  · rw [r] at z; cases z
theorem Scr.move {i : Nat} {a : Addr} {xs : List V} (h : Scr K ρ H a xs) (ow : Own ρ H M i) (e : Ext H ρ ρ') (f : Fr M H H') : Scr K ρ' H' a xs := by
  rcases h with ⟨o, ha, r, q⟩ | q
  · obtain ⟨h1, h2⟩ := stays ow e f ha r
    exact .inl ⟨o, h1, h2, q⟩
  · exact .inr q
theorem Side.move {i s : Nat} {step : Int} {CT C B D N : Addr} {tl : List (Str × V)} {ys : List Th} {xs : List Nd} (h : Side K ρ s step CT C tl H B D N ys xs) (n : s ≠ i) (ow : Own ρ H M i) (e : Ext H ρ ρ') (f : Fr M H H') : Side K ρ' s step CT C tl H' B D N ys xs := by
  have f2 : Fr (M.filter fun x => (H x).isSome) H H' := f.to (fun x m => by
    cases z : H x with
    | none => exact .inr rfl
    | some o => exact .inl (List.mem_filter.mpr ⟨m, by rw [z]; rfl⟩)) fun a m => f.nt a (List.mem_filter.mp m).1
  refine (h.ext e).frM f2 fun a m j k z => ?_
  obtain ⟨m, al⟩ := List.mem_filter.mp m
  rcases ow a m with q | ⟨j', k', q⟩
  · rw [q] at al; cases al
  · have al' : H a ≠ none := fun q => by rw [q] at al; cases al
    rw [e a al', q] at z
    injection z with z
    injection z with z _
    exact n z.symm
end
structure LI (K : PySem.W.Frag) (ρ : Role) (CT CS CH : Addr) (B D N : Nat → Addr) (Lb Lk Ts Tz a : Addr) (ns : List V) (m : Nat) (H : Hp) : Prop where
  sd : ∀ i, i < 3 → ∃ (R : Addr) (ys : List Th) (xs : List Nd), Side K ρ i (stpF i) CT (clsF CS CH i) (tlF i R ys.length) H (B i) (D i) (N i) ys xs ∧ xs.length ≤ m
  lb : H Lb = some (.lst ((List.range 3).map fun i => V.ref (B i)))
  rb : ρ Lb = none
  lk : H Lk = some (.lst ((List.range 3).map fun i => V.ref (N i)))
  rk : ρ Lk = none
  ts : H Ts = some (.tup ((List.range 3).map fun i => V.int (stpF i)))
  tz : H Tz = some (.tup [.int 0, .int 0, .int 1, .int 2, .int 2])
  sc : Scr K ρ H a ns
section
variable {K : PySem.W.Frag} {ρ ρ' : Role} {CT CS CH : Addr} {B D N : Nat → Addr} {Lb Lk Ts Tz a : Addr} {ns : List V} {m m' : Nat} {H H' : Hp} {M : List Addr}
theorem LI.move {i : Nat} (h : LI K ρ CT CS CH B D N Lb Lk Ts Tz a ns m H) (ow : Own ρ H M i) (e : Ext H ρ ρ') (f : Fr M H H') (le : m ≤ m')
    (new : ∃ (R : Addr) (ys : List Th) (xs : List Nd), Side K ρ' i (stpF i) CT (clsF CS CH i) (tlF i R ys.length) H' (B i) (D i) (N i) ys xs ∧ xs.length ≤ m') : LI K ρ' CT CS CH B D N Lb Lk Ts Tz a ns m' H' := by
  obtain ⟨a1, a2⟩ := stays ow e f h.lb h.rb
  obtain ⟨b1, b2⟩ := stays ow e f h.lk h.rk
  refine ⟨fun j hj => ?_, a1, a2, b1, b2, f.tup h.ts, f.tup h.tz, h.sc.move ow e f⟩
  by_cases q : j = i
  · subst q; exact new
  · obtain ⟨R, ys, xs, s, l⟩ := h.sd j hj
    exact ⟨R, ys, xs, s.move q ow e f, by omega⟩
theorem LI.of0 (h : LI K ρ CT CS CH B D N Lb Lk Ts Tz a ns m H) (f : Fr [] H H') : LI K ρ CT CS CH B D N Lb Lk Ts Tz a ns m H' := by
  have ow : Own ρ H [] 7 := fun x m => nomatch m
  obtain ⟨a1, a2⟩ := stays ow Ext.refl f h.lb h.rb
  obtain ⟨b1, b2⟩ := stays ow Ext.refl f h.lk h.rk
  refine ⟨fun j hj => ?_, a1, a2, b1, b2, f.tup h.ts, f.tup h.tz, h.sc.move ow Ext.refl f⟩
  obtain ⟨R, ys, xs, s, l⟩ := h.sd j hj
  exact ⟨R, ys, xs, s.of0 f, l⟩
end
/-! ### empty ones -/
section
variable {K : PySem.W.Frag} {ρ : Role} {H H' : Hp}
def role1 (ρ : Role) (x : Addr) (r : Nat × Nat × Nat) : Role := fun a => if a = x then some r else ρ a
theorem role1_ext {x : Addr} {r : Nat × Nat × Nat} (h : H x = none) : Ext H ρ (role1 ρ x r) := fun a n => if_neg fun e => n (by rw [e]; exact h)
theorem role1_at {x : Addr} {r : Nat × Nat × Nat} : role1 ρ x r x = some r := if_pos rfl
theorem role1_ne {x a : Addr} {r : Nat × Nat × Nat} (n : a ≠ x) : role1 ρ x r a = ρ a := if_neg n
/-- an empty bank -/
theorem BkA.new {s : Nat} {step : Int} {CT C x D dx : Addr} {gr : Int} {tl : List (Str × V)} (hx : H' x = some (.ins C dx (bkF D gr tl))) (hD : H' D = some (.dK [])) (t : TlOk tl) (st : step = 1 ∨ step = 2) : BkA K (role1 (role1 ρ x (s, 0, 0)) D (s, 1, 0)) s step CT C tl H' x D [] := by
  have n : x ≠ D := fun e => by rw [e, hD] at hx; cases hx
  exact ⟨⟨_, _, hx⟩, by rw [role1_ne n]; exact role1_at, ⟨[], hD, rfl, fun i y e => by simp at e, fun z _ => rfl⟩, role1_at, fun i y e => by simp at e, fun i y e => by simp at e, fun i y e => by simp at e, by simp, t, st⟩
theorem NdA.new {s : Nat} {n : Int} {N : Addr} (hN : H' N = some (.lst [])) : NdA K (role1 ρ N (s, 2, 0)) s n H' N [] :=
  ⟨by simpa using hN, role1_at, fun i y e => by simp at e, fun i y e => by simp at e, fun i y e => by simp at e, by simp⟩
theorem Side.new {s : Nat} {step : Int} {CT C B D N : Addr} {tl : List (Str × V)} (h : BkA K ρ s step CT C tl H B D []) (h2 : NdA K ρ s 0 H N []) : Side K ρ s step CT C tl H B D N [] [] := ⟨h, h2, rfl, fun i y x e => by simp at e⟩
def pick3 (x y z : Addr) : Nat → Addr
  | 0 => x
  | 1 => y
  | _ => z
theorem NdA.nil {s : Nat} {n : Int} {N : Addr} (hN : H' N = some (.lst [])) (r : ρ N = some (s, 2, 0)) : NdA K ρ s n H' N [] :=
  ⟨by simpa using hN, r, fun i y e => by simp at e, fun i y e => by simp at e, fun i y e => by simp at e, by simp⟩
/-- the beginning -/
theorem LI.start {CT CS CH : Addr} {H3 H5 H7 H9 Hf : Hp} {x0 x1 x2 D0 D1 D2 R n0 n1 n2 Lb Lk Ts Tz a dx0 dx1 dx2 : Addr} {ns : List V} (sc : Scr K (fun _ => none) H3 a ns)
    (nx0 : H3 x0 = none) (nD0 : H3 D0 = none) (hB0 : H5 x0 = some (.ins CS dx0 (bkF D0 0 []))) (hD0 : H5 D0 = some (.dK [])) (F35 : Fr [] H3 H5)
    (nx1 : H5 x1 = none) (nD1 : H5 D1 = none) (hB1 : H7 x1 = some (.ins CS dx1 (bkF D1 0 []))) (hD1 : H7 D1 = some (.dK [])) (F57 : Fr [] H5 H7)
    (nx2 : H7 x2 = none) (nD2 : H7 D2 = none) (hB2 : H9 x2 = some (.ins CH dx2 (bkF D2 0 (hTl R 0)))) (hD2 : H9 D2 = some (.dK [])) (F79 : Fr [] H7 H9)
    (f9 : Fr [] H9 Hf) (g0 : H9 n0 = none) (g1 : H9 n1 = none) (g2 : H9 n2 = none) (gb : H9 Lb = none) (gk : H9 Lk = none) (n01 : n0 ≠ n1) (n02 : n0 ≠ n2) (n12 : n1 ≠ n2) (b0 : Lb ≠ n0) (b1 : Lb ≠ n1) (b2 : Lb ≠ n2) (k0 : Lk ≠ n0) (k1 : Lk ≠ n1) (k2 : Lk ≠ n2)
    (l0 : Hf n0 = some (.lst [])) (l1 : Hf n1 = some (.lst [])) (l2 : Hf n2 = some (.lst [])) (lb : Hf Lb = some (.lst [.ref x0, .ref x1, .ref x2])) (lk : Hf Lk = some (.lst [.ref n0, .ref n1, .ref n2])) (ts : Hf Ts = some (.tup [.int 1, .int 1, .int 2])) (tz : Hf Tz = some (.tup [.int 0, .int 0, .int 1, .int 2, .int 2])) :
    ∃ ρ, LI K ρ CT CS CH (pick3 x0 x1 x2) (pick3 D0 D1 D2) (pick3 n0 n1 n2) Lb Lk Ts Tz a ns 0 Hf := by
  have e1 : Ext H3 (fun _ => none) (role1 (role1 (fun _ => none) x0 (0, 0, 0)) D0 (0, 1, 0)) := ext_trans (role1_ext nx0) (role1_ext nD0)
  have c0 : BkA K (role1 (role1 (fun _ => none) x0 (0, 0, 0)) D0 (0, 1, 0)) 0 1 CT CS [] H5 x0 D0 [] := BkA.new hB0 hD0 ⟨by simp, fun m _ => rfl⟩ (.inl rfl)
  have r1 : ∀ q, q ≠ x0 → q ≠ D0 → role1 (role1 (fun _ => none) x0 (0, 0, 0)) D0 (0, 1, 0) q = none := fun q h1 h2 => by rw [role1_ne h2, role1_ne h1]
  generalize role1 (role1 (fun _ => none) x0 (0, 0, 0)) D0 (0, 1, 0) = ρ1 at *
  have ow : ∀ {ρ : Role} {H : Hp}, Own ρ H [] 7 := fun x m => nomatch m
  have sc5 := sc.move ow e1 F35
  have e2 : Ext H5 ρ1 (role1 (role1 ρ1 x1 (1, 0, 0)) D1 (1, 1, 0)) := ext_trans (role1_ext nx1) (role1_ext nD1)
  have c1 : BkA K (role1 (role1 ρ1 x1 (1, 0, 0)) D1 (1, 1, 0)) 1 1 CT CS [] H7 x1 D1 [] := BkA.new hB1 hD1 ⟨by simp, fun m _ => rfl⟩ (.inl rfl)
  have r2 : ∀ q, q ≠ x0 → q ≠ D0 → q ≠ x1 → q ≠ D1 → role1 (role1 ρ1 x1 (1, 0, 0)) D1 (1, 1, 0) q = none := fun q h1 h2 h3 h4 => by rw [role1_ne h4, role1_ne h3, r1 q h1 h2]
  generalize role1 (role1 ρ1 x1 (1, 0, 0)) D1 (1, 1, 0) = ρ2 at *
  have c0 := (c0.ext e2).of0 F57
  have sc7 := sc5.move ow e2 F57
  have e3 : Ext H7 ρ2 (role1 (role1 ρ2 x2 (2, 0, 0)) D2 (2, 1, 0)) := ext_trans (role1_ext nx2) (role1_ext nD2)
  have c2 : BkA K (role1 (role1 ρ2 x2 (2, 0, 0)) D2 (2, 1, 0)) 2 2 CT CH (hTl R 0) H9 x2 D2 [] := BkA.new hB2 hD2 (hTl_ok R 0) (.inr rfl)
  have r3 : ∀ q, q ≠ x0 → q ≠ D0 → q ≠ x1 → q ≠ D1 → q ≠ x2 → q ≠ D2 → role1 (role1 ρ2 x2 (2, 0, 0)) D2 (2, 1, 0) q = none := fun q h1 h2 h3 h4 h5 h6 => by rw [role1_ne h6, role1_ne h5, r2 q h1 h2 h3 h4]
  generalize role1 (role1 ρ2 x2 (2, 0, 0)) D2 (2, 1, 0) = ρ3 at *
  have c0 := (c0.ext e3).of0 F79
  have c1 := (c1.ext e3).of0 F79
  have sc9 := sc7.move ow e3 F79
  have e4 : Ext H9 ρ3 (role1 (role1 (role1 ρ3 n0 (0, 2, 0)) n1 (1, 2, 0)) n2 (2, 2, 0)) := ext_trans (ext_trans (role1_ext g0) (role1_ext g1)) (role1_ext g2)
  have q0 : role1 (role1 (role1 ρ3 n0 (0, 2, 0)) n1 (1, 2, 0)) n2 (2, 2, 0) n0 = some (0, 2, 0) := by rw [role1_ne n02, role1_ne n01, role1_at]
  have q1 : role1 (role1 (role1 ρ3 n0 (0, 2, 0)) n1 (1, 2, 0)) n2 (2, 2, 0) n1 = some (1, 2, 0) := by rw [role1_ne n12, role1_at]
  have q2 : role1 (role1 (role1 ρ3 n0 (0, 2, 0)) n1 (1, 2, 0)) n2 (2, 2, 0) n2 = some (2, 2, 0) := role1_at
  have al0 : H9 x0 ≠ none := some_ne (F79.at0 (F57.at0 hB0))
  have al1 : H9 D0 ≠ none := some_ne (F79.at0 (F57.at0 hD0))
  have al2 : H9 x1 ≠ none := some_ne (F79.at0 hB1)
  have al3 : H9 D1 ≠ none := some_ne (F79.at0 hD1)
  have al4 : H9 x2 ≠ none := some_ne hB2
  have al5 : H9 D2 ≠ none := some_ne hD2
  have nn : ∀ q, H9 q = none → ρ3 q = none := fun q h => r3 q (fun e => al0 (e ▸ h)) (fun e => al1 (e ▸ h)) (fun e => al2 (e ▸ h)) (fun e => al3 (e ▸ h)) (fun e => al4 (e ▸ h)) (fun e => al5 (e ▸ h))
  have rb : role1 (role1 (role1 ρ3 n0 (0, 2, 0)) n1 (1, 2, 0)) n2 (2, 2, 0) Lb = none := by rw [role1_ne b2, role1_ne b1, role1_ne b0, nn _ gb]
  have rk : role1 (role1 (role1 ρ3 n0 (0, 2, 0)) n1 (1, 2, 0)) n2 (2, 2, 0) Lk = none := by rw [role1_ne k2, role1_ne k1, role1_ne k0, nn _ gk]
  generalize role1 (role1 (role1 ρ3 n0 (0, 2, 0)) n1 (1, 2, 0)) n2 (2, 2, 0) = ρ4 at *
  have c0 := (c0.ext e4).of0 f9
  have c1 := (c1.ext e4).of0 f9
  have c2 := (c2.ext e4).of0 f9
  refine ⟨ρ4, fun i hi => ?_, lb, rb, lk, rk, ts, tz, sc9.move ow e4 f9⟩
  match i, hi with
  | 0, _ => exact ⟨R, [], [], .new c0 (.nil l0 q0), Nat.zero_le _⟩
  | 1, _ => exact ⟨R, [], [], .new c1 (.nil l1 q1), Nat.zero_le _⟩
  | 2, _ => exact ⟨R, [], [], .new c2 (.nil l2 q2), Nat.zero_le _⟩
end
end M14
set_option Elab.async false
set_option linter.all false
set_option maxRecDepth 100000
set_option maxHeartbeats 4000000
namespace M14
open PySem PySem.Spec PyProof.Rows L2

section
variable {P : Program} {w : World} {K : PySem.W.Frag} {mg : Str → Option Value} {base : Heap}
set_option hygiene false
local macro_rules | `(tactic| tm_at "sc") => `(tactic| (first | omega | (simp only [List.length_cons, List.length_nil, List.length_map, List.length_set, List.length_append]; omega) | (simp only [List.length_map] at h1 ⊢; omega) | (simp only [List.length_map] at c ⊢; omega) | with_reducible assumption | exact And.intro (by omega) (by omega) | exact Or.inl (And.intro (by omega) (by omega)) | exact Or.inr (And.intro (by omega) (by omega)) | decide +kernel | exact len1000 (by simp) | rfl | fail "no way"))
local macro_rules | `(tactic| tm_at "sc1") => `(tactic| (focus (simp; done)))
local macro_rules | `(tactic| tm_at "ne") => `(tactic| (first | assumption | exact Ne.symm (by assumption) | (apply Box.ne2; assumption; tm_at "hp") | (apply Ne.symm; apply Box.ne2; assumption; tm_at "hp") | (apply ne_of_none2; assumption; tm_at "hp") | (apply Ne.symm; apply ne_of_none2; assumption; tm_at "hp") | fail "no way"))
local macro_rules | `(tactic| tm_at "f0") => `(tactic| (first | assumption | (apply Fr.new; assumption) | fail "no way"))
local macro_rules | `(tactic| tm_at "hp") => `(tactic| (first | assumption | exact upd_same | (apply SqL.of; first | assumption | exact upd_same) | (apply Fr.at0; tm_at "f0"; tm_at "hp") | (apply Fr.at1n; assumption; tm_at "ne"; tm_at "hp") | (apply sqFr0; tm_at "f0"; tm_at "hp") | (apply sqFr1; assumption; tm_at "ne"; tm_at "hp") | (apply Box.fr0; tm_at "f0"; tm_at "hp") | (apply Box.fr1; assumption; tm_at "ne"; tm_at "hp") | (apply Den.fr; tm_at "f0"; tm_at "hp") | (apply Dens.fr; tm_at "f0"; tm_at "hp") | fail "no way"))
local macro_rules | `(tactic| tm_at "free0") => `(tactic| (first | assumption | (apply updFree; assumption) | (apply updFree; apply updFree; assumption) | (apply updFree; apply updFree; apply updFree; assumption) | (apply updFree; apply updFree; apply updFree; apply updFree; assumption) | fail "no way"))
local macro_rules | `(tactic| tm_at "free") => `(tactic| (first | tm_at "free0" | (apply Fr.free; assumption; tm_at "free0") | (apply Box.free; assumption; tm_at "fr"; tm_at "free0") | (apply Fr.free; assumption; apply Fr.free; assumption; tm_at "free0") | fail "no way"))
local macro_rules | `(tactic| tm_at "fr") => `(tactic| (first | assumption | exact Fr.refl0 _ | exact Fr.refl (Box.nt (by assumption)) | (refine Fr.comp0 ?_ (by tm_at "f0"); tm_at "fr") | (refine Fr.comp ?_ (by assumption); tm_at "fr") | (refine Fr.compN ?_ (by assumption) (by tm_at "free"); tm_at "fr") | fail "no way"))
local macro_rules | `(tactic| tm_at "call") => `(tactic| fail "no call")
local macro_rules | `(tactic| tm_at "call") => `(tactic| (apply take_step; tm_at "hp"; tm_at "sc"; tm_at "sc"; intro r H1 h0 h1 hB fr))
local macro_rules | `(tactic| tm_at "ty") => `(tactic| (first | assumption | exact .base .non | exact .base (.bl _) | exact .base (.int _) | exact .base (.str _) | (apply TyX.base; apply TyOf.lst; tm_at "hp") | (apply TyX.base; apply TyOf.tup; tm_at "hp") | fail "no way"))
local macro_rules | `(tactic| tm_at "pre") => `(tactic| fail "none")
local macro_rules | `(tactic| tm_at "go1") => `(tactic| (first | tm_at "pre" | refine ⟨_, rfl, ?_⟩ | refine ⟨_, _, rfl, rfl, ?_⟩ | (apply set_step; tm_at "hp"; tm_at "sc"; tm_at "sc"; intro H1 hp fr) | (with_reducible refine iteDI ?_ ?_ <;> intro c) | (with_reducible refine iteDS ?_ ?_ <;> intro c) | (with_reducible refine iteD ?_ ?_ <;> intro c) | (with_reducible refine iteEM ?_ ?_ <;> intro c) | (with_reducible refine iteE ?_ ?_ <;> intro c) | with_reducible refine iteN ?_ | with_reducible refine iteF ?_ | with_reducible refine iteT ?_ | (refine fun (p : Addr) (np : _ = (none : Option HO)) => ?_; fail_if_success (refine ⟨fun (_ _ : Nat) (_ : Hp) => True, ?_⟩)) | (apply isi_tt; tm_at "ty"; focus (decide +kernel)) | (apply isi_ff; tm_at "ty"; focus (decide +kernel)) | (apply sl_step; tm_at "hp"; intro qq H1 ms nq hq fr) | (apply sum_step; tm_at "hp"; intro i) | (apply tru_step; tm_at "hp") | (apply len_step; tm_at "hp") | (apply lenq_step; assumption) | (apply ixq_step; assumption; tm_at "sc"; tm_at "sc"; intro v hv) | (apply lst_step; tm_at "hp") | (apply tupl_step; tm_at "hp") | (apply ixr_step; tm_at "hp"; exact rfl) | (apply ix0_step; tm_at "hp") | (apply ix1_step; tm_at "hp") | (apply ix2_step; tm_at "hp") | (apply ixi_step; tm_at "hp"; tm_at "sc"; tm_at "sc"; intro n hn hn') | (apply ixl_step; tm_at "hp"; tm_at "sc"; tm_at "sc"; intro v hv) | (apply ixt_step; tm_at "hp"; tm_at "sc"; tm_at "sc"; intro v hm hv) | (apply in_step; tm_at "hp"; rfl; rfl) | (apply cat_step; tm_at "hp"; tm_at "hp"; tm_at "sc") | (apply catT_step; tm_at "hp"; tm_at "hp"; tm_at "sc1") | (apply tyL_and; tm_at "hp") | (apply app_step; tm_at "hp"; tm_at "sc"; intro H1 hp fr) | tm_at "call" | refine ⟨⟨_, rfl⟩, ?_⟩ | (apply ixs_step; tm_at "sc"; tm_at "sc"; tm_at "sc"; intro ch) | refine .inl ⟨_, rfl, ?_⟩ | refine .inr ⟨_, rfl, ?_⟩ | (apply And.intro; tm_at "sc") | (with_reducible refine wayB ?_ ?_ <;> intro c) | fail "no way"))
local macro_rules | `(tactic| tm_at "go") => `(tactic| (repeat tm_at "go1"))
local macro_rules | `(tactic| tm_at "goo") => `(tactic| (repeat' tm_at "go1"))
local macro_rules | `(tactic| tm_at "den") => `(tactic| (first | assumption | exact Den.str _ | exact Den.int _ | exact Den.bl _ | exact Den.non | (apply Den.tups; tm_at "hp"; tm_at "dens") | (apply Den.fr; tm_at "f0"; tm_at "den") | fail "no way"))
local macro_rules | `(tactic| tm_at "dens") => `(tactic| (first | assumption | exact Dens.nil | (apply Dens.cons; tm_at "den"; tm_at "dens") | (apply Dens.fr; tm_at "f0"; tm_at "dens") | fail "no way"))
local macro_rules | `(tactic| tm_at "ix") => `(tactic| (apply Ix.mk; tm_at "hp"; tm_at "ne"; assumption; assumption))
local macro_rules | `(tactic| tm_at "dep") => `(tactic| (first | assumption | exact Dep.int | exact Dep.str | exact Dep.bl | exact Dep.non | (apply Dep.tup; tm_at "dlen"; tm_at "deps") | (apply Dep.mono; assumption; decide) | fail "no way"))
local macro_rules | `(tactic| tm_at "deps") => `(tactic| (first | assumption | exact memN | (apply memC; tm_at "dep"; tm_at "deps") | fail "no way"))
local macro_rules | `(tactic| tm_at "dlen") => `(tactic| (first | assumption | (focus (simp; done)) | omega | fail "no way"))

local macro_rules | `(tactic| tm_at "call") => `(tactic| (apply word_step; tm_at "hp"; intro v H1 hv hB fr))
local macro_rules | `(tactic| tm_at "call") => `(tactic| (apply name_step; tm_at "hp"; intro v H1 hv hB fr))
local macro_rules | `(tactic| tm_at "call") => `(tactic| (apply plain_step; tm_at "hp"; intro v H1 t hd he hB fr))
local macro_rules | `(tactic| tm_at "call") => `(tactic| (apply entry_step; tm_at "hp"; tm_at "ix"; tm_at "ix"; intro v H1 t hd he hB fr))
local macro_rules | `(tactic| tm_at "call") => `(tactic| (apply kinds_step; intro p H1 np hp fr))
local macro_rules | `(tactic| tm_at "call") => `(tactic| (apply kind_step; tm_at "hp"; intro v H1 hv hB fr))
local macro_rules | `(tactic| tm_at "call") => `(tactic| (apply marks_step; intro m))
local macro_rules | `(tactic| tm_at "pre") => `(tactic| (apply strInt_step; tm_at "sc"; intro s hs))
local macro_rules | `(tactic| tm_at "pre") => `(tactic| (apply addS_step; tm_at "sc"; intro s hs))

local macro_rules | `(tactic| tm_at "lk") => `(tactic| (first | with_reducible exact lookup_eq | ((with_reducible apply lookup_ne); (focus (decide +kernel)); tm_at "lk") | assumption | rfl | fail "no way"))
local macro_rules | `(tactic| tm_at "pf") => `(tactic| (first | with_reducible exact putF_nil | with_reducible exact putF_eq | ((with_reducible apply putF_ne); (focus (decide +kernel)); tm_at "pf") | fail "no way"))
local macro_rules | `(tactic| tm_at "fl") => `(tactic| (first | assumption | focus (simp only [List.length_cons, List.length_nil]; omega) | focus (simp only [List.length_cons, List.length_nil]; done) | focus (decide) | focus (simp; done) | focus (simp; omega) | fail "no way"))
local macro_rules | `(tactic| tm_at "pre") => `(tactic| (apply fld_step; tm_at "hp"; assumption; assumption; tm_at "lk"))
local macro_rules | `(tactic| tm_at "pre") => `(tactic| (apply putf_step; tm_at "hp"; assumption; assumption; tm_at "fl"; tm_at "pf"; intro H1 hp fr))
local macro_rules | `(tactic| tm_at "pre") => `(tactic| (apply aug_step; tm_at "hp"; assumption; assumption; tm_at "lk"))
local macro_rules | `(tactic| tm_at "pre") => `(tactic| (apply put2_step; tm_at "hp"; tm_at "fl"; tm_at "pf"; intro H1 hp fr))
local macro_rules | `(tactic| tm_at "pre") => `(tactic| (apply dget_step; tm_at "hp"; tm_at "lk"))
local macro_rules | `(tactic| tm_at "pre") => `(tactic| (apply dput_step; tm_at "hp"; (focus (omega)); intro H1 hp fr))
local macro_rules | `(tactic| tm_at "pre") => `(tactic| (apply mth_step; tm_at "hp"; tm_at "lk"))
local macro_rules | `(tactic| tm_at "pre") => `(tactic| (apply lenD_step; tm_at "hp"))
local macro_rules | `(tactic| tm_at "pre") => `(tactic| (apply addI_step))
local macro_rules | `(tactic| tm_at "pre") => `(tactic| (apply newD_step; intro dn H1 nd hp fr))
local macro_rules | `(tactic| tm_at "fr2") => `(tactic| (first | assumption | (apply Fr.appMb; assumption; (focus (simp; done)); tm_at "fr2") | (apply Fr.app0b; tm_at "f0"; tm_at "fr2") | (apply Fr.appNb; assumption; tm_at "free"; tm_at "fr2") | fail "no way"))
local macro_rules | `(tactic| tm_at "ne") => `(tactic| (apply ne_role; assumption; assumption; (focus (decide))))

@[irreducible] def spDeed3 (K : PySem.W.Frag) (CT CS CH : Addr) : Sp := fun vs H Q E => ∃ i : Nat, spLDeed K CT (clsF CS CH i) (stpF i) (tlF i) vs H Q E
@[irreducible] def spTold3 (K : PySem.W.Frag) (CT CS CH : Addr) : Sp := fun vs H Q E => ∃ i : Nat, spTold K CT (clsF CS CH i) (stpF i) vs H Q E
theorem ok_deed3 {CT CS CH : Addr} (T : Bl mg) (G_take : CTake P w K mg base) (G_free : Cal P w K mg base 1 "_law_free" ["_law_node"] (spFree K))
    (G_make : ∀ i, Cal P w K mg base 8 "_law_make" ["_law_box_here", "_law_bank", "_law_nodes", "_law_step"] (spLMake K CT (clsF CS CH i) (stpF i) (tlF i))) (G_set : ∀ i, Cal P w K mg base 8 "_law_set" ["_law_box_here", "_law_bank", "_law_nodes", "_law_step", "_law_holders"] (spLSet K CT (clsF CS CH i) (stpF i) (tlF i)))
    (G_change : ∀ i, Cal P w K mg base 8 "_law_change" ["_law_box_here", "_law_bank", "_law_nodes", "_law_step"] (spLChange K CT (clsF CS CH i) (stpF i) (tlF i))) (D : Def1 K mg "_law_deed" s_deed) : Cal P w K mg base 9 "_law_deed" ["_law_box_here", "_law_bank", "_law_nodes", "_law_step"] (spDeed3 K CT CS CH) := by
  refine D.cal sc_deed (fun _ _ _ _ _ _ us hl => match us, hl with | [_, _, _, _], _ => rfl) (fun vs H Q E h => ?_) (fun f cdv A outer s H vs Q E hr h => ?_) <;> unfold spDeed3 at h
  · obtain ⟨i, h⟩ := h
    exact len_deed _ _ _ _ h
  · obtain ⟨i, h⟩ := h
    exact body_deed T G_take G_free (G_make i) (G_set i) (G_change i) f cdv A outer s H vs Q E hr h
theorem ok_told3 {CT CS CH : Addr} (T : Bl mg) (BC : ∀ i, BankC P w K mg base (clsF CS CH i) CT (stpF i) (tlF i)) (G_same : Cal P w K mg base 4 "_law_same" ["_law_told_here", "_law_due"] (spSm K 4)) (G_spoil : Cal P w K mg base 5 "_law_spoil" ["_law_row", "_law_due"] (spSpoil K))
    (G_table : Cal P w K mg base 1 "_law_table" ["_law_many", "_law_step"] spTable) (G_sent : Cal P w K mg base 3 "_law_sent" ["_law_entries", "_law_table_here"] (spSent K)) (D : Def1 K mg "_law_told" s_told) : Cal P w K mg base 6 "_law_told" ["_law_bank", "_law_nodes", "_law_step"] (spTold3 K CT CS CH) := by
  refine D.cal sc_told (fun _ _ _ _ _ _ us hl => match us, hl with | [_, _, _], _ => rfl) (fun vs H Q E h => ?_) (fun f cdv A outer s H vs Q E hr h => ?_) <;> unfold spTold3 at h
  · obtain ⟨i, h⟩ := h
    exact len_told _ _ _ _ h
  · obtain ⟨i, h⟩ := h
    exact body_told T (BC i) G_same G_spoil G_table G_sent f cdv A outer s H vs Q E hr h
theorem deed3_step {CT CS CH : Addr} {i : Nat} {ρ : Role} {s : Nat} {R b B D N : Addr} {ys : List Th} {xs : List Nd} {H : Hp} {Q : VK} {E : XK} (h1 : Box H b) (h2 : ρ b = none) (h3 : Side K ρ s (stpF i) CT (clsF CS CH i) (tlF i R ys.length) H B D N ys xs) (h4 : xs.length ≤ 900)
    (q : ∀ H', After K ρ s (stpF i) CT (clsF CS CH i) (tlF i) R b B D N (xs.length + 2) H H' → Q (.bl true) H') : spDeed3 K CT CS CH ([.ref b, .ref B, .ref N, .int (stpF i)] ++ []) H Q E := by
  unfold spDeed3 spLDeed; exact ⟨i, ρ, s, R, b, B, D, N, ys, xs, rfl, h1, h2, h3, h4, q⟩
theorem told3_step {CT CS CH : Addr} {i : Nat} {ρ : Role} {s : Nat} {tl : List (Str × V)} {B D N : Addr} {ys : List Th} {xs : List Nd} {H : Hp} {Q : VK} {E : XK} (h3 : Side K ρ s (stpF i) CT (clsF CS CH i) tl H B D N ys xs)
    (q : ∀ H', Fr [] H H' → Q (.bl true) H') : spTold3 K CT CS CH ([.ref B, .ref N, .int (stpF i)] ++ []) H Q E := by
  unfold spTold3 spTold; exact ⟨i, ρ, s, tl, B, D, N, ys, xs, rfl, h3, q⟩
def KindsF (K : PySem.W.Frag) (CS : Addr) : Prop := ∃ (mc : Value) (t : Addr), ClX.CRead K CS mc ∧ ClX.CVal K CS mc "KINDS" (.ref t) (.ref t) ∧ ∀ H, TupAt K H t kindsV
theorem kinds_same {H : Hp} {t p : Addr} (h1 : TupAt K H t kindsV) (h2 : H p = some (.tup kindsV)) : Sm K 3 H (.ref t) (.ref p) := by
  refine .inr ⟨t, p, kindsV, kindsV, rfl, rfl, .inl ⟨h1, .of h2⟩, rfl, by decide, fun i x y ex ey => ?_⟩
  rw [ex] at ey
  cases ey
  refine Sm.leaf ?_
  have a : ∀ x ∈ kindsV, leafV x = true := by decide +kernel
  exact a x (List.mem_of_getElem? ex)
def spLaw (K : PySem.W.Frag) : Sp := fun vs H Q _ => ∃ (a : Addr) (ns : List Int), vs = [.ref a] ∧ SqL K H a (ns.map V.int) ∧ ∀ H', Q (.bl true) H'
@[irreducible] def LMid (K : PySem.W.Frag) (CT CS CH : Addr) (B D N : Nat → Addr) (Lb Lk Ts Tz a : Addr) (ns : List V) (σ : L2.St) (i : Nat) (σ' : L2.St) (H' : Hp) : Prop := ∃ (x y z : Option V) (ρ : Role), σ' = σ ++ [x, y, z] ∧ LI K ρ CT CS CH B D N Lb Lk Ts Tz a ns (2 * i) H'
theorem LMid.of {CT CS CH : Addr} {B D N : Nat → Addr} {Lb Lk Ts Tz a : Addr} {ns : List V} {σ σ' : L2.St} {i : Nat} {H' : Hp} {x y z : Option V} {ρ : Role} (e : σ' = σ ++ [x, y, z]) (h : LI K ρ CT CS CH B D N Lb Lk Ts Tz a ns (2 * i) H') : LMid K CT CS CH B D N Lb Lk Ts Tz a ns σ i σ' H' := by
  unfold LMid; exact ⟨x, y, z, ρ, e, h⟩
abbrev s_law : Stmt := top 38
theorem sc_law : FnScope ["_law_script", "_law_head", "_law_deeds", "_law_banks", "_law_steps", "_law_books", "_law_sides", "_law_turn", "_law_box_here", "_law_side"] ["_law_script"] (defScope s_law) := ⟨rfl, rfl, rfl, by decide +kernel, rfl, by decide +kernel, by decide +kernel⟩

theorem fun_law {CT CS CH : Addr} {f : Addr} {fd : FuncData} (T : Bl mg) (KF : KindsF K CS) (gStore : mg "Store" = some (.ref CS)) (G_same : Cal P w K mg base 4 "_law_same" ["_law_told_here", "_law_due"] (spSm K 4)) (G_kinds : Cal P w K mg base 1 "_law_kinds" [] spKinds) (G_box : Cal P w K mg base 2 "_law_box" ["_law_script", "_law_k"] (spBox K)) (G_take : CTake P w K mg base)
    (G_Store : CalC P w K mg base 1 CS "Store" ["self"] (spInit CS)) (G_Heap : CalC P w K mg base 2 CH "Heap" ["self"] (spHInit CH)) (G_deed : Cal P w K mg base 9 "_law_deed" ["_law_box_here", "_law_bank", "_law_nodes", "_law_step"] (spDeed3 K CT CS CH))
    (G_told : Cal P w K mg base 6 "_law_told" ["_law_bank", "_law_nodes", "_law_step"] (spTold3 K CT CS CH)) (D : FnP K "law" "law" s_law f fd) : FnOk P w K mg base CX0 10 f fd ["_law_script"] (spLaw K) := by
  refine (fnp_cal D sc_law (fun _ _ _ _ _ _ us hl => match us, hl with | [_], _ => rfl) (fun vs H Q E h => ?_) (fun f cdv A outer s H vs Q E hr h => ?_)).1 <;> unfold spLaw at h
  · obtain ⟨a, ns, rfl, _⟩ := h
    rfl
  · obtain ⟨a, ns, rfl, hs, q⟩ := h
    obtain ⟨mc, t, k1, k2, k3⟩ := KF
    refine ⟨_, (pss_cons (ps_if (pt_not (pt_val (pe_cal G_same (hr.mono (by omega)) (by rfl) (pa_cons (ClX.pe_cval (pe_glob (v := .ref CS) (by rfl) gStore rfl)) (pa_cons (pe_cal0 G_kinds (hr.mono (by omega)) (by rfl)) pa_nil)))))
      (pss_one (ps_ret pe_bl))
      pss_nil)
    (pss_cons (ps_set (i := 1) sc_law.nd rfl (Or.inl rfl) (pe_cal G_box (hr.mono (by omega)) (by rfl) (pa_cons (pv 0) (pa_cons pe_int pa_nil))))
    (pss_cons (ps_set (i := 2) sc_law.nd rfl (Or.inl rfl) (pe_op op_add pe_int (pe_cal G_take (hr.mono (by omega)) (by rfl) (pa_cons (pv 1) (pa_cons pe_int pa_nil)))))
    (pss_cons (ps_set (i := 3) sc_law.nd rfl (Or.inl rfl) (pe_lst (pa_cons (pe_mkx0 G_Store (hr.mono (by omega)) (by rfl)) (pa_cons (pe_mkx0 G_Store (hr.mono (by omega)) (by rfl)) (pa_cons (pe_mkx0 G_Heap (hr.mono (by omega)) (by rfl)) pa_nil)))))
    (pss_cons (ps_set (i := 4) sc_law.nd rfl (Or.inl rfl) (pe_tup (pa_cons pe_int (pa_cons pe_int (pa_cons pe_int pa_nil)))))
    (pss_cons (ps_set (i := 5) sc_law.nd rfl (Or.inl rfl) (pe_lst (pa_cons (pe_lst pa_nil) (pa_cons (pe_lst pa_nil) (pa_cons (pe_lst pa_nil) pa_nil)))))
    (pss_cons (ps_set (i := 6) sc_law.nd rfl (Or.inl rfl) (pe_tup (pa_cons pe_int (pa_cons pe_int (pa_cons pe_int (pa_cons pe_int (pa_cons pe_int pa_nil)))))))
    (pss_cons (ps_for PassesOwn.never rfl (pi_range1 (by rfl) T.z_range (pa_cons (pv 2) pa_nil)) (pg_name (i := 7) sc_law.nd rfl (Or.inl rfl))
      (pss_cons (ps_set (i := 8) sc_law.nd rfl (Or.inl rfl) (pe_cal G_box (hr.mono (by omega)) (by rfl) (pa_cons (pv 0) (pa_cons (pe_op op_add pe_int (pv 7)) pa_nil))))
      (pss_cons (ps_set (i := 9) sc_law.nd rfl (Or.inl rfl) (pe_ix (ixT K) (pv 6) (pe_cal G_take (hr.mono (by omega)) (by rfl) (pa_cons (pv 8) (pa_cons pe_int pa_nil))) (fun _ _ => rfl)))
      (pss_cons (ps_if (pt_not (pt_val (pe_cal G_deed (hr.mono (by omega)) (by rfl) (pa_cons (pv 8) (pa_cons (pe_ix (ixL K) (pv 3) (pv 9) (fun _ _ => rfl)) (pa_cons (pe_ix (ixL K) (pv 5) (pv 9) (fun _ _ => rfl)) (pa_cons (pe_ix (ixT K) (pv 4) (pv 9) (fun _ _ => rfl)) pa_nil)))))))
        (pss_one (ps_ret pe_bl))
        pss_nil)
      (pss_one (ps_if (PW.pt (pw_and (pt_cmpR op_gt (pe_cal G_take (hr.mono (by omega)) (by rfl) (pa_cons (pv 8) (pa_cons pe_int pa_nil))) pe_int (nomark _)) (pw_and1 (pt_not (pt_val (pe_cal G_told (hr.mono (by omega)) (by rfl) (pa_cons (pe_ix (ixL K) (pv 3) (pv 9) (fun _ _ => rfl)) (pa_cons (pe_ix (ixL K) (pv 5) (pv 9) (fun _ _ => rfl)) (pa_cons (pe_ix (ixT K) (pv 4) (pv 9) (fun _ _ => rfl)) pa_nil)))))))))
        (pss_one (ps_ret pe_bl))
        pss_nil))))))
    (pss_cons (ps_for PassesOwn.never rfl (pi_range1 (by rfl) T.z_range (pa_cons pe_int pa_nil)) (pg_name (i := 9) sc_law.nd rfl (Or.inl rfl))
      (pss_one (ps_if (pt_not (pt_val (pe_cal G_told (hr.mono (by omega)) (by rfl) (pa_cons (pe_ix (ixL K) (pv 3) (pv 9) (fun _ _ => rfl)) (pa_cons (pe_ix (ixL K) (pv 5) (pv 9) (fun _ _ => rfl)) (pa_cons (pe_ix (ixT K) (pv 4) (pv 9) (fun _ _ => rfl)) pa_nil))))))
        (pss_one (ps_ret pe_bl))
        pss_nil)))
    (pss_one (ps_ret pe_bl))))))))))), ?_⟩
    refine ⟨CS, mc, .ref t, .ref t, rfl, k1, k2, ?_⟩
    tm_at "goo"
    refine sm_step (kinds_same (k3 _) (by assumption)) ?_
    tm_at "goo"
    have s1 : SqL K H1 a (ns.map V.int) := sqFr0 fr hs
    have fr01 := fr
    refine box_step s1 (by decide) fun b0 H2 nb hb f2 => ?_
    tm_at "goo"
    have F13 := f2.compN fr nb
    have sc3 : Scr K (fun _ => none) H1 a (ns.map V.int) := (Scr.of s1).move (i := 7) (M := []) (fun x m => nomatch m) Ext.refl F13
    clear F13 s1 hs f2 fr01 fr
    refine mk_step fun x0 dx0 H4 nx0 hx0 f4 => ?_
    refine init_step hx0 fun D0 H5 nD0 hD0 hB0 f5 => ?_
    refine ⟨rfl, ?_⟩
    refine mk_step fun x1 dx1 H6 nx1 hx1 f6 => ?_
    refine init_step hx1 fun D1 H7 nD1 hD1 hB1 f7 => ?_
    refine ⟨rfl, ?_⟩
    refine mk_step fun x2 dx2 H8 nx2 hx2 f8 => ?_
    refine hinit_step hx2 fun D2 R H9 nD2 hD2 hB2 f9 => ?_
    refine ⟨rfl, ?_⟩
    have F35 := f4.compN f5 nx0
    have F57 := f6.compN f7 nx1
    have F79 := f8.compN f9 nx2
    have mD0 := f4.free nD0
    have mD1 := f6.free nD1
    have mD2 := f8.free nD2
    clear f4 f5 f6 f7 f8 f9
    tm_at "goo"
    rename_i Lb nLb Ts nTs n0 q0 n1 q1 n2 q2 Lk nLk
    have fb := Fr.new (o := .lst [.ref x0, .ref x1, .ref x2]) nLb
    have ft := fb.tr (Fr.new (o := .tup [.int 1, .int 1, .int 2]) nTs)
    have f0 := ft.tr (Fr.new (o := .lst []) q0)
    have f1 := f0.tr (Fr.new (o := .lst []) q1)
    have f2 := f1.tr (Fr.new (o := .lst []) q2)
    have fk := f2.tr (Fr.new (o := .lst [.ref n0, .ref n1, .ref n2]) nLk)
    have f9 := fk.tr (Fr.new (o := .tup [.int 0, .int 0, .int 1, .int 2, .int 2]) np)
    have g0 := ft.free q0
    have g1 := f0.free q1
    have g2 := f1.free q2
    have gk := f2.free nLk
    clear fb ft f0 f1 f2 fk
    have L0 := LI.start (CT := CT) (n0 := n0) (n1 := n1) (n2 := n2) (Lb := Lb) (Lk := Lk) (Ts := Ts) (Tz := p) sc3 nx0 mD0 hB0 hD0 F35 nx1 mD1 hB1 hD1 F57 nx2 mD2 hB2 hD2 F79 f9 g0 g1 g2 nLb gk
      (by clear f9; apply ne_of_none2 q1; tm_at "hp") (by clear f9; apply ne_of_none2 q2; tm_at "hp") (by clear f9; apply ne_of_none2 q2; tm_at "hp") (by clear f9; apply ne_of_none2 q0; tm_at "hp") (by clear f9; apply ne_of_none2 q1; tm_at "hp") (by clear f9; apply ne_of_none2 q2; tm_at "hp")
      (by symm; clear f9; apply ne_of_none2 nLk; tm_at "hp") (by symm; clear f9; apply ne_of_none2 nLk; tm_at "hp") (by symm; clear f9; apply ne_of_none2 nLk; tm_at "hp") (by clear f9; tm_at "hp") (by clear f9; tm_at "hp") (by clear f9; tm_at "hp") (by clear f9; tm_at "hp") (by clear f9; tm_at "hp") (by clear f9; tm_at "hp") (by clear f9; tm_at "hp")
    obtain ⟨ρ0, L0⟩ := L0
    clear F35 F57 F79 hB0 hB1 hB2 hD0 hD1 hD2 f9 g0 g1 g2 gk nx0 nx1 nx2 mD0 mD1 mD2 nD0 nD1 nD2 hx0 hx1 hx2 sc3
    refine forR (LMid K CT CS CH (pick3 x0 x1 x2) (pick3 D0 D1 D2) (pick3 n0 n1 n2) Lb Lk Ts p a (ns.map V.int) [some (.ref a), some (.ref b0), some (.int (3 + r)), some (.ref Lb), some (.ref Ts), some (.ref Lk), some (.ref p)]) (LMid.of (x := none) (y := none) (z := none) rfl L0) (fun i σ' H' hi hP => ?_) (fun σ' H' hP => ?_)
    · unfold LMid at hP
      obtain ⟨x, y, z, ρ, rfl, L⟩ := hP
      have L' := L
      obtain ⟨sd, lb, rb, lk, rk, ts, tz, sc⟩ := L
      have sq := sc.sq
      tm_at "goo"
      refine box_step sq (by omega) fun b Hb nb hb fb => ?_
      have nzb : p ≠ b := ne_of_none2 nb tz
      have nsb : Ts ≠ b := ne_of_none2 nb ts
      have nlb : Lb ≠ b := ne_of_none2 nb lb
      have nkb : Lk ≠ b := ne_of_none2 nb lk
      tm_at "goo"
      obtain ⟨i0, hi0, rfl⟩ : ∃ i0 : Nat, i0 < 3 ∧ v = .int i0 := by
        simp only [List.mem_cons, List.not_mem_nil, or_false] at hm
        rcases hm with rfl | rfl | rfl | rfl | rfl
        · exact ⟨0, by decide, rfl⟩
        · exact ⟨0, by decide, rfl⟩
        · exact ⟨1, by decide, rfl⟩
        · exact ⟨2, by decide, rfl⟩
        · exact ⟨2, by decide, rfl⟩
      have gv : ∀ {f : Nat → V} {v : V}, ((List.range 3).map f)[((i0 : Nat) : Int).toNat]? = some v → v = f i0 := fun {f v} h => by
        rw [Int.toNat_natCast, List.getElem?_map, List.getElem?_range hi0] at h
        exact (Option.some.inj h).symm
      have hi3 : (i0 : Int) < ((List.range 3).map fun i => V.ref (pick3 x0 x1 x2 i)).length := by simp; omega
      have hi4 : (i0 : Int) < ((List.range 3).map fun i => V.ref (pick3 n0 n1 n2 i)).length := by simp; omega
      have hi5 : (i0 : Int) < ((List.range 3).map fun i => V.int (stpF i)).length := by simp; omega
      tm_at "goo"
      rename_i vB hvB vN hvN
      obtain rfl := gv hvB
      obtain rfl := gv hvN
      obtain rfl := gv hv
      obtain ⟨R', ys', xs', S0, l0⟩ := sd i0 hi0
      have F1 := fb.compN fr nb
      have ex1 : Ext H' ρ (hide ρ [b]) := hide_ext fun x m => by rw [List.mem_singleton.mp m]; exact nb
      have rb1 : hide ρ [b] b = none := hide_at (by simp)
      have S1 := (S0.ext ex1).of0 F1
      have hi20 : (3 + r).toNat ≤ 21 := by omega
      refine deed3_step hB rb1 S1 (by omega) fun H2 hA => ?_
      obtain ⟨ρ2, ys2, xs2, M, S2, l2, B2, ex2, f2, aw⟩ := hA
      have ex3 : Ext H' ρ ρ2 := extT ex1 ex2 (alive F1 fun _ m => nomatch m)
      obtain ⟨ob, hob⟩ := hB.has
      have rb2 : ρ2 b = none := (ex2 b (some_ne hob)).trans rb1
      have ow : Own ρ H' (b :: M) i0 := fun x m => by
        rcases List.mem_cons.mp m with rfl | m
        · exact .inl nb
        · rcases aw x m with rfl | ⟨j, k, e⟩
          · exact .inl nb
          · unfold hide at e
            split at e
            · cases e
            · exact .inr ⟨j, k, e⟩
      have F2 : Fr (b :: M) H' H2 := (F1.to (fun x m => nomatch m) fun x m zs e => (by
        rcases List.mem_cons.mp m with rfl | m
        · rw [nb] at e; cases e
        · exact f2.nt x m zs (F1.tup e))).app f2 fun x m => .inl (List.mem_cons_of_mem _ m)
      have L2 := L'.move (m' := 2 * (i + 1)) ow ex3 F2 (by omega) ⟨R', ys2, xs2, S2, by omega⟩
      have lb2 := L2.lb
      have lk2 := L2.lk
      have ts2 := L2.ts
      clear lb lk ts tz
      tm_at "goo"
      · rename_i vB hvB vN hvN
        obtain rfl := gv hvB
        obtain rfl := gv hvN
        obtain rfl := gv hv
        have f3 : Fr [b] H2 H1 := by assumption
        have S3 := S2.frM f3 (.one rb2)
        have L4 := L'.move (m' := 2 * (i + 1)) ow ex3 (F2.app f3 fun x m => .inl (by rw [List.mem_singleton.mp m]; simp)) (by omega) ⟨R', ys2, xs2, S3, by omega⟩
        refine told3_step S3 fun H4 f4 => ?_
        tm_at "goo"
        exact LMid.of rfl (L4.of0 f4)
      · have f3 : Fr [b] H2 H1 := by assumption
        have S3 := S2.frM f3 (.one rb2)
        have L4 := L'.move (m' := 2 * (i + 1)) ow ex3 (F2.app f3 fun x m => .inl (by rw [List.mem_singleton.mp m]; simp)) (by omega) ⟨R', ys2, xs2, S3, by omega⟩
        exact LMid.of rfl L4
    · tm_at "goo"
      generalize (3 + r).toNat = n at hP
      refine forR (fun _ => LMid K CT CS CH (pick3 x0 x1 x2) (pick3 D0 D1 D2) (pick3 n0 n1 n2) Lb Lk Ts p a (ns.map V.int) [some (.ref a), some (.ref b0), some (.int (3 + r)), some (.ref Lb), some (.ref Ts), some (.ref Lk), some (.ref p)] n) hP (fun i0 σ' H' hi hP => ?_) (fun σ' H' hP => ?_)
      · unfold LMid at hP
        obtain ⟨x, y, z, ρ, rfl, L⟩ := hP
        have hi0 : i0 < 3 := hi
        have lb := L.lb
        have lk := L.lk
        have ts := L.ts
        rw [show (0 : Int) + (i0 : Int) = i0 from Int.zero_add _]
        have gv : ∀ {f : Nat → V} {v : V}, ((List.range 3).map f)[((i0 : Nat) : Int).toNat]? = some v → v = f i0 := fun {f v} h => by
          rw [Int.toNat_natCast, List.getElem?_map, List.getElem?_range hi0] at h
          exact (Option.some.inj h).symm
        have hi3 : (i0 : Int) < ((List.range 3).map fun i => V.ref (pick3 x0 x1 x2 i)).length := by simp; omega
        have hi4 : (i0 : Int) < ((List.range 3).map fun i => V.ref (pick3 n0 n1 n2 i)).length := by simp; omega
        have hi5 : (i0 : Int) < ((List.range 3).map fun i => V.int (stpF i)).length := by simp; omega
        tm_at "goo"
        rename_i vB hvB vN hvN
        obtain rfl := gv hvB
        obtain rfl := gv hvN
        obtain rfl := gv hv
        obtain ⟨R', ys', xs', S0, l0⟩ := L.sd i0 hi0
        refine told3_step S0 fun H4 f4 => ?_
        tm_at "goo"
        exact LMid.of rfl (L.of0 f4)
      · tm_at "goo"
        exact q _
end
end M14
set_option Elab.async false
set_option linter.all false
set_option maxRecDepth 100000
set_option maxHeartbeats 0
namespace M14
open PySem PySem.Spec PyProof.Rows L2
/-! ### the head's own facts -/
abbrev FnS : Type := Option (Str × Str × Arguments × FuncBody × Scope × Addr × List Str × Addr)
def fnS (K : PySem.W.Frag) (p : Str × Option Str) : FnS := match K.lookup (He.fAd K p) with
  | some ⟨_, _, .func fd, _⟩ => some (fd.name, fd.qualname, fd.params, fd.body, fd.scope, fd.globals, fd.closure.map (·.1), fd.builtins)
  | _ => none
/-- a method that closes over its class -/
structure DefS where
  at_ : Str × Option Str
  name : Str
  qual : Str
  st : Stmt
def DefS.val (d : DefS) : FnS := some (d.name, d.qual, defArgs d.st, FuncBody.stmts (defBody d.st), defScope d.st, mainGlobals, ["__class__"], builtinsNs)
def isNon : Value → Bool
  | .none => true
  | _ => false
def fileB (K : PySem.W.Frag) (file0 : Str) (cd : Value) : Bool := match cd with
  | .ref cda => (match K.lookup cda with
    | some ⟨_, _, .fields vs, _⟩ => (match vs[2]? with
      | some (Value.str file _) => file0 == file
      | _ => false)
    | _ => false)
  | _ => false
def cellB (K : PySem.W.Frag) (D : Addr) (cl : List (Str × Addr)) : Bool := match cl with
  | [(_, cc)] => (match K.lookup cc with
    | some ⟨_, _, .cell (some (.ref E)), _⟩ => decide (E = D)
    | _ => false)
  | _ => false
def DefS.ok (K : PySem.W.Frag) (D : Addr) (file0 : Str) (d : DefS) : Bool := PySem.W.keepIn K (.ref (He.fAd K d.at_)) && (match K.lookup (He.fAd K d.at_) with
  | some ⟨_, _, .func fd, _⟩ => isNon fd.defaults && (PySem.W.codeIn K fd.code d.qual && (fileB K file0 fd.code && cellB K D fd.closure))
  | _ => false)
theorem DefS.sup {P : Program} {K : PySem.W.Frag} {D : Addr} {d : DefS} {ar : Arg} (e : fnS K d.at_ = d.val) (c : d.ok K D P.main.file = true) (ha : ((defArgs d.st).posonlyargs ++ (defArgs d.st).args).head? = some ar) (hs : ar.arg = "self") :
    ∃ fd, SupF P K d.name d.qual d.st D (He.fAd K d.at_) fd := by
  obtain ⟨kp, c2⟩ := He.ba c
  unfold fnS at e
  cases q : K.lookup (He.fAd K d.at_) with
  | none => rw [q] at c2; cases c2
  | some o =>
    obtain ⟨oc, od, dt, osl⟩ := o
    rw [q] at c2 e
    cases dt with
    | func fd =>
      obtain ⟨n1, n2, n3, n4, n5, n6, n7, n8, n9, n10, n11, n12, n13, n14, n15⟩ := fd
      have e2 : (some (n1, n2, n3, n4, n5, n6, n7.map (·.1), n15) : FnS) = some (d.name, d.qual, defArgs d.st, FuncBody.stmts (defBody d.st), defScope d.st, mainGlobals, ([("__class__" : Str)] : List Str), builtinsNs) := e
      simp only [Option.some.injEq, Prod.mk.injEq] at e2
      obtain ⟨h1, h2, h3, h4, h5, h6, h7, h8⟩ := e2
      have c3 : (isNon n8 && (PySem.W.codeIn K n13 d.qual && (fileB K P.main.file n13 && cellB K D n7))) = true := c2
      obtain ⟨k1, k2⟩ := He.ba c3
      obtain ⟨k3, k4⟩ := He.ba k2
      obtain ⟨k5, k6⟩ := He.ba k4
      cases n8 with
      | none =>
        cases n13 with
        | ref cda =>
          unfold fileB at k5
          cases q2 : K.lookup cda with
          | none => simp only [q2] at k5; cases k5
          | some o2 =>
            obtain ⟨ocl, odl, dt2, ksl⟩ := o2
            simp only [q2] at k5
            cases dt2 with
            | fields vs =>
              cases q3 : vs[2]? with
              | none => simp only [q3] at k5; cases k5
              | some u =>
                simp only [q3] at k5
                cases u with
                | str file tf =>
                  match n7, h7, k6 with
                  | [(y, cc)], h7, k6 =>
                    have ey : y = ("__class__" : Str) := by simpa using h7
                    unfold cellB at k6
                    cases q4 : K.lookup cc with
                    | none => simp only [q4] at k6; cases k6
                    | some o4 =>
                      obtain ⟨cls, cld, dt4, csl⟩ := o4
                      simp only [q4] at k6
                      cases dt4 with
                      | cell v =>
                        cases v with
                        | none => cases k6
                        | some v =>
                          cases v with
                          | ref E =>
                            have eE : E = D := of_decide_eq_true k6
                            subst eE ey h1 h2 h3 h4 h5 h6 h8
                            exact ⟨_, ⟨oc, od, n9, n10, n11, n12, cda, n14, osl, cc, ocl, odl, cls, cld, csl, ksl, vs, file, tf, ar, rfl, q, k3, q2, q3, k5, q4, ha, hs⟩, kp⟩
                          | _ => cases k6
                      | _ => cases k6
                  | [], _, k6 => cases k6
                  | _ :: _ :: _, _, k6 => cases k6
                | _ => cases k5
            | _ => cases k5
        | _ => cases k3
      | _ => cases k1
    | _ => cases c2
/-- what super finds -/
def supB (K : PySem.W.Frag) (C D : Addr) (m : Str) (f2 : Addr) : Bool := decide (PySem.W.ks_superIn K C D m = some (some (.ref f2))) && (decide (PySem.W.typeIn K (.ref f2) = some (.type "function")) && (PySem.W.fnIn K f2 && (decide (PySem.W.mroIn K C (.ref D) = some true) &&
  ((PySem.W.clsIn K C).isSome && ((PySem.W.clsIn K D).isSome && decide (PySem.W.nsIn K PySem.cStatics "thirdparty.any" = some none))))))
theorem supB_ok {P : Program} {K : PySem.W.Frag} {mg : Str → Option Value} {C D f2 : Addr} {m : Str} (h : supB K C D m f2 = true) (sg : mg "super" = none) (top : (P.main.scope.names.lookup ("super" : Str)).isSome = false) (nm : (m == ("__class__" : Str)) = false) : SupM P K mg C D m f2 := by
  obtain ⟨h1, h⟩ := He.ba h
  obtain ⟨h2, h⟩ := He.ba h
  obtain ⟨h3, h⟩ := He.ba h
  obtain ⟨h4, h⟩ := He.ba h
  obtain ⟨h5, h⟩ := He.ba h
  obtain ⟨h6, h7⟩ := He.ba h
  exact ⟨of_decide_eq_true h1, of_decide_eq_true h2, h3, of_decide_eq_true h4, Option.isSome_iff_exists.mp h5, Option.isSome_iff_exists.mp h6, of_decide_eq_true h7, sg, top, nm⟩
/-- a class's tuple of texts -/
def valB (K : PySem.W.Frag) (C : Addr) (mc : Value) (f : Str) (t : Addr) : Bool := match PySem.W.findCls K (.ref C) mc f with
  | some (.val u) => decide (u = .ref t)
  | _ => false
def tupA (K : PySem.W.Frag) (a : Addr) (vs : List V) : Bool := match K.lookup a with
  | some ⟨.type c, _, .seq its _, _⟩ => decide (c = "tuple") && (decide (its.size ≤ sizeLine) && He.relAll vs its.toList)
  | _ => false
theorem tupA_ok {K : PySem.W.Frag} {a : Addr} {vs : List V} (h : tupA K a vs = true) (H : Hp) : TupAt K H a vs := by
  unfold tupA at h
  cases q : K.lookup a with
  | none => rw [q] at h; cases h
  | some o =>
    obtain ⟨oc, od, dt, osl⟩ := o
    rw [q] at h
    cases oc with
    | type c =>
      cases dt with
      | seq its n =>
        obtain ⟨h1, h2⟩ := He.ba (show (decide (c = "tuple") && (decide (its.size ≤ sizeLine) && He.relAll vs its.toList)) = true from h)
        obtain ⟨h3, h4⟩ := He.ba h2
        have e : Value.type c = .type "tuple" := congrArg Value.type (of_decide_eq_true h1)
        exact ⟨.inr ⟨_, its, n, q, e, rfl, of_decide_eq_true h3, He.relAll_ok h4⟩, .kTuple q e⟩
      | _ => cases h
    | _ => cases dt <;> cases h
def kindsB (K : PySem.W.Frag) (C : Addr) : Bool := PySem.W.readsIn K C (.type "type") && (decide (PySem.W.specialIn K (.ref C) "__getattribute__" = some (some (.builtin "type.__getattribute__"))) && (valB K C (.type "type") "KINDS" (He.ma K C "KINDS") && tupA K (He.ma K C "KINDS") kindsV))
theorem kindsB_ok {K : PySem.W.Frag} {C : Addr} (h : kindsB K C = true) : KindsF K C := by
  obtain ⟨h1, h⟩ := He.ba h
  obtain ⟨h2, h⟩ := He.ba h
  obtain ⟨h3, h4⟩ := He.ba h
  refine ⟨_, _, ⟨h1, of_decide_eq_true h2⟩, ⟨?_, rfl⟩, tupA_ok h4⟩
  unfold valB at h3
  split at h3
  · rename_i u hu
    rw [hu, of_decide_eq_true h3]
  · cases h3
/-! ### the hook -/
def asX (g : Addr → Option Obj) : Nat → List Addr
  | 0 => [mainGlobals, PySem.cStatics]
  | n + 1 => He.growD g (asX g n)
abbrev AlX : Type := Bool × List He.FnW × List FnS
section
variable (fa : List He.Fa) (fn : List He.DefD) (fs : List DefS) (ow : PySem.W.Frag → Bool) (file0 : Str) (C0 : Str)
def obsX (K : PySem.W.Frag) : AlX := (((fa.all fun f => f.ok K) && fn.all fun d => d.ok K) && ((fs.all fun d => d.ok K (He.ga K C0) file0) && ow K), fn.map fun d => He.fnW K d.at_, fs.map fun d => fnS K d.at_)
def valX : AlX := (true, fn.map He.DefD.val, fs.map DefS.val)
def SaysX (K : PySem.W.Frag) : Prop := obsX fa fn fs ow file0 C0 K = valX fn fs
def obsXG (n : Nat) (g : Addr → Option Obj) : AlX := obsX fa fn fs ow file0 C0 (He.frG g (asX g n))
def hookX (n : Nat) : PySem.W.Hook where
  α := AlX
  obs := fun s => obsXG fa fn fs ow file0 C0 n s.heap.get?
  val := fun _ => valX fn fs
  says := fun _ h => ∃ K : PySem.W.Frag, K.In h ∧ SaysX fa fn fs ow file0 C0 K
  of := fun _ _ e => ⟨_, He.frG_in, e⟩
  keeps := fun _ _ _ ⟨K, hK, c⟩ k => ⟨K, PySem.W.Frag.In.keeps hK k, c⟩
theorem obsXG_eq {n : Nat} {g : Addr → Option Obj} {s : Shared} (h : ∀ a, g a = s.heap.get? a) : obsXG fa fn fs ow file0 C0 n g = (hookX fa fn fs ow file0 C0 n).obs s := by
  have e : g = s.heap.get? := funext h
  rw [e] <;> rfl
end
section
variable {fa : List He.Fa} {fn : List He.DefD} {fs : List DefS} {ow : PySem.W.Frag → Bool} {file0 C0 : Str} {K : PySem.W.Frag}
theorem SaysX.all (c : SaysX fa fn fs ow file0 C0 K) : ((fa.all fun f => f.ok K) && fn.all fun d => d.ok K) = true ∧ ((fs.all fun d => d.ok K (He.ga K C0) file0) && ow K) = true := He.ba (congrArg (fun z : AlX => z.1) c)
theorem SaysX.fact (c : SaysX fa fn fs ow file0 C0 K) (i : Nat) {f : He.Fa} (h : fa[i]? = some f := by rfl) : f.ok K = true := List.all_eq_true.mp (He.ba c.all.1).1 f (List.mem_of_getElem? h)
theorem SaysX.own (c : SaysX fa fn fs ow file0 C0 K) : ow K = true := (He.ba c.all.2).2
theorem SaysX.def_ (c : SaysX fa fn fs ow file0 C0 K) (i : Nat) {d : He.DefD} (h : fn[i]? = some d := by rfl) : ∃ fd, FunD K d.name d.qual d.params d.body d.scope (d.dvs K) (d.kws K) (He.fAd K d.at_) fd := by
  have e : fn.map (fun d => He.fnW K d.at_) = fn.map He.DefD.val := congrArg (fun z : AlX => z.2.1) c
  have e2 : (fn.map fun d => He.fnW K d.at_)[i]? = (fn.map He.DefD.val)[i]? := by rw [e]
  rw [List.getElem?_map, List.getElem?_map, h] at e2
  exact He.DefD.funD (Option.some.inj e2) (List.all_eq_true.mp (He.ba c.all.1).2 d (List.mem_of_getElem? h))
theorem SaysX.sup (c : SaysX fa fn fs ow file0 C0 K) {P : Program} (ef : file0 = P.main.file) (i : Nat) {d : DefS} {ar : Arg} (h : fs[i]? = some d) (ha : ((defArgs d.st).posonlyargs ++ (defArgs d.st).args).head? = some ar) (hs : ar.arg = "self") : ∃ fd, SupF P K d.name d.qual d.st (He.ga K C0) (He.fAd K d.at_) fd := by
  have e : fs.map (fun d => fnS K d.at_) = fs.map DefS.val := congrArg (fun z : AlX => z.2.2) c
  have e2 : (fs.map fun d => fnS K d.at_)[i]? = (fs.map DefS.val)[i]? := by rw [e]
  rw [List.getElem?_map, List.getElem?_map, h] at e2
  have q := List.all_eq_true.mp (He.ba c.all.2).1 d (List.mem_of_getElem? h)
  rw [ef] at q
  exact DefS.sup (Option.some.inj e2) q ha hs
end

/-! ### what is asked of this row -/
abbrev R : PySem.W.OpenRow := PySem.W.OpenLaw.row PySem.Challenge.rw_likerun_k14_store_history
def fa : List He.Fa := [.glo "_law_cell", .glo "_law_box", .glo "_law_take", .glo "_law_same", .glo "_law_word", .glo "_law_name", .glo "_law_plain", .glo "_law_pending", .glo "_law_marked", .glo "_law_entry", .glo "_law_kinds", .glo "_law_kind", .glo "_law_marks", .glo "_law_tag", .glo "_law_form", .glo "_law_free", .glo "_law_moved", .glo "_law_sent", .glo "_law_spoil", .glo "_law_table", .glo "_law_errors", .glo "_law_make", .glo "_law_set", .glo "_law_change", .glo "_law_deed", .glo "_law_told", .glo "law", .glo "_young_ones", .free "len", .free "int", .free "sum", .free "range", .free "list", .free "tuple", .free "str", .free "isinstance", .free "bool", .free "sorted", .free "enumerate", .free "super", .glo "Store", .cls "Store", .mkr "Store", .glo "Heap", .cls "Heap", .mkr "Heap", .glo "Thing", .cls "Thing", .mkr "Thing", .noat "Store" "_things", .noat "Store" "grown", .noat "Heap" "_things", .noat "Heap" "grown", .noat "Heap" "_young", .noat "Heap" "_old", .noat "Heap" "_remembered", .noat "Thing" "kind", .noat "Thing" "tag", .noat "Thing" "slots", .noat "Thing" "age", .meth "Store" "__len__", .meth "Store" "make", .meth "Store" "_keep", .meth "Store" "kind_of", .meth "Store" "tag_of", .meth "Store" "slots_of", .meth "Store" "slot", .meth "Store" "set_slot", .meth "Store" "change", .meth "Store" "__init__", .meth "Heap" "_keep", .meth "Heap" "kind_of", .meth "Heap" "tag_of", .meth "Heap" "slots_of", .meth "Heap" "slot", .meth "Heap" "__len__", .meth "Heap" "make", .meth "Heap" "_remember", .meth "Thing" "__init__", .meth "Heap" "set_slot", .meth "Heap" "change"]
def fn : List He.DefD := [⟨("_law_cell", none), "_law_cell", "_law_cell", defArgs s_cell, defBody s_cell, defScope s_cell, [], []⟩,
  ⟨("_law_box", none), "_law_box", "_law_box", defArgs s_box, defBody s_box, defScope s_box, [], []⟩,
  ⟨("_law_take", none), "_law_take", "_law_take", defArgs s_take, defBody s_take, defScope s_take, [], []⟩,
  ⟨("_law_same", none), "_law_same", "_law_same", defArgs s_same, defBody s_same, defScope s_same, [], []⟩,
  ⟨("_law_word", none), "_law_word", "_law_word", defArgs s_word, defBody s_word, defScope s_word, [], []⟩,
  ⟨("_law_name", none), "_law_name", "_law_name", defArgs s_name, defBody s_name, defScope s_name, [], []⟩,
  ⟨("_law_plain", none), "_law_plain", "_law_plain", defArgs s_plain, defBody s_plain, defScope s_plain, [], []⟩,
  ⟨("_law_pending", none), "_law_pending", "_law_pending", defArgs s_pending, defBody s_pending, defScope s_pending, [], []⟩,
  ⟨("_law_marked", none), "_law_marked", "_law_marked", defArgs s_marked, defBody s_marked, defScope s_marked, [], []⟩,
  ⟨("_law_entry", none), "_law_entry", "_law_entry", defArgs s_entry, defBody s_entry, defScope s_entry, [], []⟩,
  ⟨("_law_kinds", none), "_law_kinds", "_law_kinds", defArgs s_kinds, defBody s_kinds, defScope s_kinds, [], []⟩,
  ⟨("_law_kind", none), "_law_kind", "_law_kind", defArgs s_kind, defBody s_kind, defScope s_kind, [], []⟩,
  ⟨("_law_marks", none), "_law_marks", "_law_marks", defArgs s_marks, defBody s_marks, defScope s_marks, [], []⟩,
  ⟨("_law_tag", none), "_law_tag", "_law_tag", defArgs s_tag, defBody s_tag, defScope s_tag, [], []⟩,
  ⟨("_law_form", none), "_law_form", "_law_form", defArgs s_form, defBody s_form, defScope s_form, [], []⟩,
  ⟨("_law_free", none), "_law_free", "_law_free", defArgs s_free, defBody s_free, defScope s_free, [], []⟩,
  ⟨("_law_moved", none), "_law_moved", "_law_moved", defArgs s_moved, defBody s_moved, defScope s_moved, [], []⟩,
  ⟨("_law_sent", none), "_law_sent", "_law_sent", defArgs s_sent, defBody s_sent, defScope s_sent, [], []⟩,
  ⟨("_law_spoil", none), "_law_spoil", "_law_spoil", defArgs s_spoil, defBody s_spoil, defScope s_spoil, [], []⟩,
  ⟨("_law_table", none), "_law_table", "_law_table", defArgs s_table, defBody s_table, defScope s_table, [], []⟩,
  ⟨("_law_errors", none), "_law_errors", "_law_errors", defArgs s_errors, defBody s_errors, defScope s_errors, [], []⟩,
  ⟨("_law_make", none), "_law_make", "_law_make", defArgs s_make, defBody s_make, defScope s_make, [], []⟩,
  ⟨("_law_set", none), "_law_set", "_law_set", defArgs s_set, defBody s_set, defScope s_set, [], []⟩,
  ⟨("_law_change", none), "_law_change", "_law_change", defArgs s_change, defBody s_change, defScope s_change, [], []⟩,
  ⟨("_law_deed", none), "_law_deed", "_law_deed", defArgs s_deed, defBody s_deed, defScope s_deed, [], []⟩,
  ⟨("_law_told", none), "_law_told", "_law_told", defArgs s_told, defBody s_told, defScope s_told, [], []⟩,
  ⟨("law", none), "law", "law", defArgs s_law, defBody s_law, defScope s_law, [], []⟩,
  ⟨("_young_ones", none), "_young_ones", "_young_ones", defArgs s_young_ones, defBody s_young_ones, defScope s_young_ones, [], []⟩,
  ⟨("Store", some "__len__"), "__len__", "Store.__len__", defArgs s_Store_len, defBody s_Store_len, defScope s_Store_len, [], []⟩,
  ⟨("Store", some "make"), "make", "Store.make", defArgs s_Store_make, defBody s_Store_make, defScope s_Store_make, [], []⟩,
  ⟨("Store", some "_keep"), "_keep", "Store._keep", defArgs s_Store_keep, defBody s_Store_keep, defScope s_Store_keep, [], []⟩,
  ⟨("Store", some "kind_of"), "kind_of", "Store.kind_of", defArgs s_Store_kind_of, defBody s_Store_kind_of, defScope s_Store_kind_of, [], []⟩,
  ⟨("Store", some "tag_of"), "tag_of", "Store.tag_of", defArgs s_Store_tag_of, defBody s_Store_tag_of, defScope s_Store_tag_of, [], []⟩,
  ⟨("Store", some "slots_of"), "slots_of", "Store.slots_of", defArgs s_Store_slots_of, defBody s_Store_slots_of, defScope s_Store_slots_of, [], []⟩,
  ⟨("Store", some "slot"), "slot", "Store.slot", defArgs s_Store_slot, defBody s_Store_slot, defScope s_Store_slot, [], []⟩,
  ⟨("Store", some "set_slot"), "set_slot", "Store.set_slot", defArgs s_Store_set_slot, defBody s_Store_set_slot, defScope s_Store_set_slot, [], []⟩,
  ⟨("Store", some "change"), "change", "Store.change", defArgs s_Store_change, defBody s_Store_change, defScope s_Store_change, [], []⟩,
  ⟨("Store", some "__init__"), "__init__", "Store.__init__", defArgs s_Store_init, defBody s_Store_init, defScope s_Store_init, [], []⟩,
  ⟨("Heap", some "_keep"), "_keep", "Store._keep", defArgs s_Store_keep, defBody s_Store_keep, defScope s_Store_keep, [], []⟩,
  ⟨("Heap", some "kind_of"), "kind_of", "Store.kind_of", defArgs s_Store_kind_of, defBody s_Store_kind_of, defScope s_Store_kind_of, [], []⟩,
  ⟨("Heap", some "tag_of"), "tag_of", "Store.tag_of", defArgs s_Store_tag_of, defBody s_Store_tag_of, defScope s_Store_tag_of, [], []⟩,
  ⟨("Heap", some "slots_of"), "slots_of", "Store.slots_of", defArgs s_Store_slots_of, defBody s_Store_slots_of, defScope s_Store_slots_of, [], []⟩,
  ⟨("Heap", some "slot"), "slot", "Store.slot", defArgs s_Store_slot, defBody s_Store_slot, defScope s_Store_slot, [], []⟩,
  ⟨("Heap", some "__len__"), "__len__", "Heap.__len__", defArgs s_Heap_len, defBody s_Heap_len, defScope s_Heap_len, [], []⟩,
  ⟨("Heap", some "make"), "make", "Heap.make", defArgs s_Heap_make, defBody s_Heap_make, defScope s_Heap_make, [], []⟩,
  ⟨("Heap", some "_remember"), "_remember", "Heap._remember", defArgs s_Heap_remember, defBody s_Heap_remember, defScope s_Heap_remember, [], []⟩,
  ⟨("Thing", some "__init__"), "__init__", "Thing.__init__", defArgs s_Thing_init, defBody s_Thing_init, defScope s_Thing_init, [], []⟩]
def fs : List DefS := [⟨("Heap", some "set_slot"), "set_slot", "Heap.set_slot", s_HSet⟩, ⟨("Heap", some "change"), "change", "Heap.change", s_HChg⟩, ⟨("Heap", some "__init__"), "__init__", "Heap.__init__", s_HInit⟩]
def own (K : PySem.W.Frag) : Bool := kindsB K (He.ga K "Store") && (supB K (He.ga K "Heap") (He.ga K "Heap") "set_slot" (He.fAd K ("Store", some "set_slot")) && supB K (He.ga K "Heap") (He.ga K "Heap") "change" (He.fAd K ("Store", some "change")) && supB K (He.ga K "Heap") (He.ga K "Heap") "__init__" (He.fAd K ("Store", some "__init__")))
def file0 : Str := PySem.Challenge.pw_likerun_k14_store_history.main.file
abbrev hk : PySem.W.Hook := hookX fa fn fs own file0 "Heap" 6
def ob (s : PySem.W.SharedT) : AlX := obsXG fa fn fs own file0 "Heap" 6 (HandSHeadRun.getT s)
theorem ob_eq (s : PySem.W.SharedT) : ob s = hk.obs s.abs := obsXG_eq _ _ _ _ _ _ (HandSHeadRun.getT_eq s)
abbrev loose : List Str := ([("_wall" : Str), ("address_of" : Str), ("Thing" : Str), ("Store" : Str), ("_is_young" : Str), ("_young_ones" : Str), ("Heap" : Str), ("_law_cell" : Str), ("_law_box" : Str), ("_law_take" : Str)] : List Str) ++ ([("_law_same" : Str), ("_law_word" : Str), ("_law_name" : Str), ("_law_plain" : Str), ("_law_pending" : Str), ("_law_marked" : Str), ("_law_entry" : Str), ("_law_kinds" : Str), ("_law_kind" : Str), ("_law_marks" : Str)] : List Str) ++ ([("_law_tag" : Str), ("_law_form" : Str), ("_law_free" : Str), ("_law_target" : Str), ("_law_moved" : Str), ("_law_sent" : Str), ("_law_spoil" : Str), ("_law_table" : Str), ("_law_errors" : Str), ("_law_make" : Str)] : List Str) ++ ([("_law_set" : Str), ("_law_change" : Str), ("_law_deed" : Str), ("_law_told" : Str)] : List Str)
theorem run (w : World) : HandSHeadRun.RunEq R (PySem.W.view R.prog [38]) hk ob 20000 loose w := by
  intro os
  kernel_rfl
abbrev Says (K : PySem.W.Frag) : Prop := SaysX fa fn fs own file0 "Heap" K
theorem facts {P : Program} {w : World} {K : PySem.W.Frag} {h : Heap} {mg : Str → Option Value} {f : Addr} (eP : P = PySem.Challenge.pw_likerun_k14_store_history) (X : K.In h) (G : h.Ns mainGlobals mg) (hfa : mg ("law" : Str) = some (.ref f)) (c : Says K) :
    ∃ fd : FuncData, (∀ (s : Shared) (v : Value), BindsTo s fd ⟨[v], []⟩ [("_law_script", v)]) ∧ ∀ base : Heap, K.In base → base.Ns mainGlobals mg → FnOk P w K mg base CX0 10 f fd ["_law_script"] (spLaw K) := by
  have D_cell : Def1 K mg "_law_cell" s_cell := let ⟨fd, F⟩ := c.def_ 0 rfl; ⟨_, fd, F, He.glo_ok X G (c.fact 0 rfl)⟩
  have D_box : Def1 K mg "_law_box" s_box := let ⟨fd, F⟩ := c.def_ 1 rfl; ⟨_, fd, F, He.glo_ok X G (c.fact 1 rfl)⟩
  have D_take : Def1 K mg "_law_take" s_take := let ⟨fd, F⟩ := c.def_ 2 rfl; ⟨_, fd, F, He.glo_ok X G (c.fact 2 rfl)⟩
  have D_same : Def1 K mg "_law_same" s_same := let ⟨fd, F⟩ := c.def_ 3 rfl; ⟨_, fd, F, He.glo_ok X G (c.fact 3 rfl)⟩
  have D_word : Def1 K mg "_law_word" s_word := let ⟨fd, F⟩ := c.def_ 4 rfl; ⟨_, fd, F, He.glo_ok X G (c.fact 4 rfl)⟩
  have D_name : Def1 K mg "_law_name" s_name := let ⟨fd, F⟩ := c.def_ 5 rfl; ⟨_, fd, F, He.glo_ok X G (c.fact 5 rfl)⟩
  have D_plain : Def1 K mg "_law_plain" s_plain := let ⟨fd, F⟩ := c.def_ 6 rfl; ⟨_, fd, F, He.glo_ok X G (c.fact 6 rfl)⟩
  have D_pending : Def1 K mg "_law_pending" s_pending := let ⟨fd, F⟩ := c.def_ 7 rfl; ⟨_, fd, F, He.glo_ok X G (c.fact 7 rfl)⟩
  have D_marked : Def1 K mg "_law_marked" s_marked := let ⟨fd, F⟩ := c.def_ 8 rfl; ⟨_, fd, F, He.glo_ok X G (c.fact 8 rfl)⟩
  have D_entry : Def1 K mg "_law_entry" s_entry := let ⟨fd, F⟩ := c.def_ 9 rfl; ⟨_, fd, F, He.glo_ok X G (c.fact 9 rfl)⟩
  have D_kinds : Def1 K mg "_law_kinds" s_kinds := let ⟨fd, F⟩ := c.def_ 10 rfl; ⟨_, fd, F, He.glo_ok X G (c.fact 10 rfl)⟩
  have D_kind : Def1 K mg "_law_kind" s_kind := let ⟨fd, F⟩ := c.def_ 11 rfl; ⟨_, fd, F, He.glo_ok X G (c.fact 11 rfl)⟩
  have D_marks : Def1 K mg "_law_marks" s_marks := let ⟨fd, F⟩ := c.def_ 12 rfl; ⟨_, fd, F, He.glo_ok X G (c.fact 12 rfl)⟩
  have D_tag : Def1 K mg "_law_tag" s_tag := let ⟨fd, F⟩ := c.def_ 13 rfl; ⟨_, fd, F, He.glo_ok X G (c.fact 13 rfl)⟩
  have D_form : Def1 K mg "_law_form" s_form := let ⟨fd, F⟩ := c.def_ 14 rfl; ⟨_, fd, F, He.glo_ok X G (c.fact 14 rfl)⟩
  have D_free : Def1 K mg "_law_free" s_free := let ⟨fd, F⟩ := c.def_ 15 rfl; ⟨_, fd, F, He.glo_ok X G (c.fact 15 rfl)⟩
  have D_moved : Def1 K mg "_law_moved" s_moved := let ⟨fd, F⟩ := c.def_ 16 rfl; ⟨_, fd, F, He.glo_ok X G (c.fact 16 rfl)⟩
  have D_sent : Def1 K mg "_law_sent" s_sent := let ⟨fd, F⟩ := c.def_ 17 rfl; ⟨_, fd, F, He.glo_ok X G (c.fact 17 rfl)⟩
  have D_spoil : Def1 K mg "_law_spoil" s_spoil := let ⟨fd, F⟩ := c.def_ 18 rfl; ⟨_, fd, F, He.glo_ok X G (c.fact 18 rfl)⟩
  have D_table : Def1 K mg "_law_table" s_table := let ⟨fd, F⟩ := c.def_ 19 rfl; ⟨_, fd, F, He.glo_ok X G (c.fact 19 rfl)⟩
  have D_errors : Def1 K mg "_law_errors" s_errors := let ⟨fd, F⟩ := c.def_ 20 rfl; ⟨_, fd, F, He.glo_ok X G (c.fact 20 rfl)⟩
  have D_make : Def1 K mg "_law_make" s_make := let ⟨fd, F⟩ := c.def_ 21 rfl; ⟨_, fd, F, He.glo_ok X G (c.fact 21 rfl)⟩
  have D_set : Def1 K mg "_law_set" s_set := let ⟨fd, F⟩ := c.def_ 22 rfl; ⟨_, fd, F, He.glo_ok X G (c.fact 22 rfl)⟩
  have D_change : Def1 K mg "_law_change" s_change := let ⟨fd, F⟩ := c.def_ 23 rfl; ⟨_, fd, F, He.glo_ok X G (c.fact 23 rfl)⟩
  have D_deed : Def1 K mg "_law_deed" s_deed := let ⟨fd, F⟩ := c.def_ 24 rfl; ⟨_, fd, F, He.glo_ok X G (c.fact 24 rfl)⟩
  have D_told : Def1 K mg "_law_told" s_told := let ⟨fd, F⟩ := c.def_ 25 rfl; ⟨_, fd, F, He.glo_ok X G (c.fact 25 rfl)⟩
  have D_young_ones : Def1 K mg "_young_ones" s_young_ones := let ⟨fd, F⟩ := c.def_ 27 rfl; ⟨_, fd, F, He.glo_ok X G (c.fact 27 rfl)⟩
  have T : Bl mg := ⟨He.free_ok X G (c.fact 28 rfl), He.free_ok X G (c.fact 29 rfl), He.free_ok X G (c.fact 30 rfl), He.free_ok X G (c.fact 31 rfl), He.free_ok X G (c.fact 32 rfl), He.free_ok X G (c.fact 33 rfl), He.free_ok X G (c.fact 34 rfl), He.free_ok X G (c.fact 35 rfl), He.free_ok X G (c.fact 36 rfl), He.free_ok X G (c.fact 37 rfl), He.free_ok X G (c.fact 38 rfl)⟩
  have gSup : mg "super" = none := He.free_ok X G (c.fact 39 rfl)
  have gStore : mg "Store" = some (.ref (He.ga K "Store")) := He.glo_ok X G (c.fact 40 rfl)
  have cStore : Cls K (He.ga K "Store") := He.cls_ok (c.fact 41 rfl)
  have kStore := He.mkr_ok (c.fact 42 rfl : (He.Fa.mkr "Store").ok K = true)
  have gHeap : mg "Heap" = some (.ref (He.ga K "Heap")) := He.glo_ok X G (c.fact 43 rfl)
  have cHeap : Cls K (He.ga K "Heap") := He.cls_ok (c.fact 44 rfl)
  have kHeap := He.mkr_ok (c.fact 45 rfl : (He.Fa.mkr "Heap").ok K = true)
  have gThing : mg "Thing" = some (.ref (He.ga K "Thing")) := He.glo_ok X G (c.fact 46 rfl)
  have cThing : Cls K (He.ga K "Thing") := He.cls_ok (c.fact 47 rfl)
  have kThing := He.mkr_ok (c.fact 48 rfl : (He.Fa.mkr "Thing").ok K = true)
  have cfS : ClF K (He.ga K "Store") (He.ga K "Thing") := ⟨cStore, (He.noat_ok (c.fact 49 rfl)), (He.noat_ok (c.fact 50 rfl)), cThing, (He.noat_ok (c.fact 56 rfl)), (He.noat_ok (c.fact 57 rfl)), (He.noat_ok (c.fact 58 rfl)), (He.noat_ok (c.fact 59 rfl))⟩
  have cfH : ClF K (He.ga K "Heap") (He.ga K "Thing") := ⟨cHeap, (He.noat_ok (c.fact 51 rfl)), (He.noat_ok (c.fact 52 rfl)), cThing, (He.noat_ok (c.fact 56 rfl)), (He.noat_ok (c.fact 57 rfl)), (He.noat_ok (c.fact 58 rfl)), (He.noat_ok (c.fact 59 rfl))⟩
  have hf : HpF K (He.ga K "Heap") := ⟨(He.noat_ok (c.fact 53 rfl)), (He.noat_ok (c.fact 54 rfl)), (He.noat_ok (c.fact 55 rfl))⟩
  have MS_len : Def2 K (He.ga K "Store") "__len__" "Store.__len__" s_Store_len := let ⟨fd, F⟩ := c.def_ 28 rfl; ⟨_, fd, F, He.meth_ok (c.fact 60 rfl)⟩
  have MS_make : Def2 K (He.ga K "Store") "make" "Store.make" s_Store_make := let ⟨fd, F⟩ := c.def_ 29 rfl; ⟨_, fd, F, He.meth_ok (c.fact 61 rfl)⟩
  have MS_keep : Def2 K (He.ga K "Store") "_keep" "Store._keep" s_Store_keep := let ⟨fd, F⟩ := c.def_ 30 rfl; ⟨_, fd, F, He.meth_ok (c.fact 62 rfl)⟩
  have MS_kind_of : Def2 K (He.ga K "Store") "kind_of" "Store.kind_of" s_Store_kind_of := let ⟨fd, F⟩ := c.def_ 31 rfl; ⟨_, fd, F, He.meth_ok (c.fact 63 rfl)⟩
  have MS_tag_of : Def2 K (He.ga K "Store") "tag_of" "Store.tag_of" s_Store_tag_of := let ⟨fd, F⟩ := c.def_ 32 rfl; ⟨_, fd, F, He.meth_ok (c.fact 64 rfl)⟩
  have MS_slots_of : Def2 K (He.ga K "Store") "slots_of" "Store.slots_of" s_Store_slots_of := let ⟨fd, F⟩ := c.def_ 33 rfl; ⟨_, fd, F, He.meth_ok (c.fact 65 rfl)⟩
  have MS_slot : Def2 K (He.ga K "Store") "slot" "Store.slot" s_Store_slot := let ⟨fd, F⟩ := c.def_ 34 rfl; ⟨_, fd, F, He.meth_ok (c.fact 66 rfl)⟩
  have MS_set_slot : Def2 K (He.ga K "Store") "set_slot" "Store.set_slot" s_Store_set_slot := let ⟨fd, F⟩ := c.def_ 35 rfl; ⟨_, fd, F, He.meth_ok (c.fact 67 rfl)⟩
  have MS_change : Def2 K (He.ga K "Store") "change" "Store.change" s_Store_change := let ⟨fd, F⟩ := c.def_ 36 rfl; ⟨_, fd, F, He.meth_ok (c.fact 68 rfl)⟩
  have MH_keep : Def2 K (He.ga K "Heap") "_keep" "Store._keep" s_Store_keep := let ⟨fd, F⟩ := c.def_ 38 rfl; ⟨_, fd, F, He.meth_ok (c.fact 70 rfl)⟩
  have MH_kind_of : Def2 K (He.ga K "Heap") "kind_of" "Store.kind_of" s_Store_kind_of := let ⟨fd, F⟩ := c.def_ 39 rfl; ⟨_, fd, F, He.meth_ok (c.fact 71 rfl)⟩
  have MH_tag_of : Def2 K (He.ga K "Heap") "tag_of" "Store.tag_of" s_Store_tag_of := let ⟨fd, F⟩ := c.def_ 40 rfl; ⟨_, fd, F, He.meth_ok (c.fact 72 rfl)⟩
  have MH_slots_of : Def2 K (He.ga K "Heap") "slots_of" "Store.slots_of" s_Store_slots_of := let ⟨fd, F⟩ := c.def_ 41 rfl; ⟨_, fd, F, He.meth_ok (c.fact 73 rfl)⟩
  have MH_slot : Def2 K (He.ga K "Heap") "slot" "Store.slot" s_Store_slot := let ⟨fd, F⟩ := c.def_ 42 rfl; ⟨_, fd, F, He.meth_ok (c.fact 74 rfl)⟩
  have MH_len : Def2 K (He.ga K "Heap") "__len__" "Heap.__len__" s_Heap_len := let ⟨fd, F⟩ := c.def_ 43 rfl; ⟨_, fd, F, He.meth_ok (c.fact 75 rfl)⟩
  have MH_make : Def2 K (He.ga K "Heap") "make" "Heap.make" s_Heap_make := let ⟨fd, F⟩ := c.def_ 44 rfl; ⟨_, fd, F, He.meth_ok (c.fact 76 rfl)⟩
  have MH_remember : Def2 K (He.ga K "Heap") "_remember" "Heap._remember" s_Heap_remember := let ⟨fd, F⟩ := c.def_ 45 rfl; ⟨_, fd, F, He.meth_ok (c.fact 77 rfl)⟩
  have DT : DefC K mg (He.ga K "Thing") "Thing" "Thing.__init__" s_Thing_init := let ⟨fd, F⟩ := c.def_ 46 rfl; ⟨_, fd, F, gThing, kThing⟩
  obtain ⟨fi, FI⟩ := c.def_ 37 rfl
  have DS : DefC K mg (He.ga K "Store") "Store" "Store.__init__" s_Store_init := ⟨_, fi, FI, gStore, kStore⟩
  have S0 : ∃ fd, SupF P K "set_slot" "Heap.set_slot" s_HSet (He.ga K "Heap") (He.fAd K ("Heap", some "set_slot")) fd := c.sup (by rw [eP]; rfl) 0 rfl rfl rfl
  have S1 : ∃ fd, SupF P K "change" "Heap.change" s_HChg (He.ga K "Heap") (He.fAd K ("Heap", some "change")) fd := c.sup (by rw [eP]; rfl) 1 rfl rfl rfl
  have S2 : ∃ fd, SupF P K "__init__" "Heap.__init__" s_HInit (He.ga K "Heap") (He.fAd K ("Heap", some "__init__")) fd := c.sup (by rw [eP]; rfl) 2 rfl rfl rfl
  have ow := c.own
  obtain ⟨o1, ow⟩ := He.ba ow
  obtain ⟨ow, o4⟩ := He.ba ow
  obtain ⟨o2, o3⟩ := He.ba ow
  have U0 : SupM P K mg (He.ga K "Heap") (He.ga K "Heap") "set_slot" (He.fAd K ("Store", some "set_slot")) := supB_ok o2 gSup (by rw [eP]; rfl) (by decide +kernel)
  have U1 : SupM P K mg (He.ga K "Heap") (He.ga K "Heap") "change" (He.fAd K ("Store", some "change")) := supB_ok o3 gSup (by rw [eP]; rfl) (by decide +kernel)
  have U2 : SupM P K mg (He.ga K "Heap") (He.ga K "Heap") "__init__" (He.fAd K ("Store", some "__init__")) := supB_ok o4 gSup (by rw [eP]; rfl) (by decide +kernel)
  have KF := kindsB_ok o1
  obtain ⟨fs1, FS1⟩ := c.def_ 35 rfl
  obtain ⟨fs2, FS2⟩ := c.def_ 36 rfl
  obtain ⟨fd, FL⟩ := c.def_ 26 rfl
  have e := hfa.symm.trans (He.glo_ok X G (c.fact 26 rfl))
  have ef : f = He.ga K "law" := by injection e with e; injection e
  have b := FunD.bindsA (ps := ["_law_script"]) FL fun _ _ _ _ _ _ us hl => match us, hl with | [_], _ => rfl
  refine ⟨fd, fun s v => b s [v] rfl, fun base _ _ => ?_⟩
  have G_cell := ok_cell (P := P) (w := w) (base := base) T D_cell
  have G_box := ok_box T G_cell D_box
  have G_take := ok_take (P := P) (w := w) (base := base) T D_take
  have G_word := ok_word T G_take D_word
  have G_name := ok_name T G_take D_name
  have G_plain := ok_plain T G_take G_word D_plain
  have G_pending := ok_pending T G_take G_plain D_pending
  have G_marked := ok_marked T G_take G_plain G_pending D_marked
  have G_entry := ok_entry T G_take G_plain G_marked D_entry
  have G_kinds := ok_kinds (P := P) (w := w) (base := base) D_kinds
  have G_kind := ok_kind T G_take G_kinds D_kind
  have G_marks := ok_marks (P := P) (w := w) (base := base) T D_marks
  have G_tag := ok_tag T G_take G_name D_tag
  have G_form := ok_form T G_take G_word G_entry G_marks G_tag D_form
  have G_same := ok_same (P := P) (w := w) (base := base) T D_same 4
  have G_moved := ok_moved (P := P) (w := w) (base := base) T D_moved
  have G_sent := ok_sent G_moved D_sent
  have G_table := ok_table (P := P) (w := w) (base := base) T D_table
  have G_errors := ok_errors (P := P) (w := w) (base := base) T D_errors
  have G_free := ok_free (P := P) (w := w) (base := base) T D_free
  have G_spoil := ok_spoil G_same D_spoil
  have G_Thing := ok_Thing (P := P) (w := w) (base := base) cThing cfS.n1 cfS.n2 cfS.n3 cfS.n4 DT
  have KS := ok_keep cfS T G_Thing MS_keep
  have KH := ok_keep cfH T G_Thing MH_keep
  have RH := ok_remember (P := P) (w := w) (base := base) cHeap T D_young_ones MH_remember
  have BS : BankC P w K mg base (He.ga K "Store") (He.ga K "Thing") 1 fun _ _ => [] := ⟨ok_make cfS T KS MS_make, ok_kind_of cfS MS_kind_of, ok_tag_of cfS T MS_tag_of, ok_slots_of cfS T MS_slots_of, ok_slot cfS T MS_slot, (ok_set_slot cfS T MS_set_slot).mono (by decide), (ok_change cfS T MS_change).mono (by decide), ok_len cfS T MS_len⟩
  have BH : BankC P w K mg base (He.ga K "Heap") (He.ga K "Thing") 2 hTl := by
    refine ⟨ok_hmake cfH hf T KH MH_make, ok_kind_of cfH MH_kind_of, ok_tag_of cfH T MH_tag_of, ok_slots_of cfH T MH_slots_of, ok_slot cfH T MH_slot, ?_, ?_, ok_hlen cfH T MH_len⟩
    · obtain ⟨fd, F⟩ := S0
      exact ok_HSet cfH T ⟨_, fd, F, He.meth_ok (c.fact 79 rfl)⟩ FS1 U0 RH
    · obtain ⟨fd, F⟩ := S1
      exact ok_HChg cfH T ⟨_, fd, F, He.meth_ok (c.fact 80 rfl)⟩ FS2 U1 RH
  have GS := ok_SInit (P := P) (w := w) (base := base) cStore cfS.nT cfS.nG DS
  have GH := ok_HInit (P := P) (w := w) (base := base) cHeap cfH.nT cfH.nG hf (let ⟨fd, F⟩ := S2; ⟨_, fd, F, gHeap, kHeap⟩) FI U2
  have BC := banks_of BS BH
  have G_deed := ok_deed3 T G_take G_free (fun i => ok_lmake T (BC i) G_same G_spoil G_table G_sent G_errors G_take G_kind G_form D_make) (fun i => ok_lset T (BC i) G_table G_errors G_take G_free G_entry G_marks G_moved D_set)
    (fun i => ok_lchange T (BC i) G_spoil G_table G_sent G_errors G_take G_form D_change) D_deed
  have G_told := ok_told3 T BC G_same G_spoil G_table G_sent D_told
  have L := fun_law T KF gStore G_same G_kinds G_box G_take GS GH G_deed G_told FL
  rw [ef]
  exact L
end M14
open PySem PySem.W PySem.Calls PyProof.Rows
theorem PySem.Challenge.cw_likerun_k14_store_history_holds : PySem.Challenge.rw_likerun_k14_store_history.Holds := by
  w_on; o_law
  refine HandSHeadRun.head_any (r := OpenLaw.row PySem.Challenge.rw_likerun_k14_store_history) (q := view (OpenLaw.row PySem.Challenge.rw_likerun_k14_store_history).prog [38]) (H := M14.hk) (ob := M14.ob) (M := 20000) (loose := M14.loose) (d := HandSHeadRun.topDef (OpenLaw.row PySem.Challenge.rw_likerun_k14_store_history).prog 38) (kwd := []) M14.ob_eq
    (by kernel_rfl) (fun s => by kernel_rfl) M14.run (by kernel_rfl) (by kernel_rfl) (by kernel_rfl) (by rfl) (by first | assumption | decide +kernel) (by decide +kernel) ⟨rfl, rfl, rfl, rfl, rfl, by decide +kernel⟩ ?hw ?hc
  case hw => w_witness2
  case hc =>
    refine L2.walk_ofE (l := PySem.Challenge.rw_likerun_k14_store_history) (n := 63) (k := 10) (x := "_law_script") (CX := L2.CX0) rfl (by decide) (by kernel_rfl) ⟨rfl, by decide, by decide⟩ ?F (fun _ _ _ _ z => z)
    intro w mg fa h Y G hmg0
    obtain ⟨K, KX, c⟩ := Y
    have hmg : mg ("law" : PySem.Str) = some (.ref fa) := by
      have e : (HandSHeadRun.topDef (OpenLaw.row PySem.Challenge.rw_likerun_k14_store_history).prog 38).name = ("law" : PySem.Str) := by kernel_rfl
      rw [← e]
      exact hmg0
    obtain ⟨fd, hb, hF⟩ := M14.facts (P := (PySem.Challenge.rw_likerun_k14_store_history).prog) (w := w) rfl KX G hmg c
    exact ⟨K, fd, M14.spLaw K, KX, hb, fun H a ns hl _ hS => ⟨a, ns, rfl, hS, fun _ => rfl⟩, hF⟩
