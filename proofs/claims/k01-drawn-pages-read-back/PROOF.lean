import PyProof.Rows.All
import Wide.All
import OpenK.AllK
import Wide.FinOn
import KE.KStateDown
import HandS.ForMost
import HandS.Flow
import HandS.IsInst
import HandS.Head0
import HandS.Head1
import HandS.Head2
import HandS.HeadEnd
import HandS.Defaults
import HandS.HeadHook1
import HandS.HeadHook2
import KE.KSuper
import HandS.Sort
import HandS.Iter
import HandS.Small
import HandS.ReplaceLit
import HandS.ReplaceList
import HandS.ReplaceDef
import HandS.ExcIs
import HandS.WordsExc
import HandS.Codes
import PyProof.Draws
import PyProof.EnumMake
import PyProof.StrBlock2
import HandS.More
import HandS.ExcBuiltin
import HandS.HeadHook3
import HandS.ExcInit
import HandS.ExcOwn
import KE.KExcPX
import HandS.Text
import HandS.WordsDict
import KE.GoesEnumKw
import HandS.Walk
import PyProof.Rows.StrJoinRep
import HandS.Replace
import HandS.HotCalls
import HandS.ExcField
import KE.KExcIs
import PySem.Challenge.RW_likerun_k01_drawn_pages_read_back
set_option Elab.async false
set_option linter.all false
set_option maxRecDepth 100000
set_option maxHeartbeats 4000000
/-! The ground that the laws of the memory share: callable defs, data trees, frames. -/
namespace M14
open PySem PySem.Spec PyProof.Rows L2

/-! ### defs by name -/
abbrev FnP (K : PySem.W.Frag) (x qual : Str) (st : Stmt) (f : Addr) (fd : FuncData) : Prop := FunD K x qual (defArgs st) (defBody st) (defScope st) [] [] f fd
/-- a module's def as it stands behind the top -/
def Def1 (K : PySem.W.Frag) (mg : Str → Option Value) (x : Str) (st : Stmt) : Prop := ∃ f fd, FnP K x x st f fd ∧ mg x = some (.ref f)
/-- a method of the class at C -/
def Def2 (K : PySem.W.Frag) (C : Addr) (m qual : Str) (st : Stmt) : Prop := ∃ f fd, FnP K m qual st f fd ∧ Meth K C m f
section
variable (P : Program) (w : World) (K : PySem.W.Frag) (mg : Str → Option Value) (base : Heap)
def Cal (k : Nat) (x : Str) (ps : List Str) (sp : Sp) : Prop := ∃ f fd, FnOk P w K mg base CX0 k f fd ps sp ∧ mg x = some (.ref f) ∧ PySem.W.keepIn K (.ref f) = true ∧ Binds K fd ps []
def CalM (k : Nat) (C : Addr) (m : Str) (ps : List Str) (sp : Sp) : Prop := ∃ f fd, FnOk P w K mg base CX0 k f fd ps sp ∧ Cls K C ∧ Meth K C m f ∧ Binds K fd ps []
def CalC (k : Nat) (C : Addr) (x : Str) (ps : List Str) (sp : Sp) : Prop := ∃ f fd, FnOk P w K mg base CX0 k f fd ps sp ∧ mg x = some (.ref C) ∧ Mk K C f ∧ Binds K fd ps []
end
section
variable {X : Cx} {x m : Str} {p pos apos : Pos} {e o : Expr} {es : List Expr} {k : Nat} {ps : List Str} {sp : Sp} {t : TA} {ta : TE} {C : Addr}
theorem pe_cal (c : Cal X.prog X.w X.K X.mg X.base k x ps sp) (hr : Room k X.A) (hg : Gl X x) (ha : PA X (e :: es) t) (hdb : (x == ("__debug__" : Str)) = false := by decide) (he : starEach (e :: es) X.env = (false, eval e X.env) :: starEach es X.env := by rfl) (hpl : (backTo pos (starEach es X.env)).any (·.1) = false := by rfl) :
    PE X (.Call (.Name x p) (e :: es) [] pos) (tCall sp [] E0 t) := by
  obtain ⟨f, fd, F, hm, hk, hb⟩ := c
  exact pe_call F hr hg hm hk hb .nil pass0 ha hdb he hpl
theorem pe_cal0 (c : Cal X.prog X.w X.K X.mg X.base k x ps sp) (hr : Room k X.A) (hg : Gl X x) (hdb : (x == ("__debug__" : Str)) = false := by decide) : PE X (.Call (.Name x p) [] [] pos) (tCall sp [] E0 tNil) := by
  obtain ⟨f, fd, F, hm, hk, hb⟩ := c
  exact pe_call0 F hr hg hm hk hb .nil pass0 hdb
theorem pe_mcal {pl : Sem Bool} (he : PE X o ta) (c : CalM X.prog X.w X.K X.mg X.base k C m ps sp) (hr : Room k X.A) (ha : PA X (e :: es) t)
    (hst : starEach (e :: es) X.env = (false, eval e X.env) :: starEach es X.env := by rfl) (hpl : (backTo pos (starEach es X.env)).any (·.1) = false := by rfl)
    (ht : eval (.Call (.Attribute o m apos) (e :: es) [] pos) X.env = (do
      let ov ← eval o X.env
      standAt apos.atName
      let (f, first) ← holding [ov] (getMethod ov m pl)
      callWith pos f first (backTo pos (starEach (e :: es) X.env)) (backToKw pos (keywordEach [] X.env))) := by rfl) :
    PE X (.Call (.Attribute o m apos) (e :: es) [] pos) (tMeth C m sp [] E0 ta t) := by
  obtain ⟨f, fd, F, cl, hm, hb⟩ := c
  exact pe_meth he cl hm F hr hb .nil pass0 ha hst hpl ht
theorem pe_mcal0 {pl : Sem Bool} (he : PE X o ta) (c : CalM X.prog X.w X.K X.mg X.base k C m ps sp) (hr : Room k X.A)
    (ht : eval (.Call (.Attribute o m apos) [] [] pos) X.env = (do
      let ov ← eval o X.env
      standAt apos.atName
      let (f, first) ← holding [ov] (getMethod ov m pl)
      callWith pos f first (backTo pos (starEach [] X.env)) (backToKw pos (keywordEach [] X.env))) := by rfl) :
    PE X (.Call (.Attribute o m apos) [] [] pos) (tMeth C m sp [] E0 ta tNil) := by
  obtain ⟨f, fd, F, cl, hm, hb⟩ := c
  exact pe_meth0 he cl hm F hr hb .nil pass0 ht
theorem pe_mk (c : CalC X.prog X.w X.K X.mg X.base k C x ps sp) (hr : Room (k + 1) X.A) (hg : Gl X x) (ha : PA X (e :: es) t) (hdb : (x == ("__debug__" : Str)) = false := by decide) (he : starEach (e :: es) X.env = (false, eval e X.env) :: starEach es X.env := by rfl) (hpl : (backTo pos (starEach es X.env)).any (·.1) = false := by rfl) :
    PE X (.Call (.Name x p) (e :: es) [] pos) (tMake C sp [] E0 t) := by
  obtain ⟨f, fd, F, hm, M, hb⟩ := c
  exact pe_make M F hr hg hm hb .nil pass0 ha hdb he hpl
theorem pe_mk0 (c : CalC X.prog X.w X.K X.mg X.base k C x ps sp) (hr : Room (k + 1) X.A) (hg : Gl X x) (hdb : (x == ("__debug__" : Str)) = false := by decide) : PE X (.Call (.Name x p) [] [] pos) (tMake C sp [] E0 tNil) := by
  obtain ⟨f, fd, F, hm, M, hb⟩ := c
  exact pe_make0 M F hr hg hm hb .nil pass0 hdb
end
section
variable {P : Program} {w : World} {K : PySem.W.Frag} {mg : Str → Option Value} {base : Heap}
/-- from the walk of a def's body to the def's promise -/
theorem Def1.cal {x : Str} {st : Stmt} {N ps : List Str} {k : Nat} {sp : Sp} (D : Def1 K mg x st) (S : FnScope N ps (defScope st))
    (hb : ∀ (kV doc pm : Value) (an : Option Addr) (cdv ct : Value) (us : List Value), us.length = ps.length → bindArgs (PySem.W.fnOf x x (defArgs st) (defBody st) (defScope st) .none kV doc pm an cdv ct) ⟨us, []⟩ = pure (ps.zip us))
    (len : ∀ vs H Q E, sp vs H Q E → vs.length = ps.length)
    (hbody : ∀ (f : Addr) (cdv : Value) (A : Around) (outer : List Env) (s : Shared) (H : Hp) (vs : List V) (Q : VK) (E : XK), Room k (A.deeper (envOfC x (defScope st) s.heap.objs.size f cdv)) → sp vs H Q E →
      ∃ t, PSs (cxOf CX0 P w K mg base N x (defScope st) f cdv A outer s H E).nox (defBody st) t ∧ t { nx := fun _ H' => Q .non H', rt := Q } (start N vs) H) : Cal P w K mg base (k + 1) x ps sp := by
  obtain ⟨f, fd, F, g⟩ := D
  refine ⟨f, fd, F.ok S len fun cdv A outer s H vs Q E hr h => ?_, g, F.kp, F.bindsN hb⟩
  obtain ⟨t, h1, h2⟩ := hbody f cdv A outer s H vs Q E hr h
  exact ⟨t, h1.nox, h2⟩
theorem Def2.fn {C : Addr} {m qual : Str} {st : Stmt} {N ps : List Str} {k : Nat} {sp : Sp} (D : Def2 K C m qual st) (S : FnScope N ps (defScope st))
    (hb : ∀ (kV doc pm : Value) (an : Option Addr) (cdv ct : Value) (us : List Value), us.length = ps.length → bindArgs (PySem.W.fnOf m qual (defArgs st) (defBody st) (defScope st) .none kV doc pm an cdv ct) ⟨us, []⟩ = pure (ps.zip us))
    (len : ∀ vs H Q E, sp vs H Q E → vs.length = ps.length)
    (hbody : ∀ (f : Addr) (cdv : Value) (A : Around) (outer : List Env) (s : Shared) (H : Hp) (vs : List V) (Q : VK) (E : XK), Room k (A.deeper (envOfC qual (defScope st) s.heap.objs.size f cdv)) → sp vs H Q E →
      ∃ t, PSs (cxOf CX0 P w K mg base N qual (defScope st) f cdv A outer s H E).nox (defBody st) t ∧ t { nx := fun _ H' => Q .non H', rt := Q } (start N vs) H) : ∃ f fd, FnOk P w K mg base CX0 (k + 1) f fd ps sp ∧ Meth K C m f ∧ Binds K fd ps [] := by
  obtain ⟨f, fd, F, g⟩ := D
  refine ⟨f, fd, F.ok S len fun cdv A outer s H vs Q E hr h => ?_, g, F.bindsN hb⟩
  obtain ⟨t, h1, h2⟩ := hbody f cdv A outer s H vs Q E hr h
  exact ⟨t, h1.nox, h2⟩
theorem Def2.cal {C : Addr} {m qual : Str} {st : Stmt} {N ps : List Str} {k : Nat} {sp : Sp} (D : Def2 K C m qual st) (cl : Cls K C) (S : FnScope N ps (defScope st))
    (hb : ∀ (kV doc pm : Value) (an : Option Addr) (cdv ct : Value) (us : List Value), us.length = ps.length → bindArgs (PySem.W.fnOf m qual (defArgs st) (defBody st) (defScope st) .none kV doc pm an cdv ct) ⟨us, []⟩ = pure (ps.zip us))
    (len : ∀ vs H Q E, sp vs H Q E → vs.length = ps.length)
    (hbody : ∀ (f : Addr) (cdv : Value) (A : Around) (outer : List Env) (s : Shared) (H : Hp) (vs : List V) (Q : VK) (E : XK), Room k (A.deeper (envOfC qual (defScope st) s.heap.objs.size f cdv)) → sp vs H Q E →
      ∃ t, PSs (cxOf CX0 P w K mg base N qual (defScope st) f cdv A outer s H E).nox (defBody st) t ∧ t { nx := fun _ H' => Q .non H', rt := Q } (start N vs) H) : CalM P w K mg base (k + 1) C m ps sp := by
  obtain ⟨f, fd, F, g, b⟩ := D.fn S hb len hbody
  exact ⟨f, fd, F, cl, g, b⟩
end

theorem CalM.mono {P : Program} {w : World} {K : PySem.W.Frag} {mg : Str → Option Value} {base : Heap} {j k : Nat} {C : Addr} {m : Str} {ps : List Str} {sp : Sp} (c : CalM P w K mg base j C m ps sp) (h : j ≤ k) : CalM P w K mg base k C m ps sp :=
  let ⟨f, fd, F, a, b, d⟩ := c; ⟨f, fd, F.mono h, a, b, d⟩
/-! ### frames -/
/-- what stood stands, but for the objects at M; these are no tuples -/
structure Fr (M : List Addr) (H H' : Hp) : Prop where
  kp : ∀ a o, H a = some o → a ∉ M → H' a = some o
  nt : ∀ a ∈ M, ∀ xs, H a ≠ some (.tup xs)
theorem Fr.refl0 (H : Hp) : Fr [] H H := ⟨fun _ _ h _ => h, fun _ h => nomatch h⟩
theorem Fr.refl {M : List Addr} {H : Hp} (n : ∀ a ∈ M, ∀ xs, H a ≠ some (.tup xs)) : Fr M H H := ⟨fun _ _ h _ => h, n⟩
theorem Fr.trans {M : List Addr} {H H1 H2 : Hp} (a : Fr M H H1) (b : Fr M H1 H2) : Fr M H H2 := ⟨fun x o h n => b.kp x o (a.kp x o h n) n, a.nt⟩
/-- a frame within -/
theorem Fr.to {M M' : List Addr} {H H' : Hp} (a : Fr M H H') (s : ∀ x ∈ M, x ∈ M' ∨ H x = none) (n : ∀ a ∈ M', ∀ xs, H a ≠ some (.tup xs)) : Fr M' H H' :=
  ⟨fun x o h m => a.kp x o h fun z => (s x z).elim m fun e => (by rw [e] at h; cases h), n⟩
theorem Fr.tr {M : List Addr} {H H1 H2 : Hp} (a : Fr M H H1) (b : Fr [] H1 H2) : Fr M H H2 := ⟨fun x o h n => b.kp x o (a.kp x o h n) (by simp), a.nt⟩
theorem Fr.new {H : Hp} {p : Addr} {o : HO} (h : H p = none) : Fr [] H (upd H p o) := ⟨fun a u e _ => by rw [upd_ne (ne_of_none e h)]; exact e, fun _ h => nomatch h⟩
theorem Fr.put {H : Hp} {p : Addr} {o u : HO} (h : H p = some u) (n : ∀ xs, u ≠ .tup xs) : Fr [p] H (upd H p o) :=
  ⟨fun a v e m => (upd_ne (fun q => m (by rw [q]; exact List.mem_cons_self))).trans e, fun a m xs e => by
    have q : a = p := by simpa using m
    rw [q, h] at e
    exact n xs (Option.some.inj e)⟩
theorem Fr.free {H H' : Hp} (e : Fr [] H H') {l : Addr} (h : H' l = none) : H l = none := by
  cases q : H l with
  | none => rfl
  | some o => rw [e.kp l o q (by simp)] at h; cases h
theorem Fr.freeM {M : List Addr} {H H' : Hp} (e : Fr M H H') (hm : ∀ a ∈ M, H' a ≠ none) {l : Addr} (h : H' l = none) : H l = none := by
  cases q : H l with
  | none => rfl
  | some o =>
    rw [e.kp l o q fun m => hm l m h] at h; cases h
theorem Fr.tup {M : List Addr} {H H' : Hp} (e : Fr M H H') {a : Addr} {xs : List V} (h : H a = some (.tup xs)) : H' a = some (.tup xs) := e.kp a _ h fun m => e.nt a m xs h
theorem Fr.at1 {b : Addr} {H H' : Hp} (e : Fr [b] H H') {a : Addr} {o : HO} (h : H a = some o) (n : a ≠ b) : H' a = some o := e.kp a o h fun m => n (by simpa using m)

/-! ### data -/
inductive T where
  | non | bl (b : Bool) | int (i : Int) | str (s : Str) | tup (ts : List T)
/-- a tuple that may be read, and whose type is known -/
def TupAt (K : PySem.W.Frag) (H : Hp) (a : Addr) (xs : List V) : Prop := SqT K H a xs ∧ TyX K H (.ref a) (.type "tuple")
theorem TupAt.of {K : PySem.W.Frag} {H : Hp} {a : Addr} {xs : List V} (h : H a = some (.tup xs)) : TupAt K H a xs := ⟨SqT.of h, .base (.tup h)⟩
inductive Den (K : PySem.W.Frag) (H : Hp) : V → T → Prop where
  | non : Den K H .non .non
  | bl (b : Bool) : Den K H (.bl b) (.bl b)
  | int (i : Int) : Den K H (.int i) (.int i)
  | str (s : Str) : Den K H (.str s) (.str s)
  | tup {a : Addr} {xs : List V} {ts : List T} (h : H a = some (.tup xs)) (l : xs.length = ts.length) (c : ∀ (i : Nat) (x : V) (t : T), xs[i]? = some x → ts[i]? = some t → Den K H x t) : Den K H (.ref a) (.tup ts)
inductive Dep : Nat → T → Prop where
  | non {d} : Dep d .non
  | bl {d b} : Dep d (.bl b)
  | int {d i} : Dep d (.int i)
  | str {d s} : Dep d (.str s)
  | tup {d ts} (l : ts.length ≤ 2000) (h : ∀ t ∈ ts, Dep d t) : Dep (d + 1) (.tup ts)
theorem Dep.mono {d e : Nat} {t : T} (h : Dep d t) : d ≤ e → Dep e t := by
  induction h generalizing e with
  | non => intro _; exact .non
  | bl => intro _; exact .bl
  | int => intro _; exact .int
  | str => intro _; exact .str
  | tup l' h ih =>
    intro l
    obtain ⟨e, rfl⟩ : ∃ n, e = n + 1 := ⟨e - 1, by omega⟩
    exact .tup l' fun t m => ih t m (by omega)
theorem Den.fr {K : PySem.W.Frag} {M : List Addr} {H H' : Hp} {v : V} {t : T} (e : Fr M H H') (h : Den K H v t) : Den K H' v t := by
  induction h with
  | non => exact .non
  | bl b => exact .bl b
  | int i => exact .int i
  | str s => exact .str s
  | tup h l _ ih => exact .tup (e.tup h) l ih
/-- the items of a list of data -/
def Dens (K : PySem.W.Frag) (H : Hp) (xs : List V) (ts : List T) : Prop := xs.length = ts.length ∧ ∀ (i : Nat) (x : V) (t : T), xs[i]? = some x → ts[i]? = some t → Den K H x t
theorem Dens.fr {K : PySem.W.Frag} {M : List Addr} {H H' : Hp} {xs : List V} {ts : List T} (e : Fr M H H') (h : Dens K H xs ts) : Dens K H' xs ts := ⟨h.1, fun i x t a b => (h.2 i x t a b).fr e⟩
theorem Dens.nil {K : PySem.W.Frag} {H : Hp} : Dens K H [] [] := ⟨rfl, fun i x t h => by simp at h⟩
theorem Dens.cons {K : PySem.W.Frag} {H : Hp} {x : V} {t : T} {xs : List V} {ts : List T} (h : Den K H x t) (r : Dens K H xs ts) : Dens K H (x :: xs) (t :: ts) :=
  ⟨by simp [r.1], fun i y u a b => by
    cases i with
    | zero => simp at a b; subst a b; exact h
    | succ i => exact r.2 i y u (by simpa using a) (by simpa using b)⟩
theorem Dens.app {K : PySem.W.Frag} {H : Hp} {xs ys : List V} {ts us : List T} (h : Dens K H xs ts) (r : Dens K H ys us) : Dens K H (xs ++ ys) (ts ++ us) := by
  refine ⟨by simp [h.1, r.1], fun i y u a b => ?_⟩
  by_cases hi : i < xs.length
  · rw [List.getElem?_append_left hi] at a
    rw [List.getElem?_append_left (by rw [← h.1]; exact hi)] at b
    exact h.2 i y u a b
  · rw [List.getElem?_append_right (by omega)] at a
    rw [List.getElem?_append_right (by rw [← h.1]; omega), ← h.1] at b
    exact r.2 _ y u a b
theorem Dens.snoc {K : PySem.W.Frag} {H : Hp} {xs : List V} {ts : List T} {x : V} {t : T} (r : Dens K H xs ts) (h : Den K H x t) : Dens K H (xs ++ [x]) (ts ++ [t]) := r.app (.cons h .nil)
theorem Dens.get {K : PySem.W.Frag} {H : Hp} {xs : List V} {ts : List T} (h : Dens K H xs ts) {i : Nat} {x : V} (e : xs[i]? = some x) : ∃ t, ts[i]? = some t ∧ Den K H x t := by
  have hi := (List.getElem?_eq_some_iff.mp e).1
  have hj : i < ts.length := by rw [← h.1]; exact hi
  exact ⟨ts[i], List.getElem?_eq_getElem hj, h.2 i x _ e (List.getElem?_eq_getElem hj)⟩
theorem Dens.uncons {K : PySem.W.Frag} {H : Hp} {xs : List V} {t : T} {ts : List T} (h : Dens K H xs (t :: ts)) : ∃ x r, xs = x :: r ∧ Den K H x t ∧ Dens K H r ts := by
  cases xs with
  | nil => have := h.1; simp at this
  | cons x r => exact ⟨x, r, rfl, h.2 0 x t rfl rfl, by have := h.1; simpa using this, fun i y u a b => h.2 (i + 1) y u (by simpa using a) (by simpa using b)⟩
theorem Dens.unnil {K : PySem.W.Frag} {H : Hp} {xs : List V} (h : Dens K H xs []) : xs = [] := by
  have := h.1
  exact List.eq_nil_of_length_eq_zero (by simpa using this)
theorem Den.unstr {K : PySem.W.Frag} {H : Hp} {v : V} {s : Str} (h : Den K H v (.str s)) : v = .str s := by cases h; rfl
theorem Den.unint {K : PySem.W.Frag} {H : Hp} {v : V} {i : Int} (h : Den K H v (.int i)) : v = .int i := by cases h; rfl
theorem Den.tups {K : PySem.W.Frag} {H : Hp} {p : Addr} {xs : List V} {ts : List T} (h : H p = some (.tup xs)) (d : Dens K H xs ts) : Den K H (.ref p) (.tup ts) := .tup h d.1 d.2
theorem Den.tup_inv {K : PySem.W.Frag} {H : Hp} {v : V} {ts : List T} (h : Den K H v (.tup ts)) : ∃ p xs, v = .ref p ∧ H p = some (.tup xs) ∧ Dens K H xs ts := by
  cases h with
  | tup h l c => exact ⟨_, _, rfl, h, l, c⟩
theorem Den.inj {K : PySem.W.Frag} {H : Hp} {v : V} {t : T} (h : Den K H v t) : ∀ {u : T}, Den K H v u → t = u := by
  induction h with
  | non => intro u h; cases h; rfl
  | bl b => intro u h; cases h; rfl
  | int i => intro u h; cases h; rfl
  | str s => intro u h; cases h; rfl
  | @tup a xs ts h l c ih =>
    intro u h'
    cases h' with
    | @tup _ ys us h2 l2 c2 =>
      rw [h] at h2; cases h2
      congr 1
      refine List.ext_getElem? fun i => ?_
      cases e : xs[i]? with
      | none =>
        have hi := List.getElem?_eq_none_iff.mp e
        rw [List.getElem?_eq_none_iff.mpr (by omega), List.getElem?_eq_none_iff.mpr (by omega)]
      | some x =>
        have hi := (List.getElem?_eq_some_iff.mp e).1
        have h1 : i < ts.length := by omega
        have h3 : i < us.length := by omega
        rw [List.getElem?_eq_getElem h1, List.getElem?_eq_getElem h3]
        exact congrArg some (ih i x _ e (List.getElem?_eq_getElem h1) (c2 i x _ e (List.getElem?_eq_getElem h3)))
/-- lists stand apart from the box -/
theorem atI_in {α : Type} {xs : List α} {z : Int} (h0 : 0 ≤ z) (h1 : z < xs.length) : ∃ v, atI xs z = some v ∧ xs[z.toNat]? = some v := by
  obtain ⟨j, rfl⟩ : ∃ j : Nat, z = (j : Int) := ⟨z.toNat, by omega⟩
  have hj : j < xs.length := by omega
  exact ⟨xs[j], atI_nat (List.getElem?_eq_getElem hj), by rw [Int.toNat_natCast]; exact List.getElem?_eq_getElem hj⟩
theorem ixN_in {n : Nat} {z : Int} (h0 : 0 ≤ z) (h1 : z < n) : ixN n z = some z.toNat := by
  unfold ixN
  rw [if_pos h0, if_pos h1]
end M14
set_option Elab.async false
set_option linter.all false
set_option maxRecDepth 100000
set_option maxHeartbeats 4000000
/-! Steps: what a reading asks, turned into heaps that are known by their facts alone; the tactic words. -/
namespace M14
open PySem PySem.Spec PyProof.Rows L2

structure Bl (mg : Str → Option Value) : Prop where
  z_len : mg "len" = none
  z_int : mg "int" = none
  z_sum : mg "sum" = none
  z_range : mg "range" = none
  z_list : mg "list" = none
  z_tuple : mg "tuple" = none
  z_str : mg "str" = none
  z_isinstance : mg "isinstance" = none
  z_bool : mg "bool" = none
  z_sorted : mg "sorted" = none
  z_enumerate : mg "enumerate" = none
  z_min : mg "min" = none
  z_max : mg "max" = none

/-! ### frames, further -/
theorem Fr.comp {M : List Addr} {H H1 H2 : Hp} (a : Fr M H H1) (b : Fr M H1 H2) : Fr M H H2 := a.trans b
theorem Fr.comp0 {M : List Addr} {H H1 H2 : Hp} (a : Fr M H H1) (b : Fr [] H1 H2) : Fr M H H2 := a.tr b
/-- what is changed was not there at first -/
theorem Fr.compN {M : List Addr} {p : Addr} {H H1 H2 : Hp} (a : Fr M H H1) (b : Fr [p] H1 H2) (n : H p = none) : Fr M H H2 :=
  ⟨fun x o h m => b.kp x o (a.kp x o h m) fun z => (by
    have e : x = p := by simpa using z
    rw [e, n] at h
    cases h), a.nt⟩
theorem Fr.cons {M : List Addr} {p : Addr} {H H1 : Hp} (a : Fr M H H1) (n : ∀ xs, H p ≠ some (.tup xs)) : Fr (p :: M) H H1 :=
  ⟨fun x o h m => a.kp x o h fun z => m (List.mem_cons_of_mem _ z), fun x m => by
    rcases List.mem_cons.mp m with rfl | m
    · exact n
    · exact a.nt x m⟩
theorem Fr.freeb {b : Addr} {H H' : Hp} {o : HO} (e : Fr [b] H H') (hb : H' b = some o) {l : Addr} (h : H' l = none) : H l = none := e.freeM (fun a m q => by
  have z : a = b := by simpa using m
  rw [z, hb] at q; cases q) h
theorem sqFr {K : PySem.W.Frag} {M : List Addr} {H H' : Hp} {a : Addr} {xs : List V} (e : Fr M H H') (m : a ∉ M) (h : SqL K H a xs) : SqL K H' a xs := by
  rcases h with (h | ⟨o, h⟩) | h
  · exact .inl (.inl (e.kp _ _ h m))
  · exact .inl (.inr ⟨o, e.kp _ _ h m⟩)
  · exact .inr h
theorem sqFr0 {K : PySem.W.Frag} {H H' : Hp} {a : Addr} {xs : List V} (e : Fr [] H H') (h : SqL K H a xs) : SqL K H' a xs := sqFr e (by simp) h
theorem sqFr1 {K : PySem.W.Frag} {b : Addr} {H H' : Hp} {a : Addr} {xs : List V} (e : Fr [b] H H') (n : a ≠ b) (h : SqL K H a xs) : SqL K H' a xs := sqFr e (by simpa using n) h
theorem Fr.at0 {H H' : Hp} {a : Addr} {o : HO} (e : Fr [] H H') (h : H a = some o) : H' a = some o := e.kp a o h (by simp)

theorem Fr.at1n {b : Addr} {H H' : Hp} (e : Fr [b] H H') {a : Addr} {o : HO} (n : a ≠ b) (h : H a = some o) : H' a = some o := e.at1 h n

/-! ### the box of draws: a list of five ints -/
def Box (H : Hp) (b : Addr) : Prop := ∃ i0 i1 i2 i3 i4 : Int, H b = some (.lst [.int i0, .int i1, .int i2, .int i3, .int i4])
theorem Box.fr0 {H H' : Hp} {b : Addr} (e : Fr [] H H') (h : Box H b) : Box H' b := let ⟨i0, i1, i2, i3, i4, h⟩ := h; ⟨i0, i1, i2, i3, i4, e.at0 h⟩
theorem Box.fr1 {H H' : Hp} {b p : Addr} (e : Fr [p] H H') (n : b ≠ p) (h : Box H b) : Box H' b := let ⟨i0, i1, i2, i3, i4, h⟩ := h; ⟨i0, i1, i2, i3, i4, e.at1 h n⟩
theorem Box.has {H : Hp} {b : Addr} (h : Box H b) : ∃ o, H b = some o := let ⟨_, _, _, _, _, h⟩ := h; ⟨_, h⟩
theorem Box.nt {H : Hp} {b : Addr} (h : Box H b) : ∀ a ∈ [b], ∀ (xs : List V), H a ≠ some (HO.tup xs) := fun a m xs e => by
  obtain ⟨_, _, _, _, _, h⟩ := h
  have z : a = b := by simpa using m
  rw [z, h] at e; cases e
theorem Box.free {H H' : Hp} {b l : Addr} (B : Box H' b) (e : Fr [b] H H') (h : H' l = none) : H l = none := let ⟨_, q⟩ := B.has; e.freeb q h
theorem Box.ne {H : Hp} {b l : Addr} (B : Box H b) (h : H l = none) : l ≠ b := fun e => by
  obtain ⟨o, q⟩ := B.has
  rw [e, q] at h; cases h

theorem updFree {H : Hp} {q p : Addr} {o : HO} (h : upd H q o p = none) : H p = none := by
  unfold upd at h
  split at h
  · cases h
  · exact h
theorem ne_of_none2 {H : Hp} {a b : Addr} {o : HO} (h' : H b = none) (h : H a = some o) : a ≠ b := ne_of_none h h'
theorem Box.ne2 {H : Hp} {b l : Addr} (h : H l = none) (B : Box H b) : l ≠ b := B.ne h

theorem len1000 {n : Nat} (h : n ≤ 1000) : n ≤ sizeLine := Nat.le_of_lt (small1000 h)

/-! ### relations by name, over a fixed K -/
section
variable {X : Cx}
@[irreducible] def rxL (K : PySem.W.Frag) : R2 := rIxL K
@[irreducible] def rxT (K : PySem.W.Frag) : R2 := rIxT K
@[irreducible] def rxS : R2 := rIxS
@[irreducible] def rxIn (K : PySem.W.Frag) (neg : Bool) : R2 := rIn K neg
@[irreducible] def rxLn (K : PySem.W.Frag) : List V → Hp → VK → Prop := fun xs H Q => ∃ p ys, xs = [.ref p] ∧ (SqL K H p ys ∨ SqT K H p ys) ∧ Q (.int ys.length) H
@[irreducible] def rxCat : R2 := rCat
@[irreducible] def rxCatT (K : PySem.W.Frag) : R2 := rCatT K
@[irreducible] def rxRep : R2 := rRep
theorem opRep : OpR X (binaryOp .Mult) rxRep := by unfold rxRep; exact op_rep
@[irreducible] def rxSortP (K : PySem.W.Frag) : List V → Hp → VK → Prop := rSortedP K
theorem cSortP (K : PySem.W.Frag) (hK : X.K = K := by rfl) : CallR X (.builtin "sorted") (rxSortP K) := by unfold rxSortP; rw [← hK]; exact cr_sortedP
@[irreducible] def rxSet : TSet := rSetL
@[irreducible] def rxLst (K : PySem.W.Frag) : List V → Hp → VK → Prop := fun xs H Q => ∃ p ys, xs = [.ref p] ∧ (SqL K H p ys ∨ SqT K H p ys) ∧ ∀ l, H l = none → Q (.ref l) (upd H l (.lst ys))
@[irreducible] def rxTup (K : PySem.W.Frag) : List V → Hp → VK → Prop := fun xs H Q => ∃ p ys, xs = [.ref p] ∧ ((SqL K H p ys ∧ ∀ l, H l = none → Q (.ref l) (upd H l (.tup ys))) ∨ (SqT K H p ys ∧ Q (.ref p) H))
def tTruK (K : PySem.W.Frag) (ta : TE) : TT := fun σ H Q => ta σ H fun x H' => ∃ k, TruV K x H' k ∧ Q k H'
@[irreducible] def rxTru (K : PySem.W.Frag) (x : V) (H : Hp) (Q : Bool → Hp → Prop) : Prop := ∃ k, TruV K x H k ∧ Q k H
def tTrx (K : PySem.W.Frag) (ta : TE) : TT := fun σ H Q => ta σ H fun x H' => rxTru K x H' Q
@[irreducible] def rxApp : V → List V → Hp → VK → Prop := rAppend
theorem mtApp : MtM X "list.append" rxApp := by unfold rxApp; exact mt_append
@[irreducible] def rxIs (K : PySem.W.Frag) : List V → Hp → VK → Prop := rIsi K
theorem cIsi (K : PySem.W.Frag) (hK : X.K = K := by rfl) : CallR X (.builtin "isinstance") (rxIs K) := by unfold rxIs; rw [← hK]; exact call_isi
@[irreducible] def rxSum (K : PySem.W.Frag) : List V → Hp → VK → Prop := rSum K
theorem cSum (K : PySem.W.Frag) (hc : X.calm = true := by rfl) (hK : X.K = K := by rfl) : CallR X (.builtin "sum") (rxSum K) := by unfold rxSum; rw [← hK]; exact cr_sum hc
@[irreducible] def rxSl (K : PySem.W.Frag) : V → Option Int → Option Int → Hp → VK → Prop := rSlL K
theorem slL (K : PySem.W.Frag) (hK : X.K = K := by rfl) : SlR X (rxSl K) := by unfold rxSl; rw [← hK]; exact sl_list
@[irreducible] def rxQ (K : PySem.W.Frag) : R2 := fun x y H Q => rIxL K x y H Q ∨ rIxT K x y H Q
theorem ixQ (K : PySem.W.Frag) (hK : X.K = K := by rfl) : IxR X (rxQ K) := by
  intro value slice pins s σ H x y v u Q I rx ry h hs
  unfold rxQ at h
  rw [← hK] at h
  rcases h with h | h
  · exact ix_list value slice pins s σ H x y v u Q I rx ry h hs
  · exact ix_tup value slice pins s σ H x y v u Q I rx ry h hs
theorem ixL (K : PySem.W.Frag) (hK : X.K = K := by rfl) : IxR X (rxL K) := by unfold rxL; rw [← hK]; exact ix_list
theorem ixT (K : PySem.W.Frag) (hK : X.K = K := by rfl) : IxR X (rxT K) := by unfold rxT; rw [← hK]; exact ix_tup
theorem ixS : IxR X rxS := by unfold rxS; exact ix_str
theorem opIn (K : PySem.W.Frag) (hK : X.K = K := by rfl) : OpR X (compareOp .In) (rxIn K false) := by unfold rxIn; rw [← hK]; exact op_in_seq
theorem opNotIn (K : PySem.W.Frag) (hK : X.K = K := by rfl) : OpR X (compareOp .NotIn) (rxIn K true) := by unfold rxIn; rw [← hK]; exact op_notIn_seq
theorem cLen (K : PySem.W.Frag) (hK : X.K = K := by rfl) : CallR X (.builtin "len") (rxLn K) := by unfold rxLn; rw [← hK]; exact call_len_seq
theorem opCat : OpR X (binaryOp .Add) rxCat := by unfold rxCat; exact op_cat
theorem opCatT (K : PySem.W.Frag) (hK : X.K = K := by rfl) : OpR X (binaryOp .Add) (rxCatT K) := by unfold rxCatT; rw [← hK]; exact op_catT
theorem setL : PSet X rxSet := by unfold rxSet; exact set_list
theorem cList (K : PySem.W.Frag) (hK : X.K = K := by rfl) : CallR X (.type "list") (rxLst K) := by unfold rxLst; rw [← hK]; exact call_list_of
theorem cTuple (K : PySem.W.Frag) (hK : X.K = K := by rfl) : CallR X (.type "tuple") (rxTup K) := by unfold rxTup; rw [← hK]; exact call_tuple_of
theorem ptTru (K : PySem.W.Frag) {a : Expr} {ta : TE} (h : PE X a ta) (he : ∀ whole, isTrue a X.env whole = (do let v ← whole; standAt a.pos; holding [v] (truthy v)) := by intro _; rfl) (hK : X.K = K := by rfl) : PT X a (tTrx K ta) := by
  have e : tTrx K ta = fun σ H Q => ta σ H fun x H' => ∃ k, TruV X.K x H' k ∧ Q k H' := by
    funext σ H Q
    unfold tTrx rxTru
    rw [hK]
  rw [e]
  exact pt_truth h he
end
/-! ### steps -/
theorem new_step {H : Hp} {o : HO} {Q : VK} (h : ∀ p H', H p = none → H' p = some o → Fr [] H H' → Q (.ref p) H') : ∀ p, H p = none → Q (.ref p) (upd H p o) := fun p hp => h p _ hp upd_same (Fr.new hp)
theorem newl_step {n : Nat} {H : Hp} {o : HO} {Q : VK} (hl : n ≤ 1000) (h : ∀ p H', H p = none → H' p = some o → Fr [] H H' → Q (.ref p) H') : n ≤ sizeLine ∧ ∀ p, H p = none → Q (.ref p) (upd H p o) :=
  ⟨Nat.le_of_lt (small1000 hl), new_step h⟩
theorem set_step {H : Hp} {p : Addr} {xs : List V} {k : Int} {v : V} {Q : Hp → Prop} (hp : H p = some (.lst xs)) (h0 : 0 ≤ k) (h1 : k < xs.length) (h : ∀ H', H' p = some (.lst (xs.set k.toNat v)) → Fr [p] H H' → Q H') : rxSet (.ref p) (.int k) v H Q := by
  unfold rxSet
  exact ⟨p, xs, k, k.toNat, rfl, rfl, hp, ixN_in h0 h1, h _ upd_same (Fr.put hp (by intro _ z; cases z))⟩
theorem app_step {H : Hp} {p : Addr} {xs : List V} {v : V} {Q : VK} (hp : H p = some (.lst xs)) (hz : xs.length < 10000) (h : ∀ H', H' p = some (.lst (xs ++ [v])) → Fr [p] H H' → Q .non H') : rxApp (.ref p) [v] H Q := by
  unfold rxApp
  exact ⟨p, xs, v, rfl, rfl, hp, Nat.lt_of_lt_of_le hz (by decide), h _ upd_same (Fr.put hp (by intro _ z; cases z))⟩
theorem tyL_and {K : PySem.W.Frag} {H : Hp} {p : Addr} {xs : List V} {A : Prop} (hp : SqL K H p xs) (h : A) : tyV K "list" (.ref p) H ∧ A := ⟨.inl ⟨rfl, xs, hp⟩, h⟩
theorem ixl_step {K : PySem.W.Frag} {H : Hp} {p : Addr} {xs : List V} {z : Int} {Q : VK} (hp : SqL K H p xs) (h0 : 0 ≤ z) (h1 : z < xs.length) (h : ∀ v, xs[z.toNat]? = some v → Q v H) : rxL K (.ref p) (.int z) H Q := by
  unfold rxL
  obtain ⟨v, e1, e2⟩ := atI_in h0 h1
  exact ⟨p, xs, z, v, rfl, rfl, hp, e1, h v e2⟩
/-- a place of a written list -/
theorem ixr_step {K : PySem.W.Frag} {H : Hp} {p : Addr} {xs : List V} {z : Int} {v : V} {Q : VK} (hp : SqL K H p xs) (ha : atI xs z = some v) (h : Q v H) : rxL K (.ref p) (.int z) H Q := by
  unfold rxL
  exact ⟨p, xs, z, v, rfl, rfl, hp, ha, h⟩
theorem ixi_step {K : PySem.W.Frag} {H : Hp} {p : Addr} {ns : List Int} {z : Int} {Q : VK} (hp : SqL K H p (ns.map V.int)) (h0 : 0 ≤ z) (h1 : z < ns.length) (h : ∀ n, n ∈ ns → ns[z.toNat]? = some n → Q (.int n) H) : rxL K (.ref p) (.int z) H Q := by
  refine ixl_step hp h0 (by simpa using h1) fun v hv => ?_
  rw [List.getElem?_map] at hv
  cases e : ns[z.toNat]? with
  | none => rw [e] at hv; cases hv
  | some n =>
    rw [e] at hv
    cases hv
    exact h n (List.mem_of_getElem? e) e
theorem ixt_step {K : PySem.W.Frag} {H : Hp} {p : Addr} {xs : List V} {z : Int} {Q : VK} (hp : H p = some (.tup xs)) (h0 : 0 ≤ z) (h1 : z < xs.length) (h : ∀ v, v ∈ xs → xs[z.toNat]? = some v → Q v H) : rxT K (.ref p) (.int z) H Q := by
  unfold rxT
  obtain ⟨v, e1, e2⟩ := atI_in h0 h1
  exact ⟨p, xs, z, v, rfl, rfl, SqT.of hp, e1, h v (List.mem_of_getElem? e2) e2⟩
theorem ixs_step {z : Str} {i : Int} {H : Hp} {Q : VK} (hz : z.length ≤ sizeLine) (h0 : 0 ≤ i) (h1 : i < z.length) (h : ∀ c, Q (.str ⟨#[c]⟩) H) : rxS (.str z) (.int i) H Q := by
  unfold rxS
  obtain ⟨c, e, _⟩ := atI_in (xs := z.cps.toList) h0 (by rw [Array.length_toList]; exact h1)
  exact ⟨z, i, c, rfl, rfl, hz, e, h c⟩
theorem ix0_step {K : PySem.W.Frag} {H : Hp} {p : Addr} {x : V} {r : List V} {Q : VK} (hp : H p = some (.tup (x :: r))) (h : Q x H) : rxT K (.ref p) (.int 0) H Q := by
  unfold rxT
  exact ⟨p, _, 0, x, rfl, rfl, SqT.of hp, atI_nat (j := 0) rfl, h⟩
theorem ix1_step {K : PySem.W.Frag} {H : Hp} {p : Addr} {x y : V} {r : List V} {Q : VK} (hp : H p = some (.tup (x :: y :: r))) (h : Q y H) : rxT K (.ref p) (.int 1) H Q := by
  unfold rxT
  exact ⟨p, _, 1, y, rfl, rfl, SqT.of hp, atI_nat (j := 1) rfl, h⟩
theorem ix2_step {K : PySem.W.Frag} {H : Hp} {p : Addr} {x y z : V} {r : List V} {Q : VK} (hp : H p = some (.tup (x :: y :: z :: r))) (h : Q z H) : rxT K (.ref p) (.int 2) H Q := by
  unfold rxT
  exact ⟨p, _, 2, z, rfl, rfl, SqT.of hp, atI_nat (j := 2) rfl, h⟩
theorem rep_step {H : Hp} {a : Addr} {x : V} {n : Int} {Q : VK} (h : H a = some (.lst [x])) (h0 : 0 ≤ n) (h1 : n ≤ 10000) (k : ∀ p H', H p = none → H' p = some (.lst (List.replicate n.toNat x)) → Fr [] H H' → Q (.ref p) H') : rxRep (.ref a) (.int n) H Q := by
  unfold rxRep
  refine ⟨a, n, [x], rfl, rfl, h, by omega, by omega, ?_, fun p hp => ?_⟩
  · have : ([x] : List V).length * n.toNat ≤ 10000 := by simp; omega
    exact Nat.le_trans this (by decide)
  · have e : (List.replicate n.toNat [x]).flatten = List.replicate n.toNat x := by
      generalize n.toNat = m
      induction m with
      | zero => rfl
      | succ m ih => rw [List.replicate_succ, List.flatten_cons, ih]; rfl
    rw [e]
    exact k p _ hp upd_same (Fr.new hp)
theorem sortP_step {K : PySem.W.Frag} {H : Hp} {a : Addr} {xs : List V} {Q : VK} (h : H a = some (.lst xs)) (hx : ∀ x ∈ xs, ∃ t i j, x = V.ref t ∧ H t = some (.tup [.int i, .int j])) (k : ∀ ys p H', ys.Perm xs → H p = none → H' p = some (.lst ys) → Fr [] H H' → Q (.ref p) H') : rxSortP K [.ref a] H Q := by
  unfold rxSortP
  exact ⟨a, xs, rfl, .of h, hx, fun ys p hp n => k ys p _ hp n upd_same (Fr.new n)⟩
/-! ### ways -/
theorem iteD {c A B : Prop} [Decidable c] (h1 : c → A) (h2 : ¬ c → B) : if decide c = true then A else B := by
  by_cases h : c
  · rw [if_pos (decide_eq_true h)]; exact h1 h
  · rw [if_neg (by simp [h])]; exact h2 h
theorem iteDI {i j : Int} {A B : Prop} (h1 : i = j → A) (h2 : i ≠ j → B) : if decide (V.int i = V.int j) = true then A else B := iteD (fun e => h1 (V.int.inj e)) fun e => h2 fun q => e (by rw [q])
theorem iteDS {i j : Str} {A B : Prop} (h1 : i = j → A) (h2 : i ≠ j → B) : if decide (V.str i = V.str j) = true then A else B := iteD (fun e => h1 (V.str.inj e)) fun e => h2 fun q => e (by rw [q])
theorem iteN {c : Bool} {A B : Prop} (h : if c = true then B else A) : if (!c) = true then A else B := by
  cases c with
  | true => simpa using h
  | false => simpa using h
theorem iteE {α : Type} {xs : List α} {A B : Prop} (h1 : 0 < xs.length → A) (h2 : xs.length = 0 → B) : if (!xs.isEmpty) = true then A else B := by
  cases xs with
  | nil => simpa using h2 rfl
  | cons x r => simpa using h1 (by simp)
theorem iteEM {α β : Type} {f : α → β} {xs : List α} {A B : Prop} (h1 : 0 < xs.length → A) (h2 : xs.length = 0 → B) : if (!(xs.map f).isEmpty) = true then A else B :=
  iteE (fun h => h1 (by simpa using h)) fun h => h2 (by simpa using h)
def isI (v : V) : Prop := ∃ i : Int, v = .int i
def intB : V → Bool
  | .int _ => true
  | _ => false
theorem isI_of {l : List V} {v : V} (h : l.all intB = true) (m : v ∈ l) : isI v := by
  have q := List.all_eq_true.mp h v m
  cases v with
  | int i => exact ⟨i, rfl⟩
  | _ => cases q
theorem wayB {c : Bool} {A B : Prop} (h1 : c = true → A) (h2 : c = false → B) : if c = true then A else B := by
  cases c with
  | true => exact h1 rfl
  | false => exact h2 rfl


/-! ### texts -/
def isS (n : Nat) (v : V) : Prop := ∃ s : Str, v = .str s ∧ s.length ≤ n
def strB (n : Nat) : V → Bool
  | .str s => decide (s.length ≤ n)
  | _ => false
theorem isS_of {n : Nat} {l : List V} {v : V} (h : l.all (strB n) = true) (m : v ∈ l) : isS n v := by
  have q := List.all_eq_true.mp h v m
  cases v with
  | str s => exact ⟨s, rfl, of_decide_eq_true q⟩
  | _ => cases q
theorem strs_of {n : Nat} : ∀ {ys : List V}, (∀ y ∈ ys, isS n y) → ∃ ss : List Str, ys = ss.map V.str ∧ ∀ s ∈ ss, s.length ≤ n
  | [], _ => ⟨[], rfl, fun _ h => nomatch h⟩
  | y :: r, h => by
    obtain ⟨s, e, l⟩ := h y List.mem_cons_self
    obtain ⟨ss, e2, l2⟩ := strs_of (ys := r) fun z m => h z (List.mem_cons_of_mem _ m)
    refine ⟨s :: ss, by rw [e, e2]; rfl, fun z m => ?_⟩
    rcases List.mem_cons.mp m with rfl | m
    · exact l
    · exact l2 z m
theorem sum_le {n : Nat} : ∀ {ss : List Str}, (∀ s ∈ ss, s.length ≤ n) → (ss.map (·.length)).sum ≤ n * ss.length
  | [], _ => Nat.zero_le _
  | s :: r, h => by
    have h1 := h s List.mem_cons_self
    have h2 := sum_le (ss := r) fun z m => h z (List.mem_cons_of_mem _ m)
    simp only [List.map_cons, List.sum_cons, List.length_cons, Nat.mul_add, Nat.mul_one]
    omega
theorem join_le {n : Nat} : ∀ {ss : List Str}, (∀ s ∈ ss, s.length ≤ n) → (Txt.join (Str.ofString "") ss).length ≤ n * ss.length := fun {ss} h => by
  rw [TL.join_eq]
  have e0 : (Str.ofString "").length = 0 := by decide +kernel
  have go : ∀ ss : List Str, (Str.join (Str.ofString "") ss).length ≤ (ss.map (·.length)).sum := fun ss => by
    induction ss with
    | nil => exact Nat.zero_le _
    | cons s r ih =>
      cases r with
      | nil => simp [Str.join]
      | cons u r =>
        rw [Str.join, Str.length_append, Str.length_append, e0, List.map_cons, List.sum_cons]
        · omega
        · simp
  exact Nat.le_trans (go ss) (sum_le h)
/-- sep.join(ys), ys a list of short texts -/
theorem join_step {K : PySem.W.Frag} {H : Hp} {p : Addr} {ys : List V} {n : Nat} {Q : VK} (hp : SqL K H p ys) (hy : ∀ y ∈ ys, isS n y) (hn : n ≤ 100) (hl : ys.length ≤ 1000) (h : ∀ v, isS (n * ys.length) v → Q v H) :
    ∃ a q, ∃ zs : List Str, V.str (Str.ofString "") = .str a ∧ [V.ref p] = [.ref q] ∧ (SqL K H q (zs.map V.str) ∨ SqT K H q (zs.map V.str)) ∧ (zs.map (·.length)).sum + zs.length * a.length ≤ 16777216 ∧ Q (.str (Txt.join a zs)) H := by
  obtain ⟨ss, rfl, l⟩ := strs_of hy
  rw [List.length_map] at hl h
  have s1 := sum_le l
  have s2 : n * ss.length ≤ 100 * 1000 := Nat.mul_le_mul hn hl
  have e0 : (Str.ofString "").length = 0 := by decide +kernel
  exact ⟨_, p, ss, rfl, rfl, .inl hp, by rw [e0]; omega, h _ ⟨_, rfl, join_le l⟩⟩
theorem isS.mono {n m : Nat} {v : V} (h : isS n v) (l : n ≤ m) : isS m v := let ⟨s, e, q⟩ := h; ⟨s, e, Nat.le_trans q l⟩
theorem len1 (c : Nat) : isS 1 (.str ⟨#[c]⟩) := ⟨_, rfl, by show (#[c] : Array Nat).size ≤ 1; simp⟩
/-! ### further steps -/
@[irreducible] def rStrI : List V → Hp → VK → Prop := fun xs H Q => ∃ i : Int, xs = [.int i] ∧ i.natAbs.log2 < 1920 ∧ Q (.str (toString i)) H
theorem call_strI {X : Cx} : CallR X (.type "str") rStrI := by unfold rStrI; exact call_str_int
@[irreducible] def rAddT : R2 := fun x y H Q => ∃ i j : Str, x = .str i ∧ y = .str j ∧ i.length + j.length ≤ sizeLine ∧ Q (.str (i ++ j)) H
theorem op_addT {X : Cx} : OpR X (binaryOp .Add) rAddT := by unfold rAddT; exact op_add_str
theorem strInt_step {k : Int} {H : Hp} {Q : VK} (h : k.natAbs ≤ 1000) (q : ∀ s : Str, s.length ≤ 1921 → Q (.str s) H) : rStrI [V.int k] H Q := by
  unfold rStrI
  have l : k.natAbs.log2 < 1920 := Nat.lt_of_le_of_lt (Nat.log2_le_self _) (by omega)
  exact ⟨k, rfl, l, q _ (PyProof.Rows.int_text_len_1921 l)⟩
theorem addS_step {x y : Str} {H : Hp} {Q : VK} (h : x.length + y.length ≤ 10000) (q : ∀ s : Str, s.length ≤ 10000 → Q (.str s) H) : rAddT (.str x) (.str y) H Q := by
  unfold rAddT
  exact ⟨x, y, rfl, rfl, Nat.le_trans h (by decide), q _ (by rw [Str.length_append]; exact h)⟩
theorem in_step {K : PySem.W.Frag} {H : Hp} {x : V} {p : Addr} {xs : List V} {Q : VK} (hp : H p = some (.tup xs)) (hx : flatV x = true) (hf : xs.all flatV = true) (h : Q (.bl (inV x xs)) H) : rxIn K false x (.ref p) H Q := by
  unfold rxIn
  exact ⟨p, xs, rfl, .inr (SqT.of hp), hx, hf, by rw [if_neg Bool.false_ne_true]; exact h⟩
theorem len_step {K : PySem.W.Frag} {H : Hp} {p : Addr} {xs : List V} {Q : VK} (hp : SqL K H p xs) (h : Q (.int xs.length) H) : rxLn K [.ref p] H Q := by
  unfold rxLn
  exact ⟨p, xs, rfl, .inl hp, h⟩
theorem lst_step {K : PySem.W.Frag} {H : Hp} {p : Addr} {xs : List V} {Q : VK} (hp : SqL K H p xs) (h : ∀ l, H l = none → Q (.ref l) (upd H l (.lst xs))) : rxLst K [.ref p] H Q := by
  unfold rxLst
  exact ⟨p, xs, rfl, .inl hp, h⟩
theorem tupl_step {K : PySem.W.Frag} {H : Hp} {p : Addr} {xs : List V} {Q : VK} (hp : SqL K H p xs) (h : ∀ l, H l = none → Q (.ref l) (upd H l (.tup xs))) : rxTup K [.ref p] H Q := by
  unfold rxTup
  exact ⟨p, xs, rfl, .inl ⟨hp, h⟩⟩
theorem tru_step {K : PySem.W.Frag} {H : Hp} {p : Addr} {xs : List V} {Q : Bool → Hp → Prop} (hp : SqL K H p xs) (h : Q (!xs.isEmpty) H) : rxTru K (.ref p) H Q := by
  unfold rxTru
  exact ⟨_, .inl ⟨xs, hp, rfl⟩, h⟩
theorem catT_step {K : PySem.W.Frag} {H : Hp} {a b : Addr} {x y : V} {xs ys : List V} {Q : VK} (ha : H a = some (.tup (x :: xs))) (hb : H b = some (.tup (y :: ys))) (hl : (x :: xs).length + (y :: ys).length ≤ 1000)
    (h : ∀ p, H p = none → Q (.ref p) (upd H p (.tup (x :: xs ++ y :: ys)))) : rxCatT K (.ref a) (.ref b) H Q := by
  unfold rxCatT
  exact ⟨a, b, _, _, rfl, rfl, SqT.of ha, SqT.of hb, by simp, len1000 hl, fun e => (nomatch e), fun _ => h⟩
theorem cat_step {H : Hp} {a b : Addr} {xs ys : List V} {Q : VK} (ha : H a = some (.lst xs)) (hb : H b = some (.lst ys)) (hl : xs.length + ys.length ≤ 10000) (h : ∀ p, H p = none → Q (.ref p) (upd H p (.lst (xs ++ ys)))) : rxCat (.ref a) (.ref b) H Q := by
  unfold rxCat
  exact ⟨a, b, _, _, rfl, rfl, ha, hb, Nat.le_trans hl (by decide), h⟩
theorem dens_ex {K : PySem.W.Frag} {H : Hp} {p : T → Prop} : ∀ {ys : List V}, (∀ y ∈ ys, ∃ t, Den K H y t ∧ p t) → ∃ ts, Dens K H ys ts ∧ ∀ t ∈ ts, p t
  | [], _ => ⟨[], .nil, fun _ m => nomatch m⟩
  | y :: r, h => by
    obtain ⟨t, d, q⟩ := h y List.mem_cons_self
    obtain ⟨ts, ds, qs⟩ := dens_ex (ys := r) fun z m => h z (List.mem_cons_of_mem _ m)
    refine ⟨t :: ts, .cons d ds, fun u m => ?_⟩
    rcases List.mem_cons.mp m with rfl | m
    · exact q
    · exact qs u m
theorem dens_strs {K : PySem.W.Frag} {H : Hp} {n : Nat} {ys : List V} (h : ∀ y ∈ ys, isS n y) : ∃ ts, Dens K H ys ts ∧ ∀ t ∈ ts, Dep 0 t :=
  dens_ex fun y m => let ⟨s, e, _⟩ := h y m; ⟨.str s, by rw [e]; exact .str s, .str⟩
/-- for x in range(lo, lo + n) -/
theorem forR {lo : Int} {n : Nat} {j : Nat} {tb : TS} {D : Ends} {σ : L2.St} {H : Hp} (Pv : Nat → L2.St → Hp → Prop) (h0 : Pv 0 σ H)
    (hs : ∀ i σ H, i < n → Pv i σ H → tb { D with nx := Pv (i + 1), ct := Pv (i + 1), bk := D.nx } (σ.set j (some (.int (lo + i)))) H) (hd : ∀ σ H, Pv n σ H → D.nx σ H) :
    ∃ W : Nat → Nat → L2.St → Hp → Prop, (∃ m, W 0 m σ H) ∧ ∀ i m σ H, W i m σ H →
      ((Itr lo n).stop i H ∧ D.nx σ H) ∨ ((Itr lo n).go i H ∧ ∃ N : L2.St → Hp → Prop, (∀ σ' H', N σ' H' → ∃ m', m' < m ∧ W (i + 1) m' σ' H') ∧ ∀ x H', (Itr lo n).yld i H x H' → gName j x σ H' fun σ2 H2 => tb { D with nx := N, ct := N, bk := D.nx } σ2 H2) :=
  for_range Pv h0 hs hd
/-! ### isinstance, sums, slices, items of lists and tuples alike -/
theorem isi_tt {K : PySem.W.Frag} {H : Hp} {x : V} {a : String} {Q : VK} (ty : TyX K H x (.type a)) (e : kitB a a = some true) (h : Q (.bl true) H) : rxIs K [x, .ty a] H Q := by
  unfold rxIs
  exact ⟨x, _, _, _, _, rfl, .ty a, ty, kit_ty e, h⟩
theorem isi_ff {K : PySem.W.Frag} {H : Hp} {x : V} {a c : String} {Q : VK} (ty : TyX K H x (.type a)) (e : kitB a c = some false) (h : Q (.bl false) H) : rxIs K [x, .ty c] H Q := by
  unfold rxIs
  exact ⟨x, _, _, _, _, rfl, .ty c, ty, kit_ty e, h⟩
theorem ixq_step {K : PySem.W.Frag} {H : Hp} {p : Addr} {xs : List V} {z : Int} {Q : VK} (hp : SqL K H p xs ∨ SqT K H p xs) (h0 : 0 ≤ z) (h1 : z < xs.length) (h : ∀ v, xs[z.toNat]? = some v → Q v H) : rxQ K (.ref p) (.int z) H Q := by
  unfold rxQ
  obtain ⟨v, e1, e2⟩ := atI_in h0 h1
  rcases hp with hp | hp
  · exact .inl ⟨p, xs, z, v, rfl, rfl, hp, e1, h v e2⟩
  · exact .inr ⟨p, xs, z, v, rfl, rfl, hp, e1, h v e2⟩
theorem lenq_step {K : PySem.W.Frag} {H : Hp} {p : Addr} {xs : List V} {Q : VK} (hp : SqL K H p xs ∨ SqT K H p xs) (h : Q (.int xs.length) H) : rxLn K [.ref p] H Q := by
  unfold rxLn
  exact ⟨p, xs, rfl, hp, h⟩
theorem ints_of : ∀ {ys : List V}, (∀ y ∈ ys, isI y) → ∃ ms : List Int, ys = ms.map V.int
  | [], _ => ⟨[], rfl⟩
  | y :: r, h => by
    obtain ⟨i, e⟩ := h y List.mem_cons_self
    obtain ⟨ms, e2⟩ := ints_of (ys := r) fun z m => h z (List.mem_cons_of_mem _ m)
    exact ⟨i :: ms, by rw [e, e2]; rfl⟩
theorem sl_step {K : PySem.W.Frag} {H : Hp} {p : Addr} {ns : List Int} {lo hi : Option Int} {Q : VK} (hp : SqL K H p (ns.map V.int)) (h : ∀ q H' (ms : List Int), H q = none → H' q = some (.lst (ms.map V.int)) → Fr [] H H' → Q (.ref q) H') : rxSl K (.ref p) lo hi H Q := by
  unfold rxSl
  refine ⟨p, _, rfl, hp, fun q hq => ?_⟩
  obtain ⟨ms, e⟩ := ints_of (ys := cutV (ns.map V.int) lo hi) fun y hy => by
    unfold cutV at hy
    have m := List.mem_of_mem_drop (List.mem_of_mem_take hy)
    obtain ⟨i, _, e⟩ := List.mem_map.mp m
    exact ⟨i, e.symm⟩
  rw [e]
  exact h q _ ms hq upd_same (Fr.new hq)
theorem sum_step {K : PySem.W.Frag} {H : Hp} {p : Addr} {ns : List Int} {Q : VK} (hp : SqL K H p (ns.map V.int)) (h : ∀ i : Int, Q (.int i) H) : rxSum K [.ref p] H Q := by
  unfold rxSum
  exact ⟨p, ns, rfl, hp, h _⟩
theorem fin_bl {Q : VK} {H : Hp} {b : Bool} (e : b = true) (h : Q (.bl true) H) : Q (.bl b) H := by rw [e]; exact h
end M14
set_option Elab.async false
set_option linter.all false
set_option maxRecDepth 100000
set_option maxHeartbeats 4000000
/-! k04: rules that the hand layer does not have: enumerate(text), text * int, X() of an own exception class. -/
namespace K4
open PySem PySem.Spec PyProof.Rows L2 M14
/-! ### for i, c in enumerate(text) -/
def Itse (x : Str) : It := ⟨fun i _ => i < x.cps.size, fun i H v H' => ∃ T c, v = .ref T ∧ H T = none ∧ H' = upd H T (.tup [.int (i : Nat), .str ⟨#[c]⟩]) ∧ x.cps[i]? = some c, fun i _ => i = x.cps.size⟩
theorem turn_enumS {P : Program} {w : World} {K : PySem.W.Frag} {elts : List Expr} {kk : Nat} {tpos : Pos} (x : Str) (t : Tok) (e it : Addr) :
    Turn P w K (.Tuple elts kk tpos) (Itse x) [e, it] e (fun i h => (∃ old, IsEnum h e it ((i : Nat) : Int) old) ∧ h.IsStrIter it (strIterType x) x t i ∧ e ≠ it) where
  mem := by simp
  obj := fun i h st b hb => by
    obtain ⟨⟨old, he⟩, ⟨o, ho, hc, hd⟩, _⟩ := st
    have e' : b = e ∨ b = it := by simpa using hb
    rcases e' with z | z
    · rw [z]; exact ⟨_, he, fun v q => nomatch q⟩
    · rw [z]; exact ⟨o, ho, fun v q => by rw [hd] at q; cases q⟩
  keep := fun i h h' st k => let ⟨⟨old, he⟩, ⟨o, ho, r⟩, hne⟩ := st; ⟨⟨old, k e (by simp) _ he⟩, ⟨o, k it (by simp) o ho, r⟩, hne⟩
  item := by
    intro X hP hw hK hc i pins s σ H E I hf st hg
    subst hP hw hK
    obtain ⟨⟨old, he⟩, hit, hne⟩ := st
    have hel : e < s.heap.objs.size := Heap.lt_size he
    have hil : it < s.heap.objs.size := by obtain ⟨_, q, _⟩ := hit; exact Heap.lt_size q
    have D : Draws X.prog X.w X.A.in1 it [it] x.cps.size (fun i v => ∃ c u, x.cps[i]? = some c ∧ v = .str ⟨#[c]⟩ u) (fun i h => h.IsStrIter it (strIterType x) x t i) := by
      have hh : X.A.in1.handled = none := I.ok.hd hc
      unfold strIterType
      cases ha : x.cps.all (· < 128)
      · exact Draws.strWide hh it x t
      · exact Draws.strAscii hh it x t
    refine wpAny_pyNext_enum_itemD D he hit hg hne (by simpa using hne) fun v h' tk hv ho hit' hT hsz hk => ?_
    obtain ⟨c, u, hcx, rfl⟩ := hv
    refine ⟨_, rfl, wpAny_letOwnedTupleGo_enum (s := { s with heap := h', toks := tk + 1 }) ho fun h'' he' sb => ?_⟩
    have hT2 : h''.get? s.heap.objs.size = some { cls := .type "tuple", data := .seq #[.int i tk, .str ⟨#[c]⟩ u] } := (sb.2 _ (Nat.ne_of_gt hel)).trans hT
    have new : ObjOk X.prog X.w (upd H s.heap.objs.size (.tup [.int (i : Nat), .str ⟨#[c]⟩])) h'' s.heap.objs.size (.tup [.int (i : Nat), .str ⟨#[c]⟩]) :=
      ⟨by show 2 ≤ sizeLine; decide, [.int i tk, .str ⟨#[c]⟩ u], .cons ⟨_, rfl⟩ (.cons ⟨_, rfl⟩ .nil), ⟨_, hT2, rfl, _, rfl⟩⟩
    have I1 : Inv X pins σ (upd H s.heap.objs.size (.tup [.int (i : Nat), .str ⟨#[c]⟩])) { s with heap := h'', toks := tk + 1 } :=
      I.turnedNew (ch := [e, it]) (fun b ob hb q => (sb.2 b (fun z => hb (by simp [z]))).trans (hk b ob (fun z => hb (by simp [z])) (fun z => hb (by simp [z])) q)) hf (Nat.le_refl _) new
    refine ⟨.ref s.heap.objs.size, _, I1, rfl, ⟨_, c, rfl, I.hok.fresh (Nat.le_refl _), rfl, hcx⟩, ⟨⟨.str ⟨#[c]⟩ u, ?_⟩, ?_, hne⟩, fun b hb => ?_⟩
    · have e1 : ((i + 1 : Nat) : Int) = (i : Int) + 1 := by omega
      rw [e1]; exact he'
    · obtain ⟨o, ho2, r⟩ := hit'
      exact ⟨o, (sb.2 it (Ne.symm hne)).trans ho2, r⟩
    · have hb' : b < s.heap.objs.size := by
        have e' : b = e ∨ b = it := by simpa using hb
        rcases e' with z | z
        · rw [z]; exact hel
        · rw [z]; exact hil
      rw [upd_ne (Nat.ne_of_lt hb')]
      exact (hf b hb).1
  done := by
    intro X hP hw hK hc i pins s σ H E I hf st hg
    subst hP hw hK
    obtain ⟨⟨old, he⟩, hit, hne⟩ := st
    obtain ⟨f0, f1, f2, f3, f4, f5⟩ := hf it (by simp)
    have hh : X.A.in1.handled = none := I.ok.hd hc
    have D : Draws X.prog X.w X.A.in1 it [it] x.cps.size (fun i v => ∃ c u, x.cps[i]? = some c ∧ v = .str ⟨#[c]⟩ u) (fun i h => h.IsStrIter it (strIterType x) x t i) := by
      unfold strIterType
      cases ha : x.cps.all (· < 128)
      · exact Draws.strWide hh it x t
      · exact Draws.strAscii hh it x t
    have hg' : i = x.cps.size := hg
    rw [hg'] at hit
    exact wpAny_pyNext_enum_endD D he hit fun h' eb => ⟨rfl, I.turned (t' := s.toks) (fun b o hb q => eb b o hb q) f0 f1 f3 f4 f5⟩
  self := fun A i s Q E st h => let ⟨⟨_, he⟩, _⟩ := st; wpAny_pyIter_enum he h
def iEnumS (ta : TA) : TI := fun σ H R => ta σ H fun vs H1 => ∃ x, vs = [.str x] ∧ R (Itse x) H1
theorem pi_enumS {X : Cx} {e : Expr} {ta : TA} {p pos tpos : Pos} {elts : List Expr} {kk : Nat} (hg : Gl X "enumerate") (hm : X.mg "enumerate" = none) (ha : PA X [e] ta) (hs : starEach [e] X.env = [(false, eval e X.env)] := by rfl) :
    PI X (.Tuple elts kk tpos) (.Call (.Name "enumerate" p) [e] [] pos) (iEnumS ta) := by
  refine ⟨fun pins s σ H R I h => ?_⟩
  refine Call_ (ld_blt I hg hm boot_enumerate (PyProof.Rows.callWith_type1 (thn (ha.run pos pins s σ H _ I h) fun us s1 ⟨vs, H1, I1, r1, q1⟩ => ?_) hs rfl))
  obtain ⟨x, ex, q⟩ := q1
  subst ex
  cases r1 with
  | cons r rr =>
    cases rr
    obtain ⟨t, rfl⟩ := r
    refine call_enumerate_str fun h' he hit hsz hk => wpAny_pyIter_enum he ?_
    have I2 : Inv X pins σ H1 { s1 with heap := h' } := I1.kept (t' := s1.toks) hk
    refine ⟨s1.heap.objs.size + 1, [s1.heap.objs.size + 1, s1.heap.objs.size], _, _, H1, rfl, I2, turn_enumS x t (s1.heap.objs.size + 1) s1.heap.objs.size, ⟨⟨.none, he⟩, hit, Nat.succ_ne_self _⟩, fun b hb => ?_, q⟩
    have e' : b = s1.heap.objs.size + 1 ∨ b = s1.heap.objs.size := by simpa using hb
    have hle : s1.heap.objs.size ≤ b := by
      rcases e' with z | z
      · rw [z]; exact Nat.le_add_right _ _
      · rw [z]; exact Nat.le_refl _
    exact I1.fpOk hle (I1.hok.fresh hle)
/-! ### text * int -/
@[irreducible] def rRepS : R2 := fun x y H Q => ∃ (z : Str) (n : Int), x = .str z ∧ y = .int n ∧ n ≤ 100000 ∧ -(2 ^ 63) ≤ n ∧ z.length * n.toNat ≤ 1000000 ∧ Q (.str (Txt.mul z n)) H
theorem op_repS {X : Cx} : OpR X (binaryOp .Mult) rRepS := by
  unfold rRepS
  intro pins s σ H x y v u Q I rx ry h
  obtain ⟨z, n, rfl, rfl, h1, h2, h3, q⟩ := h
  obtain ⟨t, rfl⟩ := rx
  obtain ⟨t2, rfl⟩ := ry
  refine SB.mul ⟨?_, ?_, ?_⟩ fun t' k => ⟨.str (Txt.mul z n), H, I.tok k, ⟨t', rfl⟩, q⟩
  · simp; omega
  · intro h4 h5 h6
    have h7 : 1 ≤ n := by omega
    have h8 : (z.length : Int) * n ≤ 1000000 := by
      have : ((z.length * n.toNat : Nat) : Int) ≤ 1000000 := by omega
      rw [Int.natCast_mul, Int.toNat_of_nonneg (by omega)] at this
      exact this
    have h9 : ((2 ^ 63 - 1 : Int) / n) * n ≥ 1000000 := by
      have := Int.mul_ediv_add_emod (2 ^ 63 - 1) n
      have h10 := Int.emod_lt_of_pos (2 ^ 63 - 1) (show 0 < n by omega)
      rw [Int.mul_comm] at this
      have e : (2 ^ 63 - 1 : Int) = 9223372036854775807 := by decide
      rw [e] at this h10 ⊢
      generalize (9223372036854775807 : Int) / n * n = a at *
      generalize (9223372036854775807 : Int) % n = b at *
      omega
    have h11 : ((2 ^ 63 - 1 : Int) / n) < (z.length : Int) := h6
    have h12 : ((2 ^ 63 - 1 : Int) / n) * n < (z.length : Int) * n := Int.mul_lt_mul_of_pos_right h11 (by omega)
    omega
  · intro h4 h5
    have : z.length * n.toNat ≤ sizeLine := Nat.le_trans h3 (by decide)
    simp [Builtin.Str.tooLong]; omega
/-! ### X(), X an own exception class -/
theorem pmk_own0 {X : Cx} {C : Addr} {bmB : List Value} {B newId initId : String} {x : Str} {p pos : Pos} (F : ExcBaseFacts B newId initId bmB) (q : PySem.W.excIn X.K C bmB newId = true) (gC : X.mg x = some (.ref C))
    (kC : PySem.W.keepIn X.K (.ref C) = true) (r : Raises X (.ref C)) (hg : Gl X x) (hdb : (x == ("__debug__" : Str)) = false := by decide) :
    PMk X (.Call (.Name x p) [] [] pos) (fun _ H Q => Q (.ref C) none H) := by
  intro pins s σ H Q I h
  refine wpAny_Call_Name_kw (ld_glob I hg gC ?_ hdb)
  refine PySem.W.callWith_K0 I.kIn kC ?_
  show wpAny _ _ (call (.ref C) []) _ _ _
  obtain ⟨bm, N, nm, qn, bs, hdct, sn, sub, ab, col, dd, k0, k1, k2, k3, k5, mN, hC, hN, hni, T⟩ := exc_obj I.kIn q
  refine wpAny_call_exc_subT F T hC hN hni (fun h' e hm => ?_) (by show 0 ≤ sizeLine; omega)
  exact mk_of I hm r h (I.hok.gone hm.new)
end K4
set_option Elab.async false
set_option linter.all false
set_option maxRecDepth 100000
set_option maxHeartbeats 4000000
/-! k04, the plain part: notes of data; no program. -/
namespace K4
open PySem PySem.Spec PyProof.Rows L2 M14 SX
/-! ### numbers -/
def numI : Int → List Nat
  | .ofNat n => TL.numL n
  | .negSucc n => 45 :: TL.numL (n + 1)
theorem num_str (i : Int) : Str.ofString (toString i) = S (numI i) := by
  cases i with
  | ofNat n => exact num_S n
  | negSucc n =>
    have e : toString (Int.negSucc n) = "-" ++ toString (n + 1) := rfl
    have h := num_S (n + 1)
    refine TL.ext_tl ?_
    have h2 : (Str.ofString (toString (n + 1))).cps.toList = TL.numL (n + 1) := TL.tl_num (n + 1)
    show (Str.ofString (toString (Int.negSucc n))).cps.toList = 45 :: TL.numL (n + 1)
    rw [Str.ofString_eq_toList] at h2 ⊢
    rw [e, ← h2, String.toList_append]
    rfl
def isDig (c : Nat) : Bool := decide (48 ≤ c) && decide (c ≤ 57)
def digs (w : List Nat) : List Nat := if w.head? = some 45 then w.tail else w
/-- the law's and the program's whole numbers -/
def isInt (w : List Nat) : Bool := !(digs w).isEmpty && decide ((digs w).length ≤ 80) && (digs w).all isDig && (decide ((digs w).head? ≠ some 48) || decide (w = [48]))
theorem allDig {w : List Nat} : w.all isDig = true ↔ NumText.AllDigits w := by
  unfold NumText.AllDigits isDig
  simp
theorem numL_head {n : Nat} (h : 0 < n) : ∃ c r, TL.numL n = c :: r ∧ c ≠ 48 := by
  induction n using Nat.strongRecOn with
  | _ n ih =>
    by_cases h10 : n < 10
    · exact ⟨48 + n, [], TL.numL_lt h10, by omega⟩
    · obtain ⟨c, r, e, hc⟩ := ih (n / 10) (by omega) (by omega)
      exact ⟨c, r ++ [48 + n % 10], by rw [TL.numL_step (by omega), e]; rfl, hc⟩
theorem numL_zero : TL.numL 0 = [48] := TL.numL_lt (by decide)
theorem ofNat_map (cs : List Nat) (h : NumText.AllDigits cs) : (cs.map Char.ofNat).map Char.toNat = cs := by
  induction cs with
  | nil => rfl
  | cons c r ih =>
    have hc := h.head
    have e : (Char.ofNat c).toNat = c := by
      have : ∀ d : Nat, d < 58 → (Char.ofNat d).toNat = d := by decide
      exact this c (by omega)
    simp only [List.map_cons, e]
    rw [ih h.tail]
/-- digits without a leading nought are those of their number -/
theorem numL_of {cs : List Nat} (h : NumText.AllDigits cs) (ne : cs ≠ []) (h0 : cs.head? ≠ some 48 ∨ cs = [48]) : TL.numL (NumText.digitsVal cs) = cs := by
  rcases h0 with h0 | h0
  · obtain ⟨c, r, rfl⟩ := List.exists_cons_of_ne_nil ne
    have hc := h.head
    have hc0 : c ≠ 48 := fun e => h0 (by rw [e]; rfl)
    unfold TL.numL
    rw [NumText.toDigits_digitsVal r.length (c :: r) rfl h (.inr ⟨c, r, rfl, by omega⟩), ofNat_map _ h]
  · subst h0
    exact numL_zero
theorem dval_lt {k : Nat} : ∀ (cs : List Nat), NumText.AllDigits cs → cs.length ≤ k → NumText.digitsVal cs < 10 ^ k := by
  intro cs h hl
  have g : ∀ (cs : List Nat) (a : Nat), NumText.AllDigits cs → cs.foldl (fun acc c => acc * 10 + (c - 48)) a < (a + 1) * 10 ^ cs.length := by
    intro cs
    induction cs with
    | nil => intro a _; simp
    | cons c r ih =>
      intro a h
      have hc := h.head
      have := ih (a * 10 + (c - 48)) h.tail
      refine Nat.lt_of_lt_of_le this ?_
      rw [List.length_cons, Nat.pow_succ]
      have : (a * 10 + (c - 48) + 1) ≤ (a + 1) * 10 := by omega
      calc _ ≤ ((a + 1) * 10) * 10 ^ r.length := Nat.mul_le_mul_right _ this
        _ = (a + 1) * (10 ^ r.length * 10) := by rw [Nat.mul_assoc, Nat.mul_comm 10]
  have := g cs 0 h
  unfold NumText.digitsVal
  refine Nat.lt_of_lt_of_le this ?_
  rw [Nat.zero_add, Nat.one_mul]
  exact Nat.pow_le_pow_right (by decide) hl
def intOf (w : List Nat) : Int := if w.head? = some 45 then -((NumText.digitsVal w.tail : Nat) : Int) else ((NumText.digitsVal w : Nat) : Int)
theorem isInt_text {w : List Nat} (h : isInt w = true) : intText? (S w) = some (intOf w) ∧ w.length ≤ 640 := by
  unfold isInt at h
  simp only [Bool.and_eq_true, allDig, decide_eq_true_eq, Bool.not_eq_true', List.isEmpty_eq_false_iff] at h
  obtain ⟨⟨⟨h1, h2⟩, h3⟩, h4⟩ := h
  unfold intOf
  unfold digs at h1 h2 h3
  by_cases hm : w.head? = some 45
  · rw [if_pos hm] at h1 h2 h3
    obtain ⟨c, r, rfl⟩ : ∃ c r, w = c :: r := by cases w with | nil => simp at hm | cons c r => exact ⟨c, r, rfl⟩
    have hc : c = 45 := by simpa using hm
    subst hc
    rw [if_pos hm]
    have h2' : r.length ≤ 80 := h2
    exact ⟨intText_neg (x := S (45 :: r)) rfl h3 h1 (by rw [S_len]; simp; omega), by simp; omega⟩
  · rw [if_neg hm] at h1 h2 h3
    rw [if_neg hm]
    exact ⟨intText_digits (x := S w) h3 h1 (by rw [S_len]; omega), by omega⟩
theorem isInt_num {w : List Nat} (h : isInt w = true) : w = numI (intOf w) ∧ (intOf w).natAbs < 10 ^ 80 := by
  unfold isInt at h
  simp only [Bool.and_eq_true, allDig, decide_eq_true_eq, Bool.not_eq_true', List.isEmpty_eq_false_iff, Bool.or_eq_true] at h
  obtain ⟨⟨⟨h1, h2⟩, h3⟩, h4⟩ := h
  unfold intOf
  unfold digs at h1 h2 h3 h4
  by_cases hm : w.head? = some 45
  · rw [if_pos hm] at h1 h2 h3 h4
    obtain ⟨c, r, rfl⟩ : ∃ c r, w = c :: r := by cases w with | nil => simp at hm | cons c r => exact ⟨c, r, rfl⟩
    have hc : c = 45 := by simpa using hm
    subst hc
    rw [if_pos hm]
    have h4' : r.head? ≠ some 48 := by
      rcases h4 with h4 | h4
      · exact h4
      · cases h4
    have h3' : NumText.AllDigits r := h3
    have h1' : r ≠ [] := h1
    have h2' : r.length ≤ 80 := h2
    have e := numL_of h3' h1' (.inl h4')
    have hp : 0 < NumText.digitsVal r := by
      obtain ⟨d, q, rfl⟩ := List.exists_cons_of_ne_nil h1'
      have hd := h3'.head
      have hd0 : d ≠ 48 := fun e => h4' (by rw [e]; rfl)
      exact NumText.digitsVal_pos (by omega)
    show 45 :: r = numI (-((NumText.digitsVal r : Nat) : Int)) ∧ (-((NumText.digitsVal r : Nat) : Int)).natAbs < 10 ^ 80
    have hv := dval_lt (k := 80) r h3' h2'
    generalize NumText.digitsVal r = v at e hp hv ⊢
    obtain ⟨v, rfl⟩ : ∃ u, v = u + 1 := ⟨v - 1, by omega⟩
    have e2 : (-((v + 1 : Nat) : Int)) = Int.negSucc v := rfl
    rw [e2]
    exact ⟨by show 45 :: r = 45 :: TL.numL (v + 1); rw [e], hv⟩
  · rw [if_neg hm] at h1 h2 h3 h4
    rw [if_neg hm]
    have e := numL_of h3 h1 h4
    have hv := dval_lt (k := 80) w h3 h2
    generalize NumText.digitsVal w = v at e hv ⊢
    exact ⟨by show w = TL.numL v; rw [e], hv⟩
theorem num_isInt {i : Int} (h : i.natAbs < 10 ^ 80) : isInt (numI i) = true ∧ intOf (numI i) = i := by
  have key : ∀ n : Nat, n < 10 ^ 80 → (TL.numL n).length ≤ 80 := fun n hn => TL.numL_len (by decide) hn
  cases i with
  | ofNat n =>
    have hd := TL.numL_digits n
    have hh : (TL.numL n).head? ≠ some 45 := fun e => by
      obtain ⟨c, r, e2⟩ := List.exists_cons_of_ne_nil (TL.numL_ne n)
      rw [e2] at hd e
      have := hd.head
      simp at e; omega
    have e1 : digs (TL.numL n) = TL.numL n := by unfold digs; rw [if_neg hh]
    refine ⟨?_, ?_⟩
    · show isInt (TL.numL n) = true
      unfold isInt
      rw [e1]
      simp only [Bool.and_eq_true, allDig, decide_eq_true_eq, Bool.not_eq_true', List.isEmpty_eq_false_iff, Bool.or_eq_true]
      refine ⟨⟨⟨TL.numL_ne n, key n h⟩, hd⟩, ?_⟩
      by_cases h0 : n = 0
      · subst h0; exact .inr numL_zero
      · obtain ⟨c, r, e, hc⟩ := numL_head (Nat.pos_of_ne_zero h0)
        left
        rw [e]
        simpa using hc
    · show intOf (TL.numL n) = _
      unfold intOf
      rw [if_neg hh, TL.numL_val] <;> rfl
  | negSucc n =>
    have hd := TL.numL_digits (n + 1)
    refine ⟨?_, ?_⟩
    · show isInt (45 :: TL.numL (n + 1)) = true
      unfold isInt digs
      simp only [List.head?_cons, if_true, List.tail_cons, Bool.and_eq_true, allDig, decide_eq_true_eq, Bool.not_eq_true', List.isEmpty_eq_false_iff, Bool.or_eq_true]
      refine ⟨⟨⟨TL.numL_ne _, key _ h⟩, hd⟩, .inl ?_⟩
      obtain ⟨c, r, e, hc⟩ := numL_head (Nat.succ_pos n)
      rw [e]
      simpa using hc
    · show intOf (45 :: TL.numL (n + 1)) = _
      unfold intOf
      have e2 : (45 :: TL.numL (n + 1)).head? = some 45 := rfl
      rw [if_pos e2, List.tail_cons, TL.numL_val]
      rfl
/-! ### texts -/
def okc (c : Nat) : Bool := (decide (32 ≤ c) && decide (c ≤ 126) && decide (c ≠ 37)) || decide (c = 10)
def esc (c : Nat) : List Nat := if c = 10 then [92, 110] else if c = 92 ∨ c = 34 then [92, c] else [c]
def enc : List Nat → List Nat
  | [] => []
  | c :: r => esc c ++ enc r
mutual
def wr : T → List Nat
  | .non => [110, 111, 110, 101]
  | .bl true => [116, 114, 117, 101]
  | .bl false => [102, 97, 108, 115, 101]
  | .int i => numI i
  | .str s => 34 :: (enc s.cps.toList ++ [34])
  | .tup ts => 40 :: (TL.joinL [32] (wrl ts) ++ [41])
def wrl : List T → List (List Nat)
  | [] => []
  | t :: r => wr t :: wrl r
end
theorem wrl_map : ∀ ts : List T, wrl ts = ts.map wr
  | [] => rfl
  | t :: r => by rw [wrl, wrl_map r]; rfl
end K4
set_option Elab.async false
set_option linter.all false
set_option maxRecDepth 100000
set_option maxHeartbeats 4000000
namespace K4
open PySem PySem.Spec PyProof.Rows L2 M14 SX
/-! ### texts in quotes -/
def isE (e : Nat) : Bool := decide (e = 92) || decide (e = 34) || decide (e = 110)
def dec (e : Nat) : Nat := if e = 110 then 10 else e
/-- the program's walk over a text behind its first quote: what it means, how many signs -/
def rs : List Nat → Option (List Nat × Nat)
  | [] => some ([], 0)
  | [c] => if c = 34 then some ([], 0) else if c = 92 then none else some ([c], 1)
  | c :: e :: r => if c = 34 then some ([], 0) else if c = 92 then (if isE e then (rs r).map fun x => (dec e :: x.1, x.2 + 2) else none) else (rs (e :: r)).map fun x => (c :: x.1, x.2 + 1)
def strP (r : List Nat) : Option (List Nat × Nat) := match rs r with
  | none => none
  | some (d, k) => if k < r.length ∧ 10 ∉ r.take k ∧ d.all okc = true then some (d, k) else none
/-- the law's walk -/
def se : List Nat → Option Nat
  | [] => none
  | [c] => if c = 34 then some 1 else none
  | c :: e :: r => if c = 34 then some 1 else if c = 10 ∨ okc c = false then none else if c = 92 then (if isE e then (se r).map (· + 2) else none) else (se (e :: r)).map (· + 1)
theorem esc_dec {e : Nat} (h : isE e = true) : esc (dec e) = [92, e] := by
  unfold isE at h
  simp only [Bool.or_eq_true, decide_eq_true_eq] at h
  rcases h with (rfl | rfl) | rfl <;> decide
theorem esc_plain {c : Nat} (h1 : c ≠ 10) (h2 : c ≠ 34) (h3 : c ≠ 92) : esc c = [c] := by
  unfold esc
  rw [if_neg h1, if_neg (by omega)]
theorem esc_cases {c : Nat} (h : okc c = true) : (∃ e, isE e = true ∧ esc c = [92, e] ∧ dec e = c) ∨ (esc c = [c] ∧ c ≠ 10 ∧ c ≠ 34 ∧ c ≠ 92) := by
  unfold esc
  by_cases h1 : c = 10
  · subst h1; exact .inl ⟨110, rfl, rfl, rfl⟩
  · by_cases h2 : c = 92 ∨ c = 34
    · refine .inl ⟨c, ?_, by rw [if_neg h1, if_pos h2], ?_⟩
      · unfold isE; rcases h2 with rfl | rfl <;> rfl
      · unfold dec; rw [if_neg (by omega)]
    · exact .inr ⟨by rw [if_neg h1, if_neg h2], h1, by omega, by omega⟩
theorem rs_sound : ∀ (r : List Nat) (d : List Nat) (k : Nat), rs r = some (d, k) → k < r.length → 10 ∉ r.take k → (∃ q, r = enc d ++ 34 :: q) ∧ k = (enc d).length
  | [], d, k, h, hk, hn => by simp at hk
  | [c], d, k, h, hk, hn => by
    unfold rs at h
    by_cases h1 : c = 34
    · rw [if_pos h1] at h
      cases h
      subst h1
      exact ⟨⟨[], rfl⟩, rfl⟩
    · rw [if_neg h1] at h
      by_cases h2 : c = 92
      · rw [if_pos h2] at h; cases h
      · rw [if_neg h2] at h; cases h; simp at hk
  | c :: e :: r, d, k, h, hk, hn => by
    unfold rs at h
    by_cases h1 : c = 34
    · rw [if_pos h1] at h
      cases h
      subst h1
      exact ⟨⟨_, rfl⟩, rfl⟩
    rw [if_neg h1] at h
    by_cases h2 : c = 92
    · rw [if_pos h2] at h
      subst h2
      by_cases he : isE e = true
      · rw [if_pos he] at h
        cases h1 : rs r with
        | none => rw [h1] at h; cases h
        | some x =>
          obtain ⟨d', k'⟩ := x
          rw [h1] at h
          cases h
          obtain ⟨⟨q, e1⟩, e2⟩ := rs_sound r d' k' h1 (by simp at hk; omega) (fun m => hn (by simp [m]))
          refine ⟨⟨q, ?_⟩, ?_⟩
          · rw [enc, esc_dec he, e1]; rfl
          · rw [enc, esc_dec he, e2]; simp <;> omega
      · rw [if_neg he] at h; cases h
    · rw [if_neg h2] at h
      cases h3 : rs (e :: r) with
      | none => rw [h3] at h; cases h
      | some x =>
        obtain ⟨d', k'⟩ := x
        rw [h3] at h
        cases h
        obtain ⟨⟨q, e1⟩, e2⟩ := rs_sound (e :: r) d' k' h3 (by simp at hk ⊢; omega) (fun m => hn (by rw [List.take_succ_cons]; exact List.mem_cons_of_mem _ m))
        have hc : c ≠ 10 := fun z => hn (by rw [List.take_succ_cons, z]; exact List.mem_cons_self)
        refine ⟨⟨q, ?_⟩, ?_⟩
        · rw [enc, esc_plain hc h1 h2, e1]; rfl
        · rw [enc, esc_plain hc h1 h2, e2]; simp <;> omega
  termination_by r => r.length
theorem rs_complete : ∀ (d q : List Nat), d.all okc = true → rs (enc d ++ 34 :: q) = some (d, (enc d).length)
  | [], q, _ => by
    show rs (34 :: q) = _
    cases q <;> simp [rs, enc]
  | c :: d, q, h => by
    have hc : okc c = true := by simp at h; exact h.1
    have ih := rs_complete d q (by simp at h ⊢; exact h.2)
    rcases esc_cases hc with ⟨e, he, e1, e2⟩ | ⟨e1, n1, n2, n3⟩
    · rw [enc, e1]
      show rs (92 :: e :: (enc d ++ 34 :: q)) = _
      unfold rs
      rw [if_neg (by decide), if_pos rfl, if_pos he, ih]
      simp [e2]
    · rw [enc, e1]
      show rs (c :: (enc d ++ 34 :: q)) = _
      obtain ⟨x, y, exy⟩ : ∃ x y, enc d ++ 34 :: q = x :: y := by cases enc d <;> simp
      rw [exy] at ih ⊢
      unfold rs
      rw [if_neg n2, if_neg n3, ih]
      simp
theorem enc_no10 : ∀ d : List Nat, 10 ∉ enc d
  | [] => by simp [enc]
  | c :: d => by
    rw [enc]
    intro h
    rcases List.mem_append.mp h with h | h
    · unfold esc at h
      by_cases h1 : c = 10
      · rw [if_pos h1] at h; simp at h
      · rw [if_neg h1] at h
        by_cases h2 : c = 92 ∨ c = 34
        · rw [if_pos h2] at h; simp at h; omega
        · rw [if_neg h2] at h; simp at h; omega
    · exact enc_no10 d h
theorem strP_sound {r d : List Nat} {k : Nat} (h : strP r = some (d, k)) : d.all okc = true ∧ (∃ q, r = enc d ++ 34 :: q) ∧ k = (enc d).length := by
  unfold strP at h
  cases h1 : rs r with
  | none => rw [h1] at h; cases h
  | some x =>
    obtain ⟨d', k'⟩ := x
    rw [h1] at h
    simp only at h
    by_cases h2 : k' < r.length ∧ 10 ∉ r.take k' ∧ d'.all okc = true
    · rw [if_pos h2] at h
      cases h
      exact ⟨h2.2.2, rs_sound r d k h1 h2.1 h2.2.1⟩
    · rw [if_neg h2] at h; cases h
theorem strP_complete {d q : List Nat} (h : d.all okc = true) : strP (enc d ++ 34 :: q) = some (d, (enc d).length) := by
  unfold strP
  rw [rs_complete d q h]
  simp only
  rw [if_pos ⟨by simp, by rw [List.take_left]; exact enc_no10 d, h⟩]
theorem se_sound : ∀ (r : List Nat) (n : Nat), se r = some n → ∃ d q, d.all okc = true ∧ r = enc d ++ 34 :: q ∧ n = (enc d).length + 1
  | [], n, h => by simp [se] at h
  | [c], n, h => by
    unfold se at h
    by_cases h1 : c = 34
    · rw [if_pos h1] at h; cases h; subst h1; exact ⟨[], [], rfl, rfl, rfl⟩
    · rw [if_neg h1] at h; cases h
  | c :: e :: r, n, h => by
    unfold se at h
    by_cases h1 : c = 34
    · rw [if_pos h1] at h
      cases h
      subst h1
      exact ⟨[], _, rfl, rfl, rfl⟩
    rw [if_neg h1] at h
    by_cases h2 : c = 10 ∨ okc c = false
    · rw [if_pos h2] at h; cases h
    rw [if_neg h2] at h
    by_cases h3 : c = 92
    · subst h3
      rw [if_pos rfl] at h
      by_cases he : isE e = true
      · rw [if_pos he] at h
        cases h3 : se r with
        | none => rw [h3] at h; cases h
        | some m =>
          rw [h3] at h
          cases h
          obtain ⟨d, q, h4, h5, h6⟩ := se_sound r m h3
          refine ⟨dec e :: d, q, ?_, ?_, ?_⟩
          · have : okc (dec e) = true := by
              unfold isE at he
              simp only [Bool.or_eq_true, decide_eq_true_eq] at he
              rcases he with (rfl | rfl) | rfl <;> rfl
            simp [this]; simpa using h4
          · rw [enc, esc_dec he, h5]; rfl
          · rw [enc, esc_dec he, h6]; simp <;> omega
      · rw [if_neg he] at h; cases h
    rw [if_neg h3] at h
    cases h4 : se (e :: r) with
    | none => rw [h4] at h; cases h
    | some m =>
      rw [h4] at h
      cases h
      obtain ⟨d, q, h5, h6, h7⟩ := se_sound (e :: r) m h4
      have hc : c ≠ 10 := fun z => h2 (.inl z)
      have ho : okc c = true := by cases z : okc c with | true => rfl | false => exact absurd (.inr z) h2
      refine ⟨c :: d, q, by simp [ho]; simpa using h5, ?_, ?_⟩
      · rw [enc, esc_plain hc h1 h3, h6]; rfl
      · rw [enc, esc_plain hc h1 h3, h7]; simp <;> omega
  termination_by r => r.length
theorem se_complete : ∀ (d q : List Nat), d.all okc = true → se (enc d ++ 34 :: q) = some ((enc d).length + 1)
  | [], q, _ => by
    show se (34 :: q) = _
    cases q <;> simp [se, enc]
  | c :: d, q, h => by
    have hc : okc c = true := by simp at h; exact h.1
    have ih := se_complete d q (by simp at h ⊢; exact h.2)
    rcases esc_cases hc with ⟨e, he, e1, e2⟩ | ⟨e1, n1, n2, n3⟩
    · rw [enc, e1]
      show se (92 :: e :: (enc d ++ 34 :: q)) = _
      unfold se
      rw [if_neg (by decide), if_neg (by decide), if_pos rfl, if_pos he, ih]
      simp
    · rw [enc, e1]
      show se (c :: (enc d ++ 34 :: q)) = _
      obtain ⟨x, y, exy⟩ : ∃ x y, enc d ++ 34 :: q = x :: y := by cases enc d <;> simp
      rw [exy] at ih ⊢
      unfold se
      rw [if_neg n2, if_neg (by simp [n1, hc]), if_neg n3, ih]
      simp
end K4
set_option Elab.async false
set_option linter.all false
set_option maxRecDepth 100000
set_option maxHeartbeats 4000000
namespace K4
open PySem PySem.Spec PyProof.Rows L2 M14 SX
/-- the data that have a note, d deep -/
inductive WF : Nat → T → Prop where
  | non {d} : WF d .non
  | bl {d b} : WF d (.bl b)
  | int {d i} (h : i.natAbs < 10 ^ 80) : WF d (.int i)
  | str {d s} (h : s.cps.toList.all okc = true) : WF d (.str s)
  | tup {d ts} (h : ∀ t ∈ ts, WF d t) : WF (d + 1) (.tup ts)
theorem WF.mono {d e : Nat} {t : T} (h : WF d t) : d ≤ e → WF e t := by
  induction h generalizing e with
  | non => intro _; exact .non
  | bl => intro _; exact .bl
  | int h => intro _; exact .int h
  | str h => intro _; exact .str h
  | tup h ih =>
    intro l
    obtain ⟨e, rfl⟩ : ∃ n, e = n + 1 := ⟨e - 1, by omega⟩
    exact .tup fun t m => ih t m (by omega)
def leafT : T → Bool
  | .tup _ => false
  | _ => true
theorem WF.leaf {d e : Nat} {t : T} (h : WF d t) (l : leafT t = true) : WF e t := by
  cases h with
  | non => exact .non
  | bl => exact .bl
  | int h => exact .int h
  | str h => exact .str h
  | tup h => cases l
/-- what may follow an item -/
def Fol (q : List Nat) : Prop := q = [] ∨ ∃ r, q = 32 :: r ∨ q = 41 :: r
def inW (c : Nat) : Bool := decide (c ≠ 32) && decide (c ≠ 41)
def word (r : List Nat) : List Nat := r.takeWhile inW
theorem word_all {w q : List Nat} (h : w.all inW = true) (f : Fol q) : word (w ++ q) = w := by
  unfold word
  induction w with
  | nil =>
    rcases f with rfl | ⟨r, rfl | rfl⟩
    · rfl
    · rfl
    · rfl
  | cons c w ih =>
    simp at h
    rw [List.cons_append, List.takeWhile_cons, if_pos h.1, ih (by simpa using h.2)]
abbrev cNon : List Nat := [110, 111, 110, 101]
abbrev cTru : List Nat := [116, 114, 117, 101]
abbrev cFal : List Nat := [102, 97, 108, 115, 101]
def wordT (w : List Nat) : Option T := if w = cNon then some .non else if w = cTru then some (.bl true) else if w = cFal then some (.bl false) else if isInt w = true then some (.int (intOf w)) else none
/-- the program's leaf -/
def rp (r : List Nat) : Option (T × Nat) := if r.head? = some 34 then (strP r.tail).map fun x => (.str (S x.1), x.2 + 2) else (wordT (word r)).map fun t => (t, (word r).length)
theorem num_chars (i : Int) : ∀ c ∈ numI i, c = 45 ∨ (48 ≤ c ∧ c ≤ 57) := by
  intro c hc
  cases i with
  | ofNat n => exact .inr (TL.numL_digits n c hc)
  | negSucc n =>
    rcases List.mem_cons.mp hc with e | m
    · exact .inl e
    · exact .inr (TL.numL_digits _ c m)
theorem num_ne (i : Int) : numI i ≠ [] := by
  cases i with
  | ofNat n => exact TL.numL_ne n
  | negSucc n => exact List.cons_ne_nil _ _
theorem num_inW (i : Int) : (numI i).all inW = true := by
  rw [List.all_eq_true]
  intro c hc
  have := num_chars i c hc
  unfold inW
  simp
  omega
theorem rp_sound {r : List Nat} {t : T} {n : Nat} (h : rp r = some (t, n)) : WF 0 t ∧ leafT t = true ∧ r = wr t ++ r.drop n ∧ n = (wr t).length := by
  unfold rp at h
  by_cases h1 : r.head? = some 34
  · rw [if_pos h1] at h
    obtain ⟨q, rfl⟩ : ∃ q, r = 34 :: q := by
      cases r with
      | nil => cases h1
      | cons c q => exact ⟨q, by simp at h1; rw [h1]⟩
    cases h2 : strP q with
    | none => rw [List.tail_cons, h2] at h; cases h
    | some x =>
      obtain ⟨d, k⟩ := x
      rw [List.tail_cons, h2] at h
      cases h
      obtain ⟨a, ⟨q', b⟩, c⟩ := strP_sound h2
      subst b
      have e : wr (.str (S d)) = 34 :: (enc d ++ [34]) := rfl
      refine ⟨.str a, rfl, ?_, by rw [e, c]; simp⟩
      rw [e, c]
      have : (34 :: (enc d ++ 34 :: q')).drop ((enc d).length + 2) = q' := by
        rw [show 34 :: (enc d ++ 34 :: q') = (34 :: (enc d ++ [34])) ++ q' by simp]
        rw [show (enc d).length + 2 = (34 :: (enc d ++ [34])).length by simp]
        exact List.drop_left
      show 34 :: (enc d ++ 34 :: q') = _
      rw [this]
      simp
  · rw [if_neg h1] at h
    cases h2 : wordT (word r) with
    | none => rw [h2] at h; cases h
    | some u =>
      rw [h2] at h
      cases h
      have hw : r = word r ++ r.drop (word r).length := by
        unfold word
        have := List.takeWhile_append_dropWhile (p := inW) (l := r)
        generalize r.takeWhile inW = a at this
        generalize r.dropWhile inW = b at this
        subst this
        rw [List.drop_left]
      suffices hu : word r = wr t ∧ WF 0 t ∧ leafT t = true by
        refine ⟨hu.2.1, hu.2.2, ?_, by rw [hu.1]⟩
        rw [← hu.1]; exact hw
      unfold wordT at h2
      by_cases e1 : word r = cNon
      · rw [if_pos e1] at h2; cases h2; exact ⟨e1, .non, rfl⟩
      rw [if_neg e1] at h2
      by_cases e2 : word r = cTru
      · rw [if_pos e2] at h2; cases h2; exact ⟨e2, .bl, rfl⟩
      rw [if_neg e2] at h2
      by_cases e3 : word r = cFal
      · rw [if_pos e3] at h2; cases h2; exact ⟨e3, .bl, rfl⟩
      rw [if_neg e3] at h2
      by_cases e4 : isInt (word r) = true
      · rw [if_pos e4] at h2; cases h2
        obtain ⟨a, b⟩ := isInt_num e4
        exact ⟨a, .int b, rfl⟩
      · rw [if_neg e4] at h2; cases h2
theorem num_word {i : Int} (h : i.natAbs < 10 ^ 80) : wordT (numI i) = some (.int i) := by
  have hh : ∀ c, (numI i).head? = some c → c = 45 ∨ (48 ≤ c ∧ c ≤ 57) := fun c hc => num_chars i c (List.mem_of_mem_head? hc)
  have n1 : numI i ≠ cNon := fun e => by have := hh 110 (by rw [e]; rfl); omega
  have n2 : numI i ≠ cTru := fun e => by have := hh 116 (by rw [e]; rfl); omega
  have n3 : numI i ≠ cFal := fun e => by have := hh 102 (by rw [e]; rfl); omega
  obtain ⟨a, b⟩ := num_isInt h
  unfold wordT
  rw [if_neg n1, if_neg n2, if_neg n3, if_pos a, b]
theorem rp_complete {d : Nat} {t : T} {q : List Nat} (h : WF d t) (l : leafT t = true) (f : Fol q) : rp (wr t ++ q) = some (t, (wr t).length) := by
  have wordly : ∀ w : List Nat, w.all inW = true → w.head? ≠ none → w.head? ≠ some 34 → wordT w = some t → rp (w ++ q) = some (t, w.length) := by
    intro w h1 h2 h3 h4
    unfold rp
    obtain ⟨c, r, rfl⟩ : ∃ c r, w = c :: r := by cases w with | nil => exact absurd rfl h2 | cons c r => exact ⟨c, r, rfl⟩
    rw [if_neg (by simpa using h3), word_all h1 f, h4]
    rfl
  cases h with
  | non => exact wordly cNon (by decide) (by decide) (by decide) rfl
  | @bl _ b =>
    cases b with
    | true => exact wordly cTru (by decide) (by decide) (by decide) rfl
    | false => exact wordly cFal (by decide) (by decide) (by decide) rfl
  | @int _ i h =>
    refine wordly (numI i) (num_inW i) (fun e => num_ne i (by simpa using e)) (fun e => ?_) (num_word h)
    have := num_chars i 34 (List.mem_of_mem_head? e)
    omega
  | @str _ s h =>
    unfold rp
    have e : wr (.str s) = 34 :: (enc s.cps.toList ++ [34]) := rfl
    rw [e]
    have e2 : (34 :: (enc s.cps.toList ++ [34])) ++ q = 34 :: (enc s.cps.toList ++ 34 :: q) := by simp
    rw [e2, if_pos (show (34 :: (enc s.cps.toList ++ 34 :: q)).head? = some 34 from rfl), List.tail_cons, strP_complete h]
    show some (T.str (S s.cps.toList), _) = _
    rw [S_tl]
    simp
  | tup h => cases l
/-! ### the law's leaf -/
def ie (r : List Nat) : Option Nat :=
  let s := if r.head? = some 45 then 1 else 0
  let q := r.drop s
  let k := (q.takeWhile isDig).length
  if k = 0 ∨ 80 < k then none else if q.head? = some 48 ∧ (1 < k ∨ 0 < s) then none else some (s + k)
def le (r : List Nat) : Option Nat := if r.take 4 = cNon then some 4 else if r.take 4 = cTru then some 4 else if r.take 5 = cFal then some 5 else if r.head? = some 34 then (se r.tail).map (· + 1) else ie r
theorem take_pre {r w : List Nat} {n : Nat} (h : r.take n = w) : r = w ++ r.drop n := by rw [← h, List.take_append_drop]
theorem ie_sound {r : List Nat} {n : Nat} (h : ie r = some n) : ∃ i : Int, i.natAbs < 10 ^ 80 ∧ r = numI i ++ r.drop n ∧ n = (numI i).length := by
  unfold ie at h
  simp only at h
  have key : ∀ w q : List Nat, r = w ++ q → isInt w = true → ∃ i : Int, i.natAbs < 10 ^ 80 ∧ r = numI i ++ r.drop w.length ∧ w.length = (numI i).length := by
    intro w q e h
    obtain ⟨a, b⟩ := isInt_num h
    refine ⟨intOf w, b, ?_, by rw [← a]⟩
    rw [← a, e, List.drop_left]
  by_cases hm : r.head? = some 45
  · obtain ⟨q, rfl⟩ : ∃ q, r = 45 :: q := by
      cases r with
      | nil => cases hm
      | cons c q => exact ⟨q, by simp at hm; rw [hm]⟩
    rw [if_pos hm] at h
    simp only [List.drop_succ_cons, List.drop_zero] at h
    have hs := List.takeWhile_append_dropWhile (p := isDig) (l := q)
    have ha : (q.takeWhile isDig).all isDig = true := List.all_takeWhile
    have hh : (q.takeWhile isDig).head? = some 48 → q.head? = some 48 := fun e => by
      cases q with
      | nil => simp at e
      | cons c q =>
        by_cases hc : isDig c = true
        · rw [List.takeWhile_cons, if_pos hc] at e; simpa using e
        · rw [List.takeWhile_cons, if_neg hc] at e; cases e
    generalize q.takeWhile isDig = w at hs ha hh h
    by_cases h1 : w.length = 0 ∨ 80 < w.length
    · rw [if_pos h1] at h; cases h
    rw [if_neg h1] at h
    by_cases h2 : q.head? = some 48 ∧ (1 < w.length ∨ 0 < 1)
    · rw [if_pos h2] at h; cases h
    rw [if_neg h2] at h
    cases h
    have := key (45 :: w) (q.dropWhile isDig) (by rw [List.cons_append, hs]) (by
      unfold isInt digs
      simp only [List.head?_cons, if_true, List.tail_cons, Bool.and_eq_true, decide_eq_true_eq, Bool.not_eq_true', List.isEmpty_eq_false_iff, Bool.or_eq_true]
      refine ⟨⟨⟨fun e => h1 (.inl (by rw [e]; rfl)), by omega⟩, ha⟩, .inl fun e => h2 ⟨hh e, .inr (by decide)⟩⟩)
    rw [List.length_cons] at this
    rw [Nat.add_comm 1]
    exact this
  · rw [if_neg hm] at h
    simp only [List.drop_zero] at h
    have hs := List.takeWhile_append_dropWhile (p := isDig) (l := r)
    have ha : (r.takeWhile isDig).all isDig = true := List.all_takeWhile
    have hh : ∀ x, (r.takeWhile isDig).head? = some x → r.head? = some x := fun x e => by
      cases r with
      | nil => simp at e
      | cons c q =>
        by_cases hc : isDig c = true
        · rw [List.takeWhile_cons, if_pos hc] at e; simpa using e
        · rw [List.takeWhile_cons, if_neg hc] at e; cases e
    generalize r.takeWhile isDig = w at hs ha hh h
    by_cases h1 : w.length = 0 ∨ 80 < w.length
    · rw [if_pos h1] at h; cases h
    rw [if_neg h1] at h
    by_cases h2 : r.head? = some 48 ∧ (1 < w.length ∨ 0 < 0)
    · rw [if_pos h2] at h; cases h
    rw [if_neg h2] at h
    cases h
    rw [Nat.zero_add]
    refine key w (r.dropWhile isDig) hs.symm ?_
    unfold isInt
    have hd : digs w = w := by unfold digs; rw [if_neg fun e => hm (hh _ e)]
    rw [hd]
    simp only [Bool.and_eq_true, decide_eq_true_eq, Bool.not_eq_true', List.isEmpty_eq_false_iff, Bool.or_eq_true]
    refine ⟨⟨⟨fun e => h1 (.inl (by rw [e]; rfl)), by omega⟩, ha⟩, ?_⟩
    by_cases z : w.head? = some 48
    · right
      have : w.length = 1 := by
        have : ¬ 1 < w.length := fun g => h2 ⟨hh _ z, .inl g⟩
        omega
      obtain ⟨c, rfl⟩ := List.length_eq_one_iff.mp this
      simp at z
      rw [z]
    · exact .inl z
theorem le_sound {r : List Nat} {n : Nat} (h : le r = some n) : ∃ t, WF 0 t ∧ leafT t = true ∧ r = wr t ++ r.drop n ∧ n = (wr t).length := by
  unfold le at h
  by_cases h1 : r.take 4 = cNon
  · rw [if_pos h1] at h; cases h; exact ⟨.non, .non, rfl, take_pre h1, rfl⟩
  rw [if_neg h1] at h
  by_cases h2 : r.take 4 = cTru
  · rw [if_pos h2] at h; cases h; exact ⟨.bl true, .bl, rfl, take_pre h2, rfl⟩
  rw [if_neg h2] at h
  by_cases h3 : r.take 5 = cFal
  · rw [if_pos h3] at h; cases h; exact ⟨.bl false, .bl, rfl, take_pre h3, rfl⟩
  rw [if_neg h3] at h
  by_cases h4 : r.head? = some 34
  · rw [if_pos h4] at h
    obtain ⟨q, rfl⟩ : ∃ q, r = 34 :: q := by
      cases r with
      | nil => cases h4
      | cons c q => exact ⟨q, by simp at h4; rw [h4]⟩
    rw [List.tail_cons] at h
    cases h5 : se q with
    | none => rw [h5] at h; cases h
    | some m =>
      rw [h5] at h
      cases h
      obtain ⟨d, q', a, b, c⟩ := se_sound q m h5
      subst b
      refine ⟨.str (S d), .str a, rfl, ?_, ?_⟩
      · show _ = (34 :: (enc d ++ [34])) ++ _
        have e : 34 :: (enc d ++ 34 :: q') = (34 :: (enc d ++ [34])) ++ q' := by simp
        show 34 :: (enc d ++ 34 :: q') = (34 :: (enc d ++ [34])) ++ (34 :: (enc d ++ 34 :: q')).drop (m + 1)
        rw [e, show m + 1 = (34 :: (enc d ++ [34])).length by rw [c]; simp, List.drop_left]
      · show m + 1 = (34 :: (enc d ++ [34])).length
        rw [c]; simp
  · rw [if_neg h4] at h
    obtain ⟨i, a, b, c⟩ := ie_sound h
    exact ⟨.int i, .int a, rfl, b, c⟩
theorem fol_dig {q : List Nat} (f : Fol q) : q.takeWhile isDig = [] := by
  rcases f with rfl | ⟨r, rfl | rfl⟩
  · rfl
  · rfl
  · rfl
theorem tw_all {p : Nat → Bool} : ∀ {w q : List Nat}, w.all p = true → q.takeWhile p = [] → (w ++ q).takeWhile p = w
  | [], q, _, h => h
  | c :: w, q, h, h2 => by
    simp at h
    rw [List.cons_append, List.takeWhile_cons, if_pos h.1, tw_all (by simpa using h.2) h2]
theorem ie_complete {i : Int} {q : List Nat} (h : i.natAbs < 10 ^ 80) (f : Fol q) : ie (numI i ++ q) = some (numI i).length := by
  obtain ⟨a, b⟩ := num_isInt h
  unfold isInt at a
  simp only [Bool.and_eq_true, decide_eq_true_eq, Bool.not_eq_true', List.isEmpty_eq_false_iff, Bool.or_eq_true] at a
  obtain ⟨⟨⟨a1, a2⟩, a3⟩, a4⟩ := a
  unfold ie
  obtain ⟨c, w, e⟩ := List.exists_cons_of_ne_nil (num_ne i)
  by_cases hm : c = 45
  · subst hm
    rw [e] at a1 a2 a3 a4 ⊢
    have hd : digs (45 :: w) = w := rfl
    rw [hd] at a1 a2 a3 a4
    rw [List.cons_append]
    simp only [List.head?_cons, if_true, List.drop_succ_cons, List.drop_zero]
    rw [tw_all a3 (fol_dig f), if_neg (by have := List.length_pos_iff.mpr a1; omega), if_neg ?_, List.length_cons, Nat.add_comm]
    intro z
    have : w.head? = some 48 := by
      obtain ⟨x, y, e3⟩ := List.exists_cons_of_ne_nil a1
      rw [e3] at z ⊢
      exact z.1
    rcases a4 with a4 | a4
    · exact a4 this
    · cases a4
  · have hh : (numI i).head? ≠ some 45 := by rw [e]; simpa using hm
    have hd : digs (numI i) = numI i := by unfold digs; rw [if_neg hh]
    rw [hd] at a1 a2 a3 a4
    have e2 : (numI i ++ q).head? = (numI i).head? := by rw [e]; rfl
    rw [e2, if_neg hh]
    simp only [List.drop_zero]
    rw [tw_all a3 (fol_dig f), if_neg (by have := List.length_pos_iff.mpr a1; omega), if_neg ?_, Nat.zero_add]
    intro z
    rw [e2] at z
    rcases a4 with a4 | a4
    · exact a4 z.1
    · have := z.2
      rw [a4] at this
      simp at this
theorem le_complete {d : Nat} {t : T} {q : List Nat} (h : WF d t) (l : leafT t = true) (f : Fol q) : le (wr t ++ q) = some (wr t).length := by
  cases h with
  | non => rfl
  | @bl _ b => cases b <;> rfl
  | @int _ i h =>
    obtain ⟨c, w, e⟩ := List.exists_cons_of_ne_nil (num_ne i)
    have hc := num_chars i c (by rw [e]; exact List.mem_cons_self)
    show le (numI i ++ q) = some (numI i).length
    unfold le
    have hx : ∀ (n x : Nat) (y : List Nat), (c ≠ x) → (numI i ++ q).take (n + 1) ≠ x :: y := fun n x y g z => by
      rw [e, List.cons_append, List.take_succ_cons] at z
      exact g (List.cons.inj z).1
    rw [if_neg (hx 3 _ _ (by omega)), if_neg (hx 3 _ _ (by omega)), if_neg (hx 4 _ _ (by omega)), if_neg ?_]
    · exact ie_complete h f
    · rw [e, List.cons_append, List.head?_cons]
      intro z
      have := Option.some.inj z
      omega
  | @str _ s h =>
    have e : wr (.str s) ++ q = 34 :: (enc s.cps.toList ++ 34 :: q) := by
      show (34 :: (enc s.cps.toList ++ [34])) ++ q = _
      simp
    have e2 : (wr (.str s)).length = (enc s.cps.toList).length + 2 := by
      show (34 :: (enc s.cps.toList ++ [34])).length = _
      simp
    rw [e, e2]
    unfold le
    have hx : ∀ (n x : Nat) (y : List Nat), (34 ≠ x) → (34 :: (enc s.cps.toList ++ 34 :: q)).take (n + 1) ≠ x :: y := fun n x y g z => by
      rw [List.take_succ_cons] at z
      exact g (List.cons.inj z).1
    rw [if_neg (hx 3 _ _ (by decide)), if_neg (hx 3 _ _ (by decide)), if_neg (hx 4 _ _ (by decide)), if_pos (show (34 :: (enc s.cps.toList ++ 34 :: q)).head? = some 34 from rfl), List.tail_cons, se_complete _ _ h]
    rfl
  | tup h => cases l
end K4
set_option Elab.async false
set_option linter.all false
set_option maxRecDepth 100000
set_option maxHeartbeats 4000000
namespace K4
open PySem PySem.Spec PyProof.Rows L2 M14 SX
/-- the program's reading: true = an item is due; the open tuples, the innermost first; what is left of the text -/
inductive Runs : Bool → List (List T) → List Nat → T → Prop where
  | opn {st q t} : st.length ≤ 60 → q.head? ≠ some 41 → Runs true ([] :: st) q t → Runs true st (40 :: q) t
  | emp {st q t} : st.length ≤ 60 → Runs false ([] :: st) (41 :: q) t → Runs true st (40 :: 41 :: q) t
  | itm {xs st r u n t} : r.head? ≠ some 40 → rp r = some (u, n) → Runs false ((xs ++ [u]) :: st) (r.drop n) t → Runs true (xs :: st) r t
  | cls {xs ys st q t} : Runs false ((ys ++ [.tup xs]) :: st) q t → Runs false (xs :: ys :: st) (41 :: q) t
  | fin {t xs} : Runs false [t :: xs] [] t
  | spc {st q t} : 1 < st.length → Runs true st q t → Runs false st (32 :: q) t
/-! ### what has been read -/
def glue : List T → List Nat
  | [] => []
  | t :: r => wr t ++ 32 :: glue r
def jn (xs : List T) : List Nat := TL.joinL [32] (wrl xs)
theorem jn_nil : jn [] = [] := rfl
theorem jn_one (t : T) : jn [t] = wr t := by
  show TL.joinL [32] [wr t] = wr t
  simp [TL.joinL]
theorem jn_cons (t u : T) (r : List T) : jn (t :: u :: r) = wr t ++ 32 :: jn (u :: r) := by
  show TL.joinL [32] (wr t :: wr u :: wrl r) = wr t ++ 32 :: TL.joinL [32] (wr u :: wrl r)
  simp [TL.joinL]
theorem jn_snoc : ∀ (xs : List T) (t : T), jn (xs ++ [t]) = glue xs ++ wr t
  | [], t => jn_one t
  | [x], t => by
    show jn [x, t] = _
    rw [jn_cons, jn_one]
    simp [glue]
  | x :: y :: r, t => by
    have := jn_snoc (y :: r) t
    show jn (x :: y :: (r ++ [t])) = _
    rw [jn_cons]
    show wr x ++ 32 :: jn ((y :: r) ++ [t]) = _
    rw [this]
    simp [glue]
theorem jn_glue : ∀ (xs : List T), xs ≠ [] → jn xs ++ [32] = glue xs
  | [], h => absurd rfl h
  | [x], _ => by rw [jn_one]; simp [glue]
  | x :: y :: r, _ => by
    have := jn_glue (y :: r) (by simp)
    rw [jn_cons, List.append_assoc, List.cons_append, this]
    rfl
theorem wr_tup (ts : List T) : wr (.tup ts) = 40 :: (jn ts ++ [41]) := rfl
def opnd : List (List T) → List Nat
  | [] => []
  | ys :: st => opnd st ++ glue ys ++ [40]
def pfx : Bool → List (List T) → List Nat
  | _, [] => []
  | true, xs :: st => opnd st ++ glue xs
  | false, xs :: st => opnd st ++ jn xs
/-- the open tuples are in order: a level's items have their depth, the lowest has at most one -/
def StOk : List (List T) → Prop
  | [] => True
  | xs :: st => (∀ t ∈ xs, WF (60 - st.length) t) ∧ st.length ≤ 60 ∧ (st = [] ∨ StOk st)
theorem StOk.tl {xs : List T} {st : List (List T)} (h : StOk (xs :: st)) : st = [] ∨ StOk st := h.2.2
/-- the lowest list is empty, unless it is the innermost and an item has just been read -/
def Low : Bool → List (List T) → Prop
  | true, st => st.getLast? = some []
  | false, st => st.getLast? = some [] ∧ 1 < st.length ∨ ∃ t, st = [[t]]
/-- behind an item or at once behind a bracket that is closed -/
def NeB (b : Bool) (st : List (List T)) (r : List Nat) : Prop := b = false → st.head? ≠ some [] ∨ r.head? = some 41
theorem runs_sound {b : Bool} {st : List (List T)} {r : List Nat} {t : T} (h : Runs b st r t) : StOk st → Low b st → NeB b st r → pfx b st ++ r = wr t ∧ WF 60 t := by
  induction h with
  | @opn st q t hl hq _ ih =>
    intro ok lo nb
    have lo' : st.getLast? = some [] := lo
    have ne : st ≠ [] := fun e => by rw [e] at lo'; cases lo'
    obtain ⟨a, b⟩ := ih ⟨(fun _ m => nomatch m), hl, .inr ok⟩ (by
      show ([] :: st).getLast? = some []
      rw [List.getLast?_cons_of_ne_nil ne]; exact lo') (fun z => nomatch z)
    refine ⟨?_, b⟩
    rw [← a]
    obtain ⟨ys, st, rfl⟩ := List.exists_cons_of_ne_nil ne
    show opnd st ++ glue ys ++ 40 :: q = opnd (ys :: st) ++ glue [] ++ q
    simp [opnd, glue]
  | @emp st q t hl _ ih =>
    intro ok lo nb
    have lo' : st.getLast? = some [] := lo
    have ne : st ≠ [] := fun e => by rw [e] at lo'; cases lo'
    obtain ⟨a, b⟩ := ih ⟨(fun _ m => nomatch m), hl, .inr ok⟩ (.inl ⟨by rw [List.getLast?_cons_of_ne_nil ne]; exact lo', by
      have := List.length_pos_iff.mpr ne
      simp; omega⟩) (fun _ => .inr rfl)
    refine ⟨?_, b⟩
    rw [← a]
    obtain ⟨ys, st, rfl⟩ := List.exists_cons_of_ne_nil ne
    show opnd st ++ glue ys ++ 40 :: 41 :: q = opnd (ys :: st) ++ jn [] ++ 41 :: q
    simp [opnd, jn_nil]
  | @itm xs st r u n t hr hp _ ih =>
    intro ok lo nb
    obtain ⟨w, l, e1, e2⟩ := rp_sound hp
    have lo' : (xs :: st).getLast? = some [] := lo
    obtain ⟨a, b⟩ := ih ⟨fun t m => (List.mem_append.mp m).elim (ok.1 t) fun m => by rw [List.mem_singleton.mp m]; exact w.leaf l, ok.2.1, ok.2.2⟩ (by
      cases st with
      | nil =>
        simp at lo'
        subst lo'
        exact .inr ⟨u, rfl⟩
      | cons ys st =>
        refine .inl ⟨?_, by simp⟩
        rw [List.getLast?_cons_cons] at lo' ⊢
        exact lo') (fun _ => .inl (by simp))
    refine ⟨?_, b⟩
    rw [← a]
    show opnd st ++ glue xs ++ r = opnd st ++ jn (xs ++ [u]) ++ r.drop n
    rw [jn_snoc]
    conv => lhs; rw [e1]
    simp
  | @cls xs ys st q t _ ih =>
    intro ok lo nb
    have lo' : (xs :: ys :: st).getLast? = some [] := by
      rcases lo with lo | ⟨t, lo⟩
      · exact lo.1
      · cases lo
    have ok2 : StOk (ys :: st) := by
      rcases ok.2.2 with e | e
      · cases e
      · exact e
    have hl : (ys :: st).length ≤ 60 := ok.2.1
    have hl' : st.length + 1 ≤ 60 := by simpa using hl
    have wf : WF (60 - st.length) (.tup xs) := by
      have e : 60 - st.length = (60 - (ys :: st).length) + 1 := by simp; omega
      rw [e]
      exact .tup ok.1
    obtain ⟨a, b⟩ := ih ⟨fun t m => (List.mem_append.mp m).elim (ok2.1 t) fun m => by rw [List.mem_singleton.mp m]; exact wf, ok2.2.1, ok2.2.2⟩ (by
      rw [List.getLast?_cons_cons] at lo'
      cases st with
      | nil =>
        simp at lo'
        subst lo'
        exact .inr ⟨_, rfl⟩
      | cons zs st =>
        refine .inl ⟨?_, by simp⟩
        rw [List.getLast?_cons_cons] at lo' ⊢
        exact lo') (fun _ => .inl (by simp))
    refine ⟨?_, b⟩
    rw [← a]
    show opnd (ys :: st) ++ jn xs ++ 41 :: q = opnd st ++ jn (ys ++ [.tup xs]) ++ q
    rw [jn_snoc, wr_tup]
    simp [opnd]
  | @fin t xs =>
    intro ok lo nb
    rcases lo with ⟨_, lo⟩ | ⟨u, lo⟩
    · simp at lo
    · cases lo
      refine ⟨?_, ok.1 t (by simp)⟩
      show opnd [] ++ jn [t] ++ [] = wr t
      rw [jn_one]
      simp [opnd]
  | @spc st q t hl _ ih =>
    intro ok lo nb
    have lo' : st.getLast? = some [] := by
      rcases lo with lo | ⟨t, lo⟩
      · exact lo.1
      · rw [lo] at hl; simp at hl
    obtain ⟨a, b⟩ := ih ok lo' (fun z => nomatch z)
    refine ⟨?_, b⟩
    rw [← a]
    obtain ⟨xs, st, rfl⟩ : ∃ xs st', st = xs :: st' := by cases st with | nil => simp at hl | cons x y => exact ⟨x, y, rfl⟩
    show opnd st ++ jn xs ++ 32 :: q = opnd st ++ glue xs ++ q
    have ne : xs ≠ [] := by
      rcases nb rfl with h | h
      · intro e; exact h (by rw [e]; rfl)
      · simp at h
    rw [← jn_glue xs ne]
    simp
/-! ### a note is read -/
theorem wr_head {d : Nat} {t : T} (h : WF d t) : ∃ c r, wr t = c :: r ∧ c ≠ 41 ∧ c ≠ 32 ∧ (leafT t = true → c ≠ 40) := by
  cases h with
  | non => exact ⟨_, _, rfl, by decide, by decide, fun _ => by decide⟩
  | @bl _ b => cases b <;> exact ⟨_, _, rfl, by decide, by decide, fun _ => by decide⟩
  | @int _ i h =>
    obtain ⟨c, w, e⟩ := List.exists_cons_of_ne_nil (num_ne i)
    have hc := num_chars i c (by rw [e]; exact List.mem_cons_self)
    exact ⟨c, w, e, by omega, by omega, fun _ => by omega⟩
  | str h => exact ⟨_, _, rfl, by decide, by decide, fun _ => by decide⟩
  | tup h => exact ⟨_, _, rfl, by decide, by decide, fun l => by cases l⟩
theorem runs_complete {d : Nat} {t : T} (h : WF d t) : ∀ (xs : List T) (st : List (List T)) (q : List Nat) (z : T), st.length + d ≤ 60 → Fol q → Runs false ((xs ++ [t]) :: st) q z → Runs true (xs :: st) (wr t ++ q) z := by
  have leafly : ∀ {d : Nat} {t : T}, WF d t → leafT t = true → ∀ (xs : List T) (st : List (List T)) (q : List Nat) (z : T), Fol q → Runs false ((xs ++ [t]) :: st) q z → Runs true (xs :: st) (wr t ++ q) z := by
    intro d t h l xs st q z f g
    obtain ⟨c, r, e, _, _, n⟩ := wr_head h
    refine .itm (by rw [e]; simpa using n l) (rp_complete h l f) ?_
    rw [List.drop_left]
    exact g
  induction h with
  | non => intro xs st q z _ f g; exact leafly (d := 0) .non rfl xs st q z f g
  | bl => intro xs st q z _ f g; exact leafly (d := 0) .bl rfl xs st q z f g
  | int h => intro xs st q z _ f g; exact leafly (d := 0) (.int h) rfl xs st q z f g
  | str h => intro xs st q z _ f g; exact leafly (d := 0) (.str h) rfl xs st q z f g
  | @tup d ts h ih =>
    intro xs st q z hd f g
    rw [wr_tup]
    have inner : ∀ (us : List T) (ys : List T), us ≠ [] → (∀ t ∈ us, t ∈ ts) → Runs false ((ys ++ us) :: xs :: st) (41 :: q) z → Runs true (ys :: xs :: st) (jn us ++ 41 :: q) z := by
      intro us
      induction us with
      | nil => intro ys ne; exact absurd rfl ne
      | cons u us ihu =>
        intro ys _ hm g
        cases us with
        | nil =>
          rw [jn_one]
          exact ih u (hm u (by simp)) ys (xs :: st) (41 :: q) z (by simp; omega) (.inr ⟨q, .inr rfl⟩) g
        | cons v us =>
          rw [jn_cons, List.append_assoc, List.cons_append]
          refine ih u (hm u (by simp)) ys (xs :: st) _ z (by simp; omega) (.inr ⟨_, .inl rfl⟩) (.spc (by simp) ?_)
          exact ihu (ys ++ [u]) (by simp) (fun t m => hm t (List.mem_cons_of_mem _ m)) (by rw [List.append_assoc]; exact g)
    have hl : (xs :: st).length ≤ 60 := by simp; omega
    cases ts with
    | nil => exact .emp hl (.cls g)
    | cons t ts =>
      show Runs true (xs :: st) (40 :: (jn (t :: ts) ++ [41] ++ q)) z
      rw [List.append_assoc]
      refine .opn hl ?_ (inner (t :: ts) [] (by simp) (fun _ m => m) (.cls g))
      obtain ⟨c, r, e, n, _⟩ := wr_head (h t (by simp))
      have : (jn (t :: ts) ++ ([41] ++ q)).head? = some c := by
        cases ts with
        | nil => rw [jn_one, e]; rfl
        | cons u ts => rw [jn_cons, e]; rfl
      rw [this]
      simpa using n
/-- the text is the note of a datum -/
def Note (l : List Nat) (t : T) : Prop := l = wr t ∧ WF 60 t
theorem runs_iff {l : List Nat} {t : T} : Runs true [[]] l t ↔ Note l t := by
  constructor
  · intro h
    obtain ⟨a, b⟩ := runs_sound h ⟨(fun _ m => nomatch m), by simp, .inl rfl⟩ rfl (fun z => nomatch z)
    exact ⟨by simpa [pfx, opnd, glue] using a, b⟩
  · intro ⟨e, h⟩
    have := runs_complete h [] [] [] t (by simp) (.inl rfl) .fin
    rw [e]
    simpa using this
/-! ### the law's reading -/
inductive Due where | item | first | behind
/-- the law's reading of a text: what is due, how deep -/
inductive Acc : Due → Nat → List Nat → Prop where
  | fin : Acc .behind 0 []
  | spc {d q} : Acc .item (d + 1) q → Acc .behind (d + 1) (32 :: q)
  | clsB {d q} : Acc .behind d q → Acc .behind (d + 1) (41 :: q)
  | clsF {d q} : Acc .behind d q → Acc .first (d + 1) (41 :: q)
  | opnI {d q} : d + 1 ≤ 60 → Acc .first (d + 1) q → Acc .item d (40 :: q)
  | opnF {d q} : d + 1 ≤ 60 → Acc .first (d + 1) q → Acc .first d (40 :: q)
  | leafI {d r n} : r.head? ≠ some 40 → le r = some n → Acc .behind d (r.drop n) → Acc .item d r
  | leafF {d r n} : r.head? ≠ some 40 → r.head? ≠ some 41 → le r = some n → Acc .behind d (r.drop n) → Acc .first d r
theorem Acc.fol {d : Nat} {r : List Nat} (h : Acc .behind d r) : Fol r := by
  cases h with
  | fin => exact .inl rfl
  | spc _ => exact .inr ⟨_, .inl rfl⟩
  | clsB _ => exact .inr ⟨_, .inr rfl⟩
/-- the state of the program's reading that goes with the law's -/
def Goes (due : Due) (st : List (List T)) (r : List Nat) (t : T) : Prop := match due with
  | .item => Runs true st r t
  | .behind => st.head? ≠ some [] → Runs false st r t
  | .first => st.head? = some [] → if r.head? = some 41 then Runs false st r t else Runs true st r t
theorem acc_runs {due : Due} {d : Nat} {r : List Nat} (h : Acc due d r) : ∀ st : List (List T), st.length = d + 1 → (due = .behind → st.head? ≠ some []) → (due = .first → st.head? = some []) → ∃ t, Goes due st r t := by
  have leaf : ∀ {d n : Nat} {r : List Nat} (st : List (List T)), st.length = d + 1 → r.head? ≠ some 40 → le r = some n → Acc .behind d (r.drop n) →
      (∀ st : List (List T), st.length = d + 1 → (Due.behind = .behind → st.head? ≠ some []) → (Due.behind = .first → st.head? = some []) → ∃ t, Goes .behind st (r.drop n) t) → ∃ t, Runs true st r t := by
    intro d n r st hl h1 h2 h3 ih
    obtain ⟨u, w, l, e1, e2⟩ := le_sound h2
    obtain ⟨xs, st', rfl⟩ : ∃ xs st', st = xs :: st' := by cases st with | nil => simp at hl | cons x y => exact ⟨x, y, rfl⟩
    obtain ⟨t, ht⟩ := ih ((xs ++ [u]) :: st') (by simpa using hl) (fun _ => by simp) (fun z => nomatch z)
    have hp : rp r = some (u, n) := by
      rw [e2]
      have := rp_complete w l h3.fol
      rw [← e1] at this
      exact this
    exact ⟨t, .itm h1 hp (ht (by simp))⟩
  induction h with
  | fin =>
    intro st hl hb _
    obtain ⟨xs, rfl⟩ := List.length_eq_one_iff.mp hl
    cases xs with
    | nil => exact absurd rfl (hb rfl)
    | cons t xs => exact ⟨t, fun _ => .fin⟩
  | spc _ ih =>
    intro st hl hb _
    obtain ⟨t, ht⟩ := ih st hl (fun z => nomatch z) (fun z => nomatch z)
    exact ⟨t, fun _ => .spc (by omega) ht⟩
  | clsB _ ih =>
    intro st hl hb _
    obtain ⟨xs, ys, st, rfl⟩ : ∃ xs ys st', st = xs :: ys :: st' := by
      match st, hl with
      | xs :: ys :: st, _ => exact ⟨xs, ys, st, rfl⟩
    obtain ⟨t, ht⟩ := ih ((ys ++ [.tup xs]) :: st) (by simpa using hl) (fun _ => by simp) (fun z => nomatch z)
    exact ⟨t, fun _ => .cls (ht (by simp))⟩
  | clsF _ ih =>
    intro st hl _ hf
    obtain ⟨xs, ys, st, rfl⟩ : ∃ xs ys st', st = xs :: ys :: st' := by
      match st, hl with
      | xs :: ys :: st, _ => exact ⟨xs, ys, st, rfl⟩
    obtain ⟨t, ht⟩ := ih ((ys ++ [.tup xs]) :: st) (by simpa using hl) (fun _ => by simp) (fun z => nomatch z)
    refine ⟨t, fun _ => ?_⟩
    show if (41 :: _).head? = some 41 then _ else _
    rw [if_pos (show (41 :: _).head? = some 41 from rfl)]
    exact .cls (ht (by simp))
  | @opnI d q h60 _ ih =>
    intro st hl _ _
    obtain ⟨t, ht⟩ := ih ([] :: st) (by simpa using hl) (fun z => nomatch z) (fun _ => rfl)
    refine ⟨t, ?_⟩
    have ht := ht rfl
    by_cases hq : q.head? = some 41
    · rw [if_pos hq] at ht
      obtain ⟨q', rfl⟩ : ∃ q', q = 41 :: q' := by
        cases q with
        | nil => cases hq
        | cons c q => exact ⟨q, by simp at hq; rw [hq]⟩
      exact .emp (by omega) ht
    · rw [if_neg hq] at ht
      exact .opn (by omega) hq ht
  | @opnF d q h60 _ ih =>
    intro st hl _ _
    obtain ⟨t, ht⟩ := ih ([] :: st) (by simpa using hl) (fun z => nomatch z) (fun _ => rfl)
    refine ⟨t, fun _ => ?_⟩
    rw [if_neg (show (40 :: q).head? ≠ some 41 by simp)]
    have ht := ht rfl
    by_cases hq : q.head? = some 41
    · rw [if_pos hq] at ht
      obtain ⟨q', rfl⟩ : ∃ q', q = 41 :: q' := by
        cases q with
        | nil => cases hq
        | cons c q => exact ⟨q, by simp at hq; rw [hq]⟩
      exact .emp (by omega) ht
    · rw [if_neg hq] at ht
      exact .opn (by omega) hq ht
  | leafI h1 h2 h3 ih =>
    intro st hl _ _
    exact leaf st hl h1 h2 h3 ih
  | leafF h1 h4 h2 h3 ih =>
    intro st hl _ _
    obtain ⟨t, ht⟩ := leaf st hl h1 h2 h3 ih
    refine ⟨t, fun _ => ?_⟩
    rw [if_neg h4]
    exact ht
theorem acc_complete {d : Nat} {t : T} (h : WF d t) : ∀ (dp : Nat) (q : List Nat), dp + d ≤ 60 → Acc .behind dp q → Acc .item dp (wr t ++ q) ∧ Acc .first dp (wr t ++ q) := by
  have leafly : ∀ {d : Nat} {t : T}, WF d t → leafT t = true → ∀ (dp : Nat) (q : List Nat), Acc .behind dp q → Acc .item dp (wr t ++ q) ∧ Acc .first dp (wr t ++ q) := by
    intro d t h l dp q g
    obtain ⟨c, r, e, n1, _, n⟩ := wr_head h
    have g' : Acc .behind dp ((wr t ++ q).drop (wr t).length) := by rw [List.drop_left]; exact g
    have h1 : (wr t ++ q).head? ≠ some 40 := by rw [e]; simpa using n l
    exact ⟨.leafI h1 (le_complete h l g.fol) g', .leafF h1 (by rw [e]; simpa using n1) (le_complete h l g.fol) g'⟩
  induction h with
  | non => intro dp q _ g; exact leafly (d := 0) .non rfl dp q g
  | bl => intro dp q _ g; exact leafly (d := 0) .bl rfl dp q g
  | int h => intro dp q _ g; exact leafly (d := 0) (.int h) rfl dp q g
  | str h => intro dp q _ g; exact leafly (d := 0) (.str h) rfl dp q g
  | @tup d ts h ih =>
    intro dp q hd g
    rw [wr_tup]
    have inner : ∀ (us : List T), us ≠ [] → (∀ t ∈ us, t ∈ ts) → Acc .item (dp + 1) (jn us ++ 41 :: q) ∧ Acc .first (dp + 1) (jn us ++ 41 :: q) := by
      intro us
      induction us with
      | nil => intro ne; exact absurd rfl ne
      | cons u us ihu =>
        intro _ hm
        cases us with
        | nil =>
          rw [jn_one]
          exact ih u (hm u (by simp)) (dp + 1) (41 :: q) (by omega) (.clsB g)
        | cons v us =>
          rw [jn_cons, List.append_assoc, List.cons_append]
          exact ih u (hm u (by simp)) (dp + 1) _ (by omega) (.spc (ihu (by simp) (fun t m => hm t (List.mem_cons_of_mem _ m))).1)
    have hf : Acc .first (dp + 1) (jn ts ++ [41] ++ q) := by
      rw [List.append_assoc]
      cases ts with
      | nil => exact .clsF g
      | cons t ts => exact (inner (t :: ts) (by simp) (fun _ m => m)).2
    exact ⟨.opnI (by omega) hf, .opnF (by omega) hf⟩
theorem acc_iff {l : List Nat} : Acc .item 0 l ↔ ∃ t, Note l t := by
  constructor
  · intro h
    obtain ⟨t, ht⟩ := acc_runs h [[]] rfl (fun z => nomatch z) (fun z => nomatch z)
    exact ⟨t, runs_iff.mp ht⟩
  · intro ⟨t, e, h⟩
    have := (acc_complete h 0 [] (by omega) .fin).1
    rw [e]
    simpa using this
theorem runs_det {b : Bool} {st : List (List T)} {r : List Nat} {t u : T} (a : Runs b st r t) (b : Runs b st r u) : t = u := by
  induction a with
  | opn h1 h2 _ ih =>
    cases b with
    | opn _ _ b => exact ih b
    | emp _ _ => exact absurd rfl h2
    | itm h _ _ => exact absurd rfl h
  | emp h1 _ ih =>
    cases b with
    | opn _ h _ => exact absurd rfl h
    | emp _ b => exact ih b
    | itm h _ _ => exact absurd rfl h
  | itm h1 h2 _ ih =>
    cases b with
    | opn _ _ _ => exact absurd rfl h1
    | emp _ _ => exact absurd rfl h1
    | itm _ h b =>
      rw [h2] at h
      cases h
      exact ih b
  | cls _ ih =>
    cases b with
    | cls b => exact ih b
  | fin => cases b with | fin => rfl
  | spc _ _ ih =>
    cases b with
    | spc _ b => exact ih b
theorem Note.inj {l : List Nat} {t u : T} (h : Note l t) (g : Note l u) : t = u := by
  have a := runs_iff.mpr h
  have b := runs_iff.mpr g
  clear h g
  exact runs_det a b
end K4
set_option Elab.async false
set_option linter.all false
set_option maxRecDepth 100000
set_option maxHeartbeats 4000000
/-! k04: the ground of the walks. -/
namespace K4
open PySem PySem.Spec PyProof.Rows L2 M14 SX
def top (i : Nat) : Stmt := PySem.Challenge.pw_likerun_k01_drawn_pages_read_back.main.body.getD i (.Pass ⟨0, 0, 0, 0⟩)
structure Bl (mg : Str → Option Value) extends M14.Bl mg where
  z_ord : mg "ord" = none
  z_abs : mg "abs" = none
/-- a constant of the module -/
def GV (mg : Str → Option Value) (x : Str) (v : V) : Prop := ∃ u, mg x = some u ∧ RelV v u
theorem pe_gv {X : Cx} {x : Str} {v : V} {pos : Pos} (h : GV X.mg x v) (hg : Gl X x) (hd : (x == ("__debug__" : Str)) = false := by decide) : PE X (.Name x pos) (tC v) := C8.pe_gc hg h hd
/-! ### a dict of the module -/
structure KD (K : PySem.W.Frag) (w : World) (d : Addr) (f : Str → Option V) : Prop where
  kd : ∃ es n, KDict K w d es n
  ns : ∀ z, ∃ r : Option Value, PySem.W.nsIn K d z = some r ∧ match f z with
    | none => r = none
    | some v => ∃ u, r = some u ∧ RelV v u
@[irreducible] def rInD (neg : Bool) (d : Addr) (f : Str → Option V) : R2 := fun x y H Q => ∃ z : Str, x = .str z ∧ y = .ref d ∧ Q (.bl (neg != (f z).isSome)) H
theorem kd_some {f : Str → Option V} {r : Option Value} {z : Str} (h : match f z with
    | none => r = none
    | some v => ∃ u, r = some u ∧ RelV v u) : r.isSome = (f z).isSome := by
  cases e : f z with
  | none => rw [e] at h; simp only at h; rw [h]; rfl
  | some v => rw [e] at h; obtain ⟨u, h, _⟩ := h; rw [h]; rfl
theorem opInD {X : Cx} {d : Addr} {f : Str → Option V} (D : KD X.K X.w d f) : OpR X (compareOp .In) (rInD false d f) := by
  obtain ⟨⟨es, n, kd⟩, ns⟩ := D
  unfold rInD
  intro pins s σ H x y v u Q I rx ry h
  obtain ⟨z, rfl, rfl, q⟩ := h
  obtain ⟨r, e, h⟩ := ns z
  refine op_in_kd kd pins s σ H _ _ v u Q I rx ry ⟨z, r, rfl, rfl, e, ?_⟩
  rw [kd_some h]
  simpa using q
theorem opNotInD {X : Cx} {d : Addr} {f : Str → Option V} (D : KD X.K X.w d f) : OpR X (compareOp .NotIn) (rInD true d f) := by
  obtain ⟨⟨es, n, kd⟩, ns⟩ := D
  unfold rInD
  intro pins s σ H x y v u Q I rx ry h
  obtain ⟨z, rfl, rfl, q⟩ := h
  obtain ⟨r, e, h⟩ := ns z
  refine op_notIn_kd kd pins s σ H _ _ v u Q I rx ry ⟨z, r, rfl, rfl, e, ?_⟩
  rw [kd_some h]
  simpa using q
@[irreducible] def rIxK (d : Addr) (f : Str → Option V) : R2 := fun x y H Q => ∃ (z : Str) (v : V), x = .ref d ∧ y = .str z ∧ f z = some v ∧ Q v H
theorem ixK {X : Cx} {d : Addr} {f : Str → Option V} (D : KD X.K X.w d f) : IxR X (rIxK d f) := by
  obtain ⟨⟨es, n, kd⟩, ns⟩ := D
  unfold rIxK
  intro value slice pins s σ H x y v u Q I rx ry h hs
  obtain ⟨z, w, rfl, rfl, e, q⟩ := h
  obtain ⟨r, e2, h⟩ := ns z
  rw [e] at h
  obtain ⟨u0, rfl, ru⟩ := h
  exact ix_kdict value slice pins s σ H _ _ v u Q I rx ry ⟨d, z, w, rfl, rfl, ⟨es, n, u0, kd.at_, kd.lit, e2, ru⟩, q⟩ hs
theorem inD_step {d : Addr} {f : Str → Option V} {z : Str} {neg : Bool} {H : Hp} {Q : VK} (h : Q (.bl (neg != (f z).isSome)) H) : rInD neg d f (.str z) (.ref d) H Q := by
  unfold rInD
  exact ⟨z, rfl, rfl, h⟩
theorem ixK_step {d : Addr} {f : Str → Option V} {z : Str} {v : V} {H : Hp} {Q : VK} (e : f z = some v) (h : Q v H) : rIxK d f (.ref d) (.str z) H Q := by
  unfold rIxK
  exact ⟨z, v, rfl, rfl, e, h⟩
/-! ### texts -/
theorem slice_mid {a : List Nat} {i j : Int} (h0 : 0 ≤ i) (h1 : i ≤ j) : Txt.slice (S a) (some i) (some j) = S ((a.drop i.toNat).take (j - i).toNat) := by
  have hl : ((S a).length : Int) = (a.length : Int) := by rw [S_len]
  by_cases hj : j ≤ (a.length : Int)
  · exact beq_iff_eq.mp (PyProof.Rows.slice_closesL (x := S a) h0 h1 (by omega))
  · have e2 : Txt.slice (S a) (some i) (some j) = Txt.slice (S a) (some i) none := by
      have e1 : Txt.slice (S a) (some i) (some j) = Txt.slice (S a) (some i) (some (a.length : Int)) := by
        unfold Txt.slice
        rw [S_len, SX.idx_hi (by omega)]
      rw [e1]
      unfold Txt.slice
      rw [S_len]
      have h3 : ¬ ((a.length : Int) < 0) := by omega
      simp [Builtin.Str.strSliceIndices, h3]
    rw [e2, slice_from h0]
    congr 1
    rw [List.take_of_length_le]
    rw [List.length_drop]
    omega
@[irreducible] def rSlS : V → Option Int → Option Int → Hp → VK → Prop := C8.rSlX
theorem slS {X : Cx} : SlR X rSlS := by unfold rSlS; exact C8.sl_txt
theorem big_size {a : List Nat} (h : a.length ≤ 1000000) : (S a).length ≤ sizeLine := by rw [S_len]; exact Nat.le_trans h (by decide)
theorem slm_step {a : List Nat} {i j : Int} {H : Hp} {Q : VK} (hz : a.length ≤ 1000000) (h0 : 0 ≤ i) (h1 : i ≤ j) (h : Q (.str (S ((a.drop i.toNat).take (j - i).toNat))) H) : rSlS (.str (S a)) (some i) (some j) H Q := by
  unfold rSlS
  exact ⟨_, rfl, big_size hz, by rw [slice_mid h0 h1]; exact h⟩
theorem slf_step {a : List Nat} {i : Int} {H : Hp} {Q : VK} (hz : a.length ≤ 1000000) (h0 : 0 ≤ i) (h : Q (.str (S (a.drop i.toNat))) H) : rSlS (.str (S a)) (some i) none H Q := by
  unfold rSlS
  exact ⟨_, rfl, big_size hz, by rw [slice_from h0]; exact h⟩
theorem slt_step {a : List Nat} {i : Int} {H : Hp} {Q : VK} (hz : a.length ≤ 1000000) (h0 : 0 ≤ i) (h : Q (.str (S (a.take i.toNat))) H) : rSlS (.str (S a)) none (some i) H Q := by
  unfold rSlS
  exact ⟨_, rfl, big_size hz, by rw [slice_to h0]; exact h⟩
theorem ixS_step {a : List Nat} {i : Int} {c : Nat} {H : Hp} {Q : VK} (hz : a.length ≤ 1000000) (h0 : 0 ≤ i) (e : a[i.toNat]? = some c) (h : Q (.str (S [c])) H) : rxS (.str (S a)) (.int i) H Q := by
  unfold rxS
  obtain ⟨j, rfl⟩ : ∃ j : Nat, i = (j : Int) := ⟨i.toNat, by omega⟩
  exact ⟨_, _, c, rfl, rfl, big_size hz, atI_nat (by simpa using e), h⟩
@[irreducible] def rCatS : R2 := fun x y H Q => ∃ i j : Str, x = .str i ∧ y = .str j ∧ i.length + j.length ≤ sizeLine ∧ Q (.str (i ++ j)) H
theorem op_catS {X : Cx} : OpR X (binaryOp .Add) rCatS := by unfold rCatS; exact op_add_str
theorem catS_step {a b : List Nat} {H : Hp} {Q : VK} (h : a.length + b.length ≤ 1000000) (q : Q (.str (S (a ++ b))) H) : rCatS (.str (S a)) (.str (S b)) H Q := by
  unfold rCatS
  exact ⟨_, _, rfl, rfl, by rw [S_len, S_len]; exact Nat.le_trans h (by decide), by rw [S_cat]; exact q⟩
theorem strEq {a b : List Nat} : (V.str (S a) = V.str (S b)) ↔ a = b := ⟨fun h => S_inj (V.str.inj h), fun h => by rw [h]⟩
theorem iteEqS {a b : List Nat} {A B : Prop} (h1 : a = b → A) (h2 : a ≠ b → B) : if decide (V.str (S a) = V.str (S b)) = true then A else B := iteD (fun e => h1 (strEq.mp e)) fun e => h2 fun q => e (strEq.mpr q)
/-! ### defs that may raise -/
section
variable (P : Program) (w : World) (K : PySem.W.Frag) (mg : Str → Option Value) (base : Heap)
def CalX (k : Nat) (x : Str) (ps : List Str) (sp : Sp) : Prop := ∃ f fd, FnOk P w K mg base (L2.CX P w) k f fd ps sp ∧ mg x = some (.ref f) ∧ PySem.W.keepIn K (.ref f) = true ∧ Binds K fd ps []
end
theorem CalX.mono {P : Program} {w : World} {K : PySem.W.Frag} {mg : Str → Option Value} {base : Heap} {j k : Nat} {x : Str} {ps : List Str} {sp : Sp} (c : CalX P w K mg base j x ps sp) (h : j ≤ k) : CalX P w K mg base k x ps sp :=
  let ⟨f, fd, F, a, b, d⟩ := c; ⟨f, fd, F.mono h, a, b, d⟩
theorem _root_.M14.Def1.calX {P : Program} {w : World} {K : PySem.W.Frag} {mg : Str → Option Value} {base : Heap} {x : Str} {st : Stmt} {N ps : List Str} {k : Nat} {sp : Sp} (D : Def1 K mg x st) (S : FnScope N ps (defScope st))
    (hb : ∀ (kV doc pm : Value) (an : Option Addr) (cdv ct : Value) (us : List Value), us.length = ps.length → bindArgs (PySem.W.fnOf x x (defArgs st) (defBody st) (defScope st) .none kV doc pm an cdv ct) ⟨us, []⟩ = pure (ps.zip us))
    (len : ∀ vs H Q E, sp vs H Q E → vs.length = ps.length)
    (hbody : ∀ (f : Addr) (cdv : Value) (A : Around) (outer : List Env) (s : Shared) (H : Hp) (vs : List V) (Q : VK) (E : XK), Room k (A.deeper (envOfC x (defScope st) s.heap.objs.size f cdv)) → sp vs H Q E →
      ∃ t, PSs (cxOf (L2.CX P w) P w K mg base N x (defScope st) f cdv A outer s H E) (defBody st) t ∧ t { nx := fun _ H' => Q .non H', rt := Q } (start N vs) H) : CalX P w K mg base (k + 1) x ps sp := by
  obtain ⟨f, fd, F, g⟩ := D
  refine ⟨f, fd, F.ok (CX := L2.CX P w) S len fun cdv A outer s H vs Q E hr h => hbody f cdv A outer s H vs Q E hr h, g, F.kp, F.bindsN hb⟩
section
variable {X : Cx} {x : Str} {p pos : Pos} {e : Expr} {es : List Expr} {k : Nat} {ps : List Str} {sp : Sp} {t : TA}
/-- a call within a def that may raise, or within a try -/
theorem pe_calX {W : WX} (c : CalX X.prog X.w X.K X.mg X.base k x ps sp) (tk : Takes X W) (hr : Room k X.A) (hg : Gl X x) (ha : PA X (e :: es) t) (hdb : (x == ("__debug__" : Str)) = false := by decide) (he : starEach (e :: es) X.env = (false, eval e X.env) :: starEach es X.env := by rfl) (hpl : (backTo pos (starEach es X.env)).any (·.1) = false := by rfl) :
    PE X (.Call (.Name x p) (e :: es) [] pos) (tCallS sp (WE W) t) := by
  obtain ⟨f, fd, F, hm, hk, hb⟩ := c
  exact pe_callS F hr hg hm hk hb (fun σ => passAt tk σ) ha hdb he hpl
/-- a call that does not raise this time -/
theorem pe_calL (c : CalX X.prog X.w X.K X.mg X.base k x ps sp) (hr : Room k X.A) (hg : Gl X x) (ha : PA X (e :: es) t) (hdb : (x == ("__debug__" : Str)) = false := by decide) (he : starEach (e :: es) X.env = (false, eval e X.env) :: starEach es X.env := by rfl) (hpl : (backTo pos (starEach es X.env)).any (·.1) = false := by rfl) :
    PE X (.Call (.Name x p) (e :: es) [] pos) (tCall sp [] E0 t) := by
  obtain ⟨f, fd, F, hm, hk, hb⟩ := c
  exact pe_call F hr hg hm hk hb .nil passL ha hdb he hpl
/-- what a def that raises wishes of its frame -/
theorem takesE {P : Program} {w : World} {K : PySem.W.Frag} {mg : Str → Option Value} {base : Heap} {N : List Str} {q : Str} {sc : Scope} {f : Addr} {cdv : Value} {A : Around} {outer : List Env} {s : Shared} {H : Hp} {E : XK} :
    Takes (cxOf (L2.CX P w) P w K mg base N q sc f cdv A outer s H E) (fun cls d _ H => E cls d H) := takes_of rfl rfl rfl rfl
/-- facts of an exception class without own __init__ -/
structure XC (K : PySem.W.Frag) (mg : Str → Option Value) (x : Str) (C : Addr) : Prop where
  q : PySem.W.excIn K C [.type "ValueError", .type "Exception", .type "BaseException", .type "object"] "ValueError.__new__" = true
  g : mg x = some (.ref C)
  k : PySem.W.keepIn K (.ref C) = true
  b : PySem.W.subIn K (.ref C) (.type "BaseException") = some true
  t : PySem.W.typeIn K (.ref C) = some (.type "type")
theorem ps_raise0 {W : WX} {C : Addr} {pos' : Pos} (c : XC X.K X.mg x C) (hc : X.calm = true) (tk : Takes X W) (hg : Gl X x) (hdb : (x == ("__debug__" : Str)) = false := by decide) :
    PS X (.Raise (some (.Call (.Name x p) [] [] pos)) none pos') (fun _ σ H => W (.ref C) none σ H) :=
  ps_raise hc tk (pmk_own0 PySem.F.excBase_ValueError c.q c.g c.k (raises_own c.b c.t) hg hdb)
end
end K4
set_option Elab.async false
set_option linter.all false
set_option maxRecDepth 100000
set_option maxHeartbeats 4000000
/-! The head's facts for a program of defs, tables of texts and error classes. -/
namespace K4
open PySem PySem.Spec PyProof.Rows L2 M14
theorem dicW_at {K : PySem.W.Frag} {a : Addr} {L : List (Option (Str × Int))} (h : He.dicW K a = some L) : ∃ es n, K.lookup a = some ⟨.type "dict", none, .dict es n, #[]⟩ ∧ es.toList.map He.keyOf = L := by
  unfold He.dicW at h
  cases q : K.lookup a with
  | none => rw [q] at h; cases h
  | some o =>
    obtain ⟨oc, od, dt, osl⟩ := o
    rw [q] at h
    cases oc with
    | type c =>
      cases od with
      | none =>
        cases dt with
        | dict es n =>
          have h1 : (match decide (c = "dict") && (osl.isEmpty && !(a == sysModules)) with
            | true => some (es.toList.map He.keyOf)
            | false => none) = some L := h
          cases z : decide (c = "dict") && (osl.isEmpty && !(a == sysModules)) with
          | false => rw [z] at h1; cases h1
          | true =>
            rw [z] at h1
            obtain ⟨z1, z2⟩ := He.ba z
            obtain ⟨z3, z4⟩ := He.ba z2
            have e1 : c = "dict" := of_decide_eq_true z1
            have e2 : osl = #[] := Array.isEmpty_iff.mp z3
            subst e1 e2
            exact ⟨es, n, rfl, Option.some.inj h1⟩
        | _ => cases h
      | some b => cases dt <;> cases h
    | _ => cases od <;> cases dt <;> cases h
theorem keyOf_mem {P : Params} {ks : List Str} : ∀ {l : List DictEntry}, l.map He.keyOf = He.keysIn P ks → ∀ e ∈ l, ∃ k t, k ∈ ks ∧ e.key = .str k t := by
  intro l h e m
  have m2 : He.keyOf e ∈ He.keysIn P ks := by rw [← h]; exact List.mem_map_of_mem m
  obtain ⟨k, mk, ek⟩ := List.mem_map.mp m2
  unfold He.keyOf at ek
  split at ek
  · rename_i x t q
    have := Option.some.inj ek
    obtain ⟨h5, _⟩ := Prod.mk.inj this
    exact ⟨x, t, by rw [← h5]; exact mk, q⟩
  · cases ek
theorem nsIn_no {K : PySem.W.Frag} {P : Params} {a : Addr} {ks : List Str} {z : Str} (h : He.dicW K a = some (He.keysIn P ks)) (hz : z ∉ ks) : PySem.W.nsIn K a z = some none := by
  obtain ⟨es, n, e, hk⟩ := dicW_at h
  have key := keyOf_mem hk
  unfold PySem.W.nsIn
  rw [e]
  have h1 : es.toList.find? (·.key.isStr z) = none := by
    rw [List.find?_eq_none]
    intro x mx
    obtain ⟨k, t, mk, ek⟩ := key x mx
    rw [ek]
    intro hs
    have : k = z := by
      have h2 : (k == z) = true := hs
      exact eq_of_beq h2
    exact hz (this ▸ mk)
  have h2 : es.toList.any (·.refKey) = false := by
    rw [List.any_eq_false]
    intro x mx
    obtain ⟨k, t, mk, ek⟩ := key x mx
    unfold DictEntry.refKey
    rw [ek]
    exact Bool.false_ne_true
  simp only [h1, h2]
  rfl
theorem kd_of {K : PySem.W.Frag} {w : World} {a : Addr} {kvs : List (Str × He.Dv)} {f : Str → Option V} (h1 : He.dicW K a = some (He.keysIn w.params (kvs.map (·.1)))) (h2 : He.valsB K a kvs = true)
    (hf : ∀ z, match f z with
      | none => z ∉ kvs.map (·.1)
      | some v => ∃ q ∈ kvs, q.1 = z ∧ q.2.v K = v) : KD K w a f := by
  refine ⟨He.dicW_ok h1, fun z => ?_⟩
  have := hf z
  cases e : f z with
  | none =>
    rw [e] at this
    exact ⟨none, nsIn_no h1 this, rfl⟩
  | some v =>
    rw [e] at this
    obtain ⟨q, mq, rfl, rfl⟩ := this
    obtain ⟨u, hu, hr⟩ := He.valsB_ok h2 mq
    exact ⟨some u, hu, u, rfl, hr⟩
theorem gv_int {K : PySem.W.Frag} {h : Heap} {mg : Str → Option Value} (X : K.In h) (G : h.Ns mainGlobals mg) {x : Str} {i : Int} (c : (He.Fa.int x i).ok K = true) : GV mg x (.int i) :=
  let ⟨t, e⟩ := He.int_ok X G c; ⟨_, e, t, rfl⟩
theorem gv_str {K : PySem.W.Frag} {h : Heap} {mg : Str → Option Value} (X : K.In h) (G : h.Ns mainGlobals mg) {x z : Str} (c : (He.Fa.str x z).ok K = true) : GV mg x (.str z) :=
  let ⟨t, e⟩ := He.str_ok X G c; ⟨_, e, t, rfl⟩
theorem gv_ref {K : PySem.W.Frag} {h : Heap} {mg : Str → Option Value} (X : K.In h) (G : h.Ns mainGlobals mg) {x : Str} (c : (He.Fa.glo x).ok K = true) : GV mg x (.ref (He.ga K x)) := ⟨_, He.glo_ok X G c, rfl⟩
theorem xc_of {K : PySem.W.Frag} {h : Heap} {mg : Str → Option Value} (X : K.In h) (G : h.Ns mainGlobals mg) {x : Str} (g : (He.Fa.glo x).ok K = true) (c : (He.Fa.exc x).ok K = true) : XC K mg x (He.ga K x) :=
  let ⟨a, b, d, e⟩ := He.exc_ok c; ⟨a, He.glo_ok X G g, b, d, e⟩
/-! ### the hook -/
abbrev AlP : Type := Bool × List He.FnW × List (Option (List (Option (Str × Int))))
section
variable (fa : List He.Fa) (fn : List He.DefD) (ts : List He.Tab) (ow : PySem.W.Frag → Bool)
def obsP (K : PySem.W.Frag) : AlP := (((fa.all fun f => f.ok K) && fn.all fun d => d.ok K) && ow K, fn.map fun d => He.fnW K d.at_, ts.map fun t => He.dicW K (t.1 K))
def valP (w : World) : AlP := (true, fn.map He.DefD.val, ts.map fun t => some (He.keysIn w.params t.2))
def SaysP (w : World) (K : PySem.W.Frag) : Prop := obsP fa fn ts ow K = valP fn ts w
def obsPG (n : Nat) (g : Addr → Option Obj) : AlP := obsP fa fn ts ow (He.frG g (He.asD g n))
def hookP (n : Nat) : PySem.W.Hook where
  α := AlP
  obs := fun s => obsPG fa fn ts ow n s.heap.get?
  val := fun w => valP fn ts w
  says := fun w h => ∃ K : PySem.W.Frag, K.In h ∧ SaysP fa fn ts ow w K
  of := fun _ _ e => ⟨_, He.frG_in, e⟩
  keeps := fun _ _ _ ⟨K, hK, c⟩ k => ⟨K, PySem.W.Frag.In.keeps hK k, c⟩
theorem obsPG_eq {n : Nat} {g : Addr → Option Obj} {s : Shared} (h : ∀ a, g a = s.heap.get? a) : obsPG fa fn ts ow n g = (hookP fa fn ts ow n).obs s := by
  have e : g = s.heap.get? := funext h
  rw [e] <;> rfl
end
section
variable {fa : List He.Fa} {fn : List He.DefD} {ts : List He.Tab} {ow : PySem.W.Frag → Bool} {w : World} {K : PySem.W.Frag}
theorem SaysP.all (c : SaysP fa fn ts ow w K) : ((fa.all fun f => f.ok K) && fn.all fun d => d.ok K) = true ∧ ow K = true := He.ba (congrArg (fun z : AlP => z.1) c)
theorem SaysP.fact (c : SaysP fa fn ts ow w K) (i : Nat) {f : He.Fa} (h : fa[i]? = some f := by rfl) : f.ok K = true := List.all_eq_true.mp (He.ba c.all.1).1 f (List.mem_of_getElem? h)
theorem SaysP.own (c : SaysP fa fn ts ow w K) : ow K = true := c.all.2
theorem SaysP.def_ (c : SaysP fa fn ts ow w K) (i : Nat) {d : He.DefD} (h : fn[i]? = some d := by rfl) : ∃ fd, FunD K d.name d.qual d.params d.body d.scope (d.dvs K) (d.kws K) (He.fAd K d.at_) fd := by
  have e : fn.map (fun d => He.fnW K d.at_) = fn.map He.DefD.val := congrArg (fun z : AlP => z.2.1) c
  have e2 : (fn.map fun d => He.fnW K d.at_)[i]? = (fn.map He.DefD.val)[i]? := by rw [e]
  rw [List.getElem?_map, List.getElem?_map, h] at e2
  exact He.DefD.funD (Option.some.inj e2) (List.all_eq_true.mp (He.ba c.all.1).2 d (List.mem_of_getElem? h))
theorem SaysP.tab (c : SaysP fa fn ts ow w K) (i : Nat) {t : He.Tab} (h : ts[i]? = some t := by rfl) : He.dicW K (t.1 K) = some (He.keysIn w.params t.2) := by
  have e : ts.map (fun t => He.dicW K (t.1 K)) = ts.map fun t => some (He.keysIn w.params t.2) := congrArg (fun z : AlP => z.2.2) c
  have e2 : (ts.map fun t => He.dicW K (t.1 K))[i]? = (ts.map fun t => some (He.keysIn w.params t.2))[i]? := by rw [e]
  rw [List.getElem?_map, List.getElem?_map, h] at e2
  exact Option.some.inj e2
end
/-! ### error classes -/
def isVal (a : Option (Option Value)) (v : Value) : Bool := He.eqO a (some (some v))
def excB (K : PySem.W.Frag) (D : Addr) : Bool := isVal (PySem.W.findIn K (.ref D) "__getattribute__") (.builtin "BaseException.__getattribute__") && (He.eqO (PySem.W.findIn K (.ref D) "__getattr__") (some none) && (decide (PySem.W.subIn K (.ref D) (.type "BaseException") = some true) && (PySem.W.hasDictIn K D &&
  (isVal (PySem.W.findIn K (.ref D) "__class__") (.builtin "object.__class__") && (isVal (PySem.W.specialIn K (.builtin "object.__class__") "__get__") (.builtin "getset_descriptor.__get__") && (decide (PySem.W.takesIn K (.builtin "object.__class__") = some true) && decide (PySem.W.mroIn K D (.type "object") = some true)))))))
theorem excB_ok {K : PySem.W.Frag} {D : Addr} (h : excB K D = true) : ExcC K D := by
  obtain ⟨h1, h⟩ := He.ba h
  obtain ⟨h2, h⟩ := He.ba h
  obtain ⟨h3, h⟩ := He.ba h
  obtain ⟨h4, h⟩ := He.ba h
  obtain ⟨h5, h⟩ := He.ba h
  obtain ⟨h6, h⟩ := He.ba h
  obtain ⟨h7, h8⟩ := He.ba h
  exact ⟨He.eqO_ok h1, He.eqO_ok h2, of_decide_eq_true h3, h4, He.eqO_ok h5, He.eqO_ok h6, of_decide_eq_true h7, of_decide_eq_true h8⟩
def kitOB (K : PySem.W.Frag) (a b : Value) (r : Bool) : Bool := decide (PySem.W.kitOne K a b = some r)
theorem kitOB_ok {K : PySem.W.Frag} {a b : Value} {r : Bool} (h : kitOB K a b r = true) : PySem.W.kitOne K a b = some r := of_decide_eq_true h
end K4
set_option Elab.async false
set_option linter.all false
set_option maxRecDepth 100000
set_option maxHeartbeats 4000000
/-! The head's facts for errors of two fields, the tables of the signs and the words. -/
namespace TK
open PySem PySem.Spec PyProof.Rows L2 M14 SX K4
def oexO (C : Addr) : Option Obj → Bool
  | some ⟨.type "type", _, .cls cl, sl⟩ => (match cl.mro, sl.toList with
    | .ref C2 :: tl, [_, _, _, _, some (.builtin nw), _] => decide (C2 = C) && (decide (nw = "ValueError.__new__") && (!cl.hasDel && (cl.hasDict && PySem.HandSPX.refsVE tl)))
    | _, _ => false)
  | _ => false
/-- what is asked of an error class -/
def oexB (K : PySem.W.Frag) (C I : Addr) : Bool := oexO C (K.lookup C) && (He.eqO (PySem.W.findIn K (.ref C) "__setattr__") (some (some (.builtin "object.__setattr__"))) && (decide (PySem.W.typeIn K (.ref C) = some (.type "type")) && (PySem.W.keepIn K (.ref C) && (He.eqO (PySem.W.findIn K (.ref C) "line") (some none) && (He.eqO (PySem.W.findIn K (.ref C) "column") (some none) && (He.eqO (PySem.W.findIn K (.ref C) "__init__") (some (some (.ref I))) && (decide (PySem.W.typeIn K (.ref I) = some (.type "function")) && excB K C)))))))
def dvs (ls : List String) : List He.Dv := ls.map fun x => .str (Str.ofString x)
abbrev kvEs : List (Str × He.Dv) := [("n", .str "\n"), ("\\", .str "\\"), ("'", .str "'"), ("\"", .str "\"")]
abbrev kvCl : List (Str × He.Dv) := [(")", .str "("), ("]", .str "["), ("}", .str "{")]
end TK
set_option Elab.async false
set_option linter.all false
set_option maxRecDepth 100000
set_option maxHeartbeats 0
namespace TK.Hd
open PySem PySem.Spec PyProof.Rows L2 M14 K4 TK
abbrev R : PySem.W.OpenRow := PySem.W.OpenLaw.row PySem.Challenge.rw_likerun_k01_drawn_pages_read_back
def fa : List He.Fa := [.glo "other_index", .glo "tokens", .glo "_checked_rows", .glo "_read_token", .glo "_run_end", .glo "_read_name", .glo "_read_number", .glo "_read_text", .glo "_law_bag", .glo "_law_take", .glo "_law_whole", .glo "_law_signs", .glo "_law_keywords", .glo "_law_letters", .glo "_law_allowed", .glo "_law_name", .glo "_law_figures", .glo "_law_quoted", .glo "_law_word", .glo "_law_comment", .glo "_law_must_part", .glo "_law_put", .glo "_law_close_row", .glo "_law_row_end", .glo "_law_lay", .glo "_law_broken", .glo "_law_line", .glo "_law_margin", .glo "_law_page", .glo "_law_is_tokens", .glo "law", .glo "ESCAPES", .glo "CLOSINGS", .glo "SIGNS", .glo "KEYWORDS", .glo "OPENINGS", .glo "Scanner", .glo "BadSign", .glo "BadToken", .glo "BadIndent", .glo "TooLong", .glo "TooDeep", .glo "LikerunError", .glo "SourceError", .free "len", .free "int", .free "sum", .free "range", .free "list", .free "tuple", .free "str", .free "isinstance", .free "bool", .free "sorted", .free "enumerate", .free "min", .free "max", .free "ord", .free "abs", .free "reversed", .free "all", .free "ValueError", .int "SPACE_CODE" 32, .int "TILDE_CODE" 126, .int "PERCENT_CODE" 37, .int "MOST_CHARACTERS" 6000, .int "MOST_COLUMNS" 120, .int "MOST_TOKENS" 120, .int "MOST_INDENTS" 11, .int "LONGEST_NAME" 30, .int "MOST_DIGITS" 40, .str "DIGITS" "0123456789", .str "NAME_STARTS" "abcdefghijklmnopqrstuvwxyzABCDEFGHIJKLMNOPQRSTUVWXYZ_", .str "NAME_SIGNS" "abcdefghijklmnopqrstuvwxyzABCDEFGHIJKLMNOPQRSTUVWXYZ_0123456789", .cls "Scanner", .mkr "Scanner", .noat "Scanner" "marks", .noat "Scanner" "indents", .noat "Scanner" "opened", .noat "Scanner" "many", .meth "Scanner" "read_row", .meth "Scanner" "compare_indent", .meth "Scanner" "keep_token", .meth "Scanner" "close_text"]
def fn : List He.DefD := [⟨("other_index", none), "other_index", "other_index", defArgs (top 9), defBody (top 9), defScope (top 9), [], []⟩,
  ⟨("tokens", none), "tokens", "tokens", defArgs (top 30), defBody (top 30), defScope (top 30), [], []⟩,
  ⟨("_checked_rows", none), "_checked_rows", "_checked_rows", defArgs (top 31), defBody (top 31), defScope (top 31), [], []⟩,
  ⟨("_read_token", none), "_read_token", "_read_token", defArgs (top 32), defBody (top 32), defScope (top 32), [], []⟩,
  ⟨("_run_end", none), "_run_end", "_run_end", defArgs (top 33), defBody (top 33), defScope (top 33), [], []⟩,
  ⟨("_read_name", none), "_read_name", "_read_name", defArgs (top 34), defBody (top 34), defScope (top 34), [], []⟩,
  ⟨("_read_number", none), "_read_number", "_read_number", defArgs (top 35), defBody (top 35), defScope (top 35), [], []⟩,
  ⟨("_read_text", none), "_read_text", "_read_text", defArgs (top 36), defBody (top 36), defScope (top 36), [], []⟩,
  ⟨("_law_bag", none), "_law_bag", "_law_bag", defArgs (top 38), defBody (top 38), defScope (top 38), [], []⟩,
  ⟨("_law_take", none), "_law_take", "_law_take", defArgs (top 39), defBody (top 39), defScope (top 39), [], []⟩,
  ⟨("_law_whole", none), "_law_whole", "_law_whole", defArgs (top 40), defBody (top 40), defScope (top 40), [], []⟩,
  ⟨("_law_signs", none), "_law_signs", "_law_signs", defArgs (top 41), defBody (top 41), defScope (top 41), [], []⟩,
  ⟨("_law_keywords", none), "_law_keywords", "_law_keywords", defArgs (top 42), defBody (top 42), defScope (top 42), [], []⟩,
  ⟨("_law_letters", none), "_law_letters", "_law_letters", defArgs (top 43), defBody (top 43), defScope (top 43), [], []⟩,
  ⟨("_law_allowed", none), "_law_allowed", "_law_allowed", defArgs (top 44), defBody (top 44), defScope (top 44), [], []⟩,
  ⟨("_law_name", none), "_law_name", "_law_name", defArgs (top 45), defBody (top 45), defScope (top 45), [], []⟩,
  ⟨("_law_figures", none), "_law_figures", "_law_figures", defArgs (top 46), defBody (top 46), defScope (top 46), [], []⟩,
  ⟨("_law_quoted", none), "_law_quoted", "_law_quoted", defArgs (top 47), defBody (top 47), defScope (top 47), [], []⟩,
  ⟨("_law_word", none), "_law_word", "_law_word", defArgs (top 48), defBody (top 48), defScope (top 48), [], []⟩,
  ⟨("_law_comment", none), "_law_comment", "_law_comment", defArgs (top 49), defBody (top 49), defScope (top 49), [], []⟩,
  ⟨("_law_must_part", none), "_law_must_part", "_law_must_part", defArgs (top 50), defBody (top 50), defScope (top 50), [], []⟩,
  ⟨("_law_put", none), "_law_put", "_law_put", defArgs (top 51), defBody (top 51), defScope (top 51), [], []⟩,
  ⟨("_law_close_row", none), "_law_close_row", "_law_close_row", defArgs (top 52), defBody (top 52), defScope (top 52), [], []⟩,
  ⟨("_law_row_end", none), "_law_row_end", "_law_row_end", defArgs (top 53), defBody (top 53), defScope (top 53), [], []⟩,
  ⟨("_law_lay", none), "_law_lay", "_law_lay", defArgs (top 54), defBody (top 54), defScope (top 54), [], []⟩,
  ⟨("_law_broken", none), "_law_broken", "_law_broken", defArgs (top 55), defBody (top 55), defScope (top 55), [], []⟩,
  ⟨("_law_line", none), "_law_line", "_law_line", defArgs (top 56), defBody (top 56), defScope (top 56), [], []⟩,
  ⟨("_law_margin", none), "_law_margin", "_law_margin", defArgs (top 57), defBody (top 57), defScope (top 57), [], []⟩,
  ⟨("_law_page", none), "_law_page", "_law_page", defArgs (top 58), defBody (top 58), defScope (top 58), [], []⟩,
  ⟨("_law_is_tokens", none), "_law_is_tokens", "_law_is_tokens", defArgs (top 59), defBody (top 59), defScope (top 59), [], []⟩,
  ⟨("law", none), "law", "law", defArgs (top 60), defBody (top 60), defScope (top 60), [], []⟩,
  ⟨("Scanner", some "__init__"), "__init__", "Scanner.__init__", defArgs (inClass (top 29) 0), defBody (inClass (top 29) 0), defScope (inClass (top 29) 0), [], []⟩,
  ⟨("Scanner", some "read_row"), "read_row", "Scanner.read_row", defArgs (inClass (top 29) 1), defBody (inClass (top 29) 1), defScope (inClass (top 29) 1), [], []⟩,
  ⟨("Scanner", some "compare_indent"), "compare_indent", "Scanner.compare_indent", defArgs (inClass (top 29) 2), defBody (inClass (top 29) 2), defScope (inClass (top 29) 2), [], []⟩,
  ⟨("Scanner", some "keep_token"), "keep_token", "Scanner.keep_token", defArgs (inClass (top 29) 3), defBody (inClass (top 29) 3), defScope (inClass (top 29) 3), [], []⟩,
  ⟨("Scanner", some "close_text"), "close_text", "Scanner.close_text", defArgs (inClass (top 29) 4), defBody (inClass (top 29) 4), defScope (inClass (top 29) 4), [], []⟩,
  ⟨("SourceError", some "__init__"), "__init__", "SourceError.__init__", defArgs (inClass (top 12) 0), defBody (inClass (top 12) 0), defScope (inClass (top 12) 0), [], []⟩]
def ts : List He.Tab := [(fun K => He.ga K "ESCAPES", ["n", "\\", "'", "\""]), (fun K => He.ga K "CLOSINGS", [")", "]", "}"])]
def own0 (K : PySem.W.Frag) : Bool := oexB K (He.ga K "BadSign") (He.ma K (He.ga K "SourceError") "__init__") && (oexB K (He.ga K "BadToken") (He.ma K (He.ga K "SourceError") "__init__") && (oexB K (He.ga K "BadIndent") (He.ma K (He.ga K "SourceError") "__init__") && (oexB K (He.ga K "TooLong") (He.ma K (He.ga K "SourceError") "__init__") && (oexB K (He.ga K "TooDeep") (He.ma K (He.ga K "SourceError") "__init__") && (He.valsB K (He.ga K "ESCAPES") kvEs && (He.valsB K (He.ga K "CLOSINGS") kvCl && (He.tupB K "SIGNS" (dvs ["//=", "+=", "-=", "*=", "//", "==", "!=", "<=", ">=", "<", ">", "=", "+", "-", "*", "(", ")", "[", "]", "{", "}", ",", ":", "."]))))))))
def own1 (K : PySem.W.Frag) : Bool := He.tupB K "KEYWORDS" (dvs ["and", "as", "break", "class", "continue", "def", "del", "elif", "else", "except", "False", "finally", "for", "from", "global", "if", "in", "is", "lambda", "mod", "None", "nonlocal", "not", "or", "pass", "raise", "return", "True", "try", "while", "with", "yield"]) && (He.tupB K "OPENINGS" (dvs ["(", "[", "{"]))
def own (K : PySem.W.Frag) : Bool := own0 K && (own1 K)
abbrev hk : PySem.W.Hook := hookP fa fn ts own 6
def ob (s : PySem.W.SharedT) : AlP := obsPG fa fn ts own 6 (HandSHeadRun.getT s)
theorem ob_eq (s : PySem.W.SharedT) : ob s = hk.obs s.abs := obsPG_eq _ _ _ _ (HandSHeadRun.getT_eq s)
abbrev loose : List Str := ([("LETTERS" : Str), ("DIGITS" : Str), ("NAME_STARTS" : Str), ("NAME_SIGNS" : Str), ("KEYWORDS" : Str), ("SPACE_CODE" : Str), ("TILDE_CODE" : Str), ("PERCENT_CODE" : Str), ("other_index" : Str), ("LikerunError" : Str)] : List Str) ++ ([("SourceError" : Str), ("BadSign" : Str), ("BadToken" : Str), ("BadIndent" : Str), ("TooLong" : Str), ("TooDeep" : Str), ("MOST_CHARACTERS" : Str), ("MOST_COLUMNS" : Str), ("MOST_TOKENS" : Str), ("MOST_INDENTS" : Str)] : List Str) ++ ([("LONGEST_NAME" : Str), ("MOST_DIGITS" : Str), ("SIGNS" : Str), ("OPENINGS" : Str), ("CLOSINGS" : Str), ("ESCAPES" : Str), ("Scanner" : Str), ("tokens" : Str), ("_checked_rows" : Str), ("_read_token" : Str)] : List Str) ++ ([("_run_end" : Str), ("_read_name" : Str), ("_read_number" : Str), ("_read_text" : Str), ("_law_bag" : Str), ("_law_take" : Str), ("_law_whole" : Str), ("_law_signs" : Str), ("_law_keywords" : Str), ("_law_letters" : Str)] : List Str) ++ ([("_law_allowed" : Str), ("_law_name" : Str), ("_law_figures" : Str), ("_law_quoted" : Str), ("_law_word" : Str), ("_law_comment" : Str), ("_law_must_part" : Str), ("_law_put" : Str), ("_law_close_row" : Str), ("_law_row_end" : Str)] : List Str) ++ ([("_law_lay" : Str), ("_law_broken" : Str), ("_law_line" : Str), ("_law_margin" : Str), ("_law_page" : Str), ("_law_is_tokens" : Str)] : List Str)
theorem run_false (w : World) : HandSHeadRun.RunEq R (PySem.W.view R.prog [60]) hk ob 20000 loose (w.withFollow "special-get-raises" false) := by
  intro os
  kernel_rfl
theorem run_true (w : World) : HandSHeadRun.RunEq R (PySem.W.view R.prog [60]) hk ob 20000 loose (w.withFollow "special-get-raises" true) := by
  intro os
  kernel_rfl
theorem run (w : World) : HandSHeadRun.RunEq R (PySem.W.view R.prog [60]) hk ob 20000 loose w := PySem.W.byRow2 "special-get-raises" (P := fun w => HandSHeadRun.RunEq R (PySem.W.view R.prog [60]) hk ob 20000 loose w) run_false run_true w
end TK.Hd
set_option Elab.async false
set_option linter.all false
set_option maxRecDepth 100000
set_option maxHeartbeats 4000000
/-! tokens, the plain part: what the scanner makes of a text. -/
namespace TK
open PySem PySem.Spec PyProof.Rows L2 M14 SX K4
abbrev cd (x : String) : List Nat := (Str.ofString x).cps.toList
def isNs (c : Nat) : Bool := (decide (97 ≤ c) && decide (c ≤ 122)) || (decide (65 ≤ c) && decide (c ≤ 90)) || decide (c = 95)
def isNc (c : Nat) : Bool := isNs c || isDig c
def kws : List (List Nat) := ["and", "as", "break", "class", "continue", "def", "del", "elif", "else", "except", "False", "finally", "for", "from", "global", "if", "in", "is", "lambda", "mod", "None", "nonlocal", "not", "or", "pass", "raise", "return", "True", "try", "while", "with", "yield"].map cd
def sgs : List (List Nat) := ["//=", "+=", "-=", "*=", "//", "==", "!=", "<=", ">=", "<", ">", "=", "+", "-", "*", "(", ")", "[", "]", "{", "}", ",", ":", "."].map cd
/-- error classes -/
inductive Cl | sign | token | indent | long | deep
  deriving DecidableEq
structure Er where
  c : Cl
  l : Nat
  k : Nat
/-- a token of a row's rest: its kind, its word, its size; or the fault, so far behind its first sign -/
inductive Lx | ok (kd : String) (w : T) (n : Nat) | bad (k : Nat)
def lexName (r : List Nat) : Lx :=
  let w := r.takeWhile isNc
  if 30 < w.length then .bad 0 else if w ∈ kws then .ok "keyword" (.str (S w)) w.length else .ok "name" (.str (S w)) w.length
def lexNum (r : List Nat) : Lx :=
  let w := r.takeWhile isDig
  if 40 < w.length ∨ (1 < w.length ∧ w.head? = some 48) then .bad 0 else if ((r.drop w.length).head?.map isNs).getD false = true then .bad 0 else .ok "number" (.int (NumText.digitsVal w)) w.length
def isEs (e : Nat) : Bool := decide (e = 110) || decide (e = 92) || decide (e = 39) || decide (e = 34)
def dcE (e : Nat) : Nat := if e = 110 then 10 else e
/-- a text behind its first quote q: what it means and how many signs it has; no end; an escape that is none, at its place -/
inductive Sc | ok (d : List Nat) (k : Nat) | end_ | esc (k : Nat)
def scan (q : Nat) : List Nat → Sc
  | [] => .end_
  | [c] => if c = q then .ok [] 0 else .end_
  | c :: e :: r => if c = q then .ok [] 0 else if c = 92 then (if isEs e then (match scan q r with
      | .ok d k => .ok (dcE e :: d) (k + 2)
      | .end_ => .end_
      | .esc k => .esc (k + 2)) else .esc 0) else match scan q (e :: r) with
      | .ok d k => .ok (c :: d) (k + 1)
      | .end_ => .end_
      | .esc k => .esc (k + 1)
def lexText (q : Nat) (r : List Nat) : Lx := match scan q r with
  | .ok d k => .ok "text" (.str (S d)) (k + 2)
  | .end_ => .bad 0
  | .esc k => .bad (k + 1)
def lexSign (r : List Nat) : Lx := match sgs.find? (·.isPrefixOf r) with
  | some s => .ok "sign" (.str (S s)) s.length
  | none => .bad 0
def lex : List Nat → Lx
  | [] => .bad 0
  | c :: r => if isNs c then lexName (c :: r) else if isDig c then lexNum (c :: r) else if c = 34 ∨ c = 39 then lexText c r else lexSign (c :: r)
theorem lex_pos {r : List Nat} {kd : String} {w : T} {n : Nat} (h : lex r = .ok kd w n) : 1 ≤ n ∧ n ≤ r.length := by
  cases r with
  | nil => cases h
  | cons c r =>
    have h : (if isNs c then lexName (c :: r) else if isDig c then lexNum (c :: r) else if c = 34 ∨ c = 39 then lexText c r else lexSign (c :: r)) = .ok kd w n := h
    have key : ∀ p : Nat → Bool, p c = true → 1 ≤ ((c :: r).takeWhile p).length ∧ ((c :: r).takeWhile p).length ≤ (c :: r).length := fun p hp => by
      refine ⟨by rw [List.takeWhile_cons, hp]; simp, List.Sublist.length_le (List.takeWhile_sublist _)⟩
    split at h
    · rename_i hc
      unfold lexName at h
      have := key isNc (by unfold isNc; rw [hc]; rfl)
      simp only at h
      split at h
      · cases h
      · split at h <;> (cases h; exact this)
    split at h
    · rename_i hc
      unfold lexNum at h
      have := key isDig hc
      simp only at h
      split at h
      · cases h
      · split at h
        · cases h
        · cases h; exact this
    split at h
    · have sc : ∀ (m : Nat) (q : Nat) (l : List Nat), l.length ≤ m → ∀ d k, scan q l = .ok d k → k + 1 ≤ l.length := by
        intro m
        induction m with
        | zero =>
          intro q l hl d k e
          have : l = [] := List.length_eq_zero_iff.mp (by omega)
          subst this
          cases e
        | succ m ih =>
          intro q l hl d k e
          match l, e with
          | [], e => cases e
          | [x], e =>
            unfold scan at e
            split at e
            · cases e; simp
            · cases e
          | x :: y :: z, e =>
            unfold scan at e
            split at e
            · cases e; simp
            · split at e
              · split at e
                · cases e2 : scan q z with
                  | ok d2 k2 =>
                    rw [e2] at e
                    cases e
                    have := ih q z (by simp at hl; omega) d2 k2 e2
                    simp; omega
                  | end_ => rw [e2] at e; cases e
                  | esc k2 => rw [e2] at e; cases e
                · cases e
              · cases e2 : scan q (y :: z) with
                | ok d2 k2 =>
                  rw [e2] at e
                  cases e
                  have := ih q (y :: z) (by simp at hl; simp; omega) d2 k2 e2
                  simp at this ⊢; omega
                | end_ => rw [e2] at e; cases e
                | esc k2 => rw [e2] at e; cases e
      unfold lexText at h
      cases e2 : scan c r with
      | ok d2 k2 =>
        rw [e2] at h
        cases h
        have := sc _ c r (Nat.le_refl _) d2 k2 e2
        simp; omega
      | end_ => rw [e2] at h; cases h
      | esc k2 => rw [e2] at h; cases h
    · unfold lexSign at h
      cases e2 : sgs.find? (·.isPrefixOf (c :: r)) with
      | none => rw [e2] at h; cases h
      | some s =>
        rw [e2] at h
        cases h
        have m := List.mem_of_find?_eq_some e2
        have p : List.isPrefixOf s (c :: r) = true := List.find?_some (p := fun x => List.isPrefixOf x (c :: r)) e2
        refine ⟨?_, List.IsPrefix.length_le (List.isPrefixOf_iff_prefix.mp p)⟩
        have all : ∀ x ∈ sgs, 1 ≤ x.length := by decide +kernel
        exact all s m
/-! ### the scanner's state; tops first -/
structure St where
  marks : List T
  ind : List Nat
  op : List (List Nat × Nat × Nat)
  many : Nat
def tk (kd : String) (w : T) (l k : Nat) : T := .tup [.str (Str.ofString kd), w, .int (l : Nat), .int (k : Nat)]
def eW : T := .str (Str.ofString "")
def St0 : St := ⟨[], [0], [], 0⟩
def cmpI (st : St) (wd l : Nat) : Except Er St :=
  if st.marks = [] ∧ 0 < wd then .error ⟨.indent, l, wd + 1⟩
  else if st.ind.headD 0 < wd then (if st.ind.length = 11 then .error ⟨.deep, l, wd + 1⟩ else .ok { st with ind := wd :: st.ind, marks := st.marks ++ [tk "indent" eW l (wd + 1)] })
  else
    let i2 := st.ind.dropWhile fun x => decide (wd < x)
    let ms := st.marks ++ (st.ind.takeWhile fun x => decide (wd < x)).map fun _ => tk "dedent" eW l (wd + 1)
    if i2.headD 0 < wd then .error ⟨.indent, l, wd + 1⟩ else .ok { st with ind := i2, marks := ms }
def opens : List (List Nat) := [[40], [91], [123]]
def opOf (w : List Nat) : Option (List Nat) := if w = [41] then some [40] else if w = [93] then some [91] else if w = [125] then some [123] else none
/-- the text of a sign's word -/
def signOf (kd : String) (w : T) : List Nat := match w with
  | .str s => if kd = "sign" then s.cps.toList else []
  | _ => []
def keep (st : St) (kd : String) (w : T) (l k : Nat) : Except Er St :=
  if st.many = 120 then .error ⟨.long, l, k⟩ else
  let sg := signOf kd w
  match opOf sg with
  | some o => (match st.op with
    | [] => .error ⟨.token, l, k⟩
    | t :: r => if t.1 ≠ o then .error ⟨.token, l, k⟩ else .ok { st with op := r, marks := st.marks ++ [tk kd w l k], many := st.many + 1 })
  | none => .ok { st with op := if sg ∈ opens then (sg, l, k) :: st.op else st.op, marks := st.marks ++ [tk kd w l k], many := st.many + 1 }
def goR (l : Nat) : Nat → Nat → Nat → List Nat → St → Except Er (St × Nat)
  | _, _, b, [], st => .ok (st, b)
  | s + 1, a, b, _ :: r, st => goR l s (a + 1) b r st
  | 0, a, b, c :: r, st => if c = 35 then .ok (st, b) else if c = 32 then goR l 0 (a + 1) b r st else
    match (if st.many = 0 then cmpI st a l else .ok st) with
    | .error e => .error e
    | .ok st1 => (match lex (c :: r) with
      | .bad k => .error ⟨.token, l, a + k + 1⟩
      | .ok kd w n => (match keep st1 kd w l (a + 1) with
        | .error e => .error e
        | .ok st2 => goR l (n - 1) (a + 1) (a + n) r st2))
def endR (l : Nat) (p : St × Nat) : St := if 0 < p.1.many ∧ p.1.op = [] then { p.1 with marks := p.1.marks ++ [tk "newline" eW l (p.2 + 1)], many := 0 } else p.1
def rowM (l : Nat) (r : List Nat) (st : St) : Except Er St := match goR l 0 0 0 r st with
  | .error e => .error e
  | .ok p => .ok (endR l p)
def rowsM : Nat → List (List Nat) → St → Except Er St
  | _, [], st => .ok st
  | l, r :: rs, st => match rowM l r st with
    | .error e => .error e
    | .ok st1 => rowsM (l + 1) rs st1
def lineOf : T → Nat
  | .tup [_, _, .int i, _] => i.toNat
  | _ => 0
def closeM (st : St) : Except Er (List T) := match st.op with
  | (_, l, k) :: _ => .error ⟨.token, l, k⟩
  | [] =>
    let l := match st.marks.getLast? with
      | some t => lineOf t + 1
      | none => 1
    .ok (st.marks ++ st.ind.dropLast.map (fun _ => tk "dedent" eW l 1) ++ [tk "end" eW l 1])
/-- the rows of a text -/
def rowsOf : List Nat → List (List Nat)
  | [] => [[]]
  | c :: r => if c = 10 then [] :: rowsOf r else match rowsOf r with
    | x :: xs => (c :: x) :: xs
    | [] => [[c]]
/-- the first sign that is not allowed: its place in a row -/
def firstBad (r : List Nat) : Option Nat := r.findIdx? fun c => !okc c
def badSign : Nat → List (List Nat) → Option Er
  | _, [] => none
  | l, r :: rs => match firstBad r with
    | some k => some ⟨.sign, l, k + 1⟩
    | none => badSign (l + 1) rs
def badLong : Nat → List (List Nat) → Option Er
  | _, [] => none
  | l, r :: rs => if 120 < r.length then some ⟨.long, l, 121⟩ else badLong (l + 1) rs
def tokM (a : List Nat) : Except Er (List T) :=
  if 6000 < a.length then .error ⟨.long, 1, 1⟩ else
  match badSign 1 (rowsOf a) with
  | some e => .error e
  | none => match badLong 1 (rowsOf a) with
    | some e => .error e
    | none => match rowsM 1 (rowsOf a) St0 with
      | .error e => .error e
      | .ok st => closeM st
end TK
set_option Elab.async false
set_option linter.all false
set_option maxRecDepth 100000
set_option maxHeartbeats 4000000
namespace TK
open PySem PySem.Spec PyProof.Rows L2 M14 SX K4
/-- what holds of a scanner's state at every time; n marks at most -/
structure StOk (st : St) (n : Nat) : Prop where
  bot : st.ind.getLast? = some 0
  il : st.ind.length ≤ 11
  ml : st.marks.length ≤ n
  ol : st.op.length ≤ st.marks.length
  my : st.many ≤ 120
theorem StOk.mono {st : St} {n m : Nat} (h : StOk st n) (l : n ≤ m) : StOk st m := ⟨h.bot, h.il, Nat.le_trans h.ml l, h.ol, h.my⟩
theorem stOk0 : StOk St0 0 := ⟨rfl, by decide, Nat.le_refl _, Nat.le_refl _, by decide⟩
theorem drop_last {l : List Nat} {p : Nat → Bool} (h : l.getLast? = some 0) (hp : p 0 = false) : (l.dropWhile p).getLast? = some 0 ∧ l.dropWhile p ≠ [] := by
  induction l with
  | nil => cases h
  | cons x r ih =>
    rw [List.dropWhile_cons]
    split
    · rename_i hx
      cases r with
      | nil =>
        simp at h
        subst h
        rw [hp] at hx
        cases hx
      | cons y r => exact ih (by simpa using h)
    · exact ⟨h, List.cons_ne_nil _ _⟩
theorem cmpI_ok {st st' : St} {n wd l : Nat} (h : StOk st n) (e : cmpI st wd l = .ok st') : StOk st' (n + 11) ∧ st'.many = st.many ∧ st'.op = st.op := by
  unfold cmpI at e
  split at e
  · cases e
  · split at e
    · split at e
      · cases e
      · rename_i h11
        cases e
        have hne : st.ind ≠ [] := fun z => by have := h.bot; rw [z] at this; cases this
        refine ⟨⟨?_, ?_, ?_, ?_, h.my⟩, rfl, rfl⟩
        · show (wd :: st.ind).getLast? = some 0
          rw [List.getLast?_cons_of_ne_nil hne]
          exact h.bot
        · show (wd :: st.ind).length ≤ 11
          have := h.il
          simp; omega
        · show (st.marks ++ _).length ≤ n + 11
          have := h.ml
          simp; omega
        · show st.op.length ≤ (st.marks ++ _).length
          have := h.ol
          simp; omega
    · simp only at e
      split at e
      · cases e
      · cases e
        have d := drop_last (p := fun x => decide (wd < x)) h.bot (by simp)
        refine ⟨⟨d.1, ?_, ?_, ?_, h.my⟩, rfl, rfl⟩
        · show (st.ind.dropWhile _).length ≤ 11
          have := List.Sublist.length_le (List.dropWhile_sublist (p := fun x => decide (wd < x)) (l := st.ind))
          have := h.il
          omega
        · show (st.marks ++ _).length ≤ n + 11
          have := List.Sublist.length_le (List.takeWhile_sublist (p := fun x => decide (wd < x)) (l := st.ind))
          have := h.il
          have := h.ml
          simp; omega
        · show st.op.length ≤ (st.marks ++ _).length
          have := h.ol
          simp; omega
theorem keep_ok {st st' : St} {n l k : Nat} {kd : String} {w : T} (h : StOk st n) (e : keep st kd w l k = .ok st') : StOk st' (n + 1) ∧ 0 < st'.many := by
  unfold keep at e
  have ml := h.ml
  have ol := h.ol
  have my := h.my
  split at e
  · cases e
  · rename_i hm
    simp only at e
    split at e
    · split at e
      · cases e
      · rename_i t r ho
        split at e
        · cases e
        · cases e
          refine ⟨⟨h.bot, h.il, by simp; omega, ?_, by show st.many + 1 ≤ 120; omega⟩, Nat.succ_pos _⟩
          rw [ho] at ol
          simp at ol ⊢
          omega
    · cases e
      refine ⟨⟨h.bot, h.il, by simp; omega, ?_, by show st.many + 1 ≤ 120; omega⟩, Nat.succ_pos _⟩
      show (if _ then _ else _ : List _).length ≤ (st.marks ++ _).length
      split
      · simp; omega
      · simp; omega
theorem goR_skip (l : Nat) : ∀ (s a b : Nat) (r : List Nat) (st : St), goR l s a b r st = goR l 0 (a + s) b (r.drop s) st
  | 0, a, b, r, st => rfl
  | s + 1, a, b, [], st => by
    rw [List.drop_nil]
    unfold goR
    rfl
  | s + 1, a, b, c :: r, st => by
    have := goR_skip l s (a + 1) b r st
    rw [show a + (s + 1) = a + 1 + s by omega, List.drop_succ_cons, ← this]
    rfl
theorem goR_end {l a b : Nat} {st : St} : goR l 0 a b [] st = .ok (st, b) := rfl
theorem goR_hash {l a b : Nat} {r : List Nat} {st : St} : goR l 0 a b (35 :: r) st = .ok (st, b) := by unfold goR; rw [if_pos rfl]
theorem goR_sp {l a b : Nat} {r : List Nat} {st : St} : goR l 0 a b (32 :: r) st = goR l 0 (a + 1) b r st := by
  rw [goR, if_neg (by decide), if_pos rfl]
def indE (st : St) (a l : Nat) : Except Er St := if st.many = 0 then cmpI st a l else .ok st
theorem goR_indE {l a b c : Nat} {r : List Nat} {st : St} {e : Er} (h1 : c ≠ 35) (h2 : c ≠ 32) (h : indE st a l = .error e) : goR l 0 a b (c :: r) st = .error e := by
  unfold indE at h
  rw [goR, if_neg h1, if_neg h2, h]
theorem goR_lex {l a b c k : Nat} {r : List Nat} {st st1 : St} (h1 : c ≠ 35) (h2 : c ≠ 32) (h : indE st a l = .ok st1) (hx : lex (c :: r) = .bad k) : goR l 0 a b (c :: r) st = .error ⟨.token, l, a + k + 1⟩ := by
  unfold indE at h
  rw [goR, if_neg h1, if_neg h2, h]
  simp only [hx]
theorem goR_keepE {l a b c n : Nat} {kd : String} {w : T} {r : List Nat} {st st1 : St} {e : Er} (h1 : c ≠ 35) (h2 : c ≠ 32) (h : indE st a l = .ok st1) (hx : lex (c :: r) = .ok kd w n) (hk : keep st1 kd w l (a + 1) = .error e) : goR l 0 a b (c :: r) st = .error e := by
  unfold indE at h
  rw [goR, if_neg h1, if_neg h2, h]
  simp only [hx, hk]
theorem goR_keep {l a b c n : Nat} {kd : String} {w : T} {r : List Nat} {st st1 st2 : St} (h1 : c ≠ 35) (h2 : c ≠ 32) (h : indE st a l = .ok st1) (hx : lex (c :: r) = .ok kd w n) (hk : keep st1 kd w l (a + 1) = .ok st2) : goR l 0 a b (c :: r) st = goR l 0 (a + n) (a + n) ((c :: r).drop n) st2 := by
  have hn := (lex_pos hx).1
  unfold indE at h
  rw [goR, if_neg h1, if_neg h2, h]
  simp only [hx, hk]
  rw [goR_skip]
  obtain ⟨m, rfl⟩ : ∃ m, n = m + 1 := ⟨n - 1, by omega⟩
  rw [List.drop_succ_cons, Nat.add_sub_cancel, show a + 1 + m = a + (m + 1) by omega]
end TK
set_option Elab.async false
set_option linter.all false
set_option maxRecDepth 100000
set_option maxHeartbeats 4000000
/-! drawn pages: the scanner along a row that is laid word by word; plain -/
namespace TK
open PySem PySem.Spec PyProof.Rows L2 M14 SX K4
/-- r behind the word sp leaves it as it is -/
def NoJoin (sp r : List Nat) : Prop := (∀ c, r.head? = some c → isNc (sp.getLastD 0) = true → isNc c = false) ∧ ∀ s ∈ sgs, sp.length < s.length → s.isPrefixOf (sp ++ r) = false
/-- the word sp of the kind kd -/
structure Wd (kd : String) (w : T) (sp : List Nat) : Prop where
  ne : sp ≠ []
  lx : ∀ r, NoJoin sp r → lex (sp ++ r) = .ok kd w sp.length
  hd : ∀ c r, sp = c :: r → c ≠ 35 ∧ c ≠ 32
  sl : sp ≠ [47]
  le : sp.length ≤ 40
  ch : ∀ c ∈ sp, okc c = true ∧ c ≠ 10
/-- r may follow what stands in a row whose last word is bf (none: bf = []) -/
def Adm (bf r : List Nat) : Prop := bf = [] ∨ NoJoin bf r
theorem sgs_no {c : Nat} (h : c = 32 ∨ c = 35) : ∀ s ∈ sgs, c ∉ s := by
  rcases h with rfl | rfl <;> decide +kernel
theorem nj_nil {sp : List Nat} : NoJoin sp [] := by
  refine ⟨fun c h => (by cases h), fun s m l => ?_⟩
  rw [List.append_nil]
  cases e : s.isPrefixOf sp with
  | false => rfl
  | true =>
    have := List.IsPrefix.length_le (List.isPrefixOf_iff_prefix.mp e)
    omega
theorem nj_sign {sp r : List Nat} {c : Nat} (h : c = 32 ∨ c = 35) : NoJoin sp (c :: r) := by
  refine ⟨fun d e _ => ?_, fun s m l => ?_⟩
  · cases e
    rcases h with rfl | rfl <;> decide
  · cases e : s.isPrefixOf (sp ++ c :: r) with
    | false => rfl
    | true =>
      exfalso
      obtain ⟨t, ht⟩ := List.isPrefixOf_iff_prefix.mp e
      have h0 : (s ++ t)[sp.length]? = some c := by
        rw [ht, List.getElem?_append_right (Nat.le_refl _), Nat.sub_self]
        rfl
      rw [List.getElem?_append_left l] at h0
      exact sgs_no h s m (List.mem_of_getElem? h0)
theorem Adm.nil {bf : List Nat} : Adm bf [] := .inr nj_nil
theorem Adm.sign {bf r : List Nat} {c : Nat} (h : c = 32 ∨ c = 35) : Adm bf (c :: r) := .inr (nj_sign h)
/-- what the law asks before it leaves no space -/
theorem nj_of {bf sp r : List Nat} (hb : bf ≠ [47]) (hn : bf ≠ []) (hs : sp ≠ []) (h1 : ¬ (isNc (bf.getLastD 0) = true ∧ isNc (sp.headD 0) = true)) (h2 : ∀ s ∈ sgs, bf.length < s.length → (bf ++ sp).take s.length ≠ s) : NoJoin bf (sp ++ r) := by
  obtain ⟨c, t, rfl⟩ := List.exists_cons_of_ne_nil hs
  refine ⟨fun d e l => ?_, fun s m l => ?_⟩
  · cases e
    cases e2 : isNc c with
    | false => rfl
    | true => exact absurd ⟨l, e2⟩ h1
  · cases e : s.isPrefixOf (bf ++ (c :: t ++ r)) with
    | false => rfl
    | true =>
      exfalso
      obtain ⟨u, hu⟩ := List.isPrefixOf_iff_prefix.mp e
      have s3 : ∀ x ∈ sgs, x.length ≤ 3 ∧ (x.length = 3 → x.take 1 = [47]) := by decide +kernel
      by_cases hl : s.length ≤ (bf ++ c :: t).length
      · refine h2 s m l ?_
        have : (bf ++ (c :: t ++ r)).take s.length = s := by rw [← hu, List.take_left' rfl]
        rw [← List.append_assoc, List.take_append_of_le_length hl] at this
        exact this
      · have l3 := s3 s m
        rw [List.length_append, List.length_cons] at hl
        have hb1 : 0 < bf.length := List.length_pos_iff.mpr hn
        have e1 : bf.length = 1 := by omega
        have e3 : s.length = 3 := by omega
        have t1 := l3.2 e3
        have : (s ++ u).take 1 = bf := by
          rw [hu, List.take_append_of_le_length (by omega), List.take_of_length_le (by omega)]
        rw [List.take_append_of_le_length (by omega), t1] at this
        exact hb this.symm
/-- the row that is being laid: the row's number l, its state at the row's begin, what stands in it, its last word (none behind a space), the state behind it, the place behind its last word -/
def Cur (l : Nat) (stR : St) (cur bf : List Nat) (st : St) (b : Nat) : Prop := ∀ r, Adm bf r → goR l 0 0 0 (cur ++ r) stR = goR l 0 cur.length b r st
theorem Cur.new {l : Nat} {st : St} : Cur l st [] [] st 0 := fun r _ => rfl
theorem goR_sps {l b : Nat} {st : St} : ∀ (n a : Nat) (r : List Nat), goR l 0 a b (List.replicate n 32 ++ r) st = goR l 0 (a + n) b r st
  | 0, a, r => rfl
  | n + 1, a, r => by
    rw [List.replicate_succ, List.cons_append, goR_sp, goR_sps n (a + 1) r, show a + 1 + n = a + (n + 1) by omega]
theorem Cur.sps {l b n : Nat} {stR st : St} {cur bf : List Nat} (h : Cur l stR cur bf st b) (hn : 0 < n) : Cur l stR (cur ++ List.replicate n 32) [] st b := fun r _ => by
  have a : Adm bf (List.replicate n 32 ++ r) := by
    obtain ⟨m, rfl⟩ : ∃ m, n = m + 1 := ⟨n - 1, by omega⟩
    exact .sign (.inl rfl)
  rw [List.append_assoc, h _ a, goR_sps, List.length_append, List.length_replicate]
/-- no space or some -/
theorem Cur.gap {l b n : Nat} {stR st : St} {cur bf : List Nat} (h : Cur l stR cur bf st b) : Cur l stR (cur ++ List.replicate n 32) (if n = 0 then bf else []) st b := by
  split
  · rename_i e
    subst e
    rw [List.replicate_zero, List.append_nil]
    exact h
  · exact h.sps (by omega)
theorem Cur.put {l b : Nat} {stR st st1 st2 : St} {cur bf sp : List Nat} {kd : String} {w : T} (h : Cur l stR cur bf st b) (d : Wd kd w sp) (a : ∀ r, Adm bf (sp ++ r)) (hi : indE st cur.length l = .ok st1) (hk : keep st1 kd w l (cur.length + 1) = .ok st2) : Cur l stR (cur ++ sp) sp st2 (cur ++ sp).length := fun r hr => by
  obtain ⟨c, t, e⟩ := List.exists_cons_of_ne_nil d.ne
  have hc := d.hd c t e
  have hx : lex (sp ++ r) = .ok kd w sp.length := d.lx r (hr.elim (fun z => absurd z d.ne) id)
  rw [List.append_assoc, h _ (a r)]
  have e2 : sp ++ r = c :: (t ++ r) := by rw [e]; rfl
  rw [e2] at hx ⊢
  rw [goR_keep hc.1 hc.2 hi hx hk, ← e2, List.drop_left' rfl, List.length_append]
/-- the row ends: spaces, a comment or none -/
theorem Cur.end_ {l b n : Nat} {stR st : St} {cur bf cm : List Nat} (h : Cur l stR cur bf st b) (hc : cm = [] ∨ ∃ t, cm = 35 :: t) : rowM l (cur ++ List.replicate n 32 ++ cm) stR = .ok (endR l (st, b)) := by
  have a : Adm (if n = 0 then bf else []) cm := by
    rcases hc with rfl | ⟨t, rfl⟩
    · exact .nil
    · exact .sign (.inr rfl)
  unfold rowM
  rw [h.gap cm a]
  rcases hc with rfl | ⟨t, rfl⟩
  · rfl
  · rw [goR_hash]
theorem rowsM_snoc {r : List Nat} : ∀ {rs : List (List Nat)} {l : Nat} {st st1 : St}, rowsM l rs st = .ok st1 → rowsM l (rs ++ [r]) st = match rowM (l + rs.length) r st1 with
    | .error e => .error e
    | .ok st2 => .ok st2
  | [], l, st, st1, h => by
    cases h
    rw [List.nil_append, rowsM]
    rw [show l + ([] : List (List Nat)).length = l from rfl]
    cases rowM l r st with
    | error e => rfl
    | ok s => rfl
  | x :: rs, l, st, st1, h => by
    rw [rowsM] at h
    rw [List.cons_append, rowsM]
    cases e : rowM l x st with
    | error y => rw [e] at h; cases h
    | ok s =>
      rw [e] at h
      have := rowsM_snoc (r := r) (rs := rs) (l := l + 1) (st := s) (st1 := st1) h
      simp only
      rw [this, List.length_cons, show l + 1 + rs.length = l + (rs.length + 1) by omega]
/-- a row without words -/
theorem blank_row {l n : Nat} {st : St} {cm : List Nat} (hm : st.many = 0 ∨ st.op ≠ []) (hc : cm = [] ∨ ∃ t, cm = 35 :: t) : rowM l (List.replicate n 32 ++ cm) st = .ok st := by
  have := (Cur.new (l := l) (st := st)).end_ (n := n) hc
  rw [List.nil_append] at this
  rw [this]
  unfold endR
  rw [if_neg]
  rintro ⟨h1, h2⟩
  rcases hm with h | h
  · exact absurd h1 (by show ¬ 0 < st.many; omega)
  · exact h h2
end TK
set_option Elab.async false
set_option linter.all false
set_option maxRecDepth 100000
set_option maxHeartbeats 4000000
/-! drawn pages: rows joined, what tokens makes of them; plain -/
namespace TK
open PySem PySem.Spec PyProof.Rows L2 M14 SX K4
theorem rowsOf_one : ∀ {a : List Nat}, 10 ∉ a → rowsOf a = [a]
  | [], _ => rfl
  | c :: r, h => by
    have hc : c ≠ 10 := fun e => h (by rw [e]; exact List.mem_cons_self)
    have hr := rowsOf_one (a := r) fun m => h (List.mem_cons_of_mem _ m)
    rw [rowsOf, if_neg hc, hr]
theorem rowsOf_nl : ∀ {a b : List Nat}, 10 ∉ a → rowsOf (a ++ 10 :: b) = a :: rowsOf b
  | [], b, _ => by
    rw [List.nil_append, rowsOf, if_pos rfl]
  | c :: r, b, h => by
    have hc : c ≠ 10 := fun e => h (by rw [e]; exact List.mem_cons_self)
    have hr := rowsOf_nl (a := r) (b := b) fun m => h (List.mem_cons_of_mem _ m)
    rw [List.cons_append, rowsOf, if_neg hc, hr]
theorem rowsOf_join {t : List Nat} : ∀ {rs : List (List Nat)}, rs ≠ [] → (∀ r ∈ rs, 10 ∉ r) → t = [] ∨ t = [10] → rowsOf (TL.joinL [10] rs ++ t) = rs ++ (if t = [] then [] else [[]])
  | [], h, _, _ => absurd rfl h
  | [r], _, h, ht => by
    have h1 := h r List.mem_cons_self
    have e : TL.joinL [10] [r] = r := by unfold TL.joinL; simp
    rw [e]
    rcases ht with rfl | rfl
    · rw [List.append_nil, rowsOf_one h1]
      rfl
    · rw [rowsOf_nl h1]
      rfl
  | r :: r2 :: rs, _, h, ht => by
    have h1 := h r List.mem_cons_self
    have e : TL.joinL [10] (r :: r2 :: rs) = r ++ 10 :: TL.joinL [10] (r2 :: rs) := by
      rw [TL.joinL]
      simp
    rw [e, List.append_assoc, List.cons_append, rowsOf_nl h1, rowsOf_join (List.cons_ne_nil _ _) (fun x m => h x (List.mem_cons_of_mem _ m)) ht]
    rfl
def okRow (r : List Nat) : Prop := r.length ≤ 120 ∧ ∀ c ∈ r, okc c = true ∧ c ≠ 10
def totR (rs : List (List Nat)) : Nat := (rs.map fun r => r.length + 1).sum
theorem join_len : ∀ {rs : List (List Nat)}, (TL.joinL [10] rs).length ≤ totR rs
  | [] => Nat.zero_le _
  | [r] => by
    have e : TL.joinL [10] [r] = r := by unfold TL.joinL; simp
    rw [e]
    unfold totR
    simp
  | r :: r2 :: rs => by
    have e : TL.joinL [10] (r :: r2 :: rs) = r ++ 10 :: TL.joinL [10] (r2 :: rs) := by
      rw [TL.joinL]
      simp
    have := join_len (rs := r2 :: rs)
    rw [e]
    unfold totR at this ⊢
    simp at this ⊢
    omega
theorem badSign_ok {l : Nat} : ∀ {rs : List (List Nat)}, (∀ r ∈ rs, ∀ c ∈ r, okc c = true) → badSign l rs = none
  | [], _ => rfl
  | r :: rs, h => by
    have e : firstBad r = none := by
      unfold firstBad
      rw [List.findIdx?_eq_none_iff]
      intro c m
      rw [h r List.mem_cons_self c m]
      rfl
    rw [badSign, e]
    exact badSign_ok fun x m => h x (List.mem_cons_of_mem _ m)
theorem badLong_ok {l : Nat} : ∀ {rs : List (List Nat)}, (∀ r ∈ rs, r.length ≤ 120) → badLong l rs = none
  | [], _ => rfl
  | r :: rs, h => by
    have := h r List.mem_cons_self
    rw [badLong, if_neg (by omega)]
    exact badLong_ok fun x m => h x (List.mem_cons_of_mem _ m)
/-- a finished page -/
theorem page_tok {rs : List (List Nat)} {t : List Nat} {st : St} (hr : ∀ r ∈ rs, okRow r) (hl : totR rs ≤ 5999) (ht : t = [] ∨ t = [10]) (e : rowsM 1 rs St0 = .ok st) (hm : st.many = 0) (ho : st.op = []) : tokM (TL.joinL [10] rs ++ t) = .ok (st.marks ++ st.ind.dropLast.map (fun _ => tk "dedent" eW (match st.marks.getLast? with | some t => lineOf t + 1 | none => 1) 1) ++ [tk "end" eW (match st.marks.getLast? with | some t => lineOf t + 1 | none => 1) 1]) := by
  have blank : rowM (1 + rs.length) [] st = .ok st := by
    have := blank_row (l := 1 + rs.length) (n := 0) (cm := []) (st := st) (.inl hm) (.inl rfl)
    exact this
  have h0 : ∃ rs2, rowsOf (TL.joinL [10] rs ++ t) = rs2 ∧ (∀ r ∈ rs2, okRow r) ∧ rowsM 1 rs2 St0 = .ok st := by
    refine ⟨_, rfl, ?_⟩
    by_cases hn : rs = []
    · subst hn
      have ej : TL.joinL [10] [] = [] := rfl
      have e2 : st = St0 := by cases e; rfl
      subst e2
      rw [ej, List.nil_append]
      rcases ht with rfl | rfl
      · refine ⟨fun r m => ?_, rfl⟩
        have : r = [] := by
          have : rowsOf [] = [[]] := rfl
          rw [this] at m
          exact List.mem_singleton.mp m
        rw [this]
        exact ⟨Nat.zero_le _, fun c m => nomatch m⟩
      · have e3 : rowsOf [10] = [[], []] := rfl
        rw [e3]
        refine ⟨fun r m => ?_, rfl⟩
        have : r = [] := by simpa using m
        rw [this]
        exact ⟨Nat.zero_le _, fun c m => nomatch m⟩
    · rw [rowsOf_join hn (fun r m => fun z => (hr r m).2 10 z |>.2 rfl) ht]
      rcases ht with rfl | rfl
      · rw [if_pos rfl, List.append_nil]
        exact ⟨hr, e⟩
      · rw [if_neg (by decide)]
        refine ⟨fun r m => ?_, ?_⟩
        · rcases List.mem_append.mp m with m | m
          · exact hr r m
          · rw [List.mem_singleton.mp m]
            exact ⟨Nat.zero_le _, fun c m => nomatch m⟩
        · rw [rowsM_snoc e, blank]
  obtain ⟨rs2, e1, o2, e2⟩ := h0
  have ll : (TL.joinL [10] rs ++ t).length ≤ 6000 := by
    have := join_len (rs := rs)
    rw [List.length_append]
    rcases ht with rfl | rfl <;> simp <;> omega
  unfold tokM
  rw [if_neg (by omega), e1, badSign_ok (fun r m c mc => ((o2 r m).2 c mc).1)]
  simp only
  rw [badLong_ok fun r m => (o2 r m).1]
  simp only
  rw [e2]
  simp only
  unfold closeM
  rw [ho] <;> rfl
end TK
set_option Elab.async false
set_option linter.all false
set_option maxRecDepth 100000
set_option maxHeartbeats 4000000
/-! the words that are drawn; plain -/
namespace TK
open PySem PySem.Spec PyProof.Rows L2 M14 SX K4
theorem tw_app {p : Nat → Bool} : ∀ {l r : List Nat}, (∀ c ∈ l, p c = true) → (∀ c, r.head? = some c → p c = false) → (l ++ r).takeWhile p = l
  | [], [], _, _ => rfl
  | [], c :: r, _, h => by
    rw [List.nil_append, List.takeWhile_cons, if_neg (by rw [h c rfl]; exact Bool.false_ne_true)]
  | c :: l, r, h, g => by
    rw [List.cons_append, List.takeWhile_cons, if_pos (h c List.mem_cons_self), tw_app (fun x m => h x (List.mem_cons_of_mem _ m)) g]
theorem last_mem {l : List Nat} (h : l ≠ []) : l.getLastD 0 ∈ l := by
  cases l with
  | nil => exact absurd rfl h
  | cons c r =>
    rw [List.getLastD_cons]
    rw [List.getLastD_eq_getLast?]
    cases e : r.getLast? with
    | none => simp
    | some x => exact List.mem_cons_of_mem _ (List.mem_of_getLast? e)
theorem isDig_nc {c : Nat} (h : isDig c = true) : isNc c = true := by unfold isNc; rw [h, Bool.or_true]
theorem nc_okc {c : Nat} (h : isNc c = true) : okc c = true ∧ c ≠ 10 ∧ c ≠ 35 ∧ c ≠ 32 := by
  have hr : c < 123 := by
    unfold isNc isNs isDig at h
    simp only [Bool.or_eq_true, Bool.and_eq_true, decide_eq_true_eq] at h
    omega
  have all : ∀ x, x < 123 → isNc x = true → okc x = true ∧ x ≠ 10 ∧ x ≠ 35 ∧ x ≠ 32 := by decide +kernel
  exact all c hr h
theorem wd_name {c : Nat} {t : List Nat} (hc : isNs c = true) (ht : ∀ x ∈ t, isNc x = true) (hl : (c :: t).length ≤ 30) : Wd (if c :: t ∈ kws then "keyword" else "name") (.str (S (c :: t))) (c :: t) := by
  have all : ∀ x ∈ c :: t, isNc x = true := fun x m => by
    rcases List.mem_cons.mp m with rfl | m
    · unfold isNc; rw [hc]; rfl
    · exact ht x m
  refine ⟨List.cons_ne_nil _ _, fun r hr => ?_, fun d u e => ?_, fun e => ?_, by omega, fun x m => ⟨(nc_okc (all x m)).1, (nc_okc (all x m)).2.1⟩⟩
  · have ew : (c :: t ++ r).takeWhile isNc = c :: t := tw_app all fun d e => hr.1 d e (all _ (last_mem (List.cons_ne_nil _ _)))
    rw [List.cons_append, lex, if_pos hc]
    rw [List.cons_append] at ew
    unfold lexName
    simp only [ew]
    rw [if_neg (by omega)]
    split <;> rfl
  · cases e
    have := nc_okc (all _ List.mem_cons_self)
    exact ⟨this.2.2.1, this.2.2.2⟩
  · have := all 47 (by rw [e]; exact List.mem_cons_self)
    revert this
    decide
theorem wd_num {ds : List Nat} (hd : ∀ c ∈ ds, isDig c = true) (hne : ds ≠ []) (h0 : ds = [48] ∨ ds.head? ≠ some 48) (hl : ds.length ≤ 40) : Wd "number" (.int (NumText.digitsVal ds)) ds := by
  have all : ∀ x ∈ ds, isNc x = true := fun x m => isDig_nc (hd x m)
  obtain ⟨c, t, rfl⟩ := List.exists_cons_of_ne_nil hne
  have hc := hd c List.mem_cons_self
  refine ⟨hne, fun r hr => ?_, fun d u e => ?_, fun e => ?_, hl, fun x m => ⟨(nc_okc (all x m)).1, (nc_okc (all x m)).2.1⟩⟩
  · have nj : ∀ d, r.head? = some d → isNc d = false := fun d e => hr.1 d e (all _ (last_mem hne))
    have ew : (c :: t ++ r).takeWhile isDig = c :: t := tw_app hd fun d e => by
      cases e2 : isDig d with
      | false => rfl
      | true => rw [← nj d e, isDig_nc e2]
    have ns : isNs c = false := by
      cases e : isNs c with
      | false => rfl
      | true =>
        unfold isNs at e
        unfold isDig at hc
        simp only [Bool.or_eq_true, Bool.and_eq_true, decide_eq_true_eq] at e hc
        omega
    rw [List.cons_append, lex, if_neg (by rw [ns]; exact Bool.false_ne_true), if_pos hc]
    rw [List.cons_append] at ew
    unfold lexNum
    simp only [ew]
    rw [if_neg, ← List.cons_append, List.drop_left' rfl, if_neg]
    · cases r with
      | nil => exact Bool.false_ne_true
      | cons d r =>
        have := nj d rfl
        unfold isNc at this
        rw [Bool.or_eq_false_iff] at this
        show ¬ isNs d = true
        rw [this.1]
        exact Bool.false_ne_true
    · rintro (z | ⟨z1, z2⟩)
      · omega
      · rcases h0 with h0 | h0
        · rw [h0] at z1
          exact absurd z1 (by decide)
        · exact h0 z2
  · cases e
    have := nc_okc (all _ List.mem_cons_self)
    exact ⟨this.2.2.1, this.2.2.2⟩
  · have := all 47 (by rw [e]; exact List.mem_cons_self)
    revert this
    decide
theorem wd_sign {s : List Nat} (m : s ∈ sgs) : Wd "sign" (.str (S s)) s := by
  have f1 : ∀ x ∈ sgs, x ≠ [] ∧ x.length ≤ 3 ∧ x ≠ [47] ∧ (∀ c ∈ x, okc c = true ∧ c ≠ 10) ∧ ∀ c ∈ x.head?, isNs c = false ∧ isDig c = false ∧ ¬ (c = 34 ∨ c = 39) ∧ c ≠ 35 ∧ c ≠ 32 := by decide +kernel
  obtain ⟨h1, h2, h3, h4, h5⟩ := f1 s m
  obtain ⟨c, t, rfl⟩ := List.exists_cons_of_ne_nil h1
  have h5 := h5 c rfl
  refine ⟨h1, fun r hr => ?_, fun d u e => ?_, h3, by omega, h4⟩
  · rw [List.cons_append, lex, if_neg (by rw [h5.1]; exact Bool.false_ne_true), if_neg (by rw [h5.2.1]; exact Bool.false_ne_true), if_neg h5.2.2.1, ← List.cons_append]
    have pm : (c :: t).isPrefixOf (c :: t ++ r) = true := List.isPrefixOf_iff_prefix.mpr (List.prefix_append _ _)
    cases e : sgs.find? (·.isPrefixOf (c :: t ++ r)) with
    | none =>
      rw [List.find?_eq_none] at e
      exact absurd pm (e _ m)
    | some s2 =>
      have ps : s2.isPrefixOf (c :: t ++ r) = true := List.find?_some (p := fun x => List.isPrefixOf x (c :: t ++ r)) e
      have ms : s2 ∈ sgs := List.mem_of_find?_eq_some e
      have le : ¬ (c :: t).length < s2.length := fun z => by
        rw [hr.2 s2 ms z] at ps
        cases ps
      have ge : (c :: t).length ≤ s2.length := flen pw m pm e
      have e2 : s2 = c :: t := by
        have p1 := List.isPrefixOf_iff_prefix.mp ps
        have p2 := List.isPrefixOf_iff_prefix.mp pm
        have := (List.prefix_of_prefix_length_le p1 p2 (by omega)).eq_of_length (by omega)
        exact this
      unfold lexSign
      rw [e, e2]
  · cases e
    exact ⟨h5.2.2.2.1, h5.2.2.2.2⟩
where
  pw : sgs.Pairwise (fun s t => t.length ≤ s.length) := by decide +kernel
  flen {p : List Nat → Bool} {x s : List Nat} {L : List (List Nat)} (h : L.Pairwise (fun s t => t.length ≤ s.length)) (m : x ∈ L) (hp : p x = true) (e : L.find? p = some s) : x.length ≤ s.length := by
    induction L with
    | nil => cases m
    | cons y L ih =>
      rw [List.find?_cons] at e
      split at e
      · cases e
        rcases List.mem_cons.mp m with rfl | m
        · exact Nat.le_refl _
        · exact (List.pairwise_cons.mp h).1 x m
      · rename_i hy
        rcases List.mem_cons.mp m with rfl | m
        · rw [hp] at hy; cases hy
        · exact ih (List.pairwise_cons.mp h).2 m e
/-- a text's spelled signs so far -/
def TxB (q : Nat) (d body : List Nat) : Prop := ∀ r d' k, scan q r = .ok d' k → scan q (body ++ r) = .ok (d ++ d') (body.length + k)
theorem TxB.nil {q : Nat} : TxB q [] [] := fun r d' k h => by
  rw [List.nil_append, h, List.nil_append]
  show Sc.ok d' k = Sc.ok d' (0 + k)
  rw [Nat.zero_add]
theorem TxB.snoc {q c : Nat} {d body sp : List Nat} (h : TxB q d body) (s : TxB q [c] sp) : TxB q (d ++ [c]) (body ++ sp) := fun r d' k e => by
  rw [List.append_assoc, h _ _ _ (s r d' k e), List.append_assoc, List.length_append, Nat.add_assoc]
theorem scan_ne {q : Nat} {r d : List Nat} {k : Nat} (h : scan q r = .ok d k) : r ≠ [] := by
  rintro rfl
  cases h
theorem TxB.plain {q c : Nat} (h1 : c ≠ q) (h2 : c ≠ 92) : TxB q [c] [c] := fun r d' k e => by
  obtain ⟨x, t, rfl⟩ := List.exists_cons_of_ne_nil (scan_ne e)
  show scan q (c :: x :: t) = _
  rw [scan, if_neg h1, if_neg h2, e]
  show Sc.ok (c :: d') (k + 1) = Sc.ok ([c] ++ d') (1 + k)
  rw [Nat.add_comm]
  rfl
theorem TxB.esc {q e0 : Nat} (hq : q ≠ 92) (he : isEs e0 = true) : TxB q [dcE e0] [92, e0] := fun r d' k e => by
  show scan q (92 :: e0 :: r) = _
  rw [scan, if_neg (Ne.symm hq), if_pos rfl, if_pos he, e]
  show Sc.ok (dcE e0 :: d') (k + 2) = Sc.ok ([dcE e0] ++ d') (2 + k)
  rw [Nat.add_comm]
  rfl
theorem wd_text {q : Nat} {d body : List Nat} (hq : q = 34 ∨ q = 39) (h : TxB q d body) (hl : body.length ≤ 38) (hb : ∀ c ∈ body, okc c = true ∧ c ≠ 10) : Wd "text" (.str (S d)) (q :: body ++ [q]) := by
  have hqc : isNs q = false ∧ isDig q = false ∧ okc q = true ∧ q ≠ 10 ∧ q ≠ 35 ∧ q ≠ 32 := by rcases hq with rfl | rfl <;> decide
  refine ⟨by simp, fun r _ => ?_, fun c u e => ?_, fun e => ?_, by simp; omega, fun c m => ?_⟩
  · have e1 : q :: body ++ [q] ++ r = q :: (body ++ q :: r) := by simp
    have s0 : scan q (q :: r) = .ok [] 0 := by
      cases r with
      | nil => rw [scan, if_pos rfl]
      | cons x t => rw [scan, if_pos rfl]
    rw [e1, lex, if_neg (by rw [hqc.1]; exact Bool.false_ne_true), if_neg (by rw [hqc.2.1]; exact Bool.false_ne_true), if_pos hq]
    unfold lexText
    rw [h _ _ _ s0, List.append_nil]
    show Lx.ok "text" (.str (S d)) (body.length + 0 + 2) = _
    simp
  · rw [List.cons_append] at e
    have : q = c := (List.cons.inj e).1
    rw [← this]
    exact ⟨hqc.2.2.2.2.1, hqc.2.2.2.2.2⟩
  · have := congrArg List.length e
    simp at this
  · simp only [List.cons_append, List.mem_cons, List.mem_append, List.not_mem_nil, or_false] at m
    rcases m with rfl | m | rfl
    · exact ⟨hqc.2.2.1, hqc.2.2.2.1⟩
    · exact hb c m
    · exact ⟨hqc.2.2.1, hqc.2.2.2.1⟩
end TK
set_option Elab.async false
set_option linter.all false
set_option maxRecDepth 100000
set_option maxHeartbeats 4000000
/-! Objects and dicts: readings by name. -/
namespace M14
open PySem PySem.Spec PyProof.Rows L2
@[irreducible] def rxFld (K : PySem.W.Frag) (f : Str) (x : V) (H : Hp) (Q : VK) : Prop := ∃ a C dx fs v, x = .ref a ∧ H a = some (.ins C dx fs) ∧ Cls K C ∧ NoAttr K C f ∧ fs.lookup f = some v ∧ Q v H
def tFldx (K : PySem.W.Frag) (ta : TE) (f : Str) : TE := fun σ H Q => ta σ H fun x H1 => rxFld K f x H1 Q
@[irreducible] def rxPutF (K : PySem.W.Frag) (f : Str) (x y : V) (H : Hp) (R : Hp → Prop) : Prop := ∃ a C dx fs, x = .ref a ∧ H a = some (.ins C dx fs) ∧ Cls K C ∧ NoAttr K C f ∧ fs.length < 1000 ∧ R (upd H a (.ins C dx (putF f y fs)))
def sFldx (K : PySem.W.Frag) (ta tv : TE) (f : Str) : TS := fun D σ H => tv σ H fun y H1 => ta σ H1 fun x H2 => rxPutF K f x y H2 (D.nx σ)
@[irreducible] def rxPut2 (f : Str) (a C : Addr) (z : V) (H : Hp) (R : Hp → Prop) : Prop := ∃ dx fs, H a = some (.ins C dx fs) ∧ fs.length < 1000 ∧ R (upd H a (.ins C dx (putF f z fs)))
@[irreducible] def rxAug (K : PySem.W.Frag) (f : Str) (x : V) (H : Hp) (g : V → VK → Prop) (R : Hp → Prop) : Prop := ∃ a C dx fs v, x = .ref a ∧ H a = some (.ins C dx fs) ∧ Cls K C ∧ NoAttr K C f ∧ fs.lookup f = some v ∧ g v fun z H3 => rxPut2 f a C z H3 R
def sFldAugx (K : PySem.W.Frag) (ta tv : TE) (rd : V → V → Hp → VK → Prop) (f : Str) : TS := fun D σ H => ta σ H fun x H1 => rxAug K f x H1 (fun v R => tv σ H1 fun y H2 => rd v y H2 R) (D.nx σ)
@[irreducible] def rxDGet (x y : V) (H : Hp) (Q : VK) : Prop := ∃ a v, x = .ref a ∧ DGet H a y (some v) ∧ Q v H
def tDGetx (td ty : TE) : TE := fun σ H Q => td σ H fun x H1 => ty σ H1 fun y H2 => rxDGet x y H2 Q
@[irreducible] def rxDPut (x y v : V) (H : Hp) (R : Hp → Prop) : Prop := ∃ a H4, x = .ref a ∧ DPut H a y v H4 ∧ R H4
def sDPutx (td ty tv : TE) : TS := fun D σ H => tv σ H fun v H1 => td σ H1 fun x H2 => ty σ H2 fun y H3 => rxDPut x y v H3 (D.nx σ)
@[irreducible] def rxMk (C : Addr) (sp : Sp) (E : XK) (vs : List V) (H : Hp) (Q : VK) : Prop := ∀ x dx, H x = none → H dx = none → dx ≠ x → sp (.ref x :: vs) (upd (upd H dx (.own x)) x (.ins C dx [])) (fun v H2 => v = .non ∧ Q (.ref x) H2) E
def tMakex (C : Addr) (sp : Sp) (E : XK) (t : TA) : TE := fun σ H Q => t σ H fun vs H1 => rxMk C sp E vs H1 Q
@[irreducible] def rxMth (C : Addr) (m : Str) (x : V) (H : Hp) (R : Prop) : Prop := ∃ a dx fs, x = .ref a ∧ H a = some (.ins C dx fs) ∧ fs.lookup m = none ∧ R
def tMethx (C : Addr) (m : Str) (sp : Sp) (E : XK) (ta : TE) (t : TA) : TE := fun σ H Q => ta σ H fun x H1 => rxMth C m x H1 (t σ H1 fun vs H2 => sp (x :: vs) H2 Q E)
@[irreducible] def rxLenD (xs : List V) (H : Hp) (Q : VK) : Prop := ∃ a kvs, xs = [V.ref a] ∧ H a = some (.dK kvs) ∧ Q (.int kvs.length) H
@[irreducible] def rxDNI (y x : V) (H : Hp) (Q : VK) : Prop := ∃ a o, x = .ref a ∧ DGet H a y o ∧ Q (.bl (!o.isSome)) H
def tDNotInx (ty td : TE) : TE := fun σ H Q => ty σ H fun y H1 => td σ H1 fun x H2 => rxDNI y x H2 Q
@[irreducible] def rxDI (y x : V) (H : Hp) (Q : VK) : Prop := ∃ a o, x = .ref a ∧ DGet H a y o ∧ Q (.bl o.isSome) H
def tDInx (ty td : TE) : TE := fun σ H Q => ty σ H fun y H1 => td σ H1 fun x H2 => rxDI y x H2 Q
@[irreducible] def rxAddI : V → V → Hp → VK → Prop := rAdd
section
variable {X : Cx} {o e value i : Expr} {es : List Expr} {f m x : Str} {p pos pos' tpos apos : Pos} {ta tv td ty : TE} {t : TA} {sp : Sp} {C : Addr} {k : Nat} {ps : List Str}
theorem pe_fldx (K : PySem.W.Frag) (he : PE X e ta) (hb : attributeBase e f X.env (eval e X.env) = eval e X.env) (hK : X.K = K := by rfl) : PE X (.Attribute e f pos) (tFldx K ta f) := by
  have z : tFldx K ta f = tFld X.K ta f := by funext σ H Q; unfold tFldx tFld rxFld; rw [hK]
  rw [z]; exact pe_fld he hb
theorem ps_fldx (K : PySem.W.Frag) (ha : PE X o ta) (hv : PE X value tv) (hs : swapsWith value (some (.Attribute o f pos')) pos.line X.env = pure false) (hK : X.K = K := by rfl) : PS X (.Assign [.Attribute o f pos'] value pos) (sFldx K ta tv f) := by
  have z : sFldx K ta tv f = sFld X.K ta tv f := by funext D σ H; unfold sFldx sFld rxPutF; rw [hK]
  rw [z]; exact ps_fld ha hv hs
theorem ps_fldaugx (K : PySem.W.Frag) {op : Operator} {rd : V → V → Hp → VK → Prop} (ha : PE X o ta) (hv : PE X value tv) (hop : InOp X op rd) (hK : X.K = K := by rfl) : PS X (.AugAssign (.Attribute o f tpos) op value pos) (sFldAugx K ta tv rd f) := by
  have z : sFldAugx K ta tv rd f = sFldAug X.K ta tv rd f := by funext D σ H; unfold sFldAugx sFldAug rxAug rxPut2; rw [hK]
  rw [z]; exact ps_fldaug ha hv hop
theorem in_addx : InOp X .Add rxAddI := by unfold rxAddI; exact in_add
theorem pe_dgetx (hu : X.A.units + 1 < cLine) (ho : PE X o td) (hi : PE X i ty) (hs : NoSl i) : PE X (.Subscript o i pos) (tDGetx td ty) := by
  have z : tDGetx td ty = tDGet td ty := by funext σ H Q; unfold tDGetx tDGet rxDGet; rfl
  rw [z]; exact pe_dget hu ho hi hs
theorem ps_dputx (hu : X.A.units + 1 < cLine) (ho : PE X o td) (hi : PE X i ty) (hv : PE X value tv) (hs : swapsWith value (some (.Subscript o i pos')) pos.line X.env = pure false) : PS X (.Assign [.Subscript o i pos'] value pos) (sDPutx td ty tv) := by
  have z : sDPutx td ty tv = sDPut td ty tv := by funext D σ H; unfold sDPutx sDPut rxDPut; rfl
  rw [z]; exact ps_dput hu ho hi hv hs
theorem pc_dnotinx (hu : X.A.units + 1 < cLine) (hi : PE X i ty) (ho : PE X o td) : PC X .NotIn i o (tDNotInx ty td) := by
  have z : tDNotInx ty td = tDNotIn ty td := by funext σ H Q; unfold tDNotInx tDNotIn rxDNI; rfl
  rw [z]; exact pc_dnotin hu hi ho
theorem pc_dinx (hu : X.A.units + 1 < cLine) (hi : PE X i ty) (ho : PE X o td) : PC X .In i o (tDInx ty td) := by
  have z : tDInx ty td = tDIn ty td := by funext σ H Q; unfold tDInx tDIn rxDI; rfl
  rw [z]; exact pc_din hu hi ho
theorem pe_mkx (c : CalC X.prog X.w X.K X.mg X.base k C x ps sp) (hr : Room (k + 1) X.A) (hg : Gl X x) (ha : PA X (e :: es) t) (hdb : (x == ("__debug__" : Str)) = false := by decide) (he : starEach (e :: es) X.env = (false, eval e X.env) :: starEach es X.env := by rfl) (hpl : (backTo pos (starEach es X.env)).any (·.1) = false := by rfl) :
    PE X (.Call (.Name x p) (e :: es) [] pos) (tMakex C sp E0 t) := by
  have z : tMakex C sp E0 t = tMake C sp [] E0 t := by funext σ H Q; unfold tMakex tMake rxMk; simp only [List.append_nil]
  rw [z]; exact pe_mk c hr hg ha hdb he hpl
theorem pe_mkx0 (c : CalC X.prog X.w X.K X.mg X.base k C x ps sp) (hr : Room (k + 1) X.A) (hg : Gl X x) (hdb : (x == ("__debug__" : Str)) = false := by decide) : PE X (.Call (.Name x p) [] [] pos) (tMakex C sp E0 tNil) := by
  have z : tMakex C sp E0 tNil = tMake C sp [] E0 tNil := by funext σ H Q; unfold tMakex tMake rxMk; simp only [List.append_nil]
  rw [z]; exact pe_mk0 c hr hg hdb
theorem pe_mcalx {pl : Sem Bool} (he : PE X o ta) (c : CalM X.prog X.w X.K X.mg X.base k C m ps sp) (hr : Room k X.A) (ha : PA X (e :: es) t)
    (hst : starEach (e :: es) X.env = (false, eval e X.env) :: starEach es X.env := by rfl) (hpl : (backTo pos (starEach es X.env)).any (·.1) = false := by rfl)
    (ht : eval (.Call (.Attribute o m apos) (e :: es) [] pos) X.env = (do
      let ov ← eval o X.env
      standAt apos.atName
      let (f, first) ← holding [ov] (getMethod ov m pl)
      callWith pos f first (backTo pos (starEach (e :: es) X.env)) (backToKw pos (keywordEach [] X.env))) := by rfl) :
    PE X (.Call (.Attribute o m apos) (e :: es) [] pos) (tMethx C m sp E0 ta t) := by
  have z : tMethx C m sp E0 ta t = tMeth C m sp [] E0 ta t := by funext σ H Q; unfold tMethx tMeth rxMth; simp only [List.append_nil]
  rw [z]; exact pe_mcal he c hr ha hst hpl ht
theorem call_lenDx : CallR X (.builtin "len") rxLenD := by unfold rxLenD; exact call_lenD
end
/-! ### steps -/
theorem lookup_eq {f : Str} {v : V} {r : List (Str × V)} : List.lookup f ((f, v) :: r) = some v := by simp [List.lookup]
theorem lookup_ne {f g : Str} {u : V} {r : List (Str × V)} {z : Option V} (h : (f == g) = false) (q : List.lookup f r = z) : List.lookup f ((g, u) :: r) = z := by rw [List.lookup_cons, h]; exact q
theorem putF_nil {f : Str} {y : V} : putF f y [] = [(f, y)] := rfl
theorem putF_eq {f : Str} {y x : V} {r : List (Str × V)} : putF f y ((f, x) :: r) = (f, y) :: r := if_pos rfl
theorem putF_ne {f g : Str} {y x : V} {r z : List (Str × V)} (h : (f == g) = false) (q : putF f y r = z) : putF f y ((g, x) :: r) = (g, x) :: z := by
  rw [← q]
  exact if_neg fun e => by rw [e] at h; simp at h
theorem fld_step {K : PySem.W.Frag} {f : Str} {H : Hp} {a C dx : Addr} {fs : List (Str × V)} {v : V} {Q : VK} (h : H a = some (.ins C dx fs)) (c : Cls K C) (n : NoAttr K C f) (l : fs.lookup f = some v) (k : Q v H) : rxFld K f (.ref a) H Q := by
  unfold rxFld; exact ⟨a, C, dx, fs, v, rfl, h, c, n, l, k⟩
theorem putf_step {K : PySem.W.Frag} {f : Str} {H : Hp} {a C dx : Addr} {fs fs' : List (Str × V)} {y : V} {R : Hp → Prop} (h : H a = some (.ins C dx fs)) (c : Cls K C) (n : NoAttr K C f) (l : fs.length < 1000) (z : putF f y fs = fs')
    (k : ∀ H', H' a = some (.ins C dx fs') → Fr [a] H H' → R H') : rxPutF K f (.ref a) y H R := by
  unfold rxPutF
  exact ⟨a, C, dx, fs, rfl, h, c, n, l, k _ (by rw [z]; exact upd_same) (Fr.put h (by intro _ q; cases q))⟩
theorem put2_step {f : Str} {H : Hp} {a C dx : Addr} {fs fs' : List (Str × V)} {y : V} {R : Hp → Prop} (h : H a = some (.ins C dx fs)) (l : fs.length < 1000) (z : putF f y fs = fs')
    (k : ∀ H', H' a = some (.ins C dx fs') → Fr [a] H H' → R H') : rxPut2 f a C y H R := by
  unfold rxPut2
  exact ⟨dx, fs, h, l, k _ (by rw [z]; exact upd_same) (Fr.put h (by intro _ q; cases q))⟩
theorem aug_step {K : PySem.W.Frag} {f : Str} {H : Hp} {a C dx : Addr} {fs : List (Str × V)} {v : V} {g : V → VK → Prop} {R : Hp → Prop} (h : H a = some (.ins C dx fs)) (c : Cls K C) (n : NoAttr K C f) (l : fs.lookup f = some v) (k : g v fun z H3 => rxPut2 f a C z H3 R) : rxAug K f (.ref a) H g R := by
  unfold rxAug; exact ⟨a, C, dx, fs, v, rfl, h, c, n, l, k⟩
theorem addI_step {i j : Int} {H : Hp} {Q : VK} (k : Q (.int (i + j)) H) : rxAddI (.int i) (.int j) H Q := by unfold rxAddI; exact ⟨i, j, rfl, rfl, k⟩
theorem dget_step {H : Hp} {a : Addr} {kvs : List (Key × V)} {z : Int} {v : V} {Q : VK} (h : H a = some (.dK kvs)) (e : valV kvs (.inl z) = some v) (k : Q v H) : rxDGet (.ref a) (.int z) H Q := by
  unfold rxDGet
  exact ⟨a, v, rfl, by rw [← e]; exact DGet.k (k := .inl z) h, k⟩
theorem dput_step {H : Hp} {a : Addr} {kvs : List (Key × V)} {z : Int} {v : V} {R : Hp → Prop} (h : H a = some (.dK kvs)) (l : kvs.length < 10000) (k : ∀ H', H' a = some (.dK (putK kvs (.inl z) v)) → Fr [a] H H' → R H') : rxDPut (.ref a) (.int z) v H R := by
  unfold rxDPut
  exact ⟨a, _, rfl, DPut.k (k := .inl z) h (Nat.lt_of_lt_of_le l (by decide)), k _ upd_same (Fr.put h (by intro _ q; cases q))⟩
theorem mk_step {C : Addr} {sp : Sp} {E : XK} {vs : List V} {H : Hp} {Q : VK} (k : ∀ x dx H2, H x = none → H2 x = some (.ins C dx []) → Fr [] H H2 → sp (.ref x :: vs) H2 (fun v H3 => v = .non ∧ Q (.ref x) H3) E) : rxMk C sp E vs H Q := by
  unfold rxMk
  exact fun x dx hx hd ne => k x dx _ hx upd_same ((Fr.new hd).comp0 (Fr.new (by rw [upd_ne (Ne.symm ne)]; exact hx)))
theorem mth_step {C : Addr} {m : Str} {H : Hp} {R : Prop} {a dx : Addr} {fs : List (Str × V)} (h : H a = some (.ins C dx fs)) (l : fs.lookup m = none) (k : R) : rxMth C m (.ref a) H R := by
  unfold rxMth; exact ⟨a, dx, fs, rfl, h, l, k⟩
theorem dnotin_step {H : Hp} {a : Addr} {kvs : List (Key × V)} {z : Int} {Q : VK} (h : H a = some (.dK kvs)) (k : Q (.bl (!(valV kvs (.inl z)).isSome)) H) : rxDNI (.int z) (.ref a) H Q := by
  unfold rxDNI; exact ⟨a, _, rfl, DGet.k (k := .inl z) h, k⟩
theorem din_step {H : Hp} {a : Addr} {kvs : List (Key × V)} {z : Int} {Q : VK} (h : H a = some (.dK kvs)) (k : Q (.bl (valV kvs (.inl z)).isSome) H) : rxDI (.int z) (.ref a) H Q := by
  unfold rxDI; exact ⟨a, _, rfl, DGet.k (k := .inl z) h, k⟩
theorem lenD_step {H : Hp} {a : Addr} {kvs : List (Key × V)} {Q : VK} (h : H a = some (.dK kvs)) (k : Q (.int kvs.length) H) : rxLenD [.ref a] H Q := by unfold rxLenD; exact ⟨a, kvs, rfl, h, k⟩
theorem newD_step {H : Hp} {Q : VK} (k : ∀ p H', H p = none → H' p = some (.dK []) → Fr [] H H' → Q (.ref p) H') (σ : L2.St) : tDNewK σ H Q := fun p hp => k p _ hp upd_same (Fr.new hp)
end M14
set_option Elab.async false
set_option linter.all false
set_option maxRecDepth 100000
set_option maxHeartbeats 4000000
/-! Rules: methods that raise, own errors of two fields. -/
namespace TK
open PySem PySem.Spec PyProof.Rows L2 M14 SX K4
section
variable (P : Program) (w : World) (K : PySem.W.Frag) (mg : Str → Option Value) (base : Heap)
def CalMX (k : Nat) (C : Addr) (m : Str) (ps : List Str) (sp : Sp) : Prop := ∃ f fd, FnOk P w K mg base (L2.CX P w) k f fd ps sp ∧ Cls K C ∧ Meth K C m f ∧ Binds K fd ps []
end
theorem CalMX.mono {P : Program} {w : World} {K : PySem.W.Frag} {mg : Str → Option Value} {base : Heap} {j k : Nat} {C : Addr} {m : Str} {ps : List Str} {sp : Sp} (c : CalMX P w K mg base j C m ps sp) (h : j ≤ k) : CalMX P w K mg base k C m ps sp :=
  let ⟨f, fd, F, a, b, d⟩ := c; ⟨f, fd, F.mono h, a, b, d⟩
theorem _root_.M14.Def2.calMX {P : Program} {w : World} {K : PySem.W.Frag} {mg : Str → Option Value} {base : Heap} {C : Addr} {m qual : Str} {st : Stmt} {N ps : List Str} {k : Nat} {sp : Sp} (D : Def2 K C m qual st) (cl : Cls K C) (S : FnScope N ps (defScope st))
    (hb : ∀ (kV doc pm : Value) (an : Option Addr) (cdv ct : Value) (us : List Value), us.length = ps.length → bindArgs (PySem.W.fnOf m qual (defArgs st) (defBody st) (defScope st) .none kV doc pm an cdv ct) ⟨us, []⟩ = pure (ps.zip us))
    (len : ∀ vs H Q E, sp vs H Q E → vs.length = ps.length)
    (hbody : ∀ (f : Addr) (cdv : Value) (A : Around) (outer : List Env) (s : Shared) (H : Hp) (vs : List V) (Q : VK) (E : XK), Room k (A.deeper (envOfC qual (defScope st) s.heap.objs.size f cdv)) → sp vs H Q E →
      ∃ t, PSs (cxOf (L2.CX P w) P w K mg base N qual (defScope st) f cdv A outer s H E) (defBody st) t ∧ t { nx := fun _ H' => Q .non H', rt := Q } (start N vs) H) : CalMX P w K mg base (k + 1) C m ps sp := by
  obtain ⟨f, fd, F, g⟩ := D
  exact ⟨f, fd, F.ok (CX := L2.CX P w) S len fun cdv A outer s H vs Q E hr h => hbody f cdv A outer s H vs Q E hr h, cl, g, F.bindsN hb⟩
section
variable {X : Cx} {x m : Str} {p pos apos : Pos} {e o : Expr} {es : List Expr} {k : Nat} {ps : List Str} {sp : Sp} {t : TA} {ta : TE} {C : Addr} {E : XK}
theorem passE (tk : Takes X (fun cls d _ H => E cls d H)) : Passes (L2.CX X.prog X.w) X E := fun pins σ H s e s' I c => passAt (W := fun cls d _ H => E cls d H) tk σ pins H s e s' I c
theorem pe_mcalX {pl : Sem Bool} (he : PE X o ta) (c : CalMX X.prog X.w X.K X.mg X.base k C m ps sp) (tk : Takes X (fun cls d _ H => E cls d H)) (hr : Room k X.A) (ha : PA X (e :: es) t)
    (hst : starEach (e :: es) X.env = (false, eval e X.env) :: starEach es X.env := by rfl) (hpl : (backTo pos (starEach es X.env)).any (·.1) = false := by rfl)
    (ht : eval (.Call (.Attribute o m apos) (e :: es) [] pos) X.env = (do
      let ov ← eval o X.env
      standAt apos.atName
      let (f, first) ← holding [ov] (getMethod ov m pl)
      callWith pos f first (backTo pos (starEach (e :: es) X.env)) (backToKw pos (keywordEach [] X.env))) := by rfl) :
    PE X (.Call (.Attribute o m apos) (e :: es) [] pos) (tMethx C m sp E ta t) := by
  obtain ⟨f, fd, F, cl, hm, hb⟩ := c
  have z : tMethx C m sp E ta t = tMeth C m sp [] E ta t := by funext σ H Q; unfold tMethx tMeth rxMth; simp only [List.append_nil]
  rw [z]; exact pe_meth he cl hm F hr hb .nil (passE tk) ha hst hpl ht
theorem pe_mcalX0 {pl : Sem Bool} (he : PE X o ta) (c : CalMX X.prog X.w X.K X.mg X.base k C m ps sp) (tk : Takes X (fun cls d _ H => E cls d H)) (hr : Room k X.A)
    (ht : eval (.Call (.Attribute o m apos) [] [] pos) X.env = (do
      let ov ← eval o X.env
      standAt apos.atName
      let (f, first) ← holding [ov] (getMethod ov m pl)
      callWith pos f first (backTo pos (starEach [] X.env)) (backToKw pos (keywordEach [] X.env))) := by rfl) :
    PE X (.Call (.Attribute o m apos) [] [] pos) (tMethx C m sp E ta tNil) := by
  obtain ⟨f, fd, F, cl, hm, hb⟩ := c
  have z : tMethx C m sp E ta tNil = tMeth C m sp [] E ta tNil := by funext σ H Q; unfold tMethx tMeth rxMth; simp only [List.append_nil]
  rw [z]; exact pe_meth0 he cl hm F hr hb .nil (passE tk) ht
end
/-! ### errors with a line and a column -/
/-- the class's own facts -/
structure XF (K : PySem.W.Frag) (C : Addr) : Prop where
  oc : OexC K C
  nl : PySem.W.findIn K (.ref C) "line" = some none
  nc : PySem.W.findIn K (.ref C) "column" = some none
def isX (K : PySem.W.Frag) (C : Addr) : Prop := XF K C
/-- what __init__ does with a fresh error -/
@[irreducible] def spXi (K : PySem.W.Frag) : Sp := fun vs H Q _ => ∃ (a C : Addr) (x y : V), vs = [.ref a, x, y] ∧ XF K C ∧ H a = some (exo a C none) ∧ ∀ d, H d = none → d ≠ a → Q .non (upd (upd (upd H d (exd d [("line", x)])) a (exo a C (some d))) d (exd d [("column", y), ("line", x)]))
section
variable {P : Program} {w : World} {K : PySem.W.Frag} {mg : Str → Option Value} {base : Heap}
/-- an error class of the module whose __init__ is SourceError's -/
structure XE2 (P : Program) (w : World) (K : PySem.W.Frag) (mg : Str → Option Value) (base : Heap) (x : Str) (C : Addr) : Prop where
  xf : XF K C
  g : mg x = some (.ref C)
  fn : ∃ fI fd, PySem.W.findIn K (.ref C) "__init__" = some (some (.ref fI)) ∧ PySem.W.typeIn K (.ref fI) = some (.type "function") ∧ FnOk P w K mg base CX0 1 fI fd ["self", "line", "column"] (spXi K) ∧ Binds K fd ["self", "line", "column"] []
end
/-- raise x(e, ..): the way out -/
@[irreducible] def rRs (C : Addr) (vs : List V) (H : Hp) (R : Value → Option Addr → Hp → Prop) : Prop := ∃ u v : V, vs = [u, v] ∧ ∀ d H', H d = none → H' d = some (.xd [("column", v), ("line", u)]) → Fr [] H H' → R (.ref C) (some d) H'
theorem rs_step {C : Addr} {u v : V} {H : Hp} {R : Value → Option Addr → Hp → Prop} (k : ∀ d H', H d = none → H' d = some (.xd [("column", v), ("line", u)]) → Fr [] H H' → R (.ref C) (some d) H') : rRs C [u, v] H R := by
  unfold rRs
  exact ⟨u, v, rfl, k⟩
section
variable {X : Cx} {x : Str} {p pos pos' : Pos} {e1 e2 : Expr} {t : TA} {C : Addr} {W : WX}
theorem pa_weak {X : Cx} {es : List Expr} {t : TA} (h : PA X es t) : PA X es (fun σ H R => ∃ B : List V → Hp → Prop, t σ H B ∧ ∀ vs H1, B vs H1 → R vs H1) := by
  refine ⟨fun pos pins s σ H Q I hq => ?_⟩
  obtain ⟨B, hB, hR⟩ := hq
  refine wpAny_mono (h.run pos pins s σ H B I hB) (fun us s1 q => ?_) fun _ _ x => x
  obtain ⟨vs, H1, I1, r1, q1⟩ := q
  exact ⟨vs, H1, I1, r1, hR vs H1 q1⟩
theorem pmk_x2 (c : XE2 X.prog X.w X.K X.mg X.base x C) (hr : Room 2 X.A) (hg : Gl X x) (ha : PA X [e1, e2] t) (hdb : (x == ("__debug__" : Str)) = false := by decide)
    (he : starEach [e1, e2] X.env = (false, eval e1 X.env) :: starEach [e2] X.env := by rfl) (hpl : (backTo pos (starEach [e2] X.env)).any (·.1) = false := by rfl) :
    PMk X (.Call (.Name x p) [e1, e2] [] pos) (fun σ H Q => t σ H fun vs H1 => rRs C vs H1 Q) := by
  obtain ⟨xf, g, fI, fd, iC, tI, F, hb⟩ := c
  intro pins s σ H Q I h
  refine pmk_oex (CX := CX0) (dvs := []) xf.oc iC tI F hr hb .nil (fun _ _ _ _ _ _ _ h => h.elim) hg g (pa_weak ha) hdb he hpl pins s σ H Q I ?_
  unfold tMkO
  refine ⟨_, h, fun vs H1 q => ?_⟩
  unfold rRs at q
  obtain ⟨u, v, rfl, q⟩ := q
  refine ⟨by simp, fun a na => ?_⟩
  unfold spXi
  refine ⟨a, C, u, v, rfl, xf, upd_same, fun d nd ne => ⟨rfl, d, _, ?_, upd_same, updFree nd, ?_⟩⟩
  · rw [upd_ne (Ne.symm ne)]
    exact upd_same
  · refine q d _ (updFree nd) upd_same ?_
    refine ⟨fun b o hb _ => ?_, fun _ h => nomatch h⟩
    have ha : b ≠ a := fun e => by rw [e, na] at hb; cases hb
    have hd : b ≠ d := fun e => by rw [e, updFree nd] at hb; cases hb
    rw [upd_ne hd, del_ne ha, upd_ne hd, upd_ne ha, upd_ne hd, upd_ne ha]
    exact hb
theorem ps_raise2 (c : XE2 X.prog X.w X.K X.mg X.base x C) (hc : X.calm = true) (tk : Takes X W) (hr : Room 2 X.A) (hg : Gl X x) (ha : PA X [e1, e2] t) (hdb : (x == ("__debug__" : Str)) = false := by decide)
    (he : starEach [e1, e2] X.env = (false, eval e1 X.env) :: starEach [e2] X.env := by rfl) (hpl : (backTo pos (starEach [e2] X.env)).any (·.1) = false := by rfl) :
    PS X (.Raise (some (.Call (.Name x p) [e1, e2] [] pos)) none pos') (fun _ σ H => t σ H fun vs H1 => rRs C vs H1 fun cls d H2 => W cls d σ H2) := ps_raise hc tk (pmk_x2 c hr hg ha hdb he hpl)
end
end TK
set_option Elab.async false
set_option linter.all false
set_option maxRecDepth 100000
set_option maxHeartbeats 4000000
/-! enumerate(xs, start=k) in a for. -/
namespace TK
open PySem PySem.Spec PyProof.Rows L2 M14 SX K4
/-- the list at a as it stands at each turn, each item in a new pair behind its number from k0 on -/
def Itk (K : PySem.W.Frag) (k0 : Int) (a : Addr) : It :=
  ⟨fun i H => ∃ (xs : List V) (x : V), SqL K H a xs ∧ xs[i]? = some x, fun i H v H' => ∃ T x, v = .ref T ∧ H T = none ∧ H' = upd H T (.tup [.int (k0 + (i : Nat)), x]) ∧ ∀ xs, SqL K H a xs → xs[i]? = some x, fun i H => ∃ xs : List V, SqL K H a xs ∧ xs.length = i⟩
theorem turn_enumk {P : Program} {w : World} {K : PySem.W.Frag} {elts : List Expr} {kk : Nat} {tpos : Pos} (k0 : Int) (a e it : Addr) :
    Turn P w K (.Tuple elts kk tpos) (Itk K k0 a) [e, it] e (fun i h => (∃ old, IsEnum h e it (k0 + (i : Nat)) old) ∧ h.IsListIter it a i ∧ e ≠ it ∧ a ≠ it ∧ a ≠ e) where
  mem := by simp
  obj := fun i h st b hb => by
    obtain ⟨⟨old, he⟩, ⟨o, ho, hc, hd⟩, _⟩ := st
    have e' : b = e ∨ b = it := by simpa using hb
    rcases e' with z | z
    · rw [z]; exact ⟨_, he, fun v q => nomatch q⟩
    · rw [z]; exact ⟨o, ho, fun v q => by rw [hd] at q; cases q⟩
  keep := fun i h h' st k => let ⟨⟨old, he⟩, hi, hne⟩ := st; ⟨⟨old, k e (by simp) _ he⟩, hi.at fun o q => k it (by simp) o q, hne⟩
  item := by
    intro X hP hw hK hc i pins s σ H E I hf st hg
    subst hP hw hK
    obtain ⟨⟨old, he⟩, hit, hne, hai, hae⟩ := st
    obtain ⟨xs, x, hq, hx⟩ := hg
    obtain ⟨its, rv, p, hz⟩ := I.list hq
    obtain ⟨u, hu, ru⟩ := rv.get hx
    have hel : e < s.heap.objs.size := Heap.lt_size he
    have hil : it < s.heap.objs.size := by obtain ⟨_, q, _⟩ := hit; exact Heap.lt_size q
    have hh : X.A.in1.handled = none := I.ok.hd hc
    have D := Draws.list (prog := X.prog) (w := X.w) (A := X.A.in1) hh it a hai its.toArray
    have hlt : i < its.toArray.size := by
      have := (List.getElem?_eq_some_iff.mp hx).1
      rw [List.size_toArray, ← rv.length]; exact this
    refine wpAny_pyNext_enum_itemC D he ⟨hit, p.isList⟩ hlt hne (by simp; exact ⟨hne, Ne.symm hae⟩) fun v h' tk hv ho hit' hT hsz hk => ?_
    have ev : v = u := by
      have h2 : its[i]? = some v := by simpa using hv
      rw [hu] at h2
      exact (Option.some.inj h2).symm
    subst ev
    refine ⟨_, rfl, wpAny_letOwnedTupleGo_enum (s := { s with heap := h', toks := tk + 1 }) ho fun h'' he' sb => ?_⟩
    have hT2 : h''.get? s.heap.objs.size = some { cls := .type "tuple", data := .seq #[.int (k0 + (i : Nat)) tk, v] } := (sb.2 _ (Nat.ne_of_gt hel)).trans hT
    have new : ObjOk X.prog X.w (upd H s.heap.objs.size (.tup [.int (k0 + (i : Nat)), x])) h'' s.heap.objs.size (.tup [.int (k0 + (i : Nat)), x]) :=
      ⟨by show 2 ≤ sizeLine; decide, [.int (k0 + (i : Nat)) tk, v], .cons ⟨_, rfl⟩ (.cons ru .nil), ⟨_, hT2, rfl, _, rfl⟩⟩
    have I1 : Inv X pins σ (upd H s.heap.objs.size (.tup [.int (k0 + (i : Nat)), x])) { s with heap := h'', toks := tk + 1 } :=
      I.turnedNew (ch := [e, it]) (fun b ob hb q => (sb.2 b (fun z => hb (by simp [z]))).trans (hk b ob (fun z => hb (by simp [z])) (fun z => hb (by simp [z])) q)) hf (Nat.le_refl _) new
    refine ⟨.ref s.heap.objs.size, _, I1, rfl, ⟨_, x, rfl, I.hok.fresh (Nat.le_refl _), rfl, fun ys hy => by rw [I.list_inj hy hq]; exact hx⟩, ⟨⟨v, ?_⟩, hit'.1.at fun o q => (sb.2 it (Ne.symm hne)).trans q, hne, hai, hae⟩, fun b hb => ?_⟩
    · have e1 : k0 + ((i + 1 : Nat) : Int) = k0 + (i : Int) + 1 := by omega
      rw [e1]; exact he'
    · have hb' : b < s.heap.objs.size := by
        have e' : b = e ∨ b = it := by simpa using hb
        rcases e' with z | z
        · rw [z]; exact hel
        · rw [z]; exact hil
      rw [upd_ne (Nat.ne_of_lt hb')]
      exact (hf b hb).1
  done := by
    intro X hP hw hK hc i pins s σ H E I hf st hg
    subst hP hw hK
    obtain ⟨⟨old, he⟩, hit, hne, hai, hae⟩ := st
    obtain ⟨xs, hq, hx⟩ := hg
    obtain ⟨its, rv, p, hz⟩ := I.list hq
    obtain ⟨f0, f1, f2, f3, f4, f5⟩ := hf it (by simp)
    have hl := rv.length
    have hh : X.A.in1.handled = none := I.ok.hd hc
    have D := Draws.list (prog := X.prog) (w := X.w) (A := X.A.in1) hh it a hai its.toArray
    have en : its.toArray.size = i := by rw [List.size_toArray, ← hl, hx]
    have hst : s.heap.IsListIter it a its.toArray.size ∧ s.heap.IsList a its.toArray := by rw [en]; exact ⟨hit, p.isList⟩
    exact wpAny_pyNext_enum_endD D he hst fun h' eb => ⟨rfl, I.turned (t' := s.toks) (fun b o hb q => eb b o hb q) f0 f1 f3 f4 f5⟩
  self := fun A i s Q E st h => let ⟨⟨_, he⟩, _⟩ := st; wpAny_pyIter_enum he h
def iEnumK (K : PySem.W.Frag) (k0 : Int) (ta : TA) : TI := fun σ H R => ta σ H fun vs H1 => ∃ a xs, vs = [.ref a] ∧ SqL K H1 a xs ∧ R (Itk K k0 a) H1
theorem pi_enumk {X : Cx} {e : Expr} {ta : TA} {p pos tpos kpos cpos : Pos} {elts : List Expr} {kk j : Nat} {k0 : Int} (hg : Gl X "enumerate") (hm : X.mg "enumerate" = none) (ha : PA X [e] ta) (h0 : -(2 ^ 63) ≤ k0) (h1 : k0 < 2 ^ 63)
    (hs : starEach [e] X.env = (false, eval e X.env) :: starEach [] X.env := by rfl) (hpl : ((backTo pos (starEach [e] X.env)).any (·.1) || (backToKw pos (keywordEach [⟨some "start", .Constant (.int k0) j cpos, kpos⟩] X.env)).any (·.1.isNone)) = false := by rfl) :
    PI X (.Tuple elts kk tpos) (.Call (.Name "enumerate" p) [e] [⟨some "start", .Constant (.int k0) j cpos, kpos⟩] pos) (iEnumK X.K k0 ta) := by
  refine ⟨fun pins s σ H R I h => ?_⟩
  refine wpAny_Call_Name_kw (ld_blt I hg hm boot_enumerate ?_)
  refine PySem.W.callWith_of (P := fun _ => True) hpl (fun h _ => ⟨.machine, .inr (.inl rfl), PySem.W.Looks.of_pure rfl⟩) (PyProof.Rows.evalArgs_kw2 rfl ?_ hs)
  refine thn (ha.run pos pins s σ H _ I h) fun us s1 ⟨vs, H1, I1, r1, q1⟩ => ?_
  have hk : PK X [⟨some "start", .Constant (.int k0) j cpos, kpos⟩] (tCons (tC (.int k0)) tNil) := pk_cons pe_int pk_nil
  refine thn (hk.run pos pins s1 σ H1 (fun zs H2 => zs = [.int k0] ∧ H2 = H1) I1 ⟨rfl, rfl⟩) fun ws s2 ⟨zs, H2, I2, rz, ez, eH⟩ => ⟨trivial, ?_⟩
  subst ez eH
  obtain ⟨a, xs, ex, hq, q⟩ := q1
  subst ex
  cases r1 with
  | cons r rr =>
    cases rr
    cases r
    cases rz with
    | cons rw rn =>
      cases rn
      obtain ⟨t, rfl⟩ := rw
      obtain ⟨its, rv, p', hz⟩ := I2.list hq
      have hal : a < s2.heap.objs.size := by obtain ⟨_, q, _⟩ := p'.isList; exact Heap.lt_size q
      show wpAny _ _ (call (.type "enumerate") [.ref a] [(Str.ofString "start", .int k0 t)]) _ _ _
      refine enum_begins_start (begins_list a its.toArray) p'.isList h0 h1 fun h' he hit hsz hk => wpAny_pyIter_enum he ?_
      have I3 : Inv X pins σ H2 { s2 with heap := h' } := I2.kept (t' := s2.toks) hk
      refine ⟨s2.heap.objs.size + 1, [s2.heap.objs.size + 1, s2.heap.objs.size], _, _, H2, rfl, I3, turn_enumk k0 a (s2.heap.objs.size + 1) s2.heap.objs.size, ⟨⟨.none, ?_⟩, ⟨_, hit, rfl, rfl⟩, Nat.succ_ne_self _, Nat.ne_of_lt hal, Nat.ne_of_lt (Nat.lt_succ_of_lt hal)⟩, fun b hb => ?_, q⟩
      · have e0 : k0 + ((0 : Nat) : Int) = k0 := by omega
        rw [e0]; exact he
      · have e' : b = s2.heap.objs.size + 1 ∨ b = s2.heap.objs.size := by simpa using hb
        have hle : s2.heap.objs.size ≤ b := by
          rcases e' with z | z
          · rw [z]; exact Nat.le_add_right _ _
          · rw [z]; exact Nat.le_refl _
        exact I2.fpOk hle (I2.hok.fresh hle)
end TK
set_option Elab.async false
set_option linter.all false
set_option maxRecDepth 100000
set_option maxHeartbeats 4000000
namespace K4
open PySem PySem.Spec PyProof.Rows L2 M14 SX
theorem l_nl : (Str.ofString "\n").cps.toList = [10] := by decide +kernel
theorem l_open : (Str.ofString "(").cps.toList = [40] := by decide +kernel
theorem l_close : (Str.ofString ")").cps.toList = [41] := by decide +kernel
theorem l_sp : (Str.ofString " ").cps.toList = [32] := by decide +kernel
theorem l_quo : (Str.ofString "\"").cps.toList = [34] := by decide +kernel
theorem l_bs : (Str.ofString "\\").cps.toList = [92] := by decide +kernel
theorem l_minus : (Str.ofString "-").cps.toList = [45] := by decide +kernel
theorem l_zero : (Str.ofString "0").cps.toList = [48] := by decide +kernel
theorem l_empty : (Str.ofString "").cps.toList = [] := by decide +kernel
theorem l_n : (Str.ofString "n").cps.toList = [110] := by decide +kernel
theorem iteEqZ {a : List Nat} {z : Str} {A B : Prop} (h1 : a = z.cps.toList → A) (h2 : a ≠ z.cps.toList → B) : if decide (V.str (S a) = V.str z) = true then A else B :=
  iteD (fun e => h1 (by have := V.str.inj e; rw [← this])) fun e => h2 fun q => e (by rw [q, S_tl])
theorem iteNZ {a : List Nat} {z : Str} {A B : Prop} (h1 : a ≠ z.cps.toList → A) (h2 : a = z.cps.toList → B) : if (!decide (V.str (S a) = V.str z)) = true then A else B := iteN (iteEqZ h2 h1)
@[irreducible] def rLenS : List V → Hp → VK → Prop := fun xs H Q => ∃ z, xs = [.str z] ∧ z.length ≤ sizeLine ∧ Q (.int z.length) H
theorem lenS_step {a : List Nat} {H : Hp} {Q : VK} (hz : a.length ≤ 1000000) (h : Q (.int a.length) H) : rLenS [.str (S a)] H Q := by
  unfold rLenS
  exact ⟨_, rfl, big_size hz, by rw [S_len]; exact h⟩
theorem call_lenS {X : Cx} : CallR X (.builtin "len") rLenS := by unfold rLenS; exact call_len_str
@[irreducible] def rOrd : List V → Hp → VK → Prop := fun xs H Q => ∃ x, xs = [V.str x] ∧ x.length = 1 ∧ Q (V.int ↑(x.cps.getD 0 0)) H
theorem call_ordS {X : Cx} : CallR X (.builtin "ord") rOrd := by unfold rOrd; exact call_ord
theorem ordS_step {c : Nat} {H : Hp} {Q : VK} (h : Q (.int c) H) : rOrd [V.str (S [c])] H Q := by
  unfold rOrd
  exact ⟨_, rfl, rfl, h⟩
theorem all_snoc {a : List Nat} {i c : Nat} {p : Nat → Bool} (e : a[i]? = some c) (h : (a.take i).all p = true) (hc : p c = true) : (a.take (i + 1)).all p = true := by
  rw [List.take_succ, e]
  simp [hc]
  simpa using h
theorem all_no {a : List Nat} {i c : Nat} {p : Nat → Bool} (e : a[i]? = some c) (hc : p c = false) : a.all p = false := by
  rw [Bool.eq_false_iff]
  intro h
  rw [List.all_eq_true] at h
  have := h c (List.mem_of_getElem? e)
  rw [hc] at this
  cases this
theorem getS {a : List Nat} {i c : Nat} (h : (S a).cps[i]? = some c) : a[i]? = some c := by simpa using h
theorem appB_step {H : Hp} {p : Addr} {xs : List V} {v : V} {Q : VK} (hp : H p = some (.lst xs)) (hz : xs.length < 10000000) (h : ∀ H', H' p = some (.lst (xs ++ [v])) → Fr [p] H H' → Q .non H') : rxApp (.ref p) [v] H Q := by
  unfold rxApp
  exact ⟨p, xs, v, rfl, rfl, hp, Nat.lt_of_lt_of_le hz (by decide), h _ upd_same (Fr.put hp (by intro _ z; cases z))⟩
/-- the next turn of a while -/
@[irreducible] def Nx (W : Nat → L2.St → Hp → Prop) (m : Nat) (σ : L2.St) (H : Hp) : Prop := ∃ m', m' < m ∧ W m' σ H
theorem Nx.of {W : Nat → L2.St → Hp → Prop} {m : Nat} {σ : L2.St} {H : Hp} (m' : Nat) (h : m' < m) (w : W m' σ H) : Nx W m σ H := by unfold Nx; exact ⟨m', h, w⟩
theorem while_go {W : Nat → L2.St → Hp → Prop} {m : Nat} {X : (L2.St → Hp → Prop) → Prop} (h : X (Nx W m)) : ∃ N : L2.St → Hp → Prop, (∀ σ' H', N σ' H' → ∃ m', m' < m ∧ W m' σ' H') ∧ X N :=
  ⟨Nx W m, fun σ' H' n => by unfold Nx at n; exact n, h⟩
@[irreducible] def rJoinS (K : PySem.W.Frag) : V → List V → Hp → VK → Prop := fun x xs H Q => ∃ a p, ∃ ys : List Str, x = .str a ∧ xs = [.ref p] ∧ (SqL K H p (ys.map V.str) ∨ SqT K H p (ys.map V.str)) ∧ (ys.map (·.length)).sum + ys.length * a.length ≤ 16777216 ∧ Q (.str (Txt.join a ys)) H
theorem mtJoin {X : Cx} (K : PySem.W.Frag) (hK : X.K = K := by rfl) : MtR X "str.join" (rJoinS K) := by unfold rJoinS; rw [← hK]; exact mt_join
theorem join_stepS {K : PySem.W.Frag} {H : Hp} {p : Addr} {xs : List V} {sep : Str} {zs : List (List Nat)} {Q : VK} (hp : H p = some (.lst xs)) (e : xs = zs.map fun z => V.str (S z)) (hl : (zs.map (·.length)).sum + zs.length * sep.length ≤ 16777216) (h : Q (.str (S (TL.joinL sep.cps.toList zs))) H) :
    rJoinS K (.str sep) [.ref p] H Q := by
  unfold rJoinS
  refine ⟨sep, p, zs.map S, rfl, rfl, .inl (SqL.of ?_), ?_, ?_⟩
  · rw [hp, e, List.map_map]; rfl
  · rw [lens, List.length_map]; exact hl
  · have := join_S sep.cps.toList zs
    rw [S_tl] at this
    rw [this]
    exact h
@[irreducible] def rIntS : List V → Hp → VK → Prop := fun xs H Q => ∃ a n, xs = [.str a] ∧ PySem.intText? a = some n ∧ a.length ≤ 640 ∧ Q (.int n) H
theorem call_intS {X : Cx} : CallR X (.type "int") rIntS := by unfold rIntS; exact call_int_str
theorem intS_step {w : List Nat} {H : Hp} {Q : VK} (h : isInt w = true) (q : Q (.int (intOf w)) H) : rIntS [.str (S w)] H Q := by
  unfold rIntS
  obtain ⟨a, b⟩ := isInt_text h
  exact ⟨_, _, rfl, a, by rw [S_len]; exact b, q⟩
theorem okc_no {c : Nat} (h : ¬ ((32 : Int) ≤ c ∧ (c : Int) ≤ 126 ∧ (c : Int) ≠ 37)) (n : [c] ≠ [10]) : okc c = false := by
  have n' : c ≠ 10 := fun e => n (by rw [e])
  unfold okc
  simp
  omega
theorem okc_yes {c : Nat} (h : ((32 : Int) ≤ c ∧ (c : Int) ≤ 126 ∧ (c : Int) ≠ 37) ∨ [c] = [10]) : okc c = true := by
  unfold okc
  simp
  rcases h with h | h
  · omega
  · have := (List.cons.inj h).1
    omega
end K4
set_option Elab.async false
set_option linter.all false
set_option maxRecDepth 100000
set_option maxHeartbeats 4000000
namespace TK
open PySem PySem.Spec PyProof.Rows L2 M14 SX K4
theorem litS {z : Str} {l : List Nat} (h : z.cps.toList = l) : V.str z = V.str (S l) := by rw [← S_tl z, h]
@[irreducible] def rSign (neg : Bool) : R2 := fun x y H Q => ∃ (c : Nat) (z : Str), x = .str (S [c]) ∧ y = .str z ∧ Q (.bl (neg != decide (c ∈ z.cps.toList))) H
theorem op_inG {X : Cx} : OpR X (compareOp .In) (rSign false) := by
  unfold rSign
  intro pins s σ H x y v u Q I rx ry h
  obtain ⟨c, z, rfl, rfl, q⟩ := h
  exact op_in_sign pins s σ H _ _ v u Q I rx ry ⟨c, z, rfl, rfl, by simpa using q⟩
theorem op_notInG {X : Cx} : OpR X (compareOp .NotIn) (rSign true) := by
  unfold rSign
  intro pins s σ H x y v u Q I rx ry h
  obtain ⟨c, z, rfl, rfl, q⟩ := h
  exact op_notIn_sign pins s σ H _ _ v u Q I rx ry ⟨c, z, rfl, rfl, by simpa using q⟩
theorem sign_step {neg : Bool} {c : Nat} {z : Str} {H : Hp} {Q : VK} (h : Q (.bl (neg != decide (c ∈ z.cps.toList))) H) : rSign neg (.str (S [c])) (.str z) H Q := by
  unfold rSign
  exact ⟨c, z, rfl, rfl, h⟩
/-- x in t, t a tuple of the module -/
theorem inT_step {K : PySem.W.Frag} {H : Hp} {x : V} {p : Addr} {xs : List V} {Q : VK} {neg : Bool} (hp : SqT K H p xs) (hx : flatV x = true) (hf : xs.all flatV = true) (h : Q (.bl (neg != inV x xs)) H) : rxIn K neg x (.ref p) H Q := by
  unfold rxIn
  refine ⟨p, xs, rfl, .inr hp, hx, hf, ?_⟩
  cases neg with
  | false => rw [if_neg Bool.false_ne_true]; simpa using h
  | true => rw [if_pos rfl]; simpa using h
/-- a tuple of texts of the module -/
def TupS (K : PySem.W.Frag) (t : Addr) (ls : List (List Nat)) : Prop := ∀ H : Hp, SqT K H t (ls.map fun l => V.str (S l))
theorem flat_strs (ls : List (List Nat)) : (ls.map fun l => V.str (S l)).all flatV = true := by
  rw [List.all_eq_true]
  intro v m
  obtain ⟨l, _, rfl⟩ := List.mem_map.mp m
  rfl
theorem inV_strs {l : List Nat} {ls : List (List Nat)} : inV (.str (S l)) (ls.map fun l => V.str (S l)) = decide (l ∈ ls) := by
  unfold inV
  induction ls with
  | nil => rfl
  | cons x r ih =>
    rw [List.map_cons, List.any_cons, ih]
    by_cases h : l = x
    · subst h
      have e : L2.eqV (V.str (S l)) (V.str (S l)) = true := by
        show decide (S l = S l) = true
        exact decide_eq_true rfl
      rw [e]; simp
    · have e1 : S x ≠ S l := fun e => h (S_inj e).symm
      have e2 : S l ≠ S x := fun e => e1 e.symm
      have e : (L2.eqV (V.str (S x)) (V.str (S l)) = false) ∧ (L2.eqV (V.str (S l)) (V.str (S x)) = false) := ⟨decide_eq_false e1, decide_eq_false e2⟩
      first
        | rw [e.1]; simp [h]
        | rw [e.2]; simp [h]
theorem inTS_step {K : PySem.W.Frag} {H : Hp} {l : List Nat} {p : Addr} {ls : List (List Nat)} {Q : VK} {neg : Bool} (hp : TupS K p ls) (h : Q (.bl (neg != decide (l ∈ ls))) H) : rxIn K neg (.str (S l)) (.ref p) H Q :=
  inT_step (hp H) rfl (flat_strs ls) (by rw [inV_strs]; exact h)
@[irreducible] def rPopS : V → List V → Hp → VK → Prop := rPop
theorem mtPopS {X : Cx} : MtM X "list.pop" rPopS := by unfold rPopS; exact mt_pop
theorem popL_step {o : Addr} {xs : List V} {v : V} {H : Hp} {Q : VK} (h : H o = some (.lst (xs ++ [v]))) (k : ∀ H', H' o = some (.lst xs) → Fr [o] H H' → Q v H') : rPopS (.ref o) [] H Q := by
  unfold rPopS rPop
  refine ⟨o, _, v, rfl, rfl, h, by simp, k _ ?_ (Fr.put h (by intro _ z; cases z))⟩
  rw [List.dropLast_concat]
  exact upd_same
/-! ### words of a row -/
theorem tw_at {a : List Nat} {n k : Nat} {p : Nat → Bool} (h : ((a.drop n).take k).all p = true) (e : a[n + k]? = none ∨ ∃ c, a[n + k]? = some c ∧ p c = false) : (a.drop n).takeWhile p = (a.drop n).take k := by
  have key : ∀ (w q : List Nat), w.all p = true → q.takeWhile p = [] → (w ++ q).takeWhile p = w := by
    intro w q
    induction w with
    | nil => intro _ hq; simpa using hq
    | cons x r ih =>
      intro hw hq
      simp at hw
      rw [List.cons_append, List.takeWhile_cons, hw.1]
      simp
      exact ih (by simpa using hw.2) hq
  conv => lhs; rw [← List.take_append_drop k (a.drop n)]
  refine key _ _ h ?_
  rw [List.drop_drop]
  rcases e with e | ⟨c, e, hc⟩
  · rw [List.drop_eq_nil_iff.mpr (List.getElem?_eq_none_iff.mp e)]; rfl
  · obtain ⟨hi, e2⟩ := List.getElem?_eq_some_iff.mp e
    rw [List.drop_eq_getElem_cons hi, e2, List.takeWhile_cons, hc]
    rfl
theorem all_takeN {a : List Nat} {n k c : Nat} {p : Nat → Bool} (e : a[n + k]? = some c) (h : ((a.drop n).take k).all p = true) (hc : p c = true) : ((a.drop n).take (k + 1)).all p = true :=
  all_snoc (by rw [List.getElem?_drop]; exact e) h hc
theorem drop_get {a : List Nat} {i c : Nat} (h : a[i]? = some c) : a.drop i = c :: a.drop (i + 1) := by
  obtain ⟨hi, e⟩ := List.getElem?_eq_some_iff.mp h
  rw [List.drop_eq_getElem_cons hi, e]
/-- the module's constants -/
abbrev zDig : Str := Str.ofString "0123456789"
abbrev zNs : Str := Str.ofString "abcdefghijklmnopqrstuvwxyzABCDEFGHIJKLMNOPQRSTUVWXYZ_"
abbrev zNc : Str := Str.ofString "abcdefghijklmnopqrstuvwxyzABCDEFGHIJKLMNOPQRSTUVWXYZ_0123456789"
theorem dig_in {c : Nat} : decide (c ∈ zDig.cps.toList) = isDig c := by
  have e : zDig.cps.toList = [48, 49, 50, 51, 52, 53, 54, 55, 56, 57] := by decide +kernel
  rw [e]
  unfold isDig
  rw [Bool.eq_iff_iff]
  simp
  omega
theorem small_dec {p q : Nat → Bool} (hp : ∀ c, 128 ≤ c → p c = false) (hq : ∀ c, 128 ≤ c → q c = false) (h : ∀ c, c < 128 → p c = q c) (c : Nat) : p c = q c := by
  by_cases hc : c < 128
  · exact h c hc
  · rw [hp c (by omega), hq c (by omega)]
theorem ns_in {c : Nat} : decide (c ∈ zNs.cps.toList) = isNs c := by
  refine small_dec (p := fun c => decide (c ∈ zNs.cps.toList)) (q := isNs) (fun c hc => ?_) (fun c hc => ?_) (by decide +kernel) c
  · have all : ∀ x ∈ zNs.cps.toList, x < 128 := by decide +kernel
    exact decide_eq_false fun m => by have := all c m; omega
  · unfold isNs; simp; omega
theorem nc_in {c : Nat} : decide (c ∈ zNc.cps.toList) = isNc c := by
  refine small_dec (p := fun c => decide (c ∈ zNc.cps.toList)) (q := isNc) (fun c hc => ?_) (fun c hc => ?_) (by decide +kernel) c
  · have all : ∀ x ∈ zNc.cps.toList, x < 128 := by decide +kernel
    exact decide_eq_false fun m => by have := all c m; omega
  · unfold isNc isNs isDig; simp; omega
end TK
set_option Elab.async false
set_option linter.all false
set_option maxRecDepth 100000
set_option maxHeartbeats 4000000
namespace TK
open PySem PySem.Spec PyProof.Rows L2 M14 SX K4
/-- an error with its place -/
def Bad (C : Addr) (l k : Int) (H : Hp) (E : XK) : Prop := ∀ d H', H' d = some (.xd [("column", .int k), ("line", .int l)]) → Fr [] H H' → E (.ref C) (some d) H'
def kV (kd : String) : V := .str (Str.ofString kd)
/-- what a reader of one token tells: its kind, its word, where it ends; or BadToken -/
def RdOk (K : PySem.W.Frag) (C : Addr) (x : Lx) (n : Nat) (l : Int) (H : Hp) (Q : VK) (E : XK) : Prop := match x with
  | .ok kd w k => ∀ v p H', Den K H' v w → H p = none → H' p = some (.tup [kV kd, v, .int ((n + k : Nat) : Int)]) → Fr [] H H' → Q (.ref p) H'
  | .bad k => Bad C l ((n + k + 1 : Nat) : Int) H E
@[irreducible] def spRun : Sp := fun vs H Q _ => ∃ (a : List Nat) (n : Nat) (z : Str), vs = [.str (S a), .int n, .str z] ∧ a.length ≤ 1000000 ∧ n ≤ a.length ∧ ∀ (i : Int) H', i = ((n + ((a.drop n).takeWhile fun c => decide (c ∈ z.cps.toList)).length : Nat) : Int) → Fr [] H H' → Q (.int i) H'
theorem run_step {a : List Nat} {n : Nat} {z : Str} {H : Hp} {Q : VK} {E : XK} (hz : a.length ≤ 1000000) (hn : n ≤ a.length) (k : ∀ (i : Int) H', i = ((n + ((a.drop n).takeWhile fun c => decide (c ∈ z.cps.toList)).length : Nat) : Int) → Fr [] H H' → Q (.int i) H') : spRun ([.str (S a), .int n, .str z] ++ []) H Q E := by
  unfold spRun
  exact ⟨a, n, z, rfl, hz, hn, k⟩
@[irreducible] def UW (a : List Nat) (n : Nat) (z : Str) (H : Hp) (m : Nat) (σ : L2.St) (H' : Hp) : Prop :=
  ∃ (k : Nat) (i : Int), σ = [some (.str (S a)), some (.int i), some (.str z)] ∧ i = ((n + k : Nat) : Int) ∧ n + k ≤ a.length ∧ m = a.length - (n + k) ∧ Fr [] H H' ∧ ((a.drop n).take k).all (fun c => decide (c ∈ z.cps.toList)) = true
theorem tw_len {a : List Nat} {n k : Nat} {p : Nat → Bool} (hk : n + k ≤ a.length) (h : (a.drop n).takeWhile p = (a.drop n).take k) : ((a.drop n).takeWhile p).length = k := by
  rw [h, List.length_take, List.length_drop]; omega
section
variable {P : Program} {w : World} {K : PySem.W.Frag} {mg : Str → Option Value} {base : Heap}
set_option hygiene false
local macro_rules | `(tactic| tm_at "sc") => `(tactic| (first | omega | (simp only [List.length_cons, List.length_nil, List.length_map, List.length_set, List.length_append]; omega) | (simp only [List.length_map] at h1 ⊢; omega) | (simp only [List.length_map] at c ⊢; omega) | with_reducible assumption | exact And.intro (by omega) (by omega) | exact Or.inl (And.intro (by omega) (by omega)) | exact Or.inr (And.intro (by omega) (by omega)) | decide +kernel | exact len1000 (by simp) | rfl | fail "no way"))
local macro_rules | `(tactic| tm_at "sc1") => `(tactic| (focus (simp; done)))
local macro_rules | `(tactic| tm_at "ne") => `(tactic| (first | assumption | exact Ne.symm (by assumption) | (apply Box.ne2; assumption; tm_at "hp") | (apply Ne.symm; apply Box.ne2; assumption; tm_at "hp") | (apply ne_of_none2; assumption; tm_at "hp") | (apply Ne.symm; apply ne_of_none2; assumption; tm_at "hp") | fail "no way"))
local macro_rules | `(tactic| tm_at "f0") => `(tactic| (first | assumption | (apply Fr.new; assumption) | fail "no way"))
local macro_rules | `(tactic| tm_at "hp") => `(tactic| (first | assumption | exact upd_same | (apply SqL.of; first | assumption | exact upd_same) | (apply Fr.at0; tm_at "f0"; tm_at "hp") | (apply Fr.at1n; assumption; tm_at "ne"; tm_at "hp") | (apply sqFr0; tm_at "f0"; tm_at "hp") | (apply sqFr1; assumption; tm_at "ne"; tm_at "hp") | (apply Box.fr0; tm_at "f0"; tm_at "hp") | (apply Box.fr1; assumption; tm_at "ne"; tm_at "hp") | (apply Den.fr; tm_at "f0"; tm_at "hp") | (apply Dens.fr; tm_at "f0"; tm_at "hp") | fail "no way"))
local macro_rules | `(tactic| tm_at "free0") => `(tactic| (first | assumption | (apply updFree; assumption) | (apply updFree; apply updFree; assumption) | (apply updFree; apply updFree; apply updFree; assumption) | (apply updFree; apply updFree; apply updFree; apply updFree; assumption) | fail "no way"))
local macro_rules | `(tactic| tm_at "free") => `(tactic| (first | tm_at "free0" | (apply Fr.free; assumption; tm_at "free0") | (apply Box.free; assumption; tm_at "fr"; tm_at "free0") | (apply Fr.free; assumption; apply Fr.free; assumption; tm_at "free0") | fail "no way"))
local macro_rules | `(tactic| tm_at "fr") => `(tactic| (first | assumption | exact Fr.refl0 _ | exact Fr.refl (Box.nt (by assumption)) | (refine Fr.comp0 ?_ (by tm_at "f0"); tm_at "fr") | (refine Fr.comp ?_ (by assumption); tm_at "fr") | (refine Fr.compN ?_ (by assumption) (by tm_at "free"); tm_at "fr") | fail "no way"))
local macro_rules | `(tactic| tm_at "call") => `(tactic| fail "no call")
local macro_rules | `(tactic| tm_at "call") => `(tactic| (apply take_step; tm_at "hp"; tm_at "sc"; tm_at "sc"; intro r H1 h0 h1 hB fr))
local macro_rules | `(tactic| tm_at "ty") => `(tactic| (first | assumption | exact .base .non | exact .base (.bl _) | exact .base (.int _) | exact .base (.str _) | (apply TyX.base; apply TyOf.lst; tm_at "hp") | (apply TyX.base; apply TyOf.tup; tm_at "hp") | fail "no way"))
local macro_rules | `(tactic| tm_at "pre") => `(tactic| fail "none")
local macro_rules | `(tactic| tm_at "go1") => `(tactic| (first | tm_at "pre" | refine ⟨_, rfl, ?_⟩ | refine ⟨_, _, rfl, rfl, ?_⟩ | (apply set_step; tm_at "hp"; tm_at "sc"; tm_at "sc"; intro H1 hp fr) | (with_reducible refine iteDI ?_ ?_ <;> intro c) | (with_reducible refine iteDS ?_ ?_ <;> intro c) | (with_reducible refine iteD ?_ ?_ <;> intro c) | (with_reducible refine iteEM ?_ ?_ <;> intro c) | (with_reducible refine iteE ?_ ?_ <;> intro c) | with_reducible refine iteN ?_ | with_reducible refine iteF ?_ | with_reducible refine iteT ?_ | (refine fun (p : Addr) (np : _ = (none : Option HO)) => ?_; fail_if_success (refine ⟨fun (_ _ : Nat) (_ : Hp) => True, ?_⟩)) | (apply isi_tt; tm_at "ty"; focus (decide +kernel)) | (apply isi_ff; tm_at "ty"; focus (decide +kernel)) | (apply sl_step; tm_at "hp"; intro qq H1 ms nq hq fr) | (apply sum_step; tm_at "hp"; intro i) | (apply tru_step; tm_at "hp") | (apply len_step; tm_at "hp") | (apply lenq_step; assumption) | (apply ixq_step; assumption; tm_at "sc"; tm_at "sc"; intro v hv) | (apply lst_step; tm_at "hp") | (apply tupl_step; tm_at "hp") | (apply ixr_step; tm_at "hp"; exact rfl) | (apply ix0_step; tm_at "hp") | (apply ix1_step; tm_at "hp") | (apply ix2_step; tm_at "hp") | (apply ixi_step; tm_at "hp"; tm_at "sc"; tm_at "sc"; intro n hn hn') | (apply ixl_step; tm_at "hp"; tm_at "sc"; tm_at "sc"; intro v hv) | (apply ixt_step; tm_at "hp"; tm_at "sc"; tm_at "sc"; intro v hm hv) | (apply in_step; tm_at "hp"; rfl; rfl) | (apply cat_step; tm_at "hp"; tm_at "hp"; tm_at "sc") | (apply catT_step; tm_at "hp"; tm_at "hp"; tm_at "sc1") | (apply tyL_and; tm_at "hp") | (apply app_step; tm_at "hp"; tm_at "sc"; intro H1 hp fr) | tm_at "call" | refine ⟨⟨_, rfl⟩, ?_⟩ | (apply ixs_step; tm_at "sc"; tm_at "sc"; tm_at "sc"; intro ch) | refine .inl ⟨_, rfl, ?_⟩ | refine .inr ⟨_, rfl, ?_⟩ | (apply And.intro; tm_at "sc") | (with_reducible refine wayB ?_ ?_ <;> intro c) | fail "no way"))
local macro_rules | `(tactic| tm_at "go") => `(tactic| (repeat tm_at "go1"))
local macro_rules | `(tactic| tm_at "goo") => `(tactic| (repeat' tm_at "go1"))
local macro_rules | `(tactic| tm_at "den") => `(tactic| (first | assumption | exact Den.str _ | exact Den.int _ | exact Den.bl _ | exact Den.non | (apply Den.tups; tm_at "hp"; tm_at "dens") | (apply Den.fr; tm_at "f0"; tm_at "den") | fail "no way"))
local macro_rules | `(tactic| tm_at "dens") => `(tactic| (first | assumption | exact Dens.nil | (apply Dens.cons; tm_at "den"; tm_at "dens") | (apply Dens.fr; tm_at "f0"; tm_at "dens") | fail "no way"))
local macro_rules | `(tactic| tm_at "ix") => `(tactic| (apply Ix.mk; tm_at "hp"; tm_at "ne"; assumption; assumption))
local macro_rules | `(tactic| tm_at "dep") => `(tactic| (first | assumption | exact Dep.int | exact Dep.str | exact Dep.bl | exact Dep.non | (apply Dep.tup; tm_at "dlen"; tm_at "deps") | (apply Dep.mono; assumption; decide) | fail "no way"))
local macro_rules | `(tactic| tm_at "deps") => `(tactic| (first | assumption | exact memN | (apply memC; tm_at "dep"; tm_at "deps") | fail "no way"))
local macro_rules | `(tactic| tm_at "dlen") => `(tactic| (first | assumption | (focus (simp; done)) | omega | fail "no way"))
local macro_rules | `(tactic| tm_at "pre") => `(tactic| (apply rep_step; tm_at "hp"; tm_at "sc"; tm_at "sc"; intro rp H1 nrp hrp fr))

local macro_rules | `(tactic| tm_at "lits") => `(tactic| (try simp only [l_nl, l_open, l_close, l_sp, l_quo, l_bs, l_minus, l_zero, l_empty, l_n] at c))
local macro_rules | `(tactic| tm_at "pre") => `(tactic| (first | (apply slm_step; tm_at "sc"; tm_at "sc"; tm_at "sc") | (apply slf_step; tm_at "sc"; tm_at "sc") | (apply slt_step; tm_at "sc"; tm_at "sc") | (with_reducible refine iteEqZ ?_ ?_ <;> (intro c; tm_at "lits")) | (apply catS_step; tm_at "sc") | (apply inD_step) | (apply ordS_step) | (apply intS_step; assumption) | (apply sign_step) | (apply lenS_step; tm_at "sc")))
local macro_rules | `(tactic| tm_at "pre") => `(tactic| (apply while_go))
local macro_rules | `(tactic| tm_at "pre") => `(tactic| (apply ixS_step; tm_at "sc"; tm_at "sc"; assumption))
local macro_rules | `(tactic| tm_at "pre") => `(tactic| (apply appB_step; tm_at "hp"; tm_at "sc"; intro H1 hp fr))

set_option pp.deepTerms false
set_option pp.deepTerms.threshold 3
abbrev s_p_run_end : Stmt := top 33
theorem sc_p_run_end : FnScope ["row", "at", "known"] ["row", "at", "known"] (defScope s_p_run_end) := ⟨rfl, rfl, rfl, by decide +kernel, rfl, by decide +kernel, by decide +kernel⟩

theorem ok_run (T : K4.Bl mg) (D : Def1 K mg "_run_end" s_p_run_end) : Cal P w K mg base 1 "_run_end" ["row", "at", "known"] spRun := by
  refine D.cal sc_p_run_end (fun _ _ _ _ _ _ us hl => match us, hl with | [_, _, _], _ => rfl) (fun vs H Q E h => ?_) (fun f cdv A outer s H vs Q E hr h => ?_) <;> unfold spRun at h
  · obtain ⟨a, n, z, rfl, _⟩ := h
    rfl
  · obtain ⟨a, n, z, rfl, hz, hn, k⟩ := h
    refine ⟨_, (pss_cons (ps_while PassesOwn.never (PW.pt (pw_and (pt_cmpR op_lt (pv 1) (pe_callB call_lenS (by rfl) T.z_len (by decide +kernel) (pa_cons (pv 0) pa_nil)) (nomark _)) (pw_and1 (pt_cmpR op_inG (pe_ix ixS (pv 0) (pv 1) (fun _ _ => rfl)) (pv 2) (by rfl)))))
      (pss_one (ps_aug (i := 1) sc_p_run_end.nd rfl (Or.inl rfl) pe_int ip_add)))
    (pss_one (ps_ret (pv 1)))), ?_⟩
    refine ⟨UW a n z H, ⟨a.length - n, ?_⟩, fun m σ H2 hw => ?_⟩
    · unfold UW
      exact ⟨0, n, rfl, rfl, hn, rfl, Fr.refl0 _, rfl⟩
    · unfold UW at hw
      obtain ⟨j, i, rfl, ei, hj, em, f2, ha⟩ := hw
      tm_at "goo"
      · have hlt : n + j < a.length := by omega
        have hc' : a[n + j]? = some a[n + j] := List.getElem?_eq_getElem hlt
        have hc : a[i.toNat]? = some a[n + j] := by
          rw [show i.toNat = n + j by omega]
          exact hc'
        generalize a[n + j] = ch at hc hc'
        tm_at "goo"
        · show Nx (UW a n z H) m _ _
          refine Nx.of (a.length - (n + (j + 1))) (by omega) ?_
          unfold UW
          exact ⟨j + 1, i + 1, rfl, by omega, by omega, rfl, f2, all_takeN hc' ha (by simpa using c)⟩
        · refine k _ _ ?_ f2
          have e := tw_at ha (.inr ⟨ch, hc', by simpa using c⟩)
          rw [tw_len hj e]
          exact ei
      · refine k _ _ ?_ f2
        have e := tw_at ha (.inl (List.getElem?_eq_none_iff.mpr (by omega)))
        rw [tw_len hj e]
        exact ei
end
end TK
set_option Elab.async false
set_option linter.all false
set_option maxRecDepth 100000
set_option maxHeartbeats 4000000
namespace TK
open PySem PySem.Spec PyProof.Rows L2 M14 SX K4
/-- a row's place, where a token is read -/
def RdIn (K : PySem.W.Frag) (C : Addr) (lx : List Nat → Lx) : Sp := fun vs H Q E => ∃ (a : List Nat) (n : Nat) (l : Int), vs = [.str (S a), .int n, .int l] ∧ a.length ≤ 1000000 ∧ n < a.length ∧ RdOk K C (lx (a.drop n)) n l H Q E
@[irreducible] def spNam (K : PySem.W.Frag) (C : Addr) : Sp := RdIn K C lexName
@[irreducible] def spNum (K : PySem.W.Frag) (C : Addr) : Sp := fun vs H Q E => ∃ (a : List Nat) (n : Nat) (l : Int), vs = [.str (S a), .int n, .int l] ∧ a.length ≤ 1000000 ∧ (∃ c, a[n]? = some c ∧ isDig c = true) ∧ RdOk K C (lexNum (a.drop n)) n l H Q E
@[irreducible] def NM (a w : List Nat) (n : Nat) (l i : Int) (H : Hp) (σ : L2.St) (H' : Hp) : Prop := σ = [some (.str (S a)), some (.int (n : Nat)), some (.int l), some (.int i), some (.str (S w))] ∧ Fr [] H H' ∧ ¬ (40 < w.length ∨ (1 < w.length ∧ w.head? = some 48))
theorem slm_stepW {a w : List Nat} {i j : Int} {H : Hp} {Q : VK} (hz : a.length ≤ 1000000) (h0 : 0 ≤ i) (h1 : i ≤ j) (e : (a.drop i.toNat).take (j - i).toNat = w) (h : Q (.str (S w)) H) : K4.rSlS (.str (S a)) (some i) (some j) H Q := by
  refine slm_step hz h0 h1 ?_
  rw [e]
  exact h
theorem tw_take (l : List Nat) (p : Nat → Bool) : l.take (l.takeWhile p).length = l.takeWhile p := by
  induction l with
  | nil => rfl
  | cons x r ih =>
    rw [List.takeWhile_cons]
    split
    · simp [ih]
    · rfl
theorem cut_tw {a : List Nat} {n : Nat} {i : Int} {p : Nat → Bool} (e : i = ((n + ((a.drop n).takeWhile p).length : Nat) : Int)) : (a.drop ((n : Nat) : Int).toNat).take (i - ((n : Nat) : Int)).toNat = (a.drop n).takeWhile p := by
  have e1 : (i - ((n : Nat) : Int)).toNat = ((a.drop n).takeWhile p).length := by omega
  rw [e1]
  exact tw_take _ _
theorem l_zero' : (Str.ofString "0").cps.toList = [48] := by decide +kernel
section
variable {P : Program} {w : World} {K : PySem.W.Frag} {mg : Str → Option Value} {base : Heap}
set_option hygiene false
local macro_rules | `(tactic| tm_at "sc") => `(tactic| (first | omega | (simp only [List.length_cons, List.length_nil, List.length_map, List.length_set, List.length_append]; omega) | (simp only [List.length_map] at h1 ⊢; omega) | (simp only [List.length_map] at c ⊢; omega) | with_reducible assumption | exact And.intro (by omega) (by omega) | exact Or.inl (And.intro (by omega) (by omega)) | exact Or.inr (And.intro (by omega) (by omega)) | decide +kernel | exact len1000 (by simp) | rfl | fail "no way"))
local macro_rules | `(tactic| tm_at "sc1") => `(tactic| (focus (simp; done)))
local macro_rules | `(tactic| tm_at "ne") => `(tactic| (first | assumption | exact Ne.symm (by assumption) | (apply Box.ne2; assumption; tm_at "hp") | (apply Ne.symm; apply Box.ne2; assumption; tm_at "hp") | (apply ne_of_none2; assumption; tm_at "hp") | (apply Ne.symm; apply ne_of_none2; assumption; tm_at "hp") | fail "no way"))
local macro_rules | `(tactic| tm_at "f0") => `(tactic| (first | assumption | (apply Fr.new; assumption) | fail "no way"))
local macro_rules | `(tactic| tm_at "hp") => `(tactic| (first | assumption | exact upd_same | (apply SqL.of; first | assumption | exact upd_same) | (apply Fr.at0; tm_at "f0"; tm_at "hp") | (apply Fr.at1n; assumption; tm_at "ne"; tm_at "hp") | (apply sqFr0; tm_at "f0"; tm_at "hp") | (apply sqFr1; assumption; tm_at "ne"; tm_at "hp") | (apply Box.fr0; tm_at "f0"; tm_at "hp") | (apply Box.fr1; assumption; tm_at "ne"; tm_at "hp") | (apply Den.fr; tm_at "f0"; tm_at "hp") | (apply Dens.fr; tm_at "f0"; tm_at "hp") | fail "no way"))
local macro_rules | `(tactic| tm_at "free0") => `(tactic| (first | assumption | (apply updFree; assumption) | (apply updFree; apply updFree; assumption) | (apply updFree; apply updFree; apply updFree; assumption) | (apply updFree; apply updFree; apply updFree; apply updFree; assumption) | fail "no way"))
local macro_rules | `(tactic| tm_at "free") => `(tactic| (first | tm_at "free0" | (apply Fr.free; assumption; tm_at "free0") | (apply Box.free; assumption; tm_at "fr"; tm_at "free0") | (apply Fr.free; assumption; apply Fr.free; assumption; tm_at "free0") | fail "no way"))
local macro_rules | `(tactic| tm_at "fr") => `(tactic| (first | assumption | exact Fr.refl0 _ | exact Fr.refl (Box.nt (by assumption)) | (refine Fr.comp0 ?_ (by tm_at "f0"); tm_at "fr") | (refine Fr.comp ?_ (by assumption); tm_at "fr") | (refine Fr.compN ?_ (by assumption) (by tm_at "free"); tm_at "fr") | fail "no way"))
local macro_rules | `(tactic| tm_at "call") => `(tactic| fail "no call")
local macro_rules | `(tactic| tm_at "call") => `(tactic| (apply take_step; tm_at "hp"; tm_at "sc"; tm_at "sc"; intro r H1 h0 h1 hB fr))
local macro_rules | `(tactic| tm_at "ty") => `(tactic| (first | assumption | exact .base .non | exact .base (.bl _) | exact .base (.int _) | exact .base (.str _) | (apply TyX.base; apply TyOf.lst; tm_at "hp") | (apply TyX.base; apply TyOf.tup; tm_at "hp") | fail "no way"))
local macro_rules | `(tactic| tm_at "pre") => `(tactic| fail "none")
local macro_rules | `(tactic| tm_at "go1") => `(tactic| (first | tm_at "pre" | refine ⟨_, rfl, ?_⟩ | refine ⟨_, _, rfl, rfl, ?_⟩ | (apply set_step; tm_at "hp"; tm_at "sc"; tm_at "sc"; intro H1 hp fr) | (with_reducible refine iteDI ?_ ?_ <;> intro c) | (with_reducible refine iteDS ?_ ?_ <;> intro c) | (with_reducible refine iteD ?_ ?_ <;> intro c) | (with_reducible refine iteEM ?_ ?_ <;> intro c) | (with_reducible refine iteE ?_ ?_ <;> intro c) | with_reducible refine iteN ?_ | with_reducible refine iteF ?_ | with_reducible refine iteT ?_ | (refine fun (p : Addr) (np : _ = (none : Option HO)) => ?_; fail_if_success (refine ⟨fun (_ _ : Nat) (_ : Hp) => True, ?_⟩)) | (apply isi_tt; tm_at "ty"; focus (decide +kernel)) | (apply isi_ff; tm_at "ty"; focus (decide +kernel)) | (apply sl_step; tm_at "hp"; intro qq H1 ms nq hq fr) | (apply sum_step; tm_at "hp"; intro i) | (apply tru_step; tm_at "hp") | (apply len_step; tm_at "hp") | (apply lenq_step; assumption) | (apply ixq_step; assumption; tm_at "sc"; tm_at "sc"; intro v hv) | (apply lst_step; tm_at "hp") | (apply tupl_step; tm_at "hp") | (apply ixr_step; tm_at "hp"; exact rfl) | (apply ix0_step; tm_at "hp") | (apply ix1_step; tm_at "hp") | (apply ix2_step; tm_at "hp") | (apply ixi_step; tm_at "hp"; tm_at "sc"; tm_at "sc"; intro n hn hn') | (apply ixl_step; tm_at "hp"; tm_at "sc"; tm_at "sc"; intro v hv) | (apply ixt_step; tm_at "hp"; tm_at "sc"; tm_at "sc"; intro v hm hv) | (apply in_step; tm_at "hp"; rfl; rfl) | (apply cat_step; tm_at "hp"; tm_at "hp"; tm_at "sc") | (apply catT_step; tm_at "hp"; tm_at "hp"; tm_at "sc1") | (apply tyL_and; tm_at "hp") | (apply app_step; tm_at "hp"; tm_at "sc"; intro H1 hp fr) | tm_at "call" | refine ⟨⟨_, rfl⟩, ?_⟩ | (apply ixs_step; tm_at "sc"; tm_at "sc"; tm_at "sc"; intro ch) | refine .inl ⟨_, rfl, ?_⟩ | refine .inr ⟨_, rfl, ?_⟩ | (apply And.intro; tm_at "sc") | (with_reducible refine wayB ?_ ?_ <;> intro c) | fail "no way"))
local macro_rules | `(tactic| tm_at "go") => `(tactic| (repeat tm_at "go1"))
local macro_rules | `(tactic| tm_at "goo") => `(tactic| (repeat' tm_at "go1"))
local macro_rules | `(tactic| tm_at "den") => `(tactic| (first | assumption | exact Den.str _ | exact Den.int _ | exact Den.bl _ | exact Den.non | (apply Den.tups; tm_at "hp"; tm_at "dens") | (apply Den.fr; tm_at "f0"; tm_at "den") | fail "no way"))
local macro_rules | `(tactic| tm_at "dens") => `(tactic| (first | assumption | exact Dens.nil | (apply Dens.cons; tm_at "den"; tm_at "dens") | (apply Dens.fr; tm_at "f0"; tm_at "dens") | fail "no way"))
local macro_rules | `(tactic| tm_at "ix") => `(tactic| (apply Ix.mk; tm_at "hp"; tm_at "ne"; assumption; assumption))
local macro_rules | `(tactic| tm_at "dep") => `(tactic| (first | assumption | exact Dep.int | exact Dep.str | exact Dep.bl | exact Dep.non | (apply Dep.tup; tm_at "dlen"; tm_at "deps") | (apply Dep.mono; assumption; decide) | fail "no way"))
local macro_rules | `(tactic| tm_at "deps") => `(tactic| (first | assumption | exact memN | (apply memC; tm_at "dep"; tm_at "deps") | fail "no way"))
local macro_rules | `(tactic| tm_at "dlen") => `(tactic| (first | assumption | (focus (simp; done)) | omega | fail "no way"))
local macro_rules | `(tactic| tm_at "pre") => `(tactic| (apply rep_step; tm_at "hp"; tm_at "sc"; tm_at "sc"; intro rp H1 nrp hrp fr))

local macro_rules | `(tactic| tm_at "lits") => `(tactic| (try simp only [l_nl, l_open, l_close, l_sp, l_quo, l_bs, l_minus, l_zero, l_empty, l_n] at c))
local macro_rules | `(tactic| tm_at "pre") => `(tactic| (first | (apply slm_step; tm_at "sc"; tm_at "sc"; tm_at "sc") | (apply slf_step; tm_at "sc"; tm_at "sc") | (apply slt_step; tm_at "sc"; tm_at "sc") | (with_reducible refine iteEqZ ?_ ?_ <;> (intro c; tm_at "lits")) | (apply catS_step; tm_at "sc") | (apply inD_step) | (apply ordS_step) | (apply intS_step; assumption) | (apply sign_step) | (apply lenS_step; tm_at "sc")))
local macro_rules | `(tactic| tm_at "pre") => `(tactic| (apply while_go))
local macro_rules | `(tactic| tm_at "pre") => `(tactic| (apply ixS_step; tm_at "sc"; tm_at "sc"; assumption))
local macro_rules | `(tactic| tm_at "pre") => `(tactic| (apply appB_step; tm_at "hp"; tm_at "sc"; intro H1 hp fr))

local macro_rules | `(tactic| tm_at "call") => `(tactic| (apply rs_step; intro xd H1 nd hd fr))
local macro_rules | `(tactic| tm_at "pre") => `(tactic| (apply inTS_step; assumption))
set_option pp.deepTerms false
set_option pp.deepTerms.threshold 3
abbrev s_p_read_name : Stmt := top 34
theorem sc_p_read_name : FnScope ["row", "at", "line", "behind", "word"] ["row", "at", "line"] (defScope s_p_read_name) := ⟨rfl, rfl, rfl, by decide +kernel, rfl, by decide +kernel, by decide +kernel⟩

theorem ok_nam {C tK : Addr} (T : K4.Bl mg) (X_BadToken : XE2 P w K mg base "BadToken" C) (g_NAME_SIGNS : GV mg "NAME_SIGNS" (.str zNc)) (g_LONGEST_NAME : GV mg "LONGEST_NAME" (.int 30)) (g_KEYWORDS : GV mg "KEYWORDS" (.ref tK)) (hK : TupS K tK kws) (G_p_run_end : Cal P w K mg base 1 "_run_end" ["row", "at", "known"] spRun) (D : Def1 K mg "_read_name" s_p_read_name) : CalX P w K mg base 3 "_read_name" ["row", "at", "line"] (spNam K C) := by
  refine D.calX sc_p_read_name (fun _ _ _ _ _ _ us hl => match us, hl with | [_, _, _], _ => rfl) (fun vs H Q E h => ?_) (fun f cdv A outer s H vs Q E hr h => ?_) <;> unfold spNam RdIn at h
  · obtain ⟨a, n, l, rfl, _⟩ := h
    rfl
  · obtain ⟨a, n, l, rfl, hz, hn, k⟩ := h
    refine ⟨_, (pss_cons (ps_set (i := 3) sc_p_read_name.nd rfl (Or.inl rfl) (pe_cal G_p_run_end (hr.mono (by omega)) (by rfl) (pa_cons (pv 0) (pa_cons (pv 1) (pa_cons (pe_gv g_NAME_SIGNS (by rfl)) pa_nil)))))
    (pss_cons (ps_set (i := 4) sc_p_read_name.nd rfl (Or.inl rfl) (pe_slice slS (pv 0) (po_some (pv 1)) (po_some (pv 3))))
    (pss_cons (ps_if (pt_cmpR op_gt (pe_callB call_lenS (by rfl) T.z_len (by decide +kernel) (pa_cons (pv 4) pa_nil)) (pe_gv g_LONGEST_NAME (by rfl)) (nomark _))
      (pss_one (ps_raise2 X_BadToken rfl takesE (hr.mono (by omega)) (by rfl) (pa_cons (pv 2) (pa_cons (pe_op op_add (pv 1) pe_int) pa_nil))))
      pss_nil)
    (pss_cons (ps_if (pt_cmpR (opIn K) (pv 4) (pe_gv g_KEYWORDS (by rfl)) (by rfl))
      (pss_one (ps_ret (pe_tup (pa_cons pe_str (pa_cons (pv 4) (pa_cons (pv 3) pa_nil))))))
      pss_nil)
    (pss_one (ps_ret (pe_tup (pa_cons pe_str (pa_cons (pv 4) (pa_cons (pv 3) pa_nil)))))))))), ?_⟩
    refine ⟨_, rfl, _, rfl, ?_⟩
    refine run_step hz (by omega) fun i H1 ei f1 => ?_
    have ew : (fun c => decide (c ∈ zNc.cps.toList)) = isNc := funext fun c => nc_in
    rw [ew] at ei
    have hle : ((a.drop n).takeWhile isNc).length ≤ (a.drop n).length := List.Sublist.length_le (List.takeWhile_sublist _)
    rw [List.length_drop] at hle
    refine ⟨_, rfl, _, rfl, _, rfl, _, rfl, _, rfl, ?_⟩
    refine slm_stepW hz (by omega) (by omega) (cut_tw ei) ?_
    unfold RdOk lexName at k
    dsimp only at k
    generalize (a.drop n).takeWhile isNc = w at k ei hle
    tm_at "goo"
    · rw [if_pos (show 30 < w.length by omega)] at k
      exact k xd _ (by rw [hd]; rfl) (f1.comp0 fr)
    · rw [if_neg (show ¬ 30 < w.length by omega), if_pos (by simpa using c)] at k
      subst ei
      exact k (.str (S w)) p _ (.str _) (f1.free np) upd_same (f1.comp0 (Fr.new np))
    · rw [if_neg (show ¬ 30 < w.length by omega), if_neg (by simpa using c)] at k
      subst ei
      exact k (.str (S w)) p _ (.str _) (f1.free np) upd_same (f1.comp0 (Fr.new np))
theorem intD_step {w : List Nat} {H : Hp} {Q : VK} (hd : NumText.AllDigits w) (hn : w ≠ []) (hl : w.length ≤ 640) (q : Q (.int ((NumText.digitsVal w : Nat) : Int)) H) : rIntS [.str (S w)] H Q := by
  unfold rIntS
  exact ⟨_, _, rfl, intText_digits (x := S w) hd hn (by rw [S_len]; omega), by rw [S_len]; omega, q⟩
theorem dig_w {r : List Nat} : NumText.AllDigits (r.takeWhile isDig) := by
  have : (r.takeWhile isDig).all isDig = true := by
    induction r with
    | nil => rfl
    | cons x r ih =>
      rw [List.takeWhile_cons]
      split
      · rename_i hx
        rw [List.all_cons, hx, ih]; rfl
      · rfl
  exact allDig.mp this
abbrev s_p_read_number : Stmt := top 35
theorem sc_p_read_number : FnScope ["row", "at", "line", "behind", "digits"] ["row", "at", "line"] (defScope s_p_read_number) := ⟨rfl, rfl, rfl, by decide +kernel, rfl, by decide +kernel, by decide +kernel⟩

theorem ok_num {C : Addr} (T : K4.Bl mg) (X_BadToken : XE2 P w K mg base "BadToken" C) (g_DIGITS : GV mg "DIGITS" (.str zDig)) (g_NAME_STARTS : GV mg "NAME_STARTS" (.str zNs)) (g_MOST_DIGITS : GV mg "MOST_DIGITS" (.int 40)) (G_p_run_end : Cal P w K mg base 1 "_run_end" ["row", "at", "known"] spRun) (D : Def1 K mg "_read_number" s_p_read_number) : CalX P w K mg base 3 "_read_number" ["row", "at", "line"] (spNum K C) := by
  refine D.calX sc_p_read_number (fun _ _ _ _ _ _ us hl => match us, hl with | [_, _, _], _ => rfl) (fun vs H Q E h => ?_) (fun f cdv A outer s H vs Q E hr h => ?_) <;> unfold spNum at h
  · obtain ⟨a, n, l, rfl, _⟩ := h
    rfl
  · obtain ⟨a, n, l, rfl, hz, ⟨c0, hc0, dc0⟩, k⟩ := h
    have hn : n < a.length := (List.getElem?_eq_some_iff.mp hc0).1
    refine ⟨_, (pss_cons (ps_set (i := 3) sc_p_read_number.nd rfl (Or.inl rfl) (pe_cal G_p_run_end (hr.mono (by omega)) (by rfl) (pa_cons (pv 0) (pa_cons (pv 1) (pa_cons (pe_gv g_DIGITS (by rfl)) pa_nil)))))
    (pss_cons (ps_set (i := 4) sc_p_read_number.nd rfl (Or.inl rfl) (pe_slice slS (pv 0) (po_some (pv 1)) (po_some (pv 3))))
    (C8.pss_cut (ps_if (PW.pt (pw_or (pt_cmpR op_gt (pe_callB call_lenS (by rfl) T.z_len (by decide +kernel) (pa_cons (pv 4) pa_nil)) (pe_gv g_MOST_DIGITS (by rfl)) (nomark _)) (pw_or1 (PW.pt (pw_and (pt_cmpR op_gt (pe_callB call_lenS (by rfl) T.z_len (by decide +kernel) (pa_cons (pv 4) pa_nil)) pe_int (nomark _)) (pw_and1 (pt_cmpR op_eq (pe_ix ixS (pv 4) pe_int (fun _ _ => rfl)) pe_str (nomark _))))))))
      (pss_one (ps_raise2 X_BadToken rfl takesE (hr.mono (by omega)) (by rfl) (pa_cons (pv 2) (pa_cons (pe_op op_add (pv 1) pe_int) pa_nil))))
      pss_nil)
    (pss_cons (ps_if (PW.pt (pw_and (pt_cmpR op_lt (pv 3) (pe_callB call_lenS (by rfl) T.z_len (by decide +kernel) (pa_cons (pv 0) pa_nil)) (nomark _)) (pw_and1 (pt_cmpR op_inG (pe_ix ixS (pv 0) (pv 3) (fun _ _ => rfl)) (pe_gv g_NAME_STARTS (by rfl)) (by rfl)))))
      (pss_one (ps_raise2 X_BadToken rfl takesE (hr.mono (by omega)) (by rfl) (pa_cons (pv 2) (pa_cons (pe_op op_add (pv 1) pe_int) pa_nil))))
      pss_nil)
    (pss_one (ps_ret (pe_tup (pa_cons pe_str (pa_cons (pe_callTy call_intS (by rfl) T.z_int (by decide +kernel) (pa_cons (pv 4) pa_nil)) (pa_cons (pv 3) pa_nil)))))))))), ?_⟩
    refine ⟨_, rfl, _, rfl, ?_⟩
    refine run_step hz (by omega) fun i H1 ei f1 => ?_
    have ew : (fun c => decide (c ∈ zDig.cps.toList)) = isDig := funext fun c => dig_in
    rw [ew] at ei
    have hle : ((a.drop n).takeWhile isDig).length ≤ (a.drop n).length := List.Sublist.length_le (List.takeWhile_sublist _)
    rw [List.length_drop] at hle
    refine ⟨_, rfl, _, rfl, _, rfl, _, rfl, _, rfl, ?_⟩
    refine slm_stepW hz (by omega) (by omega) (cut_tw ei) ?_
    unfold RdOk lexNum at k
    dsimp only at k
    have hdg : NumText.AllDigits ((a.drop n).takeWhile isDig) := dig_w
    have hnil : (a.drop n).takeWhile isDig ≠ [] := by
      rw [drop_get hc0, List.takeWhile_cons, dc0]
      exact List.cons_ne_nil _ _
    have hdr : (a.drop n).drop ((a.drop n).takeWhile isDig).length = a.drop i.toNat := by rw [List.drop_drop, ei]; rfl
    rw [hdr] at k
    generalize (a.drop n).takeWhile isDig = w at k ei hle hdg hnil
    refine ⟨NM a w n l i H, ?_, fun σ H2 hm => ?_⟩
    · show tIfS _ _ _ _ _ _
      tm_at "goo"
      · rw [if_pos (.inl (show 40 < w.length by omega))] at k
        exact k xd _ (by rw [hd]; rfl) (f1.comp0 fr)
      · obtain ⟨x, r, rfl⟩ := List.exists_cons_of_ne_nil hnil
        refine ixS_step (by omega) (by decide) (c := x) rfl ?_
        tm_at "goo"
        · rw [if_pos (.inr ⟨show 1 < (x :: r).length by omega, by simpa using c⟩)] at k
          exact k xd _ (by rw [hd]; rfl) (f1.comp0 fr)
        · show NM a _ n l i H _ _
          unfold NM
          refine ⟨rfl, f1, fun hh => ?_⟩
          rcases hh with hh | ⟨_, hh⟩
          · omega
          · exact c (by simp at hh; rw [hh])
      · show NM a _ n l i H _ _
        unfold NM
        exact ⟨rfl, f1, by omega⟩
    · unfold NM at hm
      obtain ⟨rfl, f2, hnc⟩ := hm
      rw [if_neg hnc] at k
      have hl40 : w.length ≤ 640 := by omega
      tm_at "goo"
      · have hlt : i.toNat < a.length := by omega
        have hc := List.getElem?_eq_getElem hlt
        rw [List.drop_eq_getElem_cons hlt] at k
        generalize a[i.toNat] = ch at hc k
        refine ixS_step hz (by omega) hc ?_
        tm_at "goo"
        · rw [if_pos (by have := c; rw [ns_in] at this; simpa using this)] at k
          exact k xd _ (by rw [hd]; rfl) (f2.comp0 fr)
        · rw [if_neg (by have := c; rw [ns_in] at this; simpa using this)] at k
          refine intD_step hdg hnil hl40 ?_
          tm_at "goo"
          subst ei
          exact k _ p _ (.int _) (f2.free np) upd_same (f2.comp0 (Fr.new np))
      · rw [if_neg (by rw [List.drop_eq_nil_iff.mpr (by omega)]; simp)] at k
        refine intD_step hdg hnil hl40 ?_
        tm_at "goo"
        subst ei
        exact k _ p _ (.int _) (f2.free np) upd_same (f2.comp0 (Fr.new np))
end
end TK
set_option Elab.async false
set_option linter.all false
set_option maxRecDepth 100000
set_option maxHeartbeats 4000000
namespace TK
open PySem PySem.Spec PyProof.Rows L2 M14 SX K4
def scP (d : List Nat) (j : Nat) : Sc → Sc
  | .ok d' k => .ok (d ++ d') (j + k)
  | .end_ => .end_
  | .esc k => .esc (j + k)
theorem scP_scP (d d' : List Nat) (j j' : Nat) (x : Sc) : scP d j (scP d' j' x) = scP (d ++ d') (j + j') x := by
  cases x <;> simp [scP, Nat.add_assoc]
theorem scan_plain {q c : Nat} {r : List Nat} (h1 : c ≠ q) (h2 : c ≠ 92) : scan q (c :: r) = scP [c] 1 (scan q r) := by
  cases r with
  | nil => unfold scan; rw [if_neg h1]; rfl
  | cons e r =>
    rw [scan, if_neg h1, if_neg h2]
    cases scan q (e :: r) <;> simp [scP, Nat.add_comm]
theorem scan_esc {q e : Nat} {r : List Nat} (h1 : 92 ≠ q) (h2 : isEs e = true) : scan q (92 :: e :: r) = scP [dcE e] 2 (scan q r) := by
  rw [scan, if_neg h1, if_pos rfl, if_pos h2]
  cases scan q r <;> simp [scP, Nat.add_comm]
theorem scan_bad {q e : Nat} {r : List Nat} (h1 : 92 ≠ q) (h2 : isEs e = false) : scan q (92 :: e :: r) = .esc 0 := by
  rw [scan, if_neg h1, if_pos rfl, if_neg (by rw [h2]; exact Bool.false_ne_true)]
theorem scan_q {q : Nat} {r : List Nat} : scan q (q :: r) = .ok [] 0 := by
  cases r with
  | nil => unfold scan; rw [if_pos rfl]
  | cons e r => rw [scan, if_pos rfl]
def fEs (z : Str) : Option V := match z.cps.toList with
  | [e] => if isEs e = true then some (.str (S [dcE e])) else none
  | _ => none
theorem fEs_one (e : Nat) : fEs (S [e]) = if isEs e = true then some (.str (S [dcE e])) else none := by unfold fEs; simp
def chs (d : List Nat) : List V := d.map fun c => V.str (S [c])
theorem joinL_chs (d : List Nat) : TL.joinL [] (d.map fun c => [c]) = d := by
  induction d with
  | nil => rfl
  | cons x r ih =>
    cases r with
    | nil => rfl
    | cons y r =>
      show [x] ++ [] ++ TL.joinL [] ((y :: r).map fun c => [c]) = _
      rw [ih]; rfl
theorem sum_ones (d : List Nat) : ((d.map fun c => [c]).map (·.length)).sum = d.length := by
  induction d with
  | nil => rfl
  | cons x r ih => simp at ih ⊢; omega
theorem chs_snoc (d : List Nat) (c : Nat) : chs d ++ [V.str (S [c])] = chs (d ++ [c]) := by simp [chs]
theorem chs_len (d : List Nat) : (chs d).length = d.length := by simp [chs]
@[irreducible] def spTex (K : PySem.W.Frag) (C : Addr) : Sp := fun vs H Q E => ∃ (a : List Nat) (n q : Nat) (l : Int), vs = [.str (S a), .int n, .int l] ∧ a.length ≤ 1000000 ∧ a[n]? = some q ∧ q ≠ 92 ∧ RdOk K C (lexText q (a.drop (n + 1))) n l H Q E
@[irreducible] def XW (a : List Nat) (n q : Nat) (l : Int) (H : Hp) (m : Nat) (σ : L2.St) (H' : Hp) : Prop :=
  ∃ (p : Addr) (d : List Nat) (j : Nat) (i : Int), σ = [some (.str (S a)), some (.int (n : Nat)), some (.int l), some (.ref p), some (.int i)] ∧ i = ((n + 1 + j : Nat) : Int) ∧ n + 1 + j ≤ a.length ∧ m = a.length - (n + 1 + j) ∧ H p = none ∧ H' p = some (.lst (chs d)) ∧ d.length ≤ j ∧ Fr [] H H' ∧ scan q (a.drop (n + 1)) = scP d j (scan q (a.drop (n + 1 + j)))
@[irreducible] def XE (a : List Nat) (n q : Nat) (l : Int) (H : Hp) (σ : L2.St) (H' : Hp) : Prop :=
  ∃ (p : Addr) (d : List Nat) (j : Nat) (i : Int), σ = [some (.str (S a)), some (.int (n : Nat)), some (.int l), some (.ref p), some (.int i)] ∧ i = ((n + 1 + j : Nat) : Int) ∧ n + 1 + j ≤ a.length ∧ H' p = some (.lst (chs d)) ∧ d.length ≤ j ∧ Fr [] H H' ∧ (a[n + 1 + j]? = some q ∨ a[n + 1 + j]? = none) ∧ scan q (a.drop (n + 1)) = scP d j (scan q (a.drop (n + 1 + j)))
section
variable {P : Program} {w : World} {K : PySem.W.Frag} {mg : Str → Option Value} {base : Heap}
set_option hygiene false
local macro_rules | `(tactic| tm_at "sc") => `(tactic| (first | omega | (simp only [List.length_cons, List.length_nil, List.length_map, List.length_set, List.length_append]; omega) | (simp only [List.length_map] at h1 ⊢; omega) | (simp only [List.length_map] at c ⊢; omega) | with_reducible assumption | exact And.intro (by omega) (by omega) | exact Or.inl (And.intro (by omega) (by omega)) | exact Or.inr (And.intro (by omega) (by omega)) | decide +kernel | exact len1000 (by simp) | rfl | fail "no way"))
local macro_rules | `(tactic| tm_at "sc1") => `(tactic| (focus (simp; done)))
local macro_rules | `(tactic| tm_at "ne") => `(tactic| (first | assumption | exact Ne.symm (by assumption) | (apply Box.ne2; assumption; tm_at "hp") | (apply Ne.symm; apply Box.ne2; assumption; tm_at "hp") | (apply ne_of_none2; assumption; tm_at "hp") | (apply Ne.symm; apply ne_of_none2; assumption; tm_at "hp") | fail "no way"))
local macro_rules | `(tactic| tm_at "f0") => `(tactic| (first | assumption | (apply Fr.new; assumption) | fail "no way"))
local macro_rules | `(tactic| tm_at "hp") => `(tactic| (first | assumption | exact upd_same | (apply SqL.of; first | assumption | exact upd_same) | (apply Fr.at0; tm_at "f0"; tm_at "hp") | (apply Fr.at1n; assumption; tm_at "ne"; tm_at "hp") | (apply sqFr0; tm_at "f0"; tm_at "hp") | (apply sqFr1; assumption; tm_at "ne"; tm_at "hp") | (apply Box.fr0; tm_at "f0"; tm_at "hp") | (apply Box.fr1; assumption; tm_at "ne"; tm_at "hp") | (apply Den.fr; tm_at "f0"; tm_at "hp") | (apply Dens.fr; tm_at "f0"; tm_at "hp") | fail "no way"))
local macro_rules | `(tactic| tm_at "free0") => `(tactic| (first | assumption | (apply updFree; assumption) | (apply updFree; apply updFree; assumption) | (apply updFree; apply updFree; apply updFree; assumption) | (apply updFree; apply updFree; apply updFree; apply updFree; assumption) | fail "no way"))
local macro_rules | `(tactic| tm_at "free") => `(tactic| (first | tm_at "free0" | (apply Fr.free; assumption; tm_at "free0") | (apply Box.free; assumption; tm_at "fr"; tm_at "free0") | (apply Fr.free; assumption; apply Fr.free; assumption; tm_at "free0") | fail "no way"))
local macro_rules | `(tactic| tm_at "fr") => `(tactic| (first | assumption | exact Fr.refl0 _ | exact Fr.refl (Box.nt (by assumption)) | (refine Fr.comp0 ?_ (by tm_at "f0"); tm_at "fr") | (refine Fr.comp ?_ (by assumption); tm_at "fr") | (refine Fr.compN ?_ (by assumption) (by tm_at "free"); tm_at "fr") | fail "no way"))
local macro_rules | `(tactic| tm_at "call") => `(tactic| fail "no call")
local macro_rules | `(tactic| tm_at "call") => `(tactic| (apply take_step; tm_at "hp"; tm_at "sc"; tm_at "sc"; intro r H1 h0 h1 hB fr))
local macro_rules | `(tactic| tm_at "ty") => `(tactic| (first | assumption | exact .base .non | exact .base (.bl _) | exact .base (.int _) | exact .base (.str _) | (apply TyX.base; apply TyOf.lst; tm_at "hp") | (apply TyX.base; apply TyOf.tup; tm_at "hp") | fail "no way"))
local macro_rules | `(tactic| tm_at "pre") => `(tactic| fail "none")
local macro_rules | `(tactic| tm_at "go1") => `(tactic| (first | tm_at "pre" | refine ⟨_, rfl, ?_⟩ | refine ⟨_, _, rfl, rfl, ?_⟩ | (apply set_step; tm_at "hp"; tm_at "sc"; tm_at "sc"; intro H1 hp fr) | (with_reducible refine iteDI ?_ ?_ <;> intro c) | (with_reducible refine iteDS ?_ ?_ <;> intro c) | (with_reducible refine iteD ?_ ?_ <;> intro c) | (with_reducible refine iteEM ?_ ?_ <;> intro c) | (with_reducible refine iteE ?_ ?_ <;> intro c) | with_reducible refine iteN ?_ | with_reducible refine iteF ?_ | with_reducible refine iteT ?_ | (refine fun (p : Addr) (np : _ = (none : Option HO)) => ?_; fail_if_success (refine ⟨fun (_ _ : Nat) (_ : Hp) => True, ?_⟩)) | (apply isi_tt; tm_at "ty"; focus (decide +kernel)) | (apply isi_ff; tm_at "ty"; focus (decide +kernel)) | (apply sl_step; tm_at "hp"; intro qq H1 ms nq hq fr) | (apply sum_step; tm_at "hp"; intro i) | (apply tru_step; tm_at "hp") | (apply len_step; tm_at "hp") | (apply lenq_step; assumption) | (apply ixq_step; assumption; tm_at "sc"; tm_at "sc"; intro v hv) | (apply lst_step; tm_at "hp") | (apply tupl_step; tm_at "hp") | (apply ixr_step; tm_at "hp"; exact rfl) | (apply ix0_step; tm_at "hp") | (apply ix1_step; tm_at "hp") | (apply ix2_step; tm_at "hp") | (apply ixi_step; tm_at "hp"; tm_at "sc"; tm_at "sc"; intro n hn hn') | (apply ixl_step; tm_at "hp"; tm_at "sc"; tm_at "sc"; intro v hv) | (apply ixt_step; tm_at "hp"; tm_at "sc"; tm_at "sc"; intro v hm hv) | (apply in_step; tm_at "hp"; rfl; rfl) | (apply cat_step; tm_at "hp"; tm_at "hp"; tm_at "sc") | (apply catT_step; tm_at "hp"; tm_at "hp"; tm_at "sc1") | (apply tyL_and; tm_at "hp") | (apply app_step; tm_at "hp"; tm_at "sc"; intro H1 hp fr) | tm_at "call" | refine ⟨⟨_, rfl⟩, ?_⟩ | (apply ixs_step; tm_at "sc"; tm_at "sc"; tm_at "sc"; intro ch) | refine .inl ⟨_, rfl, ?_⟩ | refine .inr ⟨_, rfl, ?_⟩ | (apply And.intro; tm_at "sc") | (with_reducible refine wayB ?_ ?_ <;> intro c) | fail "no way"))
local macro_rules | `(tactic| tm_at "go") => `(tactic| (repeat tm_at "go1"))
local macro_rules | `(tactic| tm_at "goo") => `(tactic| (repeat' tm_at "go1"))
local macro_rules | `(tactic| tm_at "den") => `(tactic| (first | assumption | exact Den.str _ | exact Den.int _ | exact Den.bl _ | exact Den.non | (apply Den.tups; tm_at "hp"; tm_at "dens") | (apply Den.fr; tm_at "f0"; tm_at "den") | fail "no way"))
local macro_rules | `(tactic| tm_at "dens") => `(tactic| (first | assumption | exact Dens.nil | (apply Dens.cons; tm_at "den"; tm_at "dens") | (apply Dens.fr; tm_at "f0"; tm_at "dens") | fail "no way"))
local macro_rules | `(tactic| tm_at "ix") => `(tactic| (apply Ix.mk; tm_at "hp"; tm_at "ne"; assumption; assumption))
local macro_rules | `(tactic| tm_at "dep") => `(tactic| (first | assumption | exact Dep.int | exact Dep.str | exact Dep.bl | exact Dep.non | (apply Dep.tup; tm_at "dlen"; tm_at "deps") | (apply Dep.mono; assumption; decide) | fail "no way"))
local macro_rules | `(tactic| tm_at "deps") => `(tactic| (first | assumption | exact memN | (apply memC; tm_at "dep"; tm_at "deps") | fail "no way"))
local macro_rules | `(tactic| tm_at "dlen") => `(tactic| (first | assumption | (focus (simp; done)) | omega | fail "no way"))
local macro_rules | `(tactic| tm_at "pre") => `(tactic| (apply rep_step; tm_at "hp"; tm_at "sc"; tm_at "sc"; intro rp H1 nrp hrp fr))

local macro_rules | `(tactic| tm_at "lits") => `(tactic| (try simp only [l_nl, l_open, l_close, l_sp, l_quo, l_bs, l_minus, l_zero, l_empty, l_n] at c))
local macro_rules | `(tactic| tm_at "pre") => `(tactic| (first | (apply slm_step; tm_at "sc"; tm_at "sc"; tm_at "sc") | (apply slf_step; tm_at "sc"; tm_at "sc") | (apply slt_step; tm_at "sc"; tm_at "sc") | (with_reducible refine iteEqZ ?_ ?_ <;> (intro c; tm_at "lits")) | (apply catS_step; tm_at "sc") | (apply inD_step) | (apply ordS_step) | (apply intS_step; assumption) | (apply sign_step) | (apply lenS_step; tm_at "sc")))
local macro_rules | `(tactic| tm_at "pre") => `(tactic| (apply while_go))
local macro_rules | `(tactic| tm_at "pre") => `(tactic| (apply ixS_step; tm_at "sc"; tm_at "sc"; assumption))
local macro_rules | `(tactic| tm_at "pre") => `(tactic| (apply appB_step; tm_at "hp"; tm_at "sc"; intro H1 hp fr))

local macro_rules | `(tactic| tm_at "call") => `(tactic| (apply rs_step; intro xd H1 nd hd fr))
set_option pp.deepTerms false
set_option pp.deepTerms.threshold 3
abbrev s_p_read_text : Stmt := top 36
theorem sc_p_read_text : FnScope ["row", "at", "line", "parts", "behind"] ["row", "at", "line"] (defScope s_p_read_text) := ⟨rfl, rfl, rfl, by decide +kernel, rfl, by decide +kernel, by decide +kernel⟩

theorem ok_tex {C dE : Addr} (T : K4.Bl mg) (X_BadToken : XE2 P w K mg base "BadToken" C) (g_ESCAPES : GV mg "ESCAPES" (.ref dE)) (D_ESCAPES : KD K w dE fEs) (D : Def1 K mg "_read_text" s_p_read_text) : CalX P w K mg base 3 "_read_text" ["row", "at", "line"] (spTex K C) := by
  refine D.calX sc_p_read_text (fun _ _ _ _ _ _ us hl => match us, hl with | [_, _, _], _ => rfl) (fun vs H Q E h => ?_) (fun f cdv A outer s H vs Q E hr h => ?_) <;> unfold spTex at h
  · obtain ⟨a, n, q, l, rfl, _⟩ := h
    rfl
  · obtain ⟨a, n, q, l, rfl, hz, hq, q92, k⟩ := h
    have hn : n < a.length := (List.getElem?_eq_some_iff.mp hq).1
    refine ⟨_, (pss_cons (ps_set (i := 3) sc_p_read_text.nd rfl (Or.inl rfl) (pe_lst pa_nil))
    (pss_cons (ps_set (i := 4) sc_p_read_text.nd rfl (Or.inl rfl) (pe_op op_add (pv 1) pe_int))
    (C8.pss_cut (ps_while (passes_of rfl) (PW.pt (pw_and (pt_cmpR op_lt (pv 4) (pe_callB call_lenS (by rfl) T.z_len (by decide +kernel) (pa_cons (pv 0) pa_nil)) (nomark _)) (pw_and1 (pt_cmpR op_ne (pe_ix ixS (pv 0) (pv 4) (fun _ _ => rfl)) (pe_ix ixS (pv 0) (pv 1) (fun _ _ => rfl)) (nomark _)))))
      (pss_one (ps_if (pt_cmpR op_ne (pe_ix ixS (pv 0) (pv 4) (fun _ _ => rfl)) pe_str (nomark _))
        (pss_cons (ps_expr (pe_bm PySem.F.plainAttrs_list PySem.F.slot_list_append PySem.F.type_list_append mtApp (pv 3) (pa_cons (pe_ix ixS (pv 0) (pv 4) (fun _ _ => rfl)) pa_nil)))
        (pss_one (ps_aug (i := 4) sc_p_read_text.nd rfl (Or.inl rfl) pe_int ip_add)))
        (pss_one (ps_if (pt_cmpR op_eq (pe_op op_add (pv 4) pe_int) (pe_callB call_lenS (by rfl) T.z_len (by decide +kernel) (pa_cons (pv 0) pa_nil)) (nomark _))
          (pss_one (ps_raise2 X_BadToken rfl takesE (hr.mono (by omega)) (by rfl) (pa_cons (pv 2) (pa_cons (pe_op op_add (pv 1) pe_int) pa_nil))))
          (pss_one (ps_if (pt_cmpR (opNotInD D_ESCAPES) (pe_ix ixS (pv 0) (pe_op op_add (pv 4) pe_int) (fun _ _ => rfl)) (pe_gv g_ESCAPES (by rfl)) (by rfl))
            (pss_one (ps_raise2 X_BadToken rfl takesE (hr.mono (by omega)) (by rfl) (pa_cons (pv 2) (pa_cons (pe_op op_add (pv 4) pe_int) pa_nil))))
            (pss_cons (ps_expr (pe_bm PySem.F.plainAttrs_list PySem.F.slot_list_append PySem.F.type_list_append mtApp (pv 3) (pa_cons (pe_ix (ixK D_ESCAPES) (pe_gv g_ESCAPES (by rfl)) (pe_ix ixS (pv 0) (pe_op op_add (pv 4) pe_int) (fun _ _ => rfl)) (fun _ _ => rfl)) pa_nil)))
            (pss_one (ps_aug (i := 4) sc_p_read_text.nd rfl (Or.inl rfl) pe_int ip_add))))))))))
    (pss_cons (ps_if (pt_cmpR op_eq (pv 4) (pe_callB call_lenS (by rfl) T.z_len (by decide +kernel) (pa_cons (pv 0) pa_nil)) (nomark _))
      (pss_one (ps_raise2 X_BadToken rfl takesE (hr.mono (by omega)) (by rfl) (pa_cons (pv 2) (pa_cons (pe_op op_add (pv 1) pe_int) pa_nil))))
      pss_nil)
    (pss_one (ps_ret (pe_tup (pa_cons pe_str (pa_cons (pe_m1 PySem.F.slot_str_join PySem.F.type_str_join (mtJoin K) pe_str (pv 3)) (pa_cons (pe_op op_add (pv 4) pe_int) pa_nil)))))))))), ?_⟩
    tm_at "goo"
    have f0 : Fr [] H (upd H p (HO.lst [])) := Fr.new np
    refine ⟨XE a n q l H, ⟨XW a n q l H, ⟨a.length - (n + 1), ?_⟩, fun m σ H2 hw => ?_⟩, fun σ H2 hw => ?_⟩
    · unfold XW
      exact ⟨p, [], 0, _, rfl, rfl, by omega, rfl, np, upd_same, Nat.le_refl _, f0, by cases scan q (a.drop (n + 1)) <;> simp [scP]⟩
    · unfold XW at hw
      obtain ⟨p, d, j, i, rfl, ei, hj, em, np, hp, hdj, f2, hs⟩ := hw
      have hq' : a[((n : Nat) : Int).toNat]? = some q := hq
      tm_at "goo"
      · have hlt : n + 1 + j < a.length := by omega
        have hc' : a[n + 1 + j]? = some a[n + 1 + j] := List.getElem?_eq_getElem hlt
        have hc : a[i.toNat]? = some a[n + 1 + j] := by
          rw [show i.toNat = n + 1 + j by omega]
          exact hc'
        have hdr := drop_get hc'
        generalize a[n + 1 + j] = ch at hc hc' hdr
        have hcl := chs_len d
        tm_at "goo"
        · show XE a n q l H _ _
          unfold XE
          exact ⟨p, d, j, i, rfl, ei, hj, hp, hdj, f2, .inl (by rw [hc', (List.cons.inj c).1]), hs⟩
        · rename_i c1 c2
          have e92 : ch = 92 := (List.cons.inj c2).1
          subst e92
          have e0 : scan q (a.drop (n + 1)) = .end_ := by
            rw [hs, hdr, List.drop_eq_nil_iff.mpr (by omega)]
            unfold scan
            rw [if_neg (fun e => q92 e.symm)]
            rfl
          have e1 : lexText q (a.drop (n + 1)) = .bad 0 := by unfold lexText; rw [e0]
          rw [e1] at k
          exact k xd _ (by rw [hd]; rfl) (f2.comp0 fr)
        · rename_i c1 c2
          have e92 : ch = 92 := (List.cons.inj c2).1
          subst e92
          have hlt2 : n + 1 + j + 1 < a.length := by omega
          have hce' : a[n + 1 + j + 1]? = some a[n + 1 + j + 1] := List.getElem?_eq_getElem hlt2
          have hce : a[(i + 1).toNat]? = some a[n + 1 + j + 1] := by
            rw [show (i + 1).toNat = n + 1 + j + 1 by omega]
            exact hce'
          have hdr2 := drop_get hce'
          generalize a[n + 1 + j + 1] = e at hce hce' hdr2
          refine ixS_step hz (by omega) hce ?_
          have h1 : 92 ≠ q := fun e => c1 (by rw [e])
          tm_at "goo"
          · have hb : isEs e = false := by
              cases he : isEs e with
              | false => rfl
              | true => rw [fEs_one, if_pos he] at c; simp at c
            have e0 : scan q (a.drop (n + 1)) = .esc j := by
              rw [hs, hdr, hdr2, scan_bad h1 hb]
              rfl
            have e1 : lexText q (a.drop (n + 1)) = .bad (j + 1) := by unfold lexText; rw [e0]
            rw [e1] at k
            refine k xd _ ?_ (f2.comp0 fr)
            rw [hd, show ((n + (j + 1) + 1 : Nat) : Int) = i + 1 by omega]
          · have hb : isEs e = true := by
              cases he : isEs e with
              | true => rfl
              | false => rw [fEs_one, if_neg (by rw [he]; exact Bool.false_ne_true)] at c; simp at c
            refine ixK_step (by rw [fEs_one, if_pos hb]) ?_
            tm_at "goo"
            show Nx (XW a n q l H) m _ _
            refine Nx.of (a.length - (n + 1 + (j + 2))) (by omega) ?_
            unfold XW
            refine ⟨p, d ++ [dcE e], j + 2, i + 2, rfl, by omega, by omega, rfl, np, by rw [hp, chs_snoc], by simp; omega, f2.compN fr np, ?_⟩
            rw [hs, hdr, hdr2, scan_esc h1 hb, scP_scP]
            rfl
        · rename_i c1
          have h1 : ch ≠ q := fun e => c1 (by rw [e])
          have h2 : ch ≠ 92 := fun e => c (by rw [e])
          show Nx (XW a n q l H) m _ _
          refine Nx.of (a.length - (n + 1 + (j + 1))) (by omega) ?_
          unfold XW
          refine ⟨p, d ++ [ch], j + 1, i + 1, rfl, by omega, by omega, rfl, np, by rw [hp, chs_snoc], by simp; omega, f2.compN fr np, ?_⟩
          rw [hs, hdr, scan_plain h1 h2, scP_scP]
          rfl
      · show XE a n q l H _ _
        unfold XE
        exact ⟨p, d, j, i, rfl, ei, hj, hp, hdj, f2, .inr (List.getElem?_eq_none_iff.mpr (by omega)), hs⟩
    · unfold XE at hw
      obtain ⟨p, d, j, i, rfl, ei, hj, hp, hdj, f2, he, hs⟩ := hw
      tm_at "goo"
      · have e0 : scan q (a.drop (n + 1)) = .end_ := by
          rw [hs, List.drop_eq_nil_iff.mpr (by omega)]
          rfl
        have e1 : lexText q (a.drop (n + 1)) = .bad 0 := by unfold lexText; rw [e0]
        rw [e1] at k
        exact k xd _ (by rw [hd]; rfl) (f2.comp0 fr)
      · have hq2 : a[n + 1 + j]? = some q := by
          rcases he with he | he
          · exact he
          · rw [List.getElem?_eq_none_iff] at he; omega
        have e0 : scan q (a.drop (n + 1)) = .ok d j := by
          rw [hs, drop_get hq2, scan_q]
          simp [scP]
        have e1 : lexText q (a.drop (n + 1)) = .ok "text" (.str (S d)) (j + 2) := by unfold lexText; rw [e0]
        rw [e1] at k
        have hz2 : d.length ≤ 1000000 := by omega
        refine join_stepS (zs := d.map fun c => [c]) hp (by unfold chs; rw [List.map_map]; rfl) ?_ ?_
        · rw [sum_ones, List.length_map, show (Str.ofString "").length = 0 by decide +kernel]; omega
        · rw [l_empty, joinL_chs]
          tm_at "goo"
          refine k _ p _ (.str _) (f2.free np) ?_ (f2.comp0 (Fr.new np))
          rw [show ((n + (j + 2) : Nat) : Int) = i + 1 by omega]
          exact upd_same
end
end TK
set_option Elab.async false
set_option linter.all false
set_option maxRecDepth 100000
set_option maxHeartbeats 4000000
namespace TK
open PySem PySem.Spec PyProof.Rows L2 M14 SX K4
@[irreducible] def spTkn (K : PySem.W.Frag) (C : Addr) : Sp := RdIn K C lex
theorem nam_step {K : PySem.W.Frag} {C : Addr} {a : List Nat} {n : Nat} {l : Int} {H : Hp} {Q : VK} {E : XK} (hz : a.length ≤ 1000000) (hn : n < a.length) (k : RdOk K C (lexName (a.drop n)) n l H Q E) : spNam K C ([.str (S a), .int n, .int l] ++ []) H Q E := by
  unfold spNam
  exact ⟨a, n, l, rfl, hz, hn, k⟩
theorem num_step {K : PySem.W.Frag} {C : Addr} {a : List Nat} {n c : Nat} {l : Int} {H : Hp} {Q : VK} {E : XK} (hz : a.length ≤ 1000000) (hc : a[n]? = some c) (hd : isDig c = true) (k : RdOk K C (lexNum (a.drop n)) n l H Q E) : spNum K C ([.str (S a), .int n, .int l] ++ []) H Q E := by
  unfold spNum
  exact ⟨a, n, l, rfl, hz, ⟨c, hc, hd⟩, k⟩
theorem tex_step {K : PySem.W.Frag} {C : Addr} {a : List Nat} {n q : Nat} {l : Int} {H : Hp} {Q : VK} {E : XK} (hz : a.length ≤ 1000000) (hc : a[n]? = some q) (hd : q ≠ 92) (k : RdOk K C (lexText q (a.drop (n + 1))) n l H Q E) : spTex K C ([.str (S a), .int n, .int l] ++ []) H Q E := by
  unfold spTex
  exact ⟨a, n, q, l, rfl, hz, hc, hd, k⟩
@[irreducible] def SgM (a : List Nat) (n : Nat) (l : Int) (x0 : V) (H : Hp) (i : Nat) (σ : L2.St) (H' : Hp) : Prop := (∃ y, σ = [some (.str (S a)), some (.int (n : Nat)), some (.int l), some x0, y]) ∧ Fr [] H H' ∧ ∀ j s, j < i → sgs[j]? = some s → s.isPrefixOf (a.drop n) = false
theorem sgs_len : sgs.length = 24 := by decide +kernel
theorem sgs_le : ∀ s ∈ sgs, s.length ≤ 3 := by decide +kernel
theorem pre_take {s r : List Nat} : s.isPrefixOf r = true ↔ r.take s.length = s := by
  rw [List.isPrefixOf_iff_prefix]
  constructor
  · rintro ⟨t, rfl⟩
    simp
  · intro h
    exact ⟨r.drop s.length, by conv => lhs; arg 1; rw [← h]
                               exact List.take_append_drop _ _⟩
theorem find_at {r s : List Nat} {i : Nat} (h : sgs[i]? = some s) (p : s.isPrefixOf r = true) (no : ∀ j t, j < i → sgs[j]? = some t → t.isPrefixOf r = false) : sgs.find? (·.isPrefixOf r) = some s := by
  have key : ∀ (l : List (List Nat)) (i : Nat), l[i]? = some s → (∀ j t, j < i → l[j]? = some t → t.isPrefixOf r = false) → l.find? (·.isPrefixOf r) = some s := by
    intro l
    induction l with
    | nil => intro i h; simp at h
    | cons x l ih =>
      intro i h no
      cases i with
      | zero =>
        simp at h
        subst h
        rw [List.find?_cons, p]
      | succ i =>
        have hx := no 0 x (by omega) rfl
        rw [List.find?_cons, hx]
        exact ih i (by simpa using h) fun j t hj ht => no (j + 1) t (by omega) (by simpa using ht)
  exact key sgs i h no
theorem find_no {r : List Nat} (no : ∀ j t, j < sgs.length → sgs[j]? = some t → t.isPrefixOf r = false) : sgs.find? (·.isPrefixOf r) = none := by
  rw [List.find?_eq_none]
  intro x m
  obtain ⟨j, hj⟩ := List.getElem?_of_mem m
  rw [no j x (List.getElem?_eq_some_iff.mp hj).1 hj]
  exact Bool.false_ne_true
section
variable {P : Program} {w : World} {K : PySem.W.Frag} {mg : Str → Option Value} {base : Heap}
set_option hygiene false
local macro_rules | `(tactic| tm_at "sc") => `(tactic| (first | omega | (simp only [List.length_cons, List.length_nil, List.length_map, List.length_set, List.length_append]; omega) | (simp only [List.length_map] at h1 ⊢; omega) | (simp only [List.length_map] at c ⊢; omega) | with_reducible assumption | exact And.intro (by omega) (by omega) | exact Or.inl (And.intro (by omega) (by omega)) | exact Or.inr (And.intro (by omega) (by omega)) | decide +kernel | exact len1000 (by simp) | rfl | fail "no way"))
local macro_rules | `(tactic| tm_at "sc1") => `(tactic| (focus (simp; done)))
local macro_rules | `(tactic| tm_at "ne") => `(tactic| (first | assumption | exact Ne.symm (by assumption) | (apply Box.ne2; assumption; tm_at "hp") | (apply Ne.symm; apply Box.ne2; assumption; tm_at "hp") | (apply ne_of_none2; assumption; tm_at "hp") | (apply Ne.symm; apply ne_of_none2; assumption; tm_at "hp") | fail "no way"))
local macro_rules | `(tactic| tm_at "f0") => `(tactic| (first | assumption | (apply Fr.new; assumption) | fail "no way"))
local macro_rules | `(tactic| tm_at "hp") => `(tactic| (first | assumption | exact upd_same | (apply SqL.of; first | assumption | exact upd_same) | (apply Fr.at0; tm_at "f0"; tm_at "hp") | (apply Fr.at1n; assumption; tm_at "ne"; tm_at "hp") | (apply sqFr0; tm_at "f0"; tm_at "hp") | (apply sqFr1; assumption; tm_at "ne"; tm_at "hp") | (apply Box.fr0; tm_at "f0"; tm_at "hp") | (apply Box.fr1; assumption; tm_at "ne"; tm_at "hp") | (apply Den.fr; tm_at "f0"; tm_at "hp") | (apply Dens.fr; tm_at "f0"; tm_at "hp") | fail "no way"))
local macro_rules | `(tactic| tm_at "free0") => `(tactic| (first | assumption | (apply updFree; assumption) | (apply updFree; apply updFree; assumption) | (apply updFree; apply updFree; apply updFree; assumption) | (apply updFree; apply updFree; apply updFree; apply updFree; assumption) | fail "no way"))
local macro_rules | `(tactic| tm_at "free") => `(tactic| (first | tm_at "free0" | (apply Fr.free; assumption; tm_at "free0") | (apply Box.free; assumption; tm_at "fr"; tm_at "free0") | (apply Fr.free; assumption; apply Fr.free; assumption; tm_at "free0") | fail "no way"))
local macro_rules | `(tactic| tm_at "fr") => `(tactic| (first | assumption | exact Fr.refl0 _ | exact Fr.refl (Box.nt (by assumption)) | (refine Fr.comp0 ?_ (by tm_at "f0"); tm_at "fr") | (refine Fr.comp ?_ (by assumption); tm_at "fr") | (refine Fr.compN ?_ (by assumption) (by tm_at "free"); tm_at "fr") | fail "no way"))
local macro_rules | `(tactic| tm_at "call") => `(tactic| fail "no call")
local macro_rules | `(tactic| tm_at "call") => `(tactic| (apply take_step; tm_at "hp"; tm_at "sc"; tm_at "sc"; intro r H1 h0 h1 hB fr))
local macro_rules | `(tactic| tm_at "ty") => `(tactic| (first | assumption | exact .base .non | exact .base (.bl _) | exact .base (.int _) | exact .base (.str _) | (apply TyX.base; apply TyOf.lst; tm_at "hp") | (apply TyX.base; apply TyOf.tup; tm_at "hp") | fail "no way"))
local macro_rules | `(tactic| tm_at "pre") => `(tactic| fail "none")
local macro_rules | `(tactic| tm_at "go1") => `(tactic| (first | tm_at "pre" | refine ⟨_, rfl, ?_⟩ | refine ⟨_, _, rfl, rfl, ?_⟩ | (apply set_step; tm_at "hp"; tm_at "sc"; tm_at "sc"; intro H1 hp fr) | (with_reducible refine iteDI ?_ ?_ <;> intro c) | (with_reducible refine iteDS ?_ ?_ <;> intro c) | (with_reducible refine iteD ?_ ?_ <;> intro c) | (with_reducible refine iteEM ?_ ?_ <;> intro c) | (with_reducible refine iteE ?_ ?_ <;> intro c) | with_reducible refine iteN ?_ | with_reducible refine iteF ?_ | with_reducible refine iteT ?_ | (refine fun (p : Addr) (np : _ = (none : Option HO)) => ?_; fail_if_success (refine ⟨fun (_ _ : Nat) (_ : Hp) => True, ?_⟩)) | (apply isi_tt; tm_at "ty"; focus (decide +kernel)) | (apply isi_ff; tm_at "ty"; focus (decide +kernel)) | (apply sl_step; tm_at "hp"; intro qq H1 ms nq hq fr) | (apply sum_step; tm_at "hp"; intro i) | (apply tru_step; tm_at "hp") | (apply len_step; tm_at "hp") | (apply lenq_step; assumption) | (apply ixq_step; assumption; tm_at "sc"; tm_at "sc"; intro v hv) | (apply lst_step; tm_at "hp") | (apply tupl_step; tm_at "hp") | (apply ixr_step; tm_at "hp"; exact rfl) | (apply ix0_step; tm_at "hp") | (apply ix1_step; tm_at "hp") | (apply ix2_step; tm_at "hp") | (apply ixi_step; tm_at "hp"; tm_at "sc"; tm_at "sc"; intro n hn hn') | (apply ixl_step; tm_at "hp"; tm_at "sc"; tm_at "sc"; intro v hv) | (apply ixt_step; tm_at "hp"; tm_at "sc"; tm_at "sc"; intro v hm hv) | (apply in_step; tm_at "hp"; rfl; rfl) | (apply cat_step; tm_at "hp"; tm_at "hp"; tm_at "sc") | (apply catT_step; tm_at "hp"; tm_at "hp"; tm_at "sc1") | (apply tyL_and; tm_at "hp") | (apply app_step; tm_at "hp"; tm_at "sc"; intro H1 hp fr) | tm_at "call" | refine ⟨⟨_, rfl⟩, ?_⟩ | (apply ixs_step; tm_at "sc"; tm_at "sc"; tm_at "sc"; intro ch) | refine .inl ⟨_, rfl, ?_⟩ | refine .inr ⟨_, rfl, ?_⟩ | (apply And.intro; tm_at "sc") | (with_reducible refine wayB ?_ ?_ <;> intro c) | fail "no way"))
local macro_rules | `(tactic| tm_at "go") => `(tactic| (repeat tm_at "go1"))
local macro_rules | `(tactic| tm_at "goo") => `(tactic| (repeat' tm_at "go1"))
local macro_rules | `(tactic| tm_at "den") => `(tactic| (first | assumption | exact Den.str _ | exact Den.int _ | exact Den.bl _ | exact Den.non | (apply Den.tups; tm_at "hp"; tm_at "dens") | (apply Den.fr; tm_at "f0"; tm_at "den") | fail "no way"))
local macro_rules | `(tactic| tm_at "dens") => `(tactic| (first | assumption | exact Dens.nil | (apply Dens.cons; tm_at "den"; tm_at "dens") | (apply Dens.fr; tm_at "f0"; tm_at "dens") | fail "no way"))
local macro_rules | `(tactic| tm_at "ix") => `(tactic| (apply Ix.mk; tm_at "hp"; tm_at "ne"; assumption; assumption))
local macro_rules | `(tactic| tm_at "dep") => `(tactic| (first | assumption | exact Dep.int | exact Dep.str | exact Dep.bl | exact Dep.non | (apply Dep.tup; tm_at "dlen"; tm_at "deps") | (apply Dep.mono; assumption; decide) | fail "no way"))
local macro_rules | `(tactic| tm_at "deps") => `(tactic| (first | assumption | exact memN | (apply memC; tm_at "dep"; tm_at "deps") | fail "no way"))
local macro_rules | `(tactic| tm_at "dlen") => `(tactic| (first | assumption | (focus (simp; done)) | omega | fail "no way"))
local macro_rules | `(tactic| tm_at "pre") => `(tactic| (apply rep_step; tm_at "hp"; tm_at "sc"; tm_at "sc"; intro rp H1 nrp hrp fr))

local macro_rules | `(tactic| tm_at "lits") => `(tactic| (try simp only [l_nl, l_open, l_close, l_sp, l_quo, l_bs, l_minus, l_zero, l_empty, l_n] at c))
local macro_rules | `(tactic| tm_at "pre") => `(tactic| (first | (apply slm_step; tm_at "sc"; tm_at "sc"; tm_at "sc") | (apply slf_step; tm_at "sc"; tm_at "sc") | (apply slt_step; tm_at "sc"; tm_at "sc") | (with_reducible refine iteEqZ ?_ ?_ <;> (intro c; tm_at "lits")) | (apply catS_step; tm_at "sc") | (apply inD_step) | (apply ordS_step) | (apply intS_step; assumption) | (apply sign_step) | (apply lenS_step; tm_at "sc")))
local macro_rules | `(tactic| tm_at "pre") => `(tactic| (apply while_go))
local macro_rules | `(tactic| tm_at "pre") => `(tactic| (apply ixS_step; tm_at "sc"; tm_at "sc"; assumption))
local macro_rules | `(tactic| tm_at "pre") => `(tactic| (apply appB_step; tm_at "hp"; tm_at "sc"; intro H1 hp fr))

local macro_rules | `(tactic| tm_at "call") => `(tactic| (apply rs_step; intro xd H1 nd hd fr))
set_option pp.deepTerms false
set_option pp.deepTerms.threshold 3
abbrev s_p_read_token : Stmt := top 32
theorem sc_p_read_token : FnScope ["row", "at", "line", "first", "sign"] ["row", "at", "line"] (defScope s_p_read_token) := ⟨rfl, rfl, rfl, by decide +kernel, rfl, by decide +kernel, by decide +kernel⟩

theorem ok_tkn {C tS : Addr} (T : K4.Bl mg) (X_BadToken : XE2 P w K mg base "BadToken" C) (g_NAME_STARTS : GV mg "NAME_STARTS" (.str zNs)) (g_DIGITS : GV mg "DIGITS" (.str zDig)) (g_SIGNS : GV mg "SIGNS" (.ref tS)) (hS : TupS K tS sgs) (G_p_read_name : CalX P w K mg base 3 "_read_name" ["row", "at", "line"] (spNam K C)) (G_p_read_number : CalX P w K mg base 3 "_read_number" ["row", "at", "line"] (spNum K C))
    (G_p_read_text : CalX P w K mg base 3 "_read_text" ["row", "at", "line"] (spTex K C)) (D : Def1 K mg "_read_token" s_p_read_token) : CalX P w K mg base 4 "_read_token" ["row", "at", "line"] (spTkn K C) := by
  refine D.calX sc_p_read_token (fun _ _ _ _ _ _ us hl => match us, hl with | [_, _, _], _ => rfl) (fun vs H Q E h => ?_) (fun f cdv A outer s H vs Q E hr h => ?_) <;> unfold spTkn RdIn at h
  · obtain ⟨a, n, l, rfl, _⟩ := h
    rfl
  · obtain ⟨a, n, l, rfl, hz, hn, k⟩ := h
    have hc := List.getElem?_eq_getElem hn
    rw [drop_get hc] at k
    have hdr := drop_get hc
    generalize a[n] = c0 at hc k hdr
    have hc' : a[((n : Nat) : Int).toNat]? = some c0 := hc
    have k : RdOk K C (if isNs c0 then lexName (c0 :: a.drop (n + 1)) else if isDig c0 then lexNum (c0 :: a.drop (n + 1)) else if c0 = 34 ∨ c0 = 39 then lexText c0 (a.drop (n + 1)) else lexSign (c0 :: a.drop (n + 1))) n l H Q E := k
    refine ⟨_, (pss_cons (ps_set (i := 3) sc_p_read_token.nd rfl (Or.inl rfl) (pe_ix ixS (pv 0) (pv 1) (fun _ _ => rfl)))
    (pss_cons (ps_if (pt_cmpR op_inG (pv 3) (pe_gv g_NAME_STARTS (by rfl)) (by rfl))
      (pss_one (ps_ret (pe_calX G_p_read_name takesE (hr.mono (by omega)) (by rfl) (pa_cons (pv 0) (pa_cons (pv 1) (pa_cons (pv 2) pa_nil))))))
      pss_nil)
    (pss_cons (ps_if (pt_cmpR op_inG (pv 3) (pe_gv g_DIGITS (by rfl)) (by rfl))
      (pss_one (ps_ret (pe_calX G_p_read_number takesE (hr.mono (by omega)) (by rfl) (pa_cons (pv 0) (pa_cons (pv 1) (pa_cons (pv 2) pa_nil))))))
      pss_nil)
    (pss_cons (ps_if (PW.pt (pw_or (pt_cmpR op_eq (pv 3) pe_str (nomark _)) (pw_or1 (pt_cmpR op_eq (pv 3) pe_str (nomark _)))))
      (pss_one (ps_ret (pe_calX G_p_read_text takesE (hr.mono (by omega)) (by rfl) (pa_cons (pv 0) (pa_cons (pv 1) (pa_cons (pv 2) pa_nil))))))
      pss_nil)
    (pss_cons (ps_for (passes_of rfl) rfl (pi_tup (pe_gv g_SIGNS (by rfl))) (pg_name (i := 4) sc_p_read_token.nd rfl (Or.inl rfl))
      (pss_one (ps_if (pt_cmpR op_eq (pe_slice slS (pv 0) (po_some (pv 1)) (po_some (pe_op op_add (pv 1) (pe_callB call_lenS (by rfl) T.z_len (by decide +kernel) (pa_cons (pv 4) pa_nil))))) (pv 4) (nomark _))
        (pss_one (ps_ret (pe_tup (pa_cons pe_str (pa_cons (pv 4) (pa_cons (pe_op op_add (pv 1) (pe_callB call_lenS (by rfl) T.z_len (by decide +kernel) (pa_cons (pv 4) pa_nil))) pa_nil))))))
        pss_nil)))
    (pss_one (ps_raise2 X_BadToken rfl takesE (hr.mono (by omega)) (by rfl) (pa_cons (pv 2) (pa_cons (pe_op op_add (pv 1) pe_int) pa_nil))))))))), ?_⟩
    tm_at "goo"
    · have ns : isNs c0 = true := by have := c; rw [ns_in] at this; simpa using this
      rw [if_pos ns, ← hdr] at k
      exact nam_step hz hn k
    · have ns : isNs c0 = false := by rename_i c1; have := c1; rw [ns_in] at this; simpa using this
      have dg : isDig c0 = true := by have := c; rw [dig_in] at this; simpa using this
      rw [if_neg (by rw [ns]; exact Bool.false_ne_true), if_pos dg, ← hdr] at k
      exact num_step hz hc dg k
    · have ns : isNs c0 = false := by rename_i c2 c1; have := c2; rw [ns_in] at this; simpa using this
      have dg : isDig c0 = false := by rename_i c2 c1; have := c1; rw [dig_in] at this; simpa using this
      have e : c0 = 34 := (List.cons.inj c).1
      rw [if_neg (by rw [ns]; exact Bool.false_ne_true), if_neg (by rw [dg]; exact Bool.false_ne_true), if_pos (.inl e)] at k
      exact tex_step hz hc (by omega) k
    · have ns : isNs c0 = false := by rename_i c3 c2 c1; have := c3; rw [ns_in] at this; simpa using this
      have dg : isDig c0 = false := by rename_i c3 c2 c1; have := c2; rw [dig_in] at this; simpa using this
      have e : c0 = 39 := by
        rw [show (Str.ofString "'").cps.toList = [39] by decide +kernel] at c
        exact (List.cons.inj c).1
      rw [if_neg (by rw [ns]; exact Bool.false_ne_true), if_neg (by rw [dg]; exact Bool.false_ne_true), if_pos (.inr e)] at k
      exact tex_step hz hc (by omega) k
    · have ns : isNs c0 = false := by rename_i c3 c2 c1; have := c3; rw [ns_in] at this; simpa using this
      have dg : isDig c0 = false := by rename_i c3 c2 c1; have := c2; rw [dig_in] at this; simpa using this
      have e1 : c0 ≠ 34 := by rename_i c3 c2 c1; exact fun e => c1 (by rw [e])
      have e2 : c0 ≠ 39 := by
        rw [show (Str.ofString "'").cps.toList = [39] by decide +kernel] at c
        exact fun e => c (by rw [e])
      rw [if_neg (by rw [ns]; exact Bool.false_ne_true), if_neg (by rw [dg]; exact Bool.false_ne_true), if_neg (by omega), ← hdr] at k
      refine ⟨⟨_, hS H⟩, ?_⟩
      refine for_it (walk_tup (xs := sgs.map fun l => V.str (S l))) (SgM a n l (.str (S [c0])) H) ?_ (fun _ _ _ _ _ => hS _) (fun i x σ H3 H4 hi hp hy => ?_) (fun σ H3 hp => ?_)
      · unfold SgM
        exact ⟨⟨_, rfl⟩, Fr.refl0 _, fun j s hj => absurd hj (by omega)⟩
      · unfold SgM at hp
        obtain ⟨⟨y, rfl⟩, f3, no⟩ := hp
        obtain ⟨rfl, hx⟩ := hy
        obtain ⟨s, hs, rfl⟩ : ∃ s, sgs[i]? = some s ∧ x = V.str (S s) := by
          rw [List.getElem?_map] at hx
          cases e : sgs[i]? with
          | none => rw [e] at hx; cases hx
          | some s => rw [e] at hx; exact ⟨s, rfl, (Option.some.inj hx).symm⟩
        have sl := sgs_le s (List.mem_of_getElem? hs)
        show tIfS _ _ _ _ _ _
        have ed : (((n : Nat) : Int) + (s.length : Int) - ((n : Nat) : Int)).toNat = s.length := by omega
        tm_at "goo"
        · rw [ed] at c
          have e0 : lexSign (a.drop n) = .ok "sign" (.str (S s)) s.length := by
            unfold lexSign
            rw [find_at (r := a.drop n) hs (pre_take.mpr c) no]
          rw [e0] at k
          exact k _ p _ (.str _) (f3.free np) upd_same (f3.comp0 (Fr.new np))
        · rw [ed] at c
          show SgM a n l _ H (i + 1) _ _
          unfold SgM
          refine ⟨⟨_, rfl⟩, f3, fun j t hj ht => ?_⟩
          by_cases e : j = i
          · subst e
            rw [hs] at ht
            cases ht
            exact Bool.eq_false_iff.mpr fun h => c (pre_take.mp h)
          · exact no j t (by omega) ht
      · unfold SgM at hp
        obtain ⟨⟨y, rfl⟩, f3, no⟩ := hp
        tm_at "goo"
        have e0 : lexSign (a.drop n) = .bad 0 := by
          unfold lexSign
          rw [find_no fun j t hj ht => no j t (by simpa using hj) ht]
        rw [e0] at k
        exact k xd _ (by rw [hd]; rfl) (f3.comp0 fr)
end
end TK
set_option Elab.async false
set_option linter.all false
set_option maxRecDepth 100000
set_option maxHeartbeats 4000000
namespace TK
open PySem PySem.Spec PyProof.Rows L2 M14 SX K4
/-! ### the scanner on the heap -/
def opT (x : List Nat × Nat × Nat) : T := .tup [.str (S x.1), .int (x.2.1 : Nat), .int (x.2.2 : Nat)]
structure ScF (K : PySem.W.Frag) (C : Addr) : Prop where
  cl : Cls K C
  n1 : NoAttr K C "marks"
  n2 : NoAttr K C "indents"
  n3 : NoAttr K C "opened"
  n4 : NoAttr K C "many"
def fsOf (m i p : Addr) (n : Int) : List (Str × V) := [("marks", .ref m), ("indents", .ref i), ("opened", .ref p), ("many", .int n)]
def indV (st : St) : List V := st.ind.reverse.map fun n => V.int ((n : Nat) : Int)
structure ScA (K : PySem.W.Frag) (C : Addr) (H : Hp) (o m i p : Addr) (st : St) : Prop where
  ob : ∃ dx, H o = some (.ins C dx (fsOf m i p (st.many : Nat)))
  mks : ∃ xs, H m = some (.lst xs) ∧ Dens K H xs st.marks
  id : H i = some (.lst (indV st))
  opn : ∃ xs, H p = some (.lst xs) ∧ Dens K H xs (st.op.reverse.map opT)
  mi : m ≠ i
  mp : m ≠ p
  ip : i ≠ p
section
variable {K : PySem.W.Frag} {C : Addr} {H H' : Hp} {o m i p : Addr} {st : St}
theorem ScA.om (s : ScA K C H o m i p st) : o ≠ m := fun e => by
  obtain ⟨_, h⟩ := s.ob; obtain ⟨_, h2, _⟩ := s.mks; rw [e, h2] at h; cases h
theorem ScA.oi (s : ScA K C H o m i p st) : o ≠ i := fun e => by
  obtain ⟨_, h⟩ := s.ob; have h2 := s.id; rw [e, h2] at h; cases h
theorem ScA.op' (s : ScA K C H o m i p st) : o ≠ p := fun e => by
  obtain ⟨_, h⟩ := s.ob; obtain ⟨_, h2, _⟩ := s.opn; rw [e, h2] at h; cases h
theorem ScA.nt (s : ScA K C H o m i p st) : ∀ a ∈ [o, m, i, p], ∀ xs, H a ≠ some (.tup xs) := by
  intro a ha xs e
  simp only [List.mem_cons, List.not_mem_nil, or_false] at ha
  rcases ha with rfl | rfl | rfl | rfl
  · obtain ⟨_, h⟩ := s.ob; rw [h] at e; cases e
  · obtain ⟨_, h, _⟩ := s.mks; rw [h] at e; cases e
  · have h := s.id; rw [h] at e; cases e
  · obtain ⟨_, h, _⟩ := s.opn; rw [h] at e; cases e
theorem fr_sub {x : Addr} {M : List Addr} (f : Fr [x] H H') (hx : x ∈ M) (n : ∀ a ∈ M, ∀ xs, H a ≠ some (.tup xs)) : Fr M H H' :=
  ⟨fun a o h m => f.kp a o h fun z => m (by rw [List.mem_singleton.mp z]; exact hx), n⟩
theorem ScA.rf (s : ScA K C H o m i p st) : Fr [o, m, i, p] H H := Fr.refl s.nt
theorem ScA.fr0 (s : ScA K C H o m i p st) (f : Fr [] H H') : ScA K C H' o m i p st :=
  ⟨let ⟨dx, h⟩ := s.ob; ⟨dx, f.at0 h⟩, let ⟨xs, h, d⟩ := s.mks; ⟨xs, f.at0 h, d.fr f⟩, f.at0 s.id, let ⟨xs, h, d⟩ := s.opn; ⟨xs, f.at0 h, d.fr f⟩, s.mi, s.mp, s.ip⟩
theorem ScA.mark (s : ScA K C H o m i p st) {xs : List V} {v : V} {t : T} (h : H m = some (.lst xs)) (d : Dens K H xs st.marks) (dv : Den K H v t) (h' : H' m = some (.lst (xs ++ [v]))) (f : Fr [m] H H') : ScA K C H' o m i p { st with marks := st.marks ++ [t] } :=
  ⟨let ⟨dx, h⟩ := s.ob; ⟨dx, f.at1 h s.om⟩, ⟨_, h', (d.fr f).snoc (dv.fr f)⟩, f.at1 s.id (Ne.symm s.mi), let ⟨xs, h, d⟩ := s.opn; ⟨xs, f.at1 h (Ne.symm s.mp), d.fr f⟩, s.mi, s.mp, s.ip⟩
theorem ScA.inds (s : ScA K C H o m i p st) {ind : List Nat} (h' : H' i = some (.lst (ind.reverse.map fun n => V.int ((n : Nat) : Int)))) (f : Fr [i] H H') : ScA K C H' o m i p { st with ind := ind } :=
  ⟨let ⟨dx, h⟩ := s.ob; ⟨dx, f.at1 h s.oi⟩, let ⟨xs, h, d⟩ := s.mks; ⟨xs, f.at1 h s.mi, d.fr f⟩, h', let ⟨xs, h, d⟩ := s.opn; ⟨xs, f.at1 h (Ne.symm s.ip), d.fr f⟩, s.mi, s.mp, s.ip⟩
theorem ScA.opn' (s : ScA K C H o m i p st) {op : List (List Nat × Nat × Nat)} {xs : List V} (h' : H' p = some (.lst xs)) (d : Dens K H' xs (op.reverse.map opT)) (f : Fr [p] H H') : ScA K C H' o m i p { st with op := op } :=
  ⟨let ⟨dx, h⟩ := s.ob; ⟨dx, f.at1 h s.op'⟩, let ⟨xs, h, d⟩ := s.mks; ⟨xs, f.at1 h s.mp, d.fr f⟩, f.at1 s.id s.ip, ⟨xs, h', d⟩, s.mi, s.mp, s.ip⟩
theorem ScA.cnt (s : ScA K C H o m i p st) {n : Nat} {dx : Addr} (h' : H' o = some (.ins C dx (fsOf m i p (n : Nat)))) (f : Fr [o] H H') : ScA K C H' o m i p { st with many := n } :=
  ⟨⟨dx, h'⟩, let ⟨xs, h, d⟩ := s.mks; ⟨xs, f.at1 h (Ne.symm s.om), d.fr f⟩, f.at1 s.id (Ne.symm s.oi), let ⟨xs, h, d⟩ := s.opn; ⟨xs, f.at1 h (Ne.symm s.op'), d.fr f⟩, s.mi, s.mp, s.ip⟩
end
/-- an error e, with its place, the objects at M changed -/
def BadX (CA : Cl → Addr) (e : Er) (M : List Addr) (H : Hp) (E : XK) : Prop := ∀ d H', H' d = some (.xd [("column", .int (e.k : Nat)), ("line", .int (e.l : Nat))]) → Fr M H H' → E (.ref (CA e.c)) (some d) H'
@[irreducible] def spSi (C : Addr) : Sp := fun vs H Q _ => ∃ (o dx : Addr), vs = [.ref o] ∧ H o = some (.ins C dx []) ∧ ∀ m i p H', H m = none → H i = none → H p = none → H' o = some (.ins C dx (fsOf m i p 0)) → H' m = some (.lst []) → H' i = some (.lst [.int 0]) → H' p = some (.lst []) → m ≠ i → m ≠ p → i ≠ p → Fr [o] H H' → Q .non H'
theorem si_step {C o dx : Addr} {H : Hp} {Q : VK} {E : XK} (h : H o = some (.ins C dx [])) (k : ∀ m i p H', H m = none → H i = none → H p = none → H' o = some (.ins C dx (fsOf m i p 0)) → H' m = some (.lst []) → H' i = some (.lst [.int 0]) → H' p = some (.lst []) → m ≠ i → m ≠ p → i ≠ p → Fr [o] H H' → Q .non H') : spSi C [.ref o] H Q E := by
  unfold spSi
  exact ⟨o, dx, rfl, h, k⟩
def ResX (K : PySem.W.Frag) (CA : Cl → Addr) (C : Addr) (o m i p : Addr) (x : Except Er St) (H : Hp) (Q : VK) (E : XK) : Prop := match x with
  | .error e => BadX CA e [o, m, i, p] H E
  | .ok st' => ∀ H', ScA K C H' o m i p st' → Fr [o, m, i, p] H H' → Q .non H'
@[irreducible] def spCmp (K : PySem.W.Frag) (CA : Cl → Addr) (C : Addr) : Sp := fun vs H Q E => ∃ (o m i p : Addr) (wd l : Nat) (st : St), vs = [.ref o, .int (wd : Nat), .int (l : Nat)] ∧ ScA K C H o m i p st ∧ StOk st 1000000 ∧ ResX K CA C o m i p (cmpI st wd l) H Q E
theorem cmp_step {K : PySem.W.Frag} {CA : Cl → Addr} {C o m i p : Addr} {wd l : Nat} {st : St} {H : Hp} {Q : VK} {E : XK} (s : ScA K C H o m i p st) (k : StOk st 1000000) (r : ResX K CA C o m i p (cmpI st wd l) H Q E) : spCmp K CA C [.ref o, .int (wd : Nat), .int (l : Nat)] H Q E := by
  unfold spCmp
  exact ⟨o, m, i, p, wd, l, st, rfl, s, k, r⟩
section
variable {P : Program} {w : World} {K : PySem.W.Frag} {mg : Str → Option Value} {base : Heap}
set_option hygiene false
local macro_rules | `(tactic| tm_at "sc") => `(tactic| (first | omega | (simp only [List.length_cons, List.length_nil, List.length_map, List.length_set, List.length_append]; omega) | (simp only [List.length_map] at h1 ⊢; omega) | (simp only [List.length_map] at c ⊢; omega) | with_reducible assumption | exact And.intro (by omega) (by omega) | exact Or.inl (And.intro (by omega) (by omega)) | exact Or.inr (And.intro (by omega) (by omega)) | decide +kernel | exact len1000 (by simp) | rfl | fail "no way"))
local macro_rules | `(tactic| tm_at "sc1") => `(tactic| (focus (simp; done)))
local macro_rules | `(tactic| tm_at "ne") => `(tactic| (first | assumption | exact Ne.symm (by assumption) | (apply Box.ne2; assumption; tm_at "hp") | (apply Ne.symm; apply Box.ne2; assumption; tm_at "hp") | (apply ne_of_none2; assumption; tm_at "hp") | (apply Ne.symm; apply ne_of_none2; assumption; tm_at "hp") | fail "no way"))
local macro_rules | `(tactic| tm_at "f0") => `(tactic| (first | assumption | (apply Fr.new; assumption) | fail "no way"))
local macro_rules | `(tactic| tm_at "hp") => `(tactic| (first | assumption | exact upd_same | (apply SqL.of; first | assumption | exact upd_same) | (apply Fr.at0; tm_at "f0"; tm_at "hp") | (apply Fr.at1n; assumption; tm_at "ne"; tm_at "hp") | (apply sqFr0; tm_at "f0"; tm_at "hp") | (apply sqFr1; assumption; tm_at "ne"; tm_at "hp") | (apply Box.fr0; tm_at "f0"; tm_at "hp") | (apply Box.fr1; assumption; tm_at "ne"; tm_at "hp") | (apply Den.fr; tm_at "f0"; tm_at "hp") | (apply Dens.fr; tm_at "f0"; tm_at "hp") | fail "no way"))
local macro_rules | `(tactic| tm_at "free0") => `(tactic| (first | assumption | (apply updFree; assumption) | (apply updFree; apply updFree; assumption) | (apply updFree; apply updFree; apply updFree; assumption) | (apply updFree; apply updFree; apply updFree; apply updFree; assumption) | fail "no way"))
local macro_rules | `(tactic| tm_at "free") => `(tactic| (first | tm_at "free0" | (apply Fr.free; assumption; tm_at "free0") | (apply Box.free; assumption; tm_at "fr"; tm_at "free0") | (apply Fr.free; assumption; apply Fr.free; assumption; tm_at "free0") | fail "no way"))
local macro_rules | `(tactic| tm_at "fr") => `(tactic| (first | assumption | exact Fr.refl0 _ | exact Fr.refl (Box.nt (by assumption)) | (refine Fr.comp0 ?_ (by tm_at "f0"); tm_at "fr") | (refine Fr.comp ?_ (by assumption); tm_at "fr") | (refine Fr.compN ?_ (by assumption) (by tm_at "free"); tm_at "fr") | fail "no way"))
local macro_rules | `(tactic| tm_at "call") => `(tactic| fail "no call")
local macro_rules | `(tactic| tm_at "call") => `(tactic| (apply take_step; tm_at "hp"; tm_at "sc"; tm_at "sc"; intro r H1 h0 h1 hB fr))
local macro_rules | `(tactic| tm_at "ty") => `(tactic| (first | assumption | exact .base .non | exact .base (.bl _) | exact .base (.int _) | exact .base (.str _) | (apply TyX.base; apply TyOf.lst; tm_at "hp") | (apply TyX.base; apply TyOf.tup; tm_at "hp") | fail "no way"))
local macro_rules | `(tactic| tm_at "pre") => `(tactic| fail "none")
local macro_rules | `(tactic| tm_at "go1") => `(tactic| (first | tm_at "pre" | refine ⟨_, rfl, ?_⟩ | refine ⟨_, _, rfl, rfl, ?_⟩ | (apply set_step; tm_at "hp"; tm_at "sc"; tm_at "sc"; intro H1 hp fr) | (with_reducible refine iteDI ?_ ?_ <;> intro c) | (with_reducible refine iteDS ?_ ?_ <;> intro c) | (with_reducible refine iteD ?_ ?_ <;> intro c) | (with_reducible refine iteEM ?_ ?_ <;> intro c) | (with_reducible refine iteE ?_ ?_ <;> intro c) | with_reducible refine iteN ?_ | with_reducible refine iteF ?_ | with_reducible refine iteT ?_ | (refine fun (p : Addr) (np : _ = (none : Option HO)) => ?_; fail_if_success (refine ⟨fun (_ _ : Nat) (_ : Hp) => True, ?_⟩)) | (apply isi_tt; tm_at "ty"; focus (decide +kernel)) | (apply isi_ff; tm_at "ty"; focus (decide +kernel)) | (apply sl_step; tm_at "hp"; intro qq H1 ms nq hq fr) | (apply sum_step; tm_at "hp"; intro i) | (apply tru_step; tm_at "hp") | (apply len_step; tm_at "hp") | (apply lenq_step; assumption) | (apply ixq_step; assumption; tm_at "sc"; tm_at "sc"; intro v hv) | (apply lst_step; tm_at "hp") | (apply tupl_step; tm_at "hp") | (apply ixr_step; tm_at "hp"; exact rfl) | (apply ix0_step; tm_at "hp") | (apply ix1_step; tm_at "hp") | (apply ix2_step; tm_at "hp") | (apply ixi_step; tm_at "hp"; tm_at "sc"; tm_at "sc"; intro n hn hn') | (apply ixl_step; tm_at "hp"; tm_at "sc"; tm_at "sc"; intro v hv) | (apply ixt_step; tm_at "hp"; tm_at "sc"; tm_at "sc"; intro v hm hv) | (apply in_step; tm_at "hp"; rfl; rfl) | (apply cat_step; tm_at "hp"; tm_at "hp"; tm_at "sc") | (apply catT_step; tm_at "hp"; tm_at "hp"; tm_at "sc1") | (apply tyL_and; tm_at "hp") | (apply app_step; tm_at "hp"; tm_at "sc"; intro H1 hp fr) | tm_at "call" | refine ⟨⟨_, rfl⟩, ?_⟩ | (apply ixs_step; tm_at "sc"; tm_at "sc"; tm_at "sc"; intro ch) | refine .inl ⟨_, rfl, ?_⟩ | refine .inr ⟨_, rfl, ?_⟩ | (apply And.intro; tm_at "sc") | (with_reducible refine wayB ?_ ?_ <;> intro c) | fail "no way"))
local macro_rules | `(tactic| tm_at "go") => `(tactic| (repeat tm_at "go1"))
local macro_rules | `(tactic| tm_at "goo") => `(tactic| (repeat' tm_at "go1"))
local macro_rules | `(tactic| tm_at "den") => `(tactic| (first | assumption | exact Den.str _ | exact Den.int _ | exact Den.bl _ | exact Den.non | (apply Den.tups; tm_at "hp"; tm_at "dens") | (apply Den.fr; tm_at "f0"; tm_at "den") | fail "no way"))
local macro_rules | `(tactic| tm_at "dens") => `(tactic| (first | assumption | exact Dens.nil | (apply Dens.cons; tm_at "den"; tm_at "dens") | (apply Dens.fr; tm_at "f0"; tm_at "dens") | fail "no way"))
local macro_rules | `(tactic| tm_at "ix") => `(tactic| (apply Ix.mk; tm_at "hp"; tm_at "ne"; assumption; assumption))
local macro_rules | `(tactic| tm_at "dep") => `(tactic| (first | assumption | exact Dep.int | exact Dep.str | exact Dep.bl | exact Dep.non | (apply Dep.tup; tm_at "dlen"; tm_at "deps") | (apply Dep.mono; assumption; decide) | fail "no way"))
local macro_rules | `(tactic| tm_at "deps") => `(tactic| (first | assumption | exact memN | (apply memC; tm_at "dep"; tm_at "deps") | fail "no way"))
local macro_rules | `(tactic| tm_at "dlen") => `(tactic| (first | assumption | (focus (simp; done)) | omega | fail "no way"))
local macro_rules | `(tactic| tm_at "pre") => `(tactic| (apply rep_step; tm_at "hp"; tm_at "sc"; tm_at "sc"; intro rp H1 nrp hrp fr))

local macro_rules | `(tactic| tm_at "lits") => `(tactic| (try simp only [l_nl, l_open, l_close, l_sp, l_quo, l_bs, l_minus, l_zero, l_empty, l_n] at c))
local macro_rules | `(tactic| tm_at "pre") => `(tactic| (first | (apply slm_step; tm_at "sc"; tm_at "sc"; tm_at "sc") | (apply slf_step; tm_at "sc"; tm_at "sc") | (apply slt_step; tm_at "sc"; tm_at "sc") | (with_reducible refine iteEqZ ?_ ?_ <;> (intro c; tm_at "lits")) | (apply catS_step; tm_at "sc") | (apply inD_step) | (apply ordS_step) | (apply intS_step; assumption) | (apply sign_step) | (apply lenS_step; tm_at "sc")))
local macro_rules | `(tactic| tm_at "pre") => `(tactic| (apply while_go))
local macro_rules | `(tactic| tm_at "pre") => `(tactic| (apply ixS_step; tm_at "sc"; tm_at "sc"; assumption))
local macro_rules | `(tactic| tm_at "pre") => `(tactic| (apply appB_step; tm_at "hp"; tm_at "sc"; intro H1 hp fr))

local macro_rules | `(tactic| tm_at "lk") => `(tactic| (first | with_reducible exact lookup_eq | ((with_reducible apply lookup_ne); (focus (decide +kernel)); tm_at "lk") | assumption | rfl | fail "no way"))
local macro_rules | `(tactic| tm_at "pf") => `(tactic| (first | with_reducible exact putF_nil | with_reducible exact putF_eq | ((with_reducible apply putF_ne); (focus (decide +kernel)); tm_at "pf") | fail "no way"))
local macro_rules | `(tactic| tm_at "fl") => `(tactic| (first | assumption | focus (simp only [List.length_cons, List.length_nil]; omega) | focus (simp only [List.length_cons, List.length_nil]; done) | focus (decide) | focus (simp; done) | focus (simp; omega) | fail "no way"))
local macro_rules | `(tactic| tm_at "pre") => `(tactic| (apply fld_step; tm_at "hp"; assumption; assumption; tm_at "lk"))
local macro_rules | `(tactic| tm_at "pre") => `(tactic| (apply putf_step; tm_at "hp"; assumption; assumption; tm_at "fl"; tm_at "pf"; intro H1 hp fr))
local macro_rules | `(tactic| tm_at "pre") => `(tactic| (apply aug_step; tm_at "hp"; assumption; assumption; tm_at "lk"))
local macro_rules | `(tactic| tm_at "pre") => `(tactic| (apply put2_step; tm_at "hp"; tm_at "fl"; tm_at "pf"; intro H1 hp fr))
local macro_rules | `(tactic| tm_at "pre") => `(tactic| (apply dget_step; tm_at "hp"; tm_at "lk"))
local macro_rules | `(tactic| tm_at "pre") => `(tactic| (apply dput_step; tm_at "hp"; (focus (omega)); intro H1 hp fr))
local macro_rules | `(tactic| tm_at "pre") => `(tactic| (apply mth_step; tm_at "hp"; tm_at "lk"))
local macro_rules | `(tactic| tm_at "pre") => `(tactic| (apply lenD_step; tm_at "hp"))
local macro_rules | `(tactic| tm_at "pre") => `(tactic| (apply addI_step))
local macro_rules | `(tactic| tm_at "pre") => `(tactic| (apply newD_step; intro dn H1 nd hp fr))
local macro_rules | `(tactic| tm_at "fr2") => `(tactic| (first | assumption | (apply Fr.appMb; assumption; (focus (simp; done)); tm_at "fr2") | (apply Fr.app0b; tm_at "f0"; tm_at "fr2") | (apply Fr.appNb; assumption; tm_at "free"; tm_at "fr2") | fail "no way"))
local macro_rules | `(tactic| tm_at "ne") => `(tactic| (apply ne_role; assumption; assumption; (focus (decide))))
local macro_rules | `(tactic| tm_at "pre") => `(tactic| (apply dnotin_step; tm_at "hp"))
local macro_rules | `(tactic| tm_at "pre") => `(tactic| (apply din_step; tm_at "hp"))

local macro_rules | `(tactic| tm_at "call") => `(tactic| (apply rs_step; intro xd H1 nd hd fr))
set_option pp.deepTerms false
set_option pp.deepTerms.threshold 3
abbrev s_Scanner_init : Stmt := inClass (top 29) 0
theorem sc_Scanner_init : FnScope ["self"] ["self"] (defScope s_Scanner_init) := ⟨rfl, rfl, rfl, by decide +kernel, rfl, by decide +kernel, by decide +kernel⟩

theorem ok_si {C : Addr} (F : ScF K C) (T : K4.Bl mg) {f : Addr} {fd : FuncData} (D : FnP K "__init__" "Scanner.__init__" s_Scanner_init f fd) : FnOk P w K mg base CX0 1 f fd ["self"] (spSi C) := by
  refine D.ok sc_Scanner_init (fun vs H Q E h => ?_) (fun cdv A outer s H vs Q E hr h => ?_) <;> unfold spSi at h
  · obtain ⟨o, dx, rfl, _⟩ := h
    rfl
  · obtain ⟨o, dx, rfl, ho, k⟩ := h
    have c1 := F.cl
    have n1 := F.n1
    have n2 := F.n2
    have n3 := F.n3
    have n4 := F.n4
    suffices hx : ∃ t, PSs (cxOf CX0 P w K mg base ["self"] "Scanner.__init__" (defScope s_Scanner_init) f cdv A outer s H E).nox (defBody s_Scanner_init) t ∧ t { nx := fun _ H' => Q .non H', rt := Q } (L2.start ["self"] [.ref o]) H by
      obtain ⟨t, h1, h2⟩ := hx
      exact ⟨t, h1.nox, h2⟩
    refine ⟨_, (pss_cons (ps_fldx K (pv 0) (pe_lst pa_nil) rfl)
    (pss_cons (ps_fldx K (pv 0) (pe_lst (pa_cons pe_int pa_nil)) rfl)
    (pss_cons (ps_fldx K (pv 0) (pe_lst pa_nil) rfl)
    (pss_one (ps_fldx K (pv 0) pe_int rfl))))), ?_⟩
    tm_at "goo"
    rename_i p1 np1 Ha ha fa p2 np2 Hb hb fb Hc hc fc
    have ne : ∀ {q : Addr}, H q = none → q ≠ o := fun h e => by rw [e, ho] at h; cases h
    have a1 : Ha p1 = some (.lst []) := fa.at1 upd_same (ne np1)
    have z2 : H p2 = none := updFree (fa.freeb ha np2)
    have m12 : p1 ≠ p2 := fun e => by rw [← e, a1] at np2; cases np2
    have b1 : Hb p1 = some (.lst []) := fb.at1 (by rw [upd_ne m12]; exact a1) (ne np1)
    have b2 : Hb p2 = some (.lst [.int 0]) := fb.at1 upd_same (ne z2)
    have z3 : H p = none := updFree (fa.freeb ha (updFree (fb.freeb hb np)))
    have m13 : p1 ≠ p := fun e => by rw [← e, b1] at np; cases np
    have m23 : p2 ≠ p := fun e => by rw [← e, b2] at np; cases np
    have c1' : Hc p1 = some (.lst []) := fc.at1 (by rw [upd_ne m13]; exact b1) (ne np1)
    have c2' : Hc p2 = some (.lst [.int 0]) := fc.at1 (by rw [upd_ne m23]; exact b2) (ne z2)
    have c3' : Hc p = some (.lst []) := fc.at1 upd_same (ne z3)
    have F1 : Fr [o] H Ha := (Fr.comp0 (Fr.refl fun a m xs e => by rw [List.mem_singleton.mp m, ho] at e; cases e) (Fr.new np1)).comp fa
    have F2 : Fr [o] H Hb := (F1.comp0 (Fr.new np2)).comp fb
    have F3 : Fr [o] H Hc := (F2.comp0 (Fr.new np)).comp fc
    exact k p1 p2 p H1 np1 z2 z3 hp (fr.at1 c1' (ne np1)) (fr.at1 c2' (ne z2)) (fr.at1 c3' (ne z3)) m12 m13 m23 (F3.comp fr)
end
end TK
set_option Elab.async false
set_option linter.all false
set_option maxRecDepth 100000
set_option maxHeartbeats 4000000
namespace TK
open PySem PySem.Spec PyProof.Rows L2 M14 SX K4
/-- what is left behind the push -/
def popM (st : St) (wd l : Nat) : Except Er St :=
  if (st.ind.dropWhile fun x => decide (wd < x)).headD 0 < wd then .error ⟨.indent, l, wd + 1⟩ else .ok { st with ind := st.ind.dropWhile fun x => decide (wd < x), marks := st.marks ++ (st.ind.takeWhile fun x => decide (wd < x)).map fun _ => tk "dedent" eW l (wd + 1) }
theorem popM_pop {st : St} {wd l t : Nat} {r : List Nat} (e : st.ind = t :: r) (h : wd < t) : popM st wd l = popM { st with ind := r, marks := st.marks ++ [tk "dedent" eW l (wd + 1)] } wd l := by
  unfold popM
  rw [e]
  have e1 : (t :: r).dropWhile (fun x => decide (wd < x)) = r.dropWhile fun x => decide (wd < x) := by rw [List.dropWhile_cons, if_pos (decide_eq_true h)]
  have e2 : (t :: r).takeWhile (fun x => decide (wd < x)) = t :: r.takeWhile fun x => decide (wd < x) := by rw [List.takeWhile_cons, if_pos (decide_eq_true h)]
  rw [e1, e2]
  simp
theorem popM_end {st : St} {wd l t : Nat} {r : List Nat} (e : st.ind = t :: r) (h : ¬ wd < t) : popM st wd l = if t < wd then .error ⟨.indent, l, wd + 1⟩ else .ok st := by
  unfold popM
  rw [e]
  have e1 : (t :: r).dropWhile (fun x => decide (wd < x)) = t :: r := by rw [List.dropWhile_cons, if_neg (by simpa using h)]
  have e2 : (t :: r).takeWhile (fun x => decide (wd < x)) = [] := by rw [List.takeWhile_cons, if_neg (by simpa using h)]
  rw [e1, e2]
  obtain ⟨mk, ind, op, my⟩ := st
  simp at e
  subst e
  simp
theorem cmpI_1 {st : St} {wd l : Nat} (h1 : st.marks = []) (h2 : 0 < wd) : cmpI st wd l = .error ⟨.indent, l, wd + 1⟩ := by
  unfold cmpI
  rw [if_pos ⟨h1, h2⟩]
theorem cmpI_2 {st : St} {wd l : Nat} (h1 : ¬ (st.marks = [] ∧ 0 < wd)) (h2 : st.ind.headD 0 < wd) (h3 : st.ind.length = 11) : cmpI st wd l = .error ⟨.deep, l, wd + 1⟩ := by
  unfold cmpI
  rw [if_neg h1, if_pos h2, if_pos h3]
theorem cmpI_3 {st : St} {wd l : Nat} (h1 : ¬ (st.marks = [] ∧ 0 < wd)) (h2 : st.ind.headD 0 < wd) (h3 : ¬ st.ind.length = 11) : cmpI st wd l = popM { st with ind := wd :: st.ind, marks := st.marks ++ [tk "indent" eW l (wd + 1)] } wd l := by
  unfold cmpI
  rw [if_neg h1, if_pos h2, if_neg h3]
  rw [popM_end (t := wd) (r := st.ind) rfl (by omega), if_neg (by omega)]
theorem cmpI_4 {st : St} {wd l : Nat} (h1 : ¬ (st.marks = [] ∧ 0 < wd)) (h2 : ¬ st.ind.headD 0 < wd) : cmpI st wd l = popM st wd l := by
  unfold cmpI
  rw [if_neg h1, if_neg h2]
  rfl
theorem ind_last {st : St} {t : Nat} {r : List Nat} (e : st.ind = t :: r) : atI (indV st) (-1) = some (.int ((t : Nat) : Int)) := by
  unfold indV
  rw [e, List.reverse_cons, List.map_append]
  exact atI_last _ _
theorem den_tk {K : PySem.W.Frag} {H : Hp} {q : Addr} {kd : String} {v : V} {w : T} {l k : Nat} {k' : Int} (h : H q = some (.tup [kV kd, v, .int ((l : Nat) : Int), .int k'])) (e : k' = ((k : Nat) : Int)) (d : Den K H v w) : Den K H (.ref q) (tk kd w l k) := by
  subst e
  exact Den.tups h (.cons (.str _) (.cons d (.cons (.int _) (.cons (.int _) .nil))))
theorem ind_push (st : St) (wd : Nat) : indV st ++ [V.int ((wd : Nat) : Int)] = (wd :: st.ind).reverse.map fun n => V.int ((n : Nat) : Int) := by
  unfold indV
  rw [List.reverse_cons, List.map_append]
  rfl
theorem ind_cons {st : St} {n : Nat} (k : StOk st n) : ∃ t r, st.ind = t :: r := by
  cases e : st.ind with
  | nil => have := k.bot; rw [e] at this; cases this
  | cons t r => exact ⟨t, r, rfl⟩
@[irreducible] def CM0 (o : Addr) (st : St) (wd l : Nat) (H : Hp) (σ : L2.St) (H' : Hp) : Prop := σ = [some (.ref o), some (.int (wd : Nat)), some (.int (l : Nat)), some (.int ((wd : Int) + 1))] ∧ H' = H ∧ ¬ (st.marks = [] ∧ 0 < wd)
@[irreducible] def CM1 (K : PySem.W.Frag) (C o m i p : Addr) (st : St) (wd l : Nat) (H : Hp) (σ : L2.St) (H' : Hp) : Prop := ∃ st1 : St, σ = [some (.ref o), some (.int (wd : Nat)), some (.int (l : Nat)), some (.int ((wd : Int) + 1))] ∧ ScA K C H' o m i p st1 ∧ Fr [o, m, i, p] H H' ∧ st1.ind.getLast? = some 0 ∧ st1.marks.length ≤ 2000000 + 11 - st1.ind.length ∧ st1.ind.length ≤ 11 ∧ cmpI st wd l = popM st1 wd l
@[irreducible] def CM2 (K : PySem.W.Frag) (C o m i p : Addr) (st : St) (wd l : Nat) (H : Hp) (n : Nat) (σ : L2.St) (H' : Hp) : Prop := ∃ st1 : St, n = st1.ind.length ∧ σ = [some (.ref o), some (.int (wd : Nat)), some (.int (l : Nat)), some (.int ((wd : Int) + 1))] ∧ ScA K C H' o m i p st1 ∧ Fr [o, m, i, p] H H' ∧ st1.ind.getLast? = some 0 ∧ st1.marks.length ≤ 2000000 + 11 - st1.ind.length ∧ st1.ind.length ≤ 11 ∧ cmpI st wd l = popM st1 wd l
@[irreducible] def CM3 (K : PySem.W.Frag) (C o m i p : Addr) (st : St) (wd l : Nat) (H : Hp) (σ : L2.St) (H' : Hp) : Prop := ∃ (st1 : St) (t : Nat) (r : List Nat), st1.ind = t :: r ∧ ¬ wd < t ∧ σ = [some (.ref o), some (.int (wd : Nat)), some (.int (l : Nat)), some (.int ((wd : Int) + 1))] ∧ ScA K C H' o m i p st1 ∧ Fr [o, m, i, p] H H' ∧ cmpI st wd l = popM st1 wd l
section
variable {P : Program} {w : World} {K : PySem.W.Frag} {mg : Str → Option Value} {base : Heap}
set_option hygiene false
local macro_rules | `(tactic| tm_at "sc") => `(tactic| (first | omega | (simp only [List.length_cons, List.length_nil, List.length_map, List.length_set, List.length_append]; omega) | (simp only [List.length_map] at h1 ⊢; omega) | (simp only [List.length_map] at c ⊢; omega) | with_reducible assumption | exact And.intro (by omega) (by omega) | exact Or.inl (And.intro (by omega) (by omega)) | exact Or.inr (And.intro (by omega) (by omega)) | decide +kernel | exact len1000 (by simp) | rfl | fail "no way"))
local macro_rules | `(tactic| tm_at "sc1") => `(tactic| (focus (simp; done)))
local macro_rules | `(tactic| tm_at "ne") => `(tactic| (first | assumption | exact Ne.symm (by assumption) | (apply Box.ne2; assumption; tm_at "hp") | (apply Ne.symm; apply Box.ne2; assumption; tm_at "hp") | (apply ne_of_none2; assumption; tm_at "hp") | (apply Ne.symm; apply ne_of_none2; assumption; tm_at "hp") | fail "no way"))
local macro_rules | `(tactic| tm_at "f0") => `(tactic| (first | assumption | (apply Fr.new; assumption) | fail "no way"))
local macro_rules | `(tactic| tm_at "hp") => `(tactic| (first | assumption | exact upd_same | (apply SqL.of; first | assumption | exact upd_same) | (apply Fr.at0; tm_at "f0"; tm_at "hp") | (apply Fr.at1n; assumption; tm_at "ne"; tm_at "hp") | (apply sqFr0; tm_at "f0"; tm_at "hp") | (apply sqFr1; assumption; tm_at "ne"; tm_at "hp") | (apply Box.fr0; tm_at "f0"; tm_at "hp") | (apply Box.fr1; assumption; tm_at "ne"; tm_at "hp") | (apply Den.fr; tm_at "f0"; tm_at "hp") | (apply Dens.fr; tm_at "f0"; tm_at "hp") | fail "no way"))
local macro_rules | `(tactic| tm_at "free0") => `(tactic| (first | assumption | (apply updFree; assumption) | (apply updFree; apply updFree; assumption) | (apply updFree; apply updFree; apply updFree; assumption) | (apply updFree; apply updFree; apply updFree; apply updFree; assumption) | fail "no way"))
local macro_rules | `(tactic| tm_at "free") => `(tactic| (first | tm_at "free0" | (apply Fr.free; assumption; tm_at "free0") | (apply Box.free; assumption; tm_at "fr"; tm_at "free0") | (apply Fr.free; assumption; apply Fr.free; assumption; tm_at "free0") | fail "no way"))
local macro_rules | `(tactic| tm_at "fr") => `(tactic| (first | assumption | exact Fr.refl0 _ | exact Fr.refl (Box.nt (by assumption)) | (refine Fr.comp0 ?_ (by tm_at "f0"); tm_at "fr") | (refine Fr.comp ?_ (by assumption); tm_at "fr") | (refine Fr.compN ?_ (by assumption) (by tm_at "free"); tm_at "fr") | fail "no way"))
local macro_rules | `(tactic| tm_at "call") => `(tactic| fail "no call")
local macro_rules | `(tactic| tm_at "call") => `(tactic| (apply take_step; tm_at "hp"; tm_at "sc"; tm_at "sc"; intro r H1 h0 h1 hB fr))
local macro_rules | `(tactic| tm_at "ty") => `(tactic| (first | assumption | exact .base .non | exact .base (.bl _) | exact .base (.int _) | exact .base (.str _) | (apply TyX.base; apply TyOf.lst; tm_at "hp") | (apply TyX.base; apply TyOf.tup; tm_at "hp") | fail "no way"))
local macro_rules | `(tactic| tm_at "pre") => `(tactic| fail "none")
local macro_rules | `(tactic| tm_at "go1") => `(tactic| (first | tm_at "pre" | refine ⟨_, rfl, ?_⟩ | refine ⟨_, _, rfl, rfl, ?_⟩ | (apply set_step; tm_at "hp"; tm_at "sc"; tm_at "sc"; intro H1 hp fr) | (with_reducible refine iteDI ?_ ?_ <;> intro c) | (with_reducible refine iteDS ?_ ?_ <;> intro c) | (with_reducible refine iteD ?_ ?_ <;> intro c) | (with_reducible refine iteEM ?_ ?_ <;> intro c) | (with_reducible refine iteE ?_ ?_ <;> intro c) | with_reducible refine iteN ?_ | with_reducible refine iteF ?_ | with_reducible refine iteT ?_ | (refine fun (p : Addr) (np : _ = (none : Option HO)) => ?_; fail_if_success (refine ⟨fun (_ _ : Nat) (_ : Hp) => True, ?_⟩)) | (apply isi_tt; tm_at "ty"; focus (decide +kernel)) | (apply isi_ff; tm_at "ty"; focus (decide +kernel)) | (apply sl_step; tm_at "hp"; intro qq H1 ms nq hq fr) | (apply sum_step; tm_at "hp"; intro i) | (apply tru_step; tm_at "hp") | (apply len_step; tm_at "hp") | (apply lenq_step; assumption) | (apply ixq_step; assumption; tm_at "sc"; tm_at "sc"; intro v hv) | (apply lst_step; tm_at "hp") | (apply tupl_step; tm_at "hp") | (apply ixr_step; tm_at "hp"; exact rfl) | (apply ix0_step; tm_at "hp") | (apply ix1_step; tm_at "hp") | (apply ix2_step; tm_at "hp") | (apply ixi_step; tm_at "hp"; tm_at "sc"; tm_at "sc"; intro n hn hn') | (apply ixl_step; tm_at "hp"; tm_at "sc"; tm_at "sc"; intro v hv) | (apply ixt_step; tm_at "hp"; tm_at "sc"; tm_at "sc"; intro v hm hv) | (apply in_step; tm_at "hp"; rfl; rfl) | (apply cat_step; tm_at "hp"; tm_at "hp"; tm_at "sc") | (apply catT_step; tm_at "hp"; tm_at "hp"; tm_at "sc1") | (apply tyL_and; tm_at "hp") | (apply app_step; tm_at "hp"; tm_at "sc"; intro H1 hp fr) | tm_at "call" | refine ⟨⟨_, rfl⟩, ?_⟩ | (apply ixs_step; tm_at "sc"; tm_at "sc"; tm_at "sc"; intro ch) | refine .inl ⟨_, rfl, ?_⟩ | refine .inr ⟨_, rfl, ?_⟩ | (apply And.intro; tm_at "sc") | (with_reducible refine wayB ?_ ?_ <;> intro c) | fail "no way"))
local macro_rules | `(tactic| tm_at "go") => `(tactic| (repeat tm_at "go1"))
local macro_rules | `(tactic| tm_at "goo") => `(tactic| (repeat' tm_at "go1"))
local macro_rules | `(tactic| tm_at "den") => `(tactic| (first | assumption | exact Den.str _ | exact Den.int _ | exact Den.bl _ | exact Den.non | (apply Den.tups; tm_at "hp"; tm_at "dens") | (apply Den.fr; tm_at "f0"; tm_at "den") | fail "no way"))
local macro_rules | `(tactic| tm_at "dens") => `(tactic| (first | assumption | exact Dens.nil | (apply Dens.cons; tm_at "den"; tm_at "dens") | (apply Dens.fr; tm_at "f0"; tm_at "dens") | fail "no way"))
local macro_rules | `(tactic| tm_at "ix") => `(tactic| (apply Ix.mk; tm_at "hp"; tm_at "ne"; assumption; assumption))
local macro_rules | `(tactic| tm_at "dep") => `(tactic| (first | assumption | exact Dep.int | exact Dep.str | exact Dep.bl | exact Dep.non | (apply Dep.tup; tm_at "dlen"; tm_at "deps") | (apply Dep.mono; assumption; decide) | fail "no way"))
local macro_rules | `(tactic| tm_at "deps") => `(tactic| (first | assumption | exact memN | (apply memC; tm_at "dep"; tm_at "deps") | fail "no way"))
local macro_rules | `(tactic| tm_at "dlen") => `(tactic| (first | assumption | (focus (simp; done)) | omega | fail "no way"))
local macro_rules | `(tactic| tm_at "pre") => `(tactic| (apply rep_step; tm_at "hp"; tm_at "sc"; tm_at "sc"; intro rp H1 nrp hrp fr))

local macro_rules | `(tactic| tm_at "lits") => `(tactic| (try simp only [l_nl, l_open, l_close, l_sp, l_quo, l_bs, l_minus, l_zero, l_empty, l_n] at c))
local macro_rules | `(tactic| tm_at "pre") => `(tactic| (first | (apply slm_step; tm_at "sc"; tm_at "sc"; tm_at "sc") | (apply slf_step; tm_at "sc"; tm_at "sc") | (apply slt_step; tm_at "sc"; tm_at "sc") | (with_reducible refine iteEqZ ?_ ?_ <;> (intro c; tm_at "lits")) | (apply catS_step; tm_at "sc") | (apply inD_step) | (apply ordS_step) | (apply intS_step; assumption) | (apply sign_step) | (apply lenS_step; tm_at "sc")))
local macro_rules | `(tactic| tm_at "pre") => `(tactic| (apply while_go))
local macro_rules | `(tactic| tm_at "pre") => `(tactic| (apply ixS_step; tm_at "sc"; tm_at "sc"; assumption))
local macro_rules | `(tactic| tm_at "pre") => `(tactic| (apply appB_step; tm_at "hp"; tm_at "sc"; intro H1 hp fr))

local macro_rules | `(tactic| tm_at "lk") => `(tactic| (first | with_reducible exact lookup_eq | ((with_reducible apply lookup_ne); (focus (decide +kernel)); tm_at "lk") | assumption | rfl | fail "no way"))
local macro_rules | `(tactic| tm_at "pf") => `(tactic| (first | with_reducible exact putF_nil | with_reducible exact putF_eq | ((with_reducible apply putF_ne); (focus (decide +kernel)); tm_at "pf") | fail "no way"))
local macro_rules | `(tactic| tm_at "fl") => `(tactic| (first | assumption | focus (simp only [List.length_cons, List.length_nil]; omega) | focus (simp only [List.length_cons, List.length_nil]; done) | focus (decide) | focus (simp; done) | focus (simp; omega) | fail "no way"))
local macro_rules | `(tactic| tm_at "pre") => `(tactic| (apply fld_step; tm_at "hp"; assumption; assumption; tm_at "lk"))
local macro_rules | `(tactic| tm_at "pre") => `(tactic| (apply putf_step; tm_at "hp"; assumption; assumption; tm_at "fl"; tm_at "pf"; intro H1 hp fr))
local macro_rules | `(tactic| tm_at "pre") => `(tactic| (apply aug_step; tm_at "hp"; assumption; assumption; tm_at "lk"))
local macro_rules | `(tactic| tm_at "pre") => `(tactic| (apply put2_step; tm_at "hp"; tm_at "fl"; tm_at "pf"; intro H1 hp fr))
local macro_rules | `(tactic| tm_at "pre") => `(tactic| (apply dget_step; tm_at "hp"; tm_at "lk"))
local macro_rules | `(tactic| tm_at "pre") => `(tactic| (apply dput_step; tm_at "hp"; (focus (omega)); intro H1 hp fr))
local macro_rules | `(tactic| tm_at "pre") => `(tactic| (apply mth_step; tm_at "hp"; tm_at "lk"))
local macro_rules | `(tactic| tm_at "pre") => `(tactic| (apply lenD_step; tm_at "hp"))
local macro_rules | `(tactic| tm_at "pre") => `(tactic| (apply addI_step))
local macro_rules | `(tactic| tm_at "pre") => `(tactic| (apply newD_step; intro dn H1 nd hp fr))
local macro_rules | `(tactic| tm_at "fr2") => `(tactic| (first | assumption | (apply Fr.appMb; assumption; (focus (simp; done)); tm_at "fr2") | (apply Fr.app0b; tm_at "f0"; tm_at "fr2") | (apply Fr.appNb; assumption; tm_at "free"; tm_at "fr2") | fail "no way"))
local macro_rules | `(tactic| tm_at "ne") => `(tactic| (apply ne_role; assumption; assumption; (focus (decide))))
local macro_rules | `(tactic| tm_at "pre") => `(tactic| (apply dnotin_step; tm_at "hp"))
local macro_rules | `(tactic| tm_at "pre") => `(tactic| (apply din_step; tm_at "hp"))

local macro_rules | `(tactic| tm_at "call") => `(tactic| (apply rs_step; intro xd H1 nd hd fr))
set_option pp.deepTerms false
set_option pp.deepTerms.threshold 3
abbrev s_Scanner_compare_indent : Stmt := inClass (top 29) 2
theorem sc_Scanner_compare_indent : FnScope ["self", "width", "line", "column"] ["self", "width", "line"] (defScope s_Scanner_compare_indent) := ⟨rfl, rfl, rfl, by decide +kernel, rfl, by decide +kernel, by decide +kernel⟩

theorem ok_cmp {C : Addr} {CA : Cl → Addr} (F : ScF K C) (T : K4.Bl mg) (X_BadIndent : XE2 P w K mg base "BadIndent" (CA .indent)) (X_TooDeep : XE2 P w K mg base "TooDeep" (CA .deep)) (g_MOST_INDENTS : GV mg "MOST_INDENTS" (.int 11)) (D : Def2 K C "compare_indent" "Scanner.compare_indent" s_Scanner_compare_indent) : CalMX P w K mg base 3 C "compare_indent" ["self", "width", "line"] (spCmp K CA C) := by
  refine D.calMX F.cl sc_Scanner_compare_indent (fun _ _ _ _ _ _ us hl => match us, hl with | [_, _, _], _ => rfl) (fun vs H Q E h => ?_) (fun f cdv A outer s H vs Q E hr h => ?_) <;> unfold spCmp at h
  · obtain ⟨o, m, i, p, wd, l, st, rfl, _⟩ := h
    rfl
  · obtain ⟨o, m, i, p, wd, l, st, rfl, sc, ok, k⟩ := h
    have c1 := F.cl
    have n1 := F.n1
    have n2 := F.n2
    have n3 := F.n3
    have n4 := F.n4
    obtain ⟨dx, ho⟩ := sc.ob
    obtain ⟨xs, hm, dm⟩ := sc.mks
    obtain ⟨os, hp0, dp⟩ := sc.opn
    have hi := sc.id
    have om := sc.om
    have oi := sc.oi
    have op := sc.op'
    have mi := sc.mi
    have mp := sc.mp
    have ip := sc.ip
    have ml := ok.ml
    have il := ok.il
    have dml := dm.1
    obtain ⟨t, r, et⟩ := ind_cons ok
    have hil : (indV st).length = st.ind.length := by simp [indV]
    unfold fsOf at ho
    refine ⟨_, (pss_cons (ps_set (i := 3) sc_Scanner_compare_indent.nd rfl (Or.inl rfl) (pe_op op_add (pv 1) pe_int))
    (C8.pss_cut (ps_if (PW.pt (pw_and (pt_cmpR op_eq (pe_callB (cLen K) (by rfl) T.z_len (by decide +kernel) (pa_cons (pe_fldx K (pv 0) rfl) pa_nil)) pe_int (nomark _)) (pw_and1 (pt_cmpR op_gt (pv 1) pe_int (nomark _)))))
      (pss_one (ps_raise2 X_BadIndent rfl takesE (hr.mono (by omega)) (by rfl) (pa_cons (pv 2) (pa_cons (pv 3) pa_nil))))
      pss_nil)
    (C8.pss_cut (ps_if (pt_cmpR op_gt (pv 1) (pe_ix (ixL K) (pe_fldx K (pv 0) rfl) (pe_un un_neg pe_int) (fun _ _ => rfl)) (nomark _))
      (pss_cons (ps_if (pt_cmpR op_eq (pe_callB (cLen K) (by rfl) T.z_len (by decide +kernel) (pa_cons (pe_fldx K (pv 0) rfl) pa_nil)) (pe_gv g_MOST_INDENTS (by rfl)) (nomark _))
        (pss_one (ps_raise2 X_TooDeep rfl takesE (hr.mono (by omega)) (by rfl) (pa_cons (pv 2) (pa_cons (pv 3) pa_nil))))
        pss_nil)
      (pss_cons (ps_expr (pe_bm PySem.F.plainAttrs_list PySem.F.slot_list_append PySem.F.type_list_append mtApp (pe_fldx K (pv 0) rfl) (pa_cons (pv 1) pa_nil)))
      (pss_one (ps_expr (pe_bm PySem.F.plainAttrs_list PySem.F.slot_list_append PySem.F.type_list_append mtApp (pe_fldx K (pv 0) rfl) (pa_cons (pe_tup (pa_cons pe_str (pa_cons pe_str (pa_cons (pv 2) (pa_cons (pv 3) pa_nil))))) pa_nil))))))
      pss_nil)
    (C8.pss_cut (ps_while (passes_of rfl) (pt_cmpR op_gt (pe_ix (ixL K) (pe_fldx K (pv 0) rfl) (pe_un un_neg pe_int) (fun _ _ => rfl)) (pv 1) (nomark _))
      (pss_cons (ps_expr (pe_bm0 PySem.F.plainAttrs_list PySem.F.slot_list_pop PySem.F.type_list_pop mtPopS (pe_fldx K (pv 0) rfl)))
      (pss_one (ps_expr (pe_bm PySem.F.plainAttrs_list PySem.F.slot_list_append PySem.F.type_list_append mtApp (pe_fldx K (pv 0) rfl) (pa_cons (pe_tup (pa_cons pe_str (pa_cons pe_str (pa_cons (pv 2) (pa_cons (pv 3) pa_nil))))) pa_nil))))))
    (pss_one (ps_if (pt_cmpR op_lt (pe_ix (ixL K) (pe_fldx K (pv 0) rfl) (pe_un un_neg pe_int) (fun _ _ => rfl)) (pv 1) (nomark _))
      (pss_one (ps_raise2 X_BadIndent rfl takesE (hr.mono (by omega)) (by rfl) (pa_cons (pv 2) (pa_cons (pv 3) pa_nil))))
      pss_nil)))))), ?_⟩
    refine ⟨_, rfl, ?_⟩
    refine ⟨_, _, rfl, rfl, ?_⟩
    have rfM := sc.rf
    have nt4 := sc.nt
    refine ⟨CM0 o st wd l H, ?_, fun σ H2 hw => ?_⟩
    · show tIfS _ _ _ _ _ _
      tm_at "goo"
      · rw [cmpI_1 (List.eq_nil_of_length_eq_zero (by omega)) (by omega)] at k
        exact k xd _ (by rw [hd]; rfl) (rfM.comp0 fr)
      · show CM0 o st wd l H _ _
        unfold CM0
        exact ⟨rfl, rfl, fun z => by omega⟩
      · show CM0 o st wd l H _ _
        unfold CM0
        exact ⟨rfl, rfl, fun z => by have : st.marks.length = 0 := by rw [z.1]; rfl
                                     omega⟩
    · unfold CM0 at hw
      obtain ⟨rfl, rfl, h1⟩ := hw
      have eh : st.ind.headD 0 = t := by rw [et]; rfl
      refine ⟨CM1 K C o m i p st wd l H2, ?_, fun σ H3 hw => ?_⟩
      · show tIfS _ _ _ _ _ _
        tm_at "goo"
        refine ixr_step (.of hi) (ind_last et) ?_
        tm_at "goo"
        · rename_i c0
          rw [cmpI_2 h1 (by rw [eh]; omega) (by omega)] at k
          exact k xd _ (by rw [hd]; rfl) (rfM.comp0 fr)
        · rename_i Ha ha fa
          have sa := sc.inds (ind := wd :: st.ind) (by rw [ha, ← ind_push]) fa
          have fN : Fr [] Ha _ := Fr.new (o := .tup [.str (Str.ofString "indent"), .str (Str.ofString ""), .int ((l : Nat) : Int), .int ((wd : Int) + 1)]) np
          have sb := sa.fr0 fN
          have sd := sb.mark (xs := xs) (v := .ref p) (t := tk "indent" eW l (wd + 1)) (fN.at0 (fa.at1 hm mi)) ((dm.fr fa).fr fN) (den_tk upd_same (by omega) (.str _)) hp fr
          show CM1 K C o m i _ st wd l H2 _ _
          unfold CM1
          refine ⟨_, rfl, sd, ((fr_sub fa (by simp) nt4).comp0 fN).comp (fr_sub fr (by simp) sb.nt), ?_, ?_, ?_, cmpI_3 h1 (by rw [eh]; omega) (by omega)⟩
          · show (wd :: st.ind).getLast? = some 0
            rw [List.getLast?_cons_of_ne_nil (by rw [et]; exact List.cons_ne_nil _ _)]
            exact ok.bot
          · show (st.marks ++ [_]).length ≤ 2000000 + 11 - (wd :: st.ind).length
            simp; omega
          · show (wd :: st.ind).length ≤ 11
            simp; omega
        · show CM1 K C o m i p st wd l H2 _ _
          unfold CM1
          exact ⟨st, rfl, sc, rfM, ok.bot, by have := ok.il; omega, ok.il, cmpI_4 h1 (by rw [eh]; omega)⟩
      · unfold CM1 at hw
        obtain ⟨st1, rfl, sc1, f1, bt1, ml1, il1, ek⟩ := hw
        refine ⟨CM3 K C o m i p st wd l H2, ⟨CM2 K C o m i p st wd l H2, ⟨st1.ind.length, ?_⟩, fun n σ H4 hw => ?_⟩, fun σ H4 hw => ?_⟩
        · unfold CM2
          exact ⟨st1, rfl, rfl, sc1, f1, bt1, ml1, il1, ek⟩
        · unfold CM2 at hw
          obtain ⟨st2, rfl, rfl, sc2, f2, bt2, ml2, il2, ek2⟩ := hw
          obtain ⟨dx2, ho2⟩ := sc2.ob
          unfold fsOf at ho2
          obtain ⟨xs2, hm2, dm2⟩ := sc2.mks
          have hi2 := sc2.id
          obtain ⟨t2, r2, et2⟩ : ∃ t r, st2.ind = t :: r := by
            cases e : st2.ind with
            | nil => rw [e] at bt2; cases bt2
            | cons t r => exact ⟨t, r, rfl⟩
          tm_at "goo"
          refine ixr_step (.of hi2) (ind_last et2) ?_
          have dml2 := dm2.1
          have hi2' : H4 i = some (.lst ((r2.reverse.map fun n => V.int ((n : Nat) : Int)) ++ [.int ((t2 : Nat) : Int)])) := by
            rw [hi2]
            unfold indV
            rw [et2, List.reverse_cons, List.map_append]
            rfl
          tm_at "goo"
          · refine popL_step hi2' fun H5 h5 f5 => ?_
            have s5 := sc2.inds h5 f5
            have hm5 := f5.at1 hm2 mi
            have dm5 := dm2.fr f5
            have ho5 := f5.at1 ho2 oi
            tm_at "goo"
            have fN : Fr [] H5 _ := Fr.new (o := .tup [.str (Str.ofString "dedent"), .str (Str.ofString ""), .int ((l : Nat) : Int), .int ((wd : Int) + 1)]) np
            have s6 := s5.fr0 fN
            have s7 := s6.mark (xs := xs2) (v := .ref p) (t := tk "dedent" eW l (wd + 1)) (fN.at0 hm5) (dm5.fr fN) (den_tk upd_same (by omega) (.str _)) hp fr
            have e2l : st2.ind.length = r2.length + 1 := by rw [et2]; rfl
            show Nx (CM2 K C o m i _ st wd l H2) _ _ _
            refine Nx.of r2.length (by omega) ?_
            unfold CM2
            refine ⟨_, rfl, rfl, s7, ((f2.comp (fr_sub f5 (by simp) sc2.nt)).comp0 fN).comp (fr_sub fr (by simp) s6.nt), ?_, ?_, ?_, by rw [ek2]; exact popM_pop et2 (by omega)⟩
            · show r2.getLast? = some 0
              rw [et2] at bt2
              cases r2 with
              | nil => simp at bt2; omega
              | cons y r2 => simpa using bt2
            · show (st2.marks ++ [_]).length ≤ 2000000 + 11 - r2.length
              simp; omega
            · show r2.length ≤ 11
              omega
          · show CM3 K C o m i p st wd l H2 _ _
            unfold CM3
            exact ⟨st2, t2, r2, et2, by omega, rfl, sc2, f2, ek2⟩
        · unfold CM3 at hw
          obtain ⟨st2, t2, r2, et2, hn2, rfl, sc2, f2, ek2⟩ := hw
          obtain ⟨dx2, ho2⟩ := sc2.ob
          unfold fsOf at ho2
          have hi2 := sc2.id
          rw [ek2, popM_end et2 hn2] at k
          tm_at "goo"
          refine ixr_step (.of hi2) (ind_last et2) ?_
          tm_at "goo"
          · rw [if_pos (by omega)] at k
            exact k xd _ (by rw [hd]; rfl) (f2.comp0 fr)
          · rw [if_neg (by omega)] at k
            exact k _ sc2 f2
end
end TK
set_option Elab.async false
set_option linter.all false
set_option maxRecDepth 100000
set_option maxHeartbeats 4000000
namespace TK
open PySem PySem.Spec PyProof.Rows L2 M14 SX K4
theorem dens_last {K : PySem.W.Frag} {H : Hp} {xs : List V} {ts : List T} {t : T} (h : Dens K H xs (ts ++ [t])) : ∃ ys v, xs = ys ++ [v] ∧ Dens K H ys ts ∧ Den K H v t := by
  have l : xs.length = ts.length + 1 := by rw [h.1]; simp
  have ne : xs ≠ [] := fun e => by rw [e] at l; simp at l
  have e := (List.dropLast_concat_getLast ne).symm
  have ld : xs.dropLast.length = ts.length := by simp; omega
  refine ⟨xs.dropLast, xs.getLast ne, e, ⟨ld, fun i x u a b => ?_⟩, ?_⟩
  · have hi : i < ts.length := (List.getElem?_eq_some_iff.mp b).1
    refine h.2 i x u ?_ (by rw [List.getElem?_append_left hi]; exact b)
    rw [e, List.getElem?_append_left (by omega)]
    exact a
  · refine h.2 ts.length _ t ?_ (by simp)
    rw [List.getLast_eq_getElem]
    rw [List.getElem?_eq_getElem (by omega)]
    congr 2
    omega
theorem den_opT {K : PySem.W.Frag} {H : Hp} {v : V} {x : List Nat × Nat × Nat} (h : Den K H v (opT x)) : ∃ q, v = .ref q ∧ H q = some (.tup [.str (S x.1), .int (x.2.1 : Nat), .int (x.2.2 : Nat)]) := by
  unfold opT at h
  cases h with
  | @tup a xs _ ha l c =>
    refine ⟨a, rfl, ?_⟩
    match xs, l with
    | [u, v, y], _ =>
      have h0 := c 0 u _ rfl rfl
      have h1 := c 1 v _ rfl rfl
      have h2 := c 2 y _ rfl rfl
      cases h0
      cases h1
      cases h2
      exact ha
theorem den_op {K : PySem.W.Frag} {H : Hp} {q : Addr} {s : List Nat} {l k : Nat} (h : H q = some (.tup [.str (S s), .int ((l : Nat) : Int), .int ((k : Nat) : Int)])) : Den K H (.ref q) (opT (s, l, k)) := Den.tups h (.cons (.str _) (.cons (.int _) (.cons (.int _) .nil)))
def fCl (z : Str) : Option V := (opOf z.cps.toList).map fun o => V.str (S o)
theorem fCl_S (s : List Nat) : fCl (S s) = (opOf s).map fun o => V.str (S o) := by unfold fCl; simp
/-- the kinds of words -/
def kinds5 : List String := ["keyword", "name", "number", "text", "sign"]
theorem kd_sign {kd : String} (h : kd ∈ kinds5) : Str.ofString kd = Str.ofString "sign" ↔ kd = "sign" := by
  unfold kinds5 at h
  simp only [List.mem_cons, List.not_mem_nil, or_false] at h
  rcases h with rfl | rfl | rfl | rfl | rfl <;> decide +kernel
@[irreducible] def spKeep (K : PySem.W.Frag) (CA : Cl → Addr) (C : Addr) : Sp := fun vs H Q E => ∃ (o m i p : Addr) (kd : String) (v : V) (w : T) (l k : Nat) (st : St), vs = [.ref o, kV kd, v, .int (l : Nat), .int (k : Nat)] ∧ kd ∈ kinds5 ∧ (kd = "sign" → ∃ s, w = .str (S s)) ∧ Den K H v w ∧ ScA K C H o m i p st ∧ StOk st 2000000 ∧ ResX K CA C o m i p (keep st kd w l k) H Q E
theorem keep_step {K : PySem.W.Frag} {CA : Cl → Addr} {C o m i p : Addr} {kd : String} {v : V} {w : T} {l k : Nat} {st : St} {H : Hp} {Q : VK} {E : XK} (h1 : kd ∈ kinds5) (h2 : kd = "sign" → ∃ s, w = .str (S s)) (d : Den K H v w) (s : ScA K C H o m i p st) (ok : StOk st 2000000) (r : ResX K CA C o m i p (keep st kd w l k) H Q E) : spKeep K CA C [.ref o, kV kd, v, .int (l : Nat), .int (k : Nat)] H Q E := by
  unfold spKeep
  exact ⟨o, m, i, p, kd, v, w, l, k, st, rfl, h1, h2, d, s, ok, r⟩
/-- the brackets seen to -/
def brk (st : St) (kd : String) (w : T) (l k : Nat) : Except Er (List (List Nat × Nat × Nat)) := match opOf (signOf kd w) with
  | some o => (match st.op with
    | [] => .error ⟨.token, l, k⟩
    | t :: r => if t.1 ≠ o then .error ⟨.token, l, k⟩ else .ok r)
  | none => .ok (if signOf kd w ∈ opens then (signOf kd w, l, k) :: st.op else st.op)
theorem keep_120 {st : St} {kd : String} {w : T} {l k : Nat} (h : st.many = 120) : keep st kd w l k = .error ⟨.long, l, k⟩ := by unfold keep; rw [if_pos h]
theorem keep_e {st : St} {kd : String} {w : T} {l k : Nat} {e : Er} (h : ¬ st.many = 120) (b : brk st kd w l k = .error e) : keep st kd w l k = .error e := by
  unfold keep
  unfold brk at b
  rw [if_neg h]
  simp only
  cases ho : opOf (signOf kd w) with
  | none => rw [ho] at b; cases b
  | some o =>
    rw [ho] at b
    cases hp : st.op with
    | nil => rw [hp] at b; exact congrArg Except.error (Except.error.inj b)
    | cons t r =>
      rw [hp] at b
      have b : (if t.1 ≠ o then Except.error (⟨.token, l, k⟩ : Er) else .ok r) = Except.error e := b
      show (if t.1 ≠ o then _ else _) = _
      by_cases h3 : t.1 ≠ o
      · rw [if_pos h3] at b ⊢
        exact congrArg Except.error (Except.error.inj b)
      · rw [if_neg h3] at b
        cases b
theorem keep_o {st : St} {kd : String} {w : T} {l k : Nat} {op : List (List Nat × Nat × Nat)} (h : ¬ st.many = 120) (b : brk st kd w l k = .ok op) : keep st kd w l k = .ok { st with op := op, marks := st.marks ++ [tk kd w l k], many := st.many + 1 } := by
  unfold keep
  unfold brk at b
  rw [if_neg h]
  simp only
  cases ho : opOf (signOf kd w) with
  | none =>
    rw [ho] at b
    rw [← Except.ok.inj b]
  | some o =>
    rw [ho] at b
    cases hp : st.op with
    | nil => rw [hp] at b; cases b
    | cons t r =>
      rw [hp] at b
      have b : (if t.1 ≠ o then Except.error (⟨.token, l, k⟩ : Er) else .ok r) = Except.ok op := b
      show (if t.1 ≠ o then _ else _) = _
      by_cases h3 : t.1 ≠ o
      · rw [if_pos h3] at b
        cases b
      · rw [if_neg h3] at b ⊢
        rw [Except.ok.inj b]
@[irreducible] def KM (K : PySem.W.Frag) (C o m i p : Addr) (kd : String) (v : V) (w : T) (l k : Nat) (st : St) (H : Hp) (σ : L2.St) (H' : Hp) : Prop := ∃ op, brk st kd w l k = .ok op ∧ σ = [some (.ref o), some (kV kd), some v, some (.int (l : Nat)), some (.int (k : Nat))] ∧ ScA K C H' o m i p { st with op := op } ∧ Den K H' v w ∧ Fr [o, m, i, p] H H'
theorem cl_yes {s : List Nat} (h : (false != (fCl (S s)).isSome) = true) : ∃ q, opOf s = some q ∧ fCl (S s) = some (V.str (S q)) := by
  rw [fCl_S] at h ⊢
  cases e : opOf s with
  | none => rw [e] at h; cases h
  | some q => exact ⟨q, rfl, rfl⟩
theorem cl_no {s : List Nat} (h : (false != (fCl (S s)).isSome) = false) : opOf s = none := by
  rw [fCl_S] at h
  cases e : opOf s with
  | none => rfl
  | some q => rw [e] at h; cases h
theorem of_dt {p : Prop} [Decidable p] (h : (false != decide p) = true) : p := by by_cases q : p; exact q; simp [q] at h
theorem of_df {p : Prop} [Decidable p] (h : (false != decide p) = false) : ¬ p := fun q => by simp [q] at h
section
variable {P : Program} {w : World} {K : PySem.W.Frag} {mg : Str → Option Value} {base : Heap}
set_option hygiene false
local macro_rules | `(tactic| tm_at "sc") => `(tactic| (first | omega | (simp only [List.length_cons, List.length_nil, List.length_map, List.length_set, List.length_append]; omega) | (simp only [List.length_map] at h1 ⊢; omega) | (simp only [List.length_map] at c ⊢; omega) | with_reducible assumption | exact And.intro (by omega) (by omega) | exact Or.inl (And.intro (by omega) (by omega)) | exact Or.inr (And.intro (by omega) (by omega)) | decide +kernel | exact len1000 (by simp) | rfl | fail "no way"))
local macro_rules | `(tactic| tm_at "sc1") => `(tactic| (focus (simp; done)))
local macro_rules | `(tactic| tm_at "ne") => `(tactic| (first | assumption | exact Ne.symm (by assumption) | (apply Box.ne2; assumption; tm_at "hp") | (apply Ne.symm; apply Box.ne2; assumption; tm_at "hp") | (apply ne_of_none2; assumption; tm_at "hp") | (apply Ne.symm; apply ne_of_none2; assumption; tm_at "hp") | fail "no way"))
local macro_rules | `(tactic| tm_at "f0") => `(tactic| (first | assumption | (apply Fr.new; assumption) | fail "no way"))
local macro_rules | `(tactic| tm_at "hp") => `(tactic| (first | assumption | exact upd_same | (apply SqL.of; first | assumption | exact upd_same) | (apply Fr.at0; tm_at "f0"; tm_at "hp") | (apply Fr.at1n; assumption; tm_at "ne"; tm_at "hp") | (apply sqFr0; tm_at "f0"; tm_at "hp") | (apply sqFr1; assumption; tm_at "ne"; tm_at "hp") | (apply Box.fr0; tm_at "f0"; tm_at "hp") | (apply Box.fr1; assumption; tm_at "ne"; tm_at "hp") | (apply Den.fr; tm_at "f0"; tm_at "hp") | (apply Dens.fr; tm_at "f0"; tm_at "hp") | fail "no way"))
local macro_rules | `(tactic| tm_at "free0") => `(tactic| (first | assumption | (apply updFree; assumption) | (apply updFree; apply updFree; assumption) | (apply updFree; apply updFree; apply updFree; assumption) | (apply updFree; apply updFree; apply updFree; apply updFree; assumption) | fail "no way"))
local macro_rules | `(tactic| tm_at "free") => `(tactic| (first | tm_at "free0" | (apply Fr.free; assumption; tm_at "free0") | (apply Box.free; assumption; tm_at "fr"; tm_at "free0") | (apply Fr.free; assumption; apply Fr.free; assumption; tm_at "free0") | fail "no way"))
local macro_rules | `(tactic| tm_at "fr") => `(tactic| (first | assumption | exact Fr.refl0 _ | exact Fr.refl (Box.nt (by assumption)) | (refine Fr.comp0 ?_ (by tm_at "f0"); tm_at "fr") | (refine Fr.comp ?_ (by assumption); tm_at "fr") | (refine Fr.compN ?_ (by assumption) (by tm_at "free"); tm_at "fr") | fail "no way"))
local macro_rules | `(tactic| tm_at "call") => `(tactic| fail "no call")
local macro_rules | `(tactic| tm_at "call") => `(tactic| (apply take_step; tm_at "hp"; tm_at "sc"; tm_at "sc"; intro r H1 h0 h1 hB fr))
local macro_rules | `(tactic| tm_at "ty") => `(tactic| (first | assumption | exact .base .non | exact .base (.bl _) | exact .base (.int _) | exact .base (.str _) | (apply TyX.base; apply TyOf.lst; tm_at "hp") | (apply TyX.base; apply TyOf.tup; tm_at "hp") | fail "no way"))
local macro_rules | `(tactic| tm_at "pre") => `(tactic| fail "none")
local macro_rules | `(tactic| tm_at "go1") => `(tactic| (first | tm_at "pre" | refine ⟨_, rfl, ?_⟩ | refine ⟨_, _, rfl, rfl, ?_⟩ | (apply set_step; tm_at "hp"; tm_at "sc"; tm_at "sc"; intro H1 hp fr) | (with_reducible refine iteDI ?_ ?_ <;> intro c) | (with_reducible refine iteDS ?_ ?_ <;> intro c) | (with_reducible refine iteD ?_ ?_ <;> intro c) | (with_reducible refine iteEM ?_ ?_ <;> intro c) | (with_reducible refine iteE ?_ ?_ <;> intro c) | with_reducible refine iteN ?_ | with_reducible refine iteF ?_ | with_reducible refine iteT ?_ | (refine fun (p : Addr) (np : _ = (none : Option HO)) => ?_; fail_if_success (refine ⟨fun (_ _ : Nat) (_ : Hp) => True, ?_⟩)) | (apply isi_tt; tm_at "ty"; focus (decide +kernel)) | (apply isi_ff; tm_at "ty"; focus (decide +kernel)) | (apply sl_step; tm_at "hp"; intro qq H1 ms nq hq fr) | (apply sum_step; tm_at "hp"; intro i) | (apply tru_step; tm_at "hp") | (apply len_step; tm_at "hp") | (apply lenq_step; assumption) | (apply ixq_step; assumption; tm_at "sc"; tm_at "sc"; intro v hv) | (apply lst_step; tm_at "hp") | (apply tupl_step; tm_at "hp") | (apply ixr_step; tm_at "hp"; exact rfl) | (apply ix0_step; tm_at "hp") | (apply ix1_step; tm_at "hp") | (apply ix2_step; tm_at "hp") | (apply ixi_step; tm_at "hp"; tm_at "sc"; tm_at "sc"; intro n hn hn') | (apply ixl_step; tm_at "hp"; tm_at "sc"; tm_at "sc"; intro v hv) | (apply ixt_step; tm_at "hp"; tm_at "sc"; tm_at "sc"; intro v hm hv) | (apply in_step; tm_at "hp"; rfl; rfl) | (apply cat_step; tm_at "hp"; tm_at "hp"; tm_at "sc") | (apply catT_step; tm_at "hp"; tm_at "hp"; tm_at "sc1") | (apply tyL_and; tm_at "hp") | (apply app_step; tm_at "hp"; tm_at "sc"; intro H1 hp fr) | tm_at "call" | refine ⟨⟨_, rfl⟩, ?_⟩ | (apply ixs_step; tm_at "sc"; tm_at "sc"; tm_at "sc"; intro ch) | refine .inl ⟨_, rfl, ?_⟩ | refine .inr ⟨_, rfl, ?_⟩ | (apply And.intro; tm_at "sc") | (with_reducible refine wayB ?_ ?_ <;> intro c) | fail "no way"))
local macro_rules | `(tactic| tm_at "go") => `(tactic| (repeat tm_at "go1"))
local macro_rules | `(tactic| tm_at "goo") => `(tactic| (repeat' tm_at "go1"))
local macro_rules | `(tactic| tm_at "den") => `(tactic| (first | assumption | exact Den.str _ | exact Den.int _ | exact Den.bl _ | exact Den.non | (apply Den.tups; tm_at "hp"; tm_at "dens") | (apply Den.fr; tm_at "f0"; tm_at "den") | fail "no way"))
local macro_rules | `(tactic| tm_at "dens") => `(tactic| (first | assumption | exact Dens.nil | (apply Dens.cons; tm_at "den"; tm_at "dens") | (apply Dens.fr; tm_at "f0"; tm_at "dens") | fail "no way"))
local macro_rules | `(tactic| tm_at "ix") => `(tactic| (apply Ix.mk; tm_at "hp"; tm_at "ne"; assumption; assumption))
local macro_rules | `(tactic| tm_at "dep") => `(tactic| (first | assumption | exact Dep.int | exact Dep.str | exact Dep.bl | exact Dep.non | (apply Dep.tup; tm_at "dlen"; tm_at "deps") | (apply Dep.mono; assumption; decide) | fail "no way"))
local macro_rules | `(tactic| tm_at "deps") => `(tactic| (first | assumption | exact memN | (apply memC; tm_at "dep"; tm_at "deps") | fail "no way"))
local macro_rules | `(tactic| tm_at "dlen") => `(tactic| (first | assumption | (focus (simp; done)) | omega | fail "no way"))
local macro_rules | `(tactic| tm_at "pre") => `(tactic| (apply rep_step; tm_at "hp"; tm_at "sc"; tm_at "sc"; intro rp H1 nrp hrp fr))

local macro_rules | `(tactic| tm_at "lits") => `(tactic| (try simp only [l_nl, l_open, l_close, l_sp, l_quo, l_bs, l_minus, l_zero, l_empty, l_n] at c))
local macro_rules | `(tactic| tm_at "pre") => `(tactic| (first | (apply slm_step; tm_at "sc"; tm_at "sc"; tm_at "sc") | (apply slf_step; tm_at "sc"; tm_at "sc") | (apply slt_step; tm_at "sc"; tm_at "sc") | (with_reducible refine iteEqZ ?_ ?_ <;> (intro c; tm_at "lits")) | (apply catS_step; tm_at "sc") | (apply inD_step) | (apply ordS_step) | (apply intS_step; assumption) | (apply sign_step) | (apply lenS_step; tm_at "sc")))
local macro_rules | `(tactic| tm_at "pre") => `(tactic| (apply while_go))
local macro_rules | `(tactic| tm_at "pre") => `(tactic| (apply ixS_step; tm_at "sc"; tm_at "sc"; assumption))
local macro_rules | `(tactic| tm_at "pre") => `(tactic| (apply appB_step; tm_at "hp"; tm_at "sc"; intro H1 hp fr))

local macro_rules | `(tactic| tm_at "lk") => `(tactic| (first | with_reducible exact lookup_eq | ((with_reducible apply lookup_ne); (focus (decide +kernel)); tm_at "lk") | assumption | rfl | fail "no way"))
local macro_rules | `(tactic| tm_at "pf") => `(tactic| (first | with_reducible exact putF_nil | with_reducible exact putF_eq | ((with_reducible apply putF_ne); (focus (decide +kernel)); tm_at "pf") | fail "no way"))
local macro_rules | `(tactic| tm_at "fl") => `(tactic| (first | assumption | focus (simp only [List.length_cons, List.length_nil]; omega) | focus (simp only [List.length_cons, List.length_nil]; done) | focus (decide) | focus (simp; done) | focus (simp; omega) | fail "no way"))
local macro_rules | `(tactic| tm_at "pre") => `(tactic| (apply fld_step; tm_at "hp"; assumption; assumption; tm_at "lk"))
local macro_rules | `(tactic| tm_at "pre") => `(tactic| (apply putf_step; tm_at "hp"; assumption; assumption; tm_at "fl"; tm_at "pf"; intro H1 hp fr))
local macro_rules | `(tactic| tm_at "pre") => `(tactic| (apply aug_step; tm_at "hp"; assumption; assumption; tm_at "lk"))
local macro_rules | `(tactic| tm_at "pre") => `(tactic| (apply put2_step; tm_at "hp"; tm_at "fl"; tm_at "pf"; intro H1 hp fr))
local macro_rules | `(tactic| tm_at "pre") => `(tactic| (apply dget_step; tm_at "hp"; tm_at "lk"))
local macro_rules | `(tactic| tm_at "pre") => `(tactic| (apply dput_step; tm_at "hp"; (focus (omega)); intro H1 hp fr))
local macro_rules | `(tactic| tm_at "pre") => `(tactic| (apply mth_step; tm_at "hp"; tm_at "lk"))
local macro_rules | `(tactic| tm_at "pre") => `(tactic| (apply lenD_step; tm_at "hp"))
local macro_rules | `(tactic| tm_at "pre") => `(tactic| (apply addI_step))
local macro_rules | `(tactic| tm_at "pre") => `(tactic| (apply newD_step; intro dn H1 nd hp fr))
local macro_rules | `(tactic| tm_at "fr2") => `(tactic| (first | assumption | (apply Fr.appMb; assumption; (focus (simp; done)); tm_at "fr2") | (apply Fr.app0b; tm_at "f0"; tm_at "fr2") | (apply Fr.appNb; assumption; tm_at "free"; tm_at "fr2") | fail "no way"))
local macro_rules | `(tactic| tm_at "ne") => `(tactic| (apply ne_role; assumption; assumption; (focus (decide))))
local macro_rules | `(tactic| tm_at "pre") => `(tactic| (apply dnotin_step; tm_at "hp"))
local macro_rules | `(tactic| tm_at "pre") => `(tactic| (apply din_step; tm_at "hp"))

local macro_rules | `(tactic| tm_at "call") => `(tactic| (apply rs_step; intro xd H1 nd hd fr))
local macro_rules | `(tactic| tm_at "pre") => `(tactic| (apply inTS_step; assumption))
set_option pp.deepTerms false
set_option pp.deepTerms.threshold 3
abbrev s_Scanner_keep_token : Stmt := inClass (top 29) 3
theorem sc_Scanner_keep_token : FnScope ["self", "kind", "word", "line", "column"] ["self", "kind", "word", "line", "column"] (defScope s_Scanner_keep_token) := ⟨rfl, rfl, rfl, by decide +kernel, rfl, by decide +kernel, by decide +kernel⟩

theorem ok_keep {C dC tO : Addr} {CA : Cl → Addr} (F : ScF K C) (T : K4.Bl mg) (X_TooLong : XE2 P w K mg base "TooLong" (CA .long)) (X_BadToken : XE2 P w K mg base "BadToken" (CA .token)) (g_MOST_TOKENS : GV mg "MOST_TOKENS" (.int 120)) (g_CLOSINGS : GV mg "CLOSINGS" (.ref dC)) (D_CLOSINGS : KD K w dC fCl) (g_OPENINGS : GV mg "OPENINGS" (.ref tO)) (hO : TupS K tO opens) (D : Def2 K C "keep_token" "Scanner.keep_token" s_Scanner_keep_token) : CalMX P w K mg base 3 C "keep_token" ["self", "kind", "word", "line", "column"] (spKeep K CA C) := by
  refine D.calMX F.cl sc_Scanner_keep_token (fun _ _ _ _ _ _ us hl => match us, hl with | [_, _, _, _, _], _ => rfl) (fun vs H Q E h => ?_) (fun f cdv A outer s H vs Q E hr h => ?_) <;> unfold spKeep at h
  · obtain ⟨o, m, i, p, kd, v, w, l, k, st, rfl, _⟩ := h
    rfl
  · obtain ⟨o, m, i, z, kd, v, wd, l, k, st, rfl, hkd, hsg, dv, sc, ok, kk⟩ := h
    have c1 := F.cl
    have n1 := F.n1
    have n2 := F.n2
    have n3 := F.n3
    have n4 := F.n4
    obtain ⟨dx, ho⟩ := sc.ob
    obtain ⟨xs, hm, dm⟩ := sc.mks
    obtain ⟨os, hp0, dp⟩ := sc.opn
    have om := sc.om
    have oi := sc.oi
    have op := sc.op'
    have mi := sc.mi
    have mp := sc.mp
    have ip := sc.ip
    have ml := ok.ml
    have ol := ok.ol
    have dml := dm.1
    have dpl := dp.1
    have opl : os.length = st.op.length := by rw [dpl]; simp
    have rfM := sc.rf
    have nt4 := sc.nt
    unfold fsOf at ho
    have ksg := kd_sign hkd
    refine ⟨_, (pss_cons (ps_if (pt_cmpR op_eq (pe_fldx K (pv 0) rfl) (pe_gv g_MOST_TOKENS (by rfl)) (nomark _))
      (pss_one (ps_raise2 X_TooLong rfl takesE (hr.mono (by omega)) (by rfl) (pa_cons (pv 3) (pa_cons (pv 4) pa_nil))))
      pss_nil)
    (C8.pss_cut (ps_if (PW.pt (pw_and (pt_cmpR op_eq (pv 1) pe_str (nomark _)) (pw_and1 (pt_cmpR (opInD D_CLOSINGS) (pv 2) (pe_gv g_CLOSINGS (by rfl)) (by rfl)))))
      (pss_cons (ps_if (PW.pt (pw_or (pt_cmpR op_eq (pe_callB (cLen K) (by rfl) T.z_len (by decide +kernel) (pa_cons (pe_fldx K (pv 0) rfl) pa_nil)) pe_int (nomark _)) (pw_or1 (pt_cmpR op_ne (pe_ix (ixT K) (pe_ix (ixL K) (pe_fldx K (pv 0) rfl) (pe_un un_neg pe_int) (fun _ _ => rfl)) pe_int (fun _ _ => rfl)) (pe_ix (ixK D_CLOSINGS) (pe_gv g_CLOSINGS (by rfl)) (pv 2) (fun _ _ => rfl)) (nomark _)))))
        (pss_one (ps_raise2 X_BadToken rfl takesE (hr.mono (by omega)) (by rfl) (pa_cons (pv 3) (pa_cons (pv 4) pa_nil))))
        pss_nil)
      (pss_one (ps_expr (pe_bm0 PySem.F.plainAttrs_list PySem.F.slot_list_pop PySem.F.type_list_pop mtPopS (pe_fldx K (pv 0) rfl)))))
      (pss_one (ps_if (PW.pt (pw_and (pt_cmpR op_eq (pv 1) pe_str (nomark _)) (pw_and1 (pt_cmpR (opIn K) (pv 2) (pe_gv g_OPENINGS (by rfl)) (by rfl)))))
        (pss_one (ps_expr (pe_bm PySem.F.plainAttrs_list PySem.F.slot_list_append PySem.F.type_list_append mtApp (pe_fldx K (pv 0) rfl) (pa_cons (pe_tup (pa_cons (pv 2) (pa_cons (pv 3) (pa_cons (pv 4) pa_nil)))) pa_nil))))
        pss_nil)))
    (pss_cons (ps_expr (pe_bm PySem.F.plainAttrs_list PySem.F.slot_list_append PySem.F.type_list_append mtApp (pe_fldx K (pv 0) rfl) (pa_cons (pe_tup (pa_cons (pv 1) (pa_cons (pv 2) (pa_cons (pv 3) (pa_cons (pv 4) pa_nil))))) pa_nil)))
    (pss_one (ps_fldaugx K (pv 0) pe_int in_addx))))), ?_⟩
    tm_at "goo"
    · rw [keep_120 (by omega)] at kk
      exact kk xd _ (by rw [hd]) (rfM.comp0 fr)
    · have hm120 : ¬ st.many = 120 := by omega
      refine ⟨KM K C o m i z kd v wd l k st H, ?_, fun σ H2 hw => ?_⟩
      · show tIfS _ _ _ _ _ _
        by_cases hs : kd = "sign"
        · obtain ⟨s, rfl⟩ := hsg hs
          cases dv
          have hso : signOf kd (.str (S s)) = s := by unfold signOf; simp only; rw [if_pos hs]
          have eb : brk st kd (.str (S s)) l k = match opOf s with
            | some o => (match st.op with
              | [] => .error ⟨.token, l, k⟩
              | t :: r => if t.1 ≠ o then .error ⟨.token, l, k⟩ else .ok r)
            | none => .ok (if s ∈ opens then (s, l, k) :: st.op else st.op) := by unfold brk; rw [hso]
          tm_at "goo"
          · rename_i cy
            obtain ⟨q, e1, _⟩ := cl_yes cy
            have e2 : st.op = [] := List.eq_nil_of_length_eq_zero (by omega)
            rw [keep_e hm120 (e := ⟨.token, l, k⟩) (by rw [eb, e1]; simp only [e2])] at kk
            exact kk xd _ (by rw [hd]) (rfM.comp0 fr)
          · rename_i cy
            have cn := c
            obtain ⟨q, e1, e3⟩ := cl_yes cy
            obtain ⟨t, r, e2⟩ : ∃ t r, st.op = t :: r := by
              cases e : st.op with
              | nil => rw [e] at opl; exact absurd (show ((os.length : Nat) : Int) = 0 by rw [opl]; rfl) cn
              | cons t r => exact ⟨t, r, rfl⟩
            have dp2 := dp
            rw [e2, List.reverse_cons, List.map_append] at dp2
            obtain ⟨ys, y, rfl, dy, dt⟩ := dens_last dp2
            obtain ⟨qa, rfl, hqa⟩ := den_opT dt
            refine ixr_step (.of hp0) (atI_last _ _) ?_
            tm_at "goo"
            refine ixK_step e3 ?_
            tm_at "goo"
            · refine popL_step hp0 fun H1 h1 f1 => ?_
              show KM K C o m i z kd _ _ l k st H _ _
              unfold KM
              exact ⟨r, by rw [eb, e1]; simp only [e2]; rw [if_neg fun y => y c], rfl, sc.opn' h1 (dy.fr f1) f1, .str _, fr_sub f1 (by simp) nt4⟩
            · rw [keep_e hm120 (e := ⟨.token, l, k⟩) (by rw [eb, e1]; simp only [e2]; rw [if_pos c])] at kk
              exact kk xd _ (by rw [hd]) (rfM.comp0 fr)
          · rename_i cn _
            have e1 := cl_no cn
            have fN : Fr [] H _ := Fr.new (o := .tup [.str (S s), .int (l : Nat), .int (k : Nat)]) np
            show KM K C o m i z kd _ _ l k st H _ _
            unfold KM
            refine ⟨(s, l, k) :: st.op, by rw [eb, e1]; simp only; rw [if_pos (of_dt c)], rfl, (sc.fr0 fN).opn' hp ?_ fr, .str _, (rfM.comp0 fN).comp (fr_sub fr (by simp) (sc.fr0 fN).nt)⟩
            rw [List.reverse_cons, List.map_append]
            exact Dens.snoc ((dp.fr fN).fr fr) (Den.fr fr (den_op upd_same))
          · rename_i cn _
            have e1 := cl_no cn
            show KM K C o m i z kd _ _ l k st H _ _
            unfold KM
            exact ⟨st.op, by rw [eb, e1]; simp only; rw [if_neg (of_df c)], rfl, sc, .str _, rfM⟩
          · exact absurd (congrArg V.str (ksg.mpr hs)) c
          · rename_i c0 _
            exact absurd (congrArg V.str (ksg.mpr hs)) c0
          · rename_i c0 _
            exact absurd (congrArg V.str (ksg.mpr hs)) c0
          · exact absurd (congrArg V.str (ksg.mpr hs)) c
        · have hso : signOf kd wd = [] := by
            unfold signOf
            split
            · exact if_neg hs
            · rfl
          have eb : brk st kd wd l k = .ok st.op := by
            unfold brk
            rw [hso]
            rfl
          tm_at "goo"
          · exact absurd (ksg.mp (V.str.inj c)) hs
          · exact absurd (ksg.mp (V.str.inj c)) hs
          · show KM K C o m i z kd _ _ l k st H _ _
            unfold KM
            exact ⟨st.op, eb, rfl, sc, dv, rfM⟩
      · unfold KM at hw
        obtain ⟨op2, eb, rfl, sc2, dv2, f2⟩ := hw
        rw [keep_o hm120 eb] at kk
        obtain ⟨dx2, ho2⟩ := sc2.ob
        unfold fsOf at ho2
        obtain ⟨xs2, hm2, dm2⟩ := sc2.mks
        have dml2 := dm2.1
        have ml2 : ({ st with op := op2 } : St).marks.length ≤ 2000000 := ml
        tm_at "goo"
        rename_i H3 hm3 f3
        have fN : Fr [] H2 _ := Fr.new (o := .tup [kV kd, v, .int (l : Nat), .int (k : Nat)]) np
        have sb := sc2.fr0 fN
        have sd := sb.mark (xs := xs2) (v := .ref p) (t := tk kd wd l k) (fN.at0 hm2) (dm2.fr fN) (den_tk upd_same rfl (dv2.fr fN)) hm3 f3
        have se := sd.cnt (n := st.many + 1) hp fr
        exact kk _ se (((f2.comp0 fN).comp (fr_sub f3 (by simp) sb.nt)).comp (fr_sub fr (by simp) sd.nt))
end
end TK
set_option Elab.async false
set_option linter.all false
set_option maxRecDepth 100000
set_option maxHeartbeats 4000000
namespace TK
open PySem PySem.Spec PyProof.Rows L2 M14 SX K4
theorem goR_ok (l : Nat) : ∀ (r : List Nat) (s a b n : Nat) (st st' : St) (b' : Nat), StOk st n → goR l s a b r st = .ok (st', b') → StOk st' (n + 12 * r.length)
  | [], s, a, b, n, st, st', b', h, e => by
    unfold goR at e
    cases e
    exact h.mono (Nat.le_add_right _ _)
  | c :: r, s + 1, a, b, n, st, st', b', h, e => (goR_ok l r s (a + 1) b n st st' b' h e).mono (by simp; omega)
  | c :: r, 0, a, b, n, st, st', b', h, e => by
    rw [goR] at e
    split at e
    · cases e
      exact h.mono (Nat.le_add_right _ _)
    · split at e
      · exact (goR_ok l r 0 (a + 1) b n st st' b' h e).mono (by simp; omega)
      · split at e
        · cases e
        · rename_i st1 h1
          have k1 : StOk st1 (n + 11) := by
            split at h1
            · exact (cmpI_ok h h1).1
            · cases h1
              exact h.mono (by omega)
          split at e
          · cases e
          · split at e
            · cases e
            · rename_i st2 h2
              exact (goR_ok l r _ _ _ _ st2 st' b' (keep_ok k1 h2).1 e).mono (by simp; omega)
theorem lex_kind {r : List Nat} {kd : String} {w : T} {n : Nat} (h : lex r = .ok kd w n) : kd ∈ kinds5 ∧ (kd = "sign" → ∃ s, w = .str (S s)) := by
  unfold kinds5
  cases r with
  | nil => cases h
  | cons c r =>
    rw [lex] at h
    split at h
    · unfold lexName at h
      simp only at h
      split at h
      · cases h
      · split at h <;> (cases h; exact ⟨by decide, fun e => absurd e (by decide)⟩)
    split at h
    · unfold lexNum at h
      simp only at h
      split at h
      · cases h
      · split at h
        · cases h
        · cases h; exact ⟨by decide, fun e => absurd e (by decide)⟩
    split at h
    · unfold lexText at h
      split at h
      · cases h; exact ⟨by decide, fun e => absurd e (by decide)⟩
      · cases h
      · cases h
    · unfold lexSign at h
      split at h
      · cases h; exact ⟨by decide, fun _ => ⟨_, rfl⟩⟩
      · cases h
theorem rowM_ok {l n : Nat} {r : List Nat} {st st' : St} (h : StOk st n) (e : rowM l r st = .ok st') : StOk st' (n + (12 * r.length + 1)) := by
  unfold rowM at e
  split at e
  · cases e
  · rename_i p hp
    have k := goR_ok l r 0 0 0 n st p.1 p.2 h hp
    cases e
    unfold endR
    split
    · exact ⟨k.bot, k.il, by have := k.ml; simp; omega, by have := k.ol; simp; omega, Nat.zero_le _⟩
    · exact k.mono (by omega)
@[irreducible] def spRow (K : PySem.W.Frag) (CA : Cl → Addr) (C : Addr) : Sp := fun vs H Q E => ∃ (o m i p : Addr) (a : List Nat) (l : Nat) (st : St), vs = [.ref o, .str (S a), .int (l : Nat)] ∧ a.length ≤ 6000 ∧ ScA K C H o m i p st ∧ StOk st 500000 ∧ ResX K CA C o m i p (rowM l a st) H Q E
theorem row_step {K : PySem.W.Frag} {CA : Cl → Addr} {C o m i p : Addr} {a : List Nat} {l : Nat} {st : St} {H : Hp} {Q : VK} {E : XK} (h : a.length ≤ 6000) (s : ScA K C H o m i p st) (ok : StOk st 500000) (r : ResX K CA C o m i p (rowM l a st) H Q E) : spRow K CA C [.ref o, .str (S a), .int (l : Nat)] H Q E := by
  unfold spRow
  exact ⟨o, m, i, p, a, l, st, rfl, h, s, ok, r⟩
theorem tkn_step {K : PySem.W.Frag} {C : Addr} {a : List Nat} {n : Nat} {l : Int} {H : Hp} {Q : VK} {E : XK} (hz : a.length ≤ 1000000) (hn : n < a.length) (k : RdOk K C (lex (a.drop n)) n l H Q E) : spTkn K C ([.str (S a), .int n, .int l] ++ []) H Q E := by
  unfold spTkn
  exact ⟨a, n, l, rfl, hz, hn, k⟩
/-- the turn of a row -/
@[irreducible] def RW1 (K : PySem.W.Frag) (C o m i p : Addr) (a : List Nat) (l : Nat) (st : St) (H : Hp) (z : Nat) (σ : L2.St) (H' : Hp) : Prop := ∃ (n b : Nat) (st1 : St) (x y : Option V), z = a.length - n ∧ n ≤ a.length ∧ σ = [some (.ref o), some (.str (S a)), some (.int (l : Nat)), some (.int (n : Nat)), some (.int (b : Nat)), x, y] ∧ ScA K C H' o m i p st1 ∧ StOk st1 (500000 + 12 * n) ∧ Fr [o, m, i, p] H H' ∧ goR l 0 0 0 a st = goR l 0 n b (a.drop n) st1
@[irreducible] def RW2 (K : PySem.W.Frag) (C o m i p : Addr) (a : List Nat) (l : Nat) (st : St) (H : Hp) (σ : L2.St) (H' : Hp) : Prop := ∃ (b : Nat) (st1 : St) (n : Int) (x y : Option V), σ = [some (.ref o), some (.str (S a)), some (.int (l : Nat)), some (.int n), some (.int (b : Nat)), x, y] ∧ ScA K C H' o m i p st1 ∧ StOk st1 600000 ∧ Fr [o, m, i, p] H H' ∧ goR l 0 0 0 a st = .ok (st1, b)
@[irreducible] def RW3 (K : PySem.W.Frag) (C o m i p : Addr) (a : List Nat) (l n b : Nat) (x y : Option V) (st1 : St) (H : Hp) (σ : L2.St) (H' : Hp) : Prop := ∃ st2 : St, σ = [some (.ref o), some (.str (S a)), some (.int (l : Nat)), some (.int (n : Nat)), some (.int (b : Nat)), x, y] ∧ ScA K C H' o m i p st2 ∧ StOk st2 (500000 + 12 * n + 11) ∧ Fr [o, m, i, p] H H' ∧ indE st1 n l = .ok st2
theorem resE {K : PySem.W.Frag} {CA : Cl → Addr} {C o m i p : Addr} {x y : Except Er St} {e : Er} {H H' : Hp} {Q Q' : VK} {E : XK} (k : ResX K CA C o m i p x H Q E) (h : x = .error e) (h' : y = .error e) (f : Fr [o, m, i, p] H H') : ResX K CA C o m i p y H' Q' E := by
  rw [h] at k
  rw [h']
  exact fun d H2 hd f2 => k d H2 hd (f.comp f2)
section
variable {P : Program} {w : World} {K : PySem.W.Frag} {mg : Str → Option Value} {base : Heap}
set_option hygiene false
local macro_rules | `(tactic| tm_at "sc") => `(tactic| (first | omega | (simp only [List.length_cons, List.length_nil, List.length_map, List.length_set, List.length_append]; omega) | (simp only [List.length_map] at h1 ⊢; omega) | (simp only [List.length_map] at c ⊢; omega) | with_reducible assumption | exact And.intro (by omega) (by omega) | exact Or.inl (And.intro (by omega) (by omega)) | exact Or.inr (And.intro (by omega) (by omega)) | decide +kernel | exact len1000 (by simp) | rfl | fail "no way"))
local macro_rules | `(tactic| tm_at "sc1") => `(tactic| (focus (simp; done)))
local macro_rules | `(tactic| tm_at "ne") => `(tactic| (first | assumption | exact Ne.symm (by assumption) | (apply Box.ne2; assumption; tm_at "hp") | (apply Ne.symm; apply Box.ne2; assumption; tm_at "hp") | (apply ne_of_none2; assumption; tm_at "hp") | (apply Ne.symm; apply ne_of_none2; assumption; tm_at "hp") | fail "no way"))
local macro_rules | `(tactic| tm_at "f0") => `(tactic| (first | assumption | (apply Fr.new; assumption) | fail "no way"))
local macro_rules | `(tactic| tm_at "hp") => `(tactic| (first | assumption | exact upd_same | (apply SqL.of; first | assumption | exact upd_same) | (apply Fr.at0; tm_at "f0"; tm_at "hp") | (apply Fr.at1n; assumption; tm_at "ne"; tm_at "hp") | (apply sqFr0; tm_at "f0"; tm_at "hp") | (apply sqFr1; assumption; tm_at "ne"; tm_at "hp") | (apply Box.fr0; tm_at "f0"; tm_at "hp") | (apply Box.fr1; assumption; tm_at "ne"; tm_at "hp") | (apply Den.fr; tm_at "f0"; tm_at "hp") | (apply Dens.fr; tm_at "f0"; tm_at "hp") | fail "no way"))
local macro_rules | `(tactic| tm_at "free0") => `(tactic| (first | assumption | (apply updFree; assumption) | (apply updFree; apply updFree; assumption) | (apply updFree; apply updFree; apply updFree; assumption) | (apply updFree; apply updFree; apply updFree; apply updFree; assumption) | fail "no way"))
local macro_rules | `(tactic| tm_at "free") => `(tactic| (first | tm_at "free0" | (apply Fr.free; assumption; tm_at "free0") | (apply Box.free; assumption; tm_at "fr"; tm_at "free0") | (apply Fr.free; assumption; apply Fr.free; assumption; tm_at "free0") | fail "no way"))
local macro_rules | `(tactic| tm_at "fr") => `(tactic| (first | assumption | exact Fr.refl0 _ | exact Fr.refl (Box.nt (by assumption)) | (refine Fr.comp0 ?_ (by tm_at "f0"); tm_at "fr") | (refine Fr.comp ?_ (by assumption); tm_at "fr") | (refine Fr.compN ?_ (by assumption) (by tm_at "free"); tm_at "fr") | fail "no way"))
local macro_rules | `(tactic| tm_at "call") => `(tactic| fail "no call")
local macro_rules | `(tactic| tm_at "call") => `(tactic| (apply take_step; tm_at "hp"; tm_at "sc"; tm_at "sc"; intro r H1 h0 h1 hB fr))
local macro_rules | `(tactic| tm_at "ty") => `(tactic| (first | assumption | exact .base .non | exact .base (.bl _) | exact .base (.int _) | exact .base (.str _) | (apply TyX.base; apply TyOf.lst; tm_at "hp") | (apply TyX.base; apply TyOf.tup; tm_at "hp") | fail "no way"))
local macro_rules | `(tactic| tm_at "pre") => `(tactic| fail "none")
local macro_rules | `(tactic| tm_at "go1") => `(tactic| (first | tm_at "pre" | refine ⟨_, rfl, ?_⟩ | refine ⟨_, _, rfl, rfl, ?_⟩ | (apply set_step; tm_at "hp"; tm_at "sc"; tm_at "sc"; intro H1 hp fr) | (with_reducible refine iteDI ?_ ?_ <;> intro c) | (with_reducible refine iteDS ?_ ?_ <;> intro c) | (with_reducible refine iteD ?_ ?_ <;> intro c) | (with_reducible refine iteEM ?_ ?_ <;> intro c) | (with_reducible refine iteE ?_ ?_ <;> intro c) | with_reducible refine iteN ?_ | with_reducible refine iteF ?_ | with_reducible refine iteT ?_ | (refine fun (p : Addr) (np : _ = (none : Option HO)) => ?_; fail_if_success (refine ⟨fun (_ _ : Nat) (_ : Hp) => True, ?_⟩)) | (apply isi_tt; tm_at "ty"; focus (decide +kernel)) | (apply isi_ff; tm_at "ty"; focus (decide +kernel)) | (apply sl_step; tm_at "hp"; intro qq H1 ms nq hq fr) | (apply sum_step; tm_at "hp"; intro i) | (apply tru_step; tm_at "hp") | (apply len_step; tm_at "hp") | (apply lenq_step; assumption) | (apply ixq_step; assumption; tm_at "sc"; tm_at "sc"; intro v hv) | (apply lst_step; tm_at "hp") | (apply tupl_step; tm_at "hp") | (apply ixr_step; tm_at "hp"; exact rfl) | (apply ix0_step; tm_at "hp") | (apply ix1_step; tm_at "hp") | (apply ix2_step; tm_at "hp") | (apply ixi_step; tm_at "hp"; tm_at "sc"; tm_at "sc"; intro n hn hn') | (apply ixl_step; tm_at "hp"; tm_at "sc"; tm_at "sc"; intro v hv) | (apply ixt_step; tm_at "hp"; tm_at "sc"; tm_at "sc"; intro v hm hv) | (apply in_step; tm_at "hp"; rfl; rfl) | (apply cat_step; tm_at "hp"; tm_at "hp"; tm_at "sc") | (apply catT_step; tm_at "hp"; tm_at "hp"; tm_at "sc1") | (apply tyL_and; tm_at "hp") | (apply app_step; tm_at "hp"; tm_at "sc"; intro H1 hp fr) | tm_at "call" | refine ⟨⟨_, rfl⟩, ?_⟩ | (apply ixs_step; tm_at "sc"; tm_at "sc"; tm_at "sc"; intro ch) | refine .inl ⟨_, rfl, ?_⟩ | refine .inr ⟨_, rfl, ?_⟩ | (apply And.intro; tm_at "sc") | (with_reducible refine wayB ?_ ?_ <;> intro c) | fail "no way"))
local macro_rules | `(tactic| tm_at "go") => `(tactic| (repeat tm_at "go1"))
local macro_rules | `(tactic| tm_at "goo") => `(tactic| (repeat' tm_at "go1"))
local macro_rules | `(tactic| tm_at "den") => `(tactic| (first | assumption | exact Den.str _ | exact Den.int _ | exact Den.bl _ | exact Den.non | (apply Den.tups; tm_at "hp"; tm_at "dens") | (apply Den.fr; tm_at "f0"; tm_at "den") | fail "no way"))
local macro_rules | `(tactic| tm_at "dens") => `(tactic| (first | assumption | exact Dens.nil | (apply Dens.cons; tm_at "den"; tm_at "dens") | (apply Dens.fr; tm_at "f0"; tm_at "dens") | fail "no way"))
local macro_rules | `(tactic| tm_at "ix") => `(tactic| (apply Ix.mk; tm_at "hp"; tm_at "ne"; assumption; assumption))
local macro_rules | `(tactic| tm_at "dep") => `(tactic| (first | assumption | exact Dep.int | exact Dep.str | exact Dep.bl | exact Dep.non | (apply Dep.tup; tm_at "dlen"; tm_at "deps") | (apply Dep.mono; assumption; decide) | fail "no way"))
local macro_rules | `(tactic| tm_at "deps") => `(tactic| (first | assumption | exact memN | (apply memC; tm_at "dep"; tm_at "deps") | fail "no way"))
local macro_rules | `(tactic| tm_at "dlen") => `(tactic| (first | assumption | (focus (simp; done)) | omega | fail "no way"))
local macro_rules | `(tactic| tm_at "pre") => `(tactic| (apply rep_step; tm_at "hp"; tm_at "sc"; tm_at "sc"; intro rp H1 nrp hrp fr))

local macro_rules | `(tactic| tm_at "lits") => `(tactic| (try simp only [l_nl, l_open, l_close, l_sp, l_quo, l_bs, l_minus, l_zero, l_empty, l_n] at c))
local macro_rules | `(tactic| tm_at "pre") => `(tactic| (first | (apply slm_step; tm_at "sc"; tm_at "sc"; tm_at "sc") | (apply slf_step; tm_at "sc"; tm_at "sc") | (apply slt_step; tm_at "sc"; tm_at "sc") | (with_reducible refine iteEqZ ?_ ?_ <;> (intro c; tm_at "lits")) | (apply catS_step; tm_at "sc") | (apply inD_step) | (apply ordS_step) | (apply intS_step; assumption) | (apply sign_step) | (apply lenS_step; tm_at "sc")))
local macro_rules | `(tactic| tm_at "pre") => `(tactic| (apply while_go))
local macro_rules | `(tactic| tm_at "pre") => `(tactic| (apply ixS_step; tm_at "sc"; tm_at "sc"; assumption))
local macro_rules | `(tactic| tm_at "pre") => `(tactic| (apply appB_step; tm_at "hp"; tm_at "sc"; intro H1 hp fr))

local macro_rules | `(tactic| tm_at "lk") => `(tactic| (first | with_reducible exact lookup_eq | ((with_reducible apply lookup_ne); (focus (decide +kernel)); tm_at "lk") | assumption | rfl | fail "no way"))
local macro_rules | `(tactic| tm_at "pf") => `(tactic| (first | with_reducible exact putF_nil | with_reducible exact putF_eq | ((with_reducible apply putF_ne); (focus (decide +kernel)); tm_at "pf") | fail "no way"))
local macro_rules | `(tactic| tm_at "fl") => `(tactic| (first | assumption | focus (simp only [List.length_cons, List.length_nil]; omega) | focus (simp only [List.length_cons, List.length_nil]; done) | focus (decide) | focus (simp; done) | focus (simp; omega) | fail "no way"))
local macro_rules | `(tactic| tm_at "pre") => `(tactic| (apply fld_step; tm_at "hp"; assumption; assumption; tm_at "lk"))
local macro_rules | `(tactic| tm_at "pre") => `(tactic| (apply putf_step; tm_at "hp"; assumption; assumption; tm_at "fl"; tm_at "pf"; intro H1 hp fr))
local macro_rules | `(tactic| tm_at "pre") => `(tactic| (apply aug_step; tm_at "hp"; assumption; assumption; tm_at "lk"))
local macro_rules | `(tactic| tm_at "pre") => `(tactic| (apply put2_step; tm_at "hp"; tm_at "fl"; tm_at "pf"; intro H1 hp fr))
local macro_rules | `(tactic| tm_at "pre") => `(tactic| (apply dget_step; tm_at "hp"; tm_at "lk"))
local macro_rules | `(tactic| tm_at "pre") => `(tactic| (apply dput_step; tm_at "hp"; (focus (omega)); intro H1 hp fr))
local macro_rules | `(tactic| tm_at "pre") => `(tactic| (apply mth_step; tm_at "hp"; tm_at "lk"))
local macro_rules | `(tactic| tm_at "pre") => `(tactic| (apply lenD_step; tm_at "hp"))
local macro_rules | `(tactic| tm_at "pre") => `(tactic| (apply addI_step))
local macro_rules | `(tactic| tm_at "pre") => `(tactic| (apply newD_step; intro dn H1 nd hp fr))
local macro_rules | `(tactic| tm_at "fr2") => `(tactic| (first | assumption | (apply Fr.appMb; assumption; (focus (simp; done)); tm_at "fr2") | (apply Fr.app0b; tm_at "f0"; tm_at "fr2") | (apply Fr.appNb; assumption; tm_at "free"; tm_at "fr2") | fail "no way"))
local macro_rules | `(tactic| tm_at "ne") => `(tactic| (apply ne_role; assumption; assumption; (focus (decide))))
local macro_rules | `(tactic| tm_at "pre") => `(tactic| (apply dnotin_step; tm_at "hp"))
local macro_rules | `(tactic| tm_at "pre") => `(tactic| (apply din_step; tm_at "hp"))

local macro_rules | `(tactic| tm_at "call") => `(tactic| (apply rs_step; intro xd H1 nd hd fr))
set_option pp.deepTerms false
set_option pp.deepTerms.threshold 3
abbrev s_Scanner_read_row : Stmt := inClass (top 29) 1
theorem sc_Scanner_read_row : FnScope ["self", "row", "line", "at", "behind", "kind", "word"] ["self", "row", "line"] (defScope s_Scanner_read_row) := ⟨rfl, rfl, rfl, by decide +kernel, rfl, by decide +kernel, by decide +kernel⟩

theorem ok_row {C : Addr} {CA : Cl → Addr} (F : ScF K C) (T : K4.Bl mg) (G_p_read_token : CalX P w K mg base 4 "_read_token" ["row", "at", "line"] (spTkn K (CA .token))) (M_compare_indent : CalMX P w K mg base 3 C "compare_indent" ["self", "width", "line"] (spCmp K CA C)) (M_keep_token : CalMX P w K mg base 3 C "keep_token" ["self", "kind", "word", "line", "column"] (spKeep K CA C)) (D : Def2 K C "read_row" "Scanner.read_row" s_Scanner_read_row) : CalMX P w K mg base 5 C "read_row" ["self", "row", "line"] (spRow K CA C) := by
  refine D.calMX F.cl sc_Scanner_read_row (fun _ _ _ _ _ _ us hl => match us, hl with | [_, _, _], _ => rfl) (fun vs H Q E h => ?_) (fun f cdv A outer s H vs Q E hr h => ?_) <;> unfold spRow at h
  · obtain ⟨o, m, i, z, a, l, st, rfl, _⟩ := h
    rfl
  · obtain ⟨o, m, i, z, a, l, st, rfl, hz, sc, ok, kk⟩ := h
    have c1 := F.cl
    have n1 := F.n1
    have n2 := F.n2
    have n3 := F.n3
    have n4 := F.n4
    have rfM := sc.rf
    have nt4 := sc.nt
    refine ⟨_, (pss_cons (ps_set (i := 3) sc_Scanner_read_row.nd rfl (Or.inl rfl) pe_int)
    (pss_cons (ps_set (i := 4) sc_Scanner_read_row.nd rfl (Or.inl rfl) pe_int)
    (C8.pss_cut (ps_while (passes_of rfl) (PW.pt (pw_and (pt_cmpR op_lt (pv 3) (pe_callB call_lenS (by rfl) T.z_len (by decide +kernel) (pa_cons (pv 1) pa_nil)) (nomark _)) (pw_and1 (pt_cmpR op_ne (pe_ix ixS (pv 1) (pv 3) (fun _ _ => rfl)) pe_str (nomark _)))))
      (pss_one (ps_if (pt_cmpR op_eq (pe_ix ixS (pv 1) (pv 3) (fun _ _ => rfl)) pe_str (nomark _))
        (pss_one (ps_aug (i := 3) sc_Scanner_read_row.nd rfl (Or.inl rfl) pe_int ip_add))
        (C8.pss_cut (ps_if (pt_cmpR op_eq (pe_fldx K (pv 0) rfl) pe_int (nomark _))
          (pss_one (ps_expr (pe_mcalX (pv 0) M_compare_indent takesE (hr.mono (by omega)) (pa_cons (pv 3) (pa_cons (pv 2) pa_nil)))))
          pss_nil)
        (pss_cons (ps_asg (pe_calX G_p_read_token takesE (hr.mono (by omega)) (by rfl) (pa_cons (pv 1) (pa_cons (pv 3) (pa_cons (pv 2) pa_nil)))) (pg_tup (by rfl) (pgs_cons (pg_name (i := 5) sc_Scanner_read_row.nd rfl (Or.inl rfl)) (pgs_cons (pg_name (i := 6) sc_Scanner_read_row.nd rfl (Or.inl rfl)) (pgs_cons (pg_name (i := 4) sc_Scanner_read_row.nd rfl (Or.inl rfl)) pgs_nil)))))
        (pss_cons (ps_expr (pe_mcalX (pv 0) M_keep_token takesE (hr.mono (by omega)) (pa_cons (pv 5) (pa_cons (pv 6) (pa_cons (pv 2) (pa_cons (pe_op op_add (pv 3) pe_int) pa_nil))))))
        (pss_one (ps_set (i := 3) sc_Scanner_read_row.nd rfl (Or.inl rfl) (pv 4)))))))))
    (pss_one (ps_if (PW.pt (pw_and (pt_cmpR op_gt (pe_fldx K (pv 0) rfl) pe_int (nomark _)) (pw_and1 (pt_cmpR op_eq (pe_callB (cLen K) (by rfl) T.z_len (by decide +kernel) (pa_cons (pe_fldx K (pv 0) rfl) pa_nil)) pe_int (nomark _)))))
      (pss_cons (ps_expr (pe_bm PySem.F.plainAttrs_list PySem.F.slot_list_append PySem.F.type_list_append mtApp (pe_fldx K (pv 0) rfl) (pa_cons (pe_tup (pa_cons pe_str (pa_cons pe_str (pa_cons (pv 2) (pa_cons (pe_op op_add (pv 4) pe_int) pa_nil))))) pa_nil)))
      (pss_one (ps_fldx K (pv 0) pe_int rfl)))
      pss_nil))))), ?_⟩
    refine ⟨RW2 K C o m i z a l st H, ⟨RW1 K C o m i z a l st H, ⟨a.length, ?_⟩, fun zz σ H2 hw => ?_⟩, fun σ H2 hw => ?_⟩
    · unfold RW1
      exact ⟨0, 0, st, _, _, rfl, Nat.zero_le _, rfl, sc, ok.mono (by omega), rfM, rfl⟩
    · unfold RW1 at hw
      obtain ⟨n, b, st1, x, y, rfl, hn, rfl, sc1, ok1, f1, e1⟩ := hw
      obtain ⟨dx1, ho1⟩ := sc1.ob
      unfold fsOf at ho1
      tm_at "goo"
      · have hlt : n < a.length := by omega
        have hc : a[((n : Nat) : Int).toNat]? = some a[n] := List.getElem?_eq_getElem hlt
        have hdr := drop_get (List.getElem?_eq_getElem hlt)
        generalize a[n] = ch at hc hdr
        tm_at "goo"
        · have e35 : ch = 35 := by
            rw [show (Str.ofString "#").cps.toList = [35] by decide +kernel] at c
            exact (List.cons.inj c).1
          subst e35
          show RW2 K C o m i z a l st H _ _
          unfold RW2
          exact ⟨b, st1, _, _, _, rfl, sc1, ok1.mono (by omega), f1, by rw [e1, hdr]; exact goR_hash⟩
        · have e32 : ch = 32 := (List.cons.inj c).1
          subst e32
          show Nx (RW1 K C o m i z a l st H) _ _ _
          refine Nx.of (a.length - (n + 1)) (by omega) ?_
          unfold RW1
          exact ⟨n + 1, b, st1, _, _, rfl, hlt, rfl, sc1, ok1.mono (by omega), f1, by rw [e1, hdr]; exact goR_sp⟩
        · rename_i c35
          have n35 : ch ≠ 35 := fun e => c35 (by rw [e]; decide +kernel)
          have n32 : ch ≠ 32 := fun e => c (by rw [e])
          rw [hdr] at e1
          have rowE : ∀ {e : Er}, goR l 0 n b (ch :: a.drop (n + 1)) st1 = .error e → rowM l a st = .error e := fun h => by unfold rowM; rw [e1, h]
          refine ⟨RW3 K C o m i z a l n b x y st1 H, ?_, fun σ H3 hw => ?_⟩
          · show tIfS _ _ _ _ _ _
            tm_at "goo"
            · refine cmp_step sc1 (ok1.mono (by omega)) ?_
              cases e2 : cmpI st1 n l with
              | error e => exact resE kk (rowE (goR_indE n35 n32 (show indE st1 n l = .error e by unfold indE; rw [if_pos (by omega)]; exact e2))) rfl f1
              | ok st2 =>
                intro H4 sc4 f4
                show RW3 K C o m i z a l n b x y st1 H _ _
                unfold RW3
                exact ⟨st2, rfl, sc4, ((cmpI_ok ok1 e2).1).mono (by omega), f1.comp f4, by unfold indE; rw [if_pos (by omega)]; exact e2⟩
            · show RW3 K C o m i z a l n b x y st1 H _ _
              unfold RW3
              exact ⟨st1, rfl, sc1, ok1.mono (by omega), f1, by unfold indE; rw [if_neg (by omega)]⟩
          · unfold RW3 at hw
            obtain ⟨st2, rfl, sc2, ok2, f2, e2⟩ := hw
            tm_at "goo"
            refine tkn_step (by omega) hlt ?_
            rw [hdr]
            cases e3 : lex (ch :: a.drop (n + 1)) with
            | bad j => 
              have := rowE (goR_lex n35 n32 e2 e3)
              rw [this] at kk
              exact fun d H4 hd f4 => kk d H4 (by rw [hd]) (f2.comp0 f4)
            | ok kd wd j =>
              intro v q H4 dv nq hq f4
              have sc4 := sc2.fr0 f4
              refine ⟨q, _, rfl, .of hq, rfl, ?_⟩
              refine ⟨_, _, rfl, ?_⟩
              refine ⟨_, _, rfl, ?_⟩
              refine ⟨_, _, rfl, ?_⟩
              refine ⟨rfl, ?_⟩
              obtain ⟨dx4, ho4⟩ := sc4.ob
              unfold fsOf at ho4
              tm_at "goo"
              have kl := lex_kind e3
              have jl := lex_pos e3
              have jl2 : n + j ≤ a.length := by
                have := jl.2
                rw [← hdr, List.length_drop] at this
                omega
              show spKeep K CA C [.ref o, kV kd, v, .int (l : Nat), .int ((n + 1 : Nat) : Int)] _ _ _
              refine keep_step kl.1 kl.2 dv sc4 (ok2.mono (by omega)) ?_
              cases e5 : keep st2 kd wd l (n + 1) with
              | error e => exact resE kk (rowE (goR_keepE n35 n32 e2 e3 e5)) rfl (f2.comp0 f4)
              | ok st5 =>
                intro H5 sc5 f5
                tm_at "goo"
                show Nx (RW1 K C o m i z a l st H) _ _ _
                refine Nx.of (a.length - (n + j)) (by omega) ?_
                unfold RW1
                exact ⟨n + j, n + j, st5, _, _, rfl, jl2, rfl, sc5, ((keep_ok ok2 e5).1).mono (by omega), (f2.comp0 f4).comp f5, by rw [e1, goR_keep n35 n32 e2 e3 e5, ← hdr, List.drop_drop]⟩
      · show RW2 K C o m i z a l st H _ _
        unfold RW2
        have : n = a.length := by omega
        exact ⟨b, st1, _, _, _, rfl, sc1, ok1.mono (by omega), f1, by rw [e1, List.drop_eq_nil_iff.mpr (by omega)]; rfl⟩
    · unfold RW2 at hw
      obtain ⟨b, st1, n, x, y, rfl, sc1, ok1, f1, e1⟩ := hw
      obtain ⟨dx1, ho1⟩ := sc1.ob
      unfold fsOf at ho1
      obtain ⟨xs1, hm1, dm1⟩ := sc1.mks
      obtain ⟨os1, hp1, dp1⟩ := sc1.opn
      have om := sc1.om
      have op' := sc1.op'
      have mp := sc1.mp
      have dml1 := dm1.1
      have ml1 := ok1.ml
      have ol1 := ok1.ol
      have opl : os1.length = st1.op.length := by rw [dp1.1]; simp
      unfold rowM at kk
      rw [e1] at kk
      have enx : (0 < st1.many ∧ st1.op = []) → endR l (st1, b) = { st1 with marks := st1.marks ++ [tk "newline" eW l (b + 1)], many := 0 } := fun h => by unfold endR; rw [if_pos h]
      have eno : ¬ (0 < st1.many ∧ st1.op = []) → endR l (st1, b) = st1 := fun h => by unfold endR; rw [if_neg h]
      tm_at "goo"
      · rename_i H3 hm3 f3
        have fN : Fr [] H2 _ := Fr.new (o := .tup [.str (Str.ofString "newline"), .str (Str.ofString ""), .int (l : Nat), .int ((b : Int) + 1)]) np
        have sb := sc1.fr0 fN
        have sd := sb.mark (xs := xs1) (v := .ref p) (t := tk "newline" eW l (b + 1)) (fN.at0 hm1) (dm1.fr fN) (den_tk upd_same (by omega) (.str _)) hm3 f3
        have se := sd.cnt (n := 0) hp fr
        have kk : ResX K CA C o m i z (.ok (endR l (st1, b))) H Q E := kk
        rw [enx ⟨by omega, List.eq_nil_of_length_eq_zero (by omega)⟩] at kk
        exact kk _ se (((f1.comp0 fN).comp (fr_sub f3 (by simp) sb.nt)).comp (fr_sub fr (by simp) sd.nt))
      · have kk : ResX K CA C o m i z (.ok (endR l (st1, b))) H Q E := kk
        rw [eno (fun h => by have : st1.op.length = 0 := by rw [h.2]; rfl
                             omega)] at kk
        exact kk _ sc1 f1
      · have kk : ResX K CA C o m i z (.ok (endR l (st1, b))) H Q E := kk
        rw [eno (fun h => by omega)] at kk
        exact kk _ sc1 f1
end
end TK
set_option Elab.async false
set_option linter.all false
set_option maxRecDepth 100000
set_option maxHeartbeats 4000000
namespace TK
open PySem PySem.Spec PyProof.Rows L2 M14 SX K4
/-- tokens they are -/
def Tk (t : T) : Prop := ∃ kd w l k, t = tk kd w l k
def Tks (ms : List T) : Prop := ∀ t ∈ ms, Tk t
theorem Tks.snoc {ms : List T} {kd : String} {w : T} {l k : Nat} (h : Tks ms) : Tks (ms ++ [tk kd w l k]) := fun t m => by
  rcases List.mem_append.mp m with m | m
  · exact h t m
  · rw [List.mem_singleton.mp m]
    exact ⟨kd, w, l, k, rfl⟩
theorem cmpI_tk {st st' : St} {wd l : Nat} (h : Tks st.marks) (e : cmpI st wd l = .ok st') : Tks st'.marks := by
  unfold cmpI at e
  split at e
  · cases e
  · split at e
    · split at e
      · cases e
      · cases e; exact h.snoc
    · simp only at e
      split at e
      · cases e
      · cases e
        intro t m
        rcases List.mem_append.mp m with m | m
        · exact h t m
        · obtain ⟨_, _, rfl⟩ := List.mem_map.mp m
          exact ⟨_, _, _, _, rfl⟩
theorem keep_tk {st st' : St} {l k : Nat} {kd : String} {w : T} (h : Tks st.marks) (e : keep st kd w l k = .ok st') : Tks st'.marks := by
  unfold keep at e
  split at e
  · cases e
  · simp only at e
    split at e
    · split at e
      · cases e
      · split at e
        · cases e
        · cases e; exact h.snoc
    · cases e; exact h.snoc
theorem goR_tk (l : Nat) : ∀ (r : List Nat) (s a b : Nat) (st st' : St) (b' : Nat), Tks st.marks → goR l s a b r st = .ok (st', b') → Tks st'.marks
  | [], s, a, b, st, st', b', h, e => by
    unfold goR at e
    cases e
    exact h
  | c :: r, s + 1, a, b, st, st', b', h, e => goR_tk l r s (a + 1) b st st' b' h e
  | c :: r, 0, a, b, st, st', b', h, e => by
    rw [goR] at e
    split at e
    · cases e
      exact h
    · split at e
      · exact goR_tk l r 0 (a + 1) b st st' b' h e
      · split at e
        · cases e
        · rename_i st1 h1
          have k1 : Tks st1.marks := by
            split at h1
            · exact cmpI_tk h h1
            · cases h1
              exact h
          split at e
          · cases e
          · split at e
            · cases e
            · rename_i st2 h2
              exact goR_tk l r _ _ _ st2 st' b' (keep_tk k1 h2) e
theorem rowM_tk {l : Nat} {r : List Nat} {st st' : St} (h : Tks st.marks) (e : rowM l r st = .ok st') : Tks st'.marks := by
  unfold rowM at e
  split at e
  · cases e
  · rename_i p hp
    have k := goR_tk l r 0 0 0 st p.1 p.2 h hp
    cases e
    unfold endR
    split
    · exact k.snoc
    · exact k
def ResC (K : PySem.W.Frag) (CA : Cl → Addr) (C : Addr) (o m i p : Addr) (x : Except Er (List T)) (H : Hp) (Q : VK) (E : XK) : Prop := match x with
  | .error e => BadX CA e [o, m, i, p] H E
  | .ok ts => ∀ (st' : St) (H' : Hp), st'.marks = ts → ScA K C H' o m i p st' → Fr [o, m, i, p] H H' → Q .non H'
@[irreducible] def spClo (K : PySem.W.Frag) (CA : Cl → Addr) (C : Addr) : Sp := fun vs H Q E => ∃ (o m i p : Addr) (st : St), vs = [.ref o] ∧ ScA K C H o m i p st ∧ StOk st 600000 ∧ Tks st.marks ∧ ResC K CA C o m i p (closeM st) H Q E
theorem clo_step {K : PySem.W.Frag} {CA : Cl → Addr} {C o m i p : Addr} {st : St} {H : Hp} {Q : VK} {E : XK} (s : ScA K C H o m i p st) (ok : StOk st 600000) (tk : Tks st.marks) (r : ResC K CA C o m i p (closeM st) H Q E) : spClo K CA C [.ref o] H Q E := by
  unfold spClo
  exact ⟨o, m, i, p, st, rfl, s, ok, tk, r⟩
theorem den_tk_inv {K : PySem.W.Frag} {H : Hp} {v : V} {kd : String} {w : T} {l k : Nat} (h : Den K H v (tk kd w l k)) : ∃ q u, v = .ref q ∧ H q = some (.tup [kV kd, u, .int ((l : Nat) : Int), .int ((k : Nat) : Int)]) ∧ Den K H u w := by
  unfold tk at h
  obtain ⟨q, xs, rfl, hq, d⟩ := h.tup_inv
  obtain ⟨x1, r1, rfl, d1, d⟩ := d.uncons
  obtain ⟨x2, r2, rfl, d2, d⟩ := d.uncons
  obtain ⟨x3, r3, rfl, d3, d⟩ := d.uncons
  obtain ⟨x4, r4, rfl, d4, d⟩ := d.uncons
  cases d.unnil
  cases d1.unstr
  cases d3.unint
  cases d4.unint
  exact ⟨q, x2, rfl, hq, d2⟩
theorem concat_of {ms : List T} (h : ms ≠ []) : ∃ r t, ms = r ++ [t] := ⟨ms.dropLast, ms.getLast h, (List.dropLast_concat_getLast h).symm⟩
theorem drop_pop {l : List Nat} {n : Nat} (h : n + 1 < l.length) : ∃ t r, l.drop n = t :: r ∧ l.drop (n + 1) = r ∧ l.take (n + 1) = l.take n ++ [t] := by
  have hn : n < l.length := by omega
  refine ⟨l[n], l.drop (n + 1), List.drop_eq_getElem_cons hn, rfl, ?_⟩
  rw [List.take_succ, List.getElem?_eq_getElem hn]
  rfl
def lineM (st : St) : Nat := match st.marks.getLast? with
  | some t => lineOf t + 1
  | none => 1
@[irreducible] def CL0 (o : Addr) (st : St) (H : Hp) (σ : L2.St) (H' : Hp) : Prop := (∃ y, σ = [some (.ref o), y]) ∧ H' = H ∧ st.op = []
@[irreducible] def CL1 (o : Addr) (st : St) (H : Hp) (σ : L2.St) (H' : Hp) : Prop := σ = [some (.ref o), some (.int (lineM st : Nat))] ∧ Fr [] H H' ∧ H' = H
@[irreducible] def CL2 (K : PySem.W.Frag) (C o m i p : Addr) (st : St) (H : Hp) (z : Nat) (σ : L2.St) (H' : Hp) : Prop := ∃ (n : Nat) (st1 : St), z = st1.ind.length ∧ σ = [some (.ref o), some (.int (lineM st : Nat))] ∧ ScA K C H' o m i p st1 ∧ Fr [o, m, i, p] H H' ∧ st1.ind = st.ind.drop n ∧ n < st.ind.length ∧ st1.marks = st.marks ++ (st.ind.take n).map fun _ => tk "dedent" eW (lineM st) 1
@[irreducible] def CL3 (K : PySem.W.Frag) (C o m i p : Addr) (st : St) (H : Hp) (σ : L2.St) (H' : Hp) : Prop := ∃ st1 : St, σ = [some (.ref o), some (.int (lineM st : Nat))] ∧ ScA K C H' o m i p st1 ∧ Fr [o, m, i, p] H H' ∧ st1.marks = st.marks ++ st.ind.dropLast.map fun _ => tk "dedent" eW (lineM st) 1
section
variable {P : Program} {w : World} {K : PySem.W.Frag} {mg : Str → Option Value} {base : Heap}
set_option hygiene false
local macro_rules | `(tactic| tm_at "sc") => `(tactic| (first | omega | (simp only [List.length_cons, List.length_nil, List.length_map, List.length_set, List.length_append]; omega) | (simp only [List.length_map] at h1 ⊢; omega) | (simp only [List.length_map] at c ⊢; omega) | with_reducible assumption | exact And.intro (by omega) (by omega) | exact Or.inl (And.intro (by omega) (by omega)) | exact Or.inr (And.intro (by omega) (by omega)) | decide +kernel | exact len1000 (by simp) | rfl | fail "no way"))
local macro_rules | `(tactic| tm_at "sc1") => `(tactic| (focus (simp; done)))
local macro_rules | `(tactic| tm_at "ne") => `(tactic| (first | assumption | exact Ne.symm (by assumption) | (apply Box.ne2; assumption; tm_at "hp") | (apply Ne.symm; apply Box.ne2; assumption; tm_at "hp") | (apply ne_of_none2; assumption; tm_at "hp") | (apply Ne.symm; apply ne_of_none2; assumption; tm_at "hp") | fail "no way"))
local macro_rules | `(tactic| tm_at "f0") => `(tactic| (first | assumption | (apply Fr.new; assumption) | fail "no way"))
local macro_rules | `(tactic| tm_at "hp") => `(tactic| (first | assumption | exact upd_same | (apply SqL.of; first | assumption | exact upd_same) | (apply Fr.at0; tm_at "f0"; tm_at "hp") | (apply Fr.at1n; assumption; tm_at "ne"; tm_at "hp") | (apply sqFr0; tm_at "f0"; tm_at "hp") | (apply sqFr1; assumption; tm_at "ne"; tm_at "hp") | (apply Box.fr0; tm_at "f0"; tm_at "hp") | (apply Box.fr1; assumption; tm_at "ne"; tm_at "hp") | (apply Den.fr; tm_at "f0"; tm_at "hp") | (apply Dens.fr; tm_at "f0"; tm_at "hp") | fail "no way"))
local macro_rules | `(tactic| tm_at "free0") => `(tactic| (first | assumption | (apply updFree; assumption) | (apply updFree; apply updFree; assumption) | (apply updFree; apply updFree; apply updFree; assumption) | (apply updFree; apply updFree; apply updFree; apply updFree; assumption) | fail "no way"))
local macro_rules | `(tactic| tm_at "free") => `(tactic| (first | tm_at "free0" | (apply Fr.free; assumption; tm_at "free0") | (apply Box.free; assumption; tm_at "fr"; tm_at "free0") | (apply Fr.free; assumption; apply Fr.free; assumption; tm_at "free0") | fail "no way"))
local macro_rules | `(tactic| tm_at "fr") => `(tactic| (first | assumption | exact Fr.refl0 _ | exact Fr.refl (Box.nt (by assumption)) | (refine Fr.comp0 ?_ (by tm_at "f0"); tm_at "fr") | (refine Fr.comp ?_ (by assumption); tm_at "fr") | (refine Fr.compN ?_ (by assumption) (by tm_at "free"); tm_at "fr") | fail "no way"))
local macro_rules | `(tactic| tm_at "call") => `(tactic| fail "no call")
local macro_rules | `(tactic| tm_at "call") => `(tactic| (apply take_step; tm_at "hp"; tm_at "sc"; tm_at "sc"; intro r H1 h0 h1 hB fr))
local macro_rules | `(tactic| tm_at "ty") => `(tactic| (first | assumption | exact .base .non | exact .base (.bl _) | exact .base (.int _) | exact .base (.str _) | (apply TyX.base; apply TyOf.lst; tm_at "hp") | (apply TyX.base; apply TyOf.tup; tm_at "hp") | fail "no way"))
local macro_rules | `(tactic| tm_at "pre") => `(tactic| fail "none")
local macro_rules | `(tactic| tm_at "go1") => `(tactic| (first | tm_at "pre" | refine ⟨_, rfl, ?_⟩ | refine ⟨_, _, rfl, rfl, ?_⟩ | (apply set_step; tm_at "hp"; tm_at "sc"; tm_at "sc"; intro H1 hp fr) | (with_reducible refine iteDI ?_ ?_ <;> intro c) | (with_reducible refine iteDS ?_ ?_ <;> intro c) | (with_reducible refine iteD ?_ ?_ <;> intro c) | (with_reducible refine iteEM ?_ ?_ <;> intro c) | (with_reducible refine iteE ?_ ?_ <;> intro c) | with_reducible refine iteN ?_ | with_reducible refine iteF ?_ | with_reducible refine iteT ?_ | (refine fun (p : Addr) (np : _ = (none : Option HO)) => ?_; fail_if_success (refine ⟨fun (_ _ : Nat) (_ : Hp) => True, ?_⟩)) | (apply isi_tt; tm_at "ty"; focus (decide +kernel)) | (apply isi_ff; tm_at "ty"; focus (decide +kernel)) | (apply sl_step; tm_at "hp"; intro qq H1 ms nq hq fr) | (apply sum_step; tm_at "hp"; intro i) | (apply tru_step; tm_at "hp") | (apply len_step; tm_at "hp") | (apply lenq_step; assumption) | (apply ixq_step; assumption; tm_at "sc"; tm_at "sc"; intro v hv) | (apply lst_step; tm_at "hp") | (apply tupl_step; tm_at "hp") | (apply ixr_step; tm_at "hp"; exact rfl) | (apply ix0_step; tm_at "hp") | (apply ix1_step; tm_at "hp") | (apply ix2_step; tm_at "hp") | (apply ixi_step; tm_at "hp"; tm_at "sc"; tm_at "sc"; intro n hn hn') | (apply ixl_step; tm_at "hp"; tm_at "sc"; tm_at "sc"; intro v hv) | (apply ixt_step; tm_at "hp"; tm_at "sc"; tm_at "sc"; intro v hm hv) | (apply in_step; tm_at "hp"; rfl; rfl) | (apply cat_step; tm_at "hp"; tm_at "hp"; tm_at "sc") | (apply catT_step; tm_at "hp"; tm_at "hp"; tm_at "sc1") | (apply tyL_and; tm_at "hp") | (apply app_step; tm_at "hp"; tm_at "sc"; intro H1 hp fr) | tm_at "call" | refine ⟨⟨_, rfl⟩, ?_⟩ | (apply ixs_step; tm_at "sc"; tm_at "sc"; tm_at "sc"; intro ch) | refine .inl ⟨_, rfl, ?_⟩ | refine .inr ⟨_, rfl, ?_⟩ | (apply And.intro; tm_at "sc") | (with_reducible refine wayB ?_ ?_ <;> intro c) | fail "no way"))
local macro_rules | `(tactic| tm_at "go") => `(tactic| (repeat tm_at "go1"))
local macro_rules | `(tactic| tm_at "goo") => `(tactic| (repeat' tm_at "go1"))
local macro_rules | `(tactic| tm_at "den") => `(tactic| (first | assumption | exact Den.str _ | exact Den.int _ | exact Den.bl _ | exact Den.non | (apply Den.tups; tm_at "hp"; tm_at "dens") | (apply Den.fr; tm_at "f0"; tm_at "den") | fail "no way"))
local macro_rules | `(tactic| tm_at "dens") => `(tactic| (first | assumption | exact Dens.nil | (apply Dens.cons; tm_at "den"; tm_at "dens") | (apply Dens.fr; tm_at "f0"; tm_at "dens") | fail "no way"))
local macro_rules | `(tactic| tm_at "ix") => `(tactic| (apply Ix.mk; tm_at "hp"; tm_at "ne"; assumption; assumption))
local macro_rules | `(tactic| tm_at "dep") => `(tactic| (first | assumption | exact Dep.int | exact Dep.str | exact Dep.bl | exact Dep.non | (apply Dep.tup; tm_at "dlen"; tm_at "deps") | (apply Dep.mono; assumption; decide) | fail "no way"))
local macro_rules | `(tactic| tm_at "deps") => `(tactic| (first | assumption | exact memN | (apply memC; tm_at "dep"; tm_at "deps") | fail "no way"))
local macro_rules | `(tactic| tm_at "dlen") => `(tactic| (first | assumption | (focus (simp; done)) | omega | fail "no way"))
local macro_rules | `(tactic| tm_at "pre") => `(tactic| (apply rep_step; tm_at "hp"; tm_at "sc"; tm_at "sc"; intro rp H1 nrp hrp fr))

local macro_rules | `(tactic| tm_at "lits") => `(tactic| (try simp only [l_nl, l_open, l_close, l_sp, l_quo, l_bs, l_minus, l_zero, l_empty, l_n] at c))
local macro_rules | `(tactic| tm_at "pre") => `(tactic| (first | (apply slm_step; tm_at "sc"; tm_at "sc"; tm_at "sc") | (apply slf_step; tm_at "sc"; tm_at "sc") | (apply slt_step; tm_at "sc"; tm_at "sc") | (with_reducible refine iteEqZ ?_ ?_ <;> (intro c; tm_at "lits")) | (apply catS_step; tm_at "sc") | (apply inD_step) | (apply ordS_step) | (apply intS_step; assumption) | (apply sign_step) | (apply lenS_step; tm_at "sc")))
local macro_rules | `(tactic| tm_at "pre") => `(tactic| (apply while_go))
local macro_rules | `(tactic| tm_at "pre") => `(tactic| (apply ixS_step; tm_at "sc"; tm_at "sc"; assumption))
local macro_rules | `(tactic| tm_at "pre") => `(tactic| (apply appB_step; tm_at "hp"; tm_at "sc"; intro H1 hp fr))

local macro_rules | `(tactic| tm_at "lk") => `(tactic| (first | with_reducible exact lookup_eq | ((with_reducible apply lookup_ne); (focus (decide +kernel)); tm_at "lk") | assumption | rfl | fail "no way"))
local macro_rules | `(tactic| tm_at "pf") => `(tactic| (first | with_reducible exact putF_nil | with_reducible exact putF_eq | ((with_reducible apply putF_ne); (focus (decide +kernel)); tm_at "pf") | fail "no way"))
local macro_rules | `(tactic| tm_at "fl") => `(tactic| (first | assumption | focus (simp only [List.length_cons, List.length_nil]; omega) | focus (simp only [List.length_cons, List.length_nil]; done) | focus (decide) | focus (simp; done) | focus (simp; omega) | fail "no way"))
local macro_rules | `(tactic| tm_at "pre") => `(tactic| (apply fld_step; tm_at "hp"; assumption; assumption; tm_at "lk"))
local macro_rules | `(tactic| tm_at "pre") => `(tactic| (apply putf_step; tm_at "hp"; assumption; assumption; tm_at "fl"; tm_at "pf"; intro H1 hp fr))
local macro_rules | `(tactic| tm_at "pre") => `(tactic| (apply aug_step; tm_at "hp"; assumption; assumption; tm_at "lk"))
local macro_rules | `(tactic| tm_at "pre") => `(tactic| (apply put2_step; tm_at "hp"; tm_at "fl"; tm_at "pf"; intro H1 hp fr))
local macro_rules | `(tactic| tm_at "pre") => `(tactic| (apply dget_step; tm_at "hp"; tm_at "lk"))
local macro_rules | `(tactic| tm_at "pre") => `(tactic| (apply dput_step; tm_at "hp"; (focus (omega)); intro H1 hp fr))
local macro_rules | `(tactic| tm_at "pre") => `(tactic| (apply mth_step; tm_at "hp"; tm_at "lk"))
local macro_rules | `(tactic| tm_at "pre") => `(tactic| (apply lenD_step; tm_at "hp"))
local macro_rules | `(tactic| tm_at "pre") => `(tactic| (apply addI_step))
local macro_rules | `(tactic| tm_at "pre") => `(tactic| (apply newD_step; intro dn H1 nd hp fr))
local macro_rules | `(tactic| tm_at "fr2") => `(tactic| (first | assumption | (apply Fr.appMb; assumption; (focus (simp; done)); tm_at "fr2") | (apply Fr.app0b; tm_at "f0"; tm_at "fr2") | (apply Fr.appNb; assumption; tm_at "free"; tm_at "fr2") | fail "no way"))
local macro_rules | `(tactic| tm_at "ne") => `(tactic| (apply ne_role; assumption; assumption; (focus (decide))))
local macro_rules | `(tactic| tm_at "pre") => `(tactic| (apply dnotin_step; tm_at "hp"))
local macro_rules | `(tactic| tm_at "pre") => `(tactic| (apply din_step; tm_at "hp"))

local macro_rules | `(tactic| tm_at "call") => `(tactic| (apply rs_step; intro xd H1 nd hd fr))
set_option pp.deepTerms false
set_option pp.deepTerms.threshold 3
abbrev s_Scanner_close_text : Stmt := inClass (top 29) 4
theorem sc_Scanner_close_text : FnScope ["self", "line"] ["self"] (defScope s_Scanner_close_text) := ⟨rfl, rfl, rfl, by decide +kernel, rfl, by decide +kernel, by decide +kernel⟩

theorem ok_clo {C : Addr} {CA : Cl → Addr} (F : ScF K C) (T : K4.Bl mg) (X_BadToken : XE2 P w K mg base "BadToken" (CA .token)) (D : Def2 K C "close_text" "Scanner.close_text" s_Scanner_close_text) : CalMX P w K mg base 3 C "close_text" ["self"] (spClo K CA C) := by
  refine D.calMX F.cl sc_Scanner_close_text (fun _ _ _ _ _ _ us hl => match us, hl with | [_], _ => rfl) (fun vs H Q E h => ?_) (fun f cdv A outer s H vs Q E hr h => ?_) <;> unfold spClo at h
  · obtain ⟨o, m, i, z, st, rfl, _⟩ := h
    rfl
  · obtain ⟨o, m, i, z, st, rfl, sc, ok, tks, kk⟩ := h
    have c1 := F.cl
    have n1 := F.n1
    have n2 := F.n2
    have n3 := F.n3
    have n4 := F.n4
    have rfM := sc.rf
    have nt4 := sc.nt
    obtain ⟨dx, ho⟩ := sc.ob
    unfold fsOf at ho
    obtain ⟨xs, hm, dm⟩ := sc.mks
    obtain ⟨os, hp0, dp⟩ := sc.opn
    have hi := sc.id
    have om := sc.om
    have oi := sc.oi
    have op := sc.op'
    have mi := sc.mi
    have mp := sc.mp
    have ip := sc.ip
    have dml := dm.1
    have ml := ok.ml
    have ol := ok.ol
    have opl : os.length = st.op.length := by rw [dp.1]; simp
    refine ⟨_, (C8.pss_cut (ps_if (pt_cmpR op_gt (pe_callB (cLen K) (by rfl) T.z_len (by decide +kernel) (pa_cons (pe_fldx K (pv 0) rfl) pa_nil)) pe_int (nomark _))
      (pss_one (ps_raise2 X_BadToken rfl takesE (hr.mono (by omega)) (by rfl) (pa_cons (pe_ix (ixT K) (pe_ix (ixL K) (pe_fldx K (pv 0) rfl) (pe_un un_neg pe_int) (fun _ _ => rfl)) pe_int (fun _ _ => rfl)) (pa_cons (pe_ix (ixT K) (pe_ix (ixL K) (pe_fldx K (pv 0) rfl) (pe_un un_neg pe_int) (fun _ _ => rfl)) pe_int (fun _ _ => rfl)) pa_nil))))
      pss_nil)
    (C8.pss_cut (ps_set (i := 1) sc_Scanner_close_text.nd rfl (Or.inl rfl) (pe_ifExp (pt_cmpR op_gt (pe_callB (cLen K) (by rfl) T.z_len (by decide +kernel) (pa_cons (pe_fldx K (pv 0) rfl) pa_nil)) pe_int (nomark _)) (pe_op op_add (pe_ix (ixT K) (pe_ix (ixL K) (pe_fldx K (pv 0) rfl) (pe_un un_neg pe_int) (fun _ _ => rfl)) pe_int (fun _ _ => rfl)) pe_int) pe_int))
    (C8.pss_cut (ps_while (passes_of rfl) (pt_cmpR op_gt (pe_callB (cLen K) (by rfl) T.z_len (by decide +kernel) (pa_cons (pe_fldx K (pv 0) rfl) pa_nil)) pe_int (nomark _))
      (pss_cons (ps_expr (pe_bm0 PySem.F.plainAttrs_list PySem.F.slot_list_pop PySem.F.type_list_pop mtPopS (pe_fldx K (pv 0) rfl)))
      (pss_one (ps_expr (pe_bm PySem.F.plainAttrs_list PySem.F.slot_list_append PySem.F.type_list_append mtApp (pe_fldx K (pv 0) rfl) (pa_cons (pe_tup (pa_cons pe_str (pa_cons pe_str (pa_cons (pv 1) (pa_cons pe_int pa_nil))))) pa_nil))))))
    (pss_one (ps_expr (pe_bm PySem.F.plainAttrs_list PySem.F.slot_list_append PySem.F.type_list_append mtApp (pe_fldx K (pv 0) rfl) (pa_cons (pe_tup (pa_cons pe_str (pa_cons pe_str (pa_cons (pv 1) (pa_cons pe_int pa_nil))))) pa_nil))))))), ?_⟩
    refine ⟨CL0 o st H, ?_, fun σ H2 hw => ?_⟩
    · show tIfS _ _ _ _ _ _
      tm_at "goo"
      · obtain ⟨t, r, e2⟩ : ∃ t r, st.op = t :: r := by
          cases e : st.op with
          | nil => rw [e] at opl; have : os.length = 0 := opl; omega
          | cons t r => exact ⟨t, r, rfl⟩
        have dp2 := dp
        rw [e2, List.reverse_cons, List.map_append] at dp2
        obtain ⟨ys, y, rfl, dy, dt⟩ := dens_last dp2
        obtain ⟨qa, rfl, hqa⟩ := den_opT dt
        have ec : closeM st = .error ⟨.token, t.2.1, t.2.2⟩ := by unfold closeM; rw [e2]
        rw [ec] at kk
        refine ixr_step (.of hp0) (atI_last _ _) ?_
        tm_at "goo"
        refine ixr_step (.of hp0) (atI_last _ _) ?_
        tm_at "goo"
        exact kk xd _ (by rw [hd]) (rfM.comp0 fr)
      · show CL0 o st H _ _
        unfold CL0
        exact ⟨⟨_, rfl⟩, rfl, List.eq_nil_of_length_eq_zero (by omega)⟩
    · unfold CL0 at hw
      obtain ⟨⟨y, rfl⟩, rfl, h0⟩ := hw
      refine ⟨CL1 o st H2, ?_, fun σ H2 hw => ?_⟩
      · tm_at "goo"
        · have ne : st.marks ≠ [] := fun e => by rw [e] at dml; have : xs.length = 0 := dml; omega
          obtain ⟨ms, t, e1⟩ := concat_of ne
          obtain ⟨kd, wd, l, k, rfl⟩ := tks t (by rw [e1]; simp)
          have dm2 := dm
          rw [e1] at dm2
          obtain ⟨ys, y, rfl, dy, dt⟩ := dens_last dm2
          obtain ⟨q, u, rfl, hq, du⟩ := den_tk_inv dt
          have el : lineM st = l + 1 := by unfold lineM; rw [e1]; simp [tk, lineOf]
          refine ixr_step (.of hm) (atI_last _ _) ?_
          tm_at "goo"
          show CL1 o st H2 _ _
          unfold CL1
          exact ⟨by rw [el]; rfl, Fr.refl0 _, rfl⟩
        · have e1 : st.marks = [] := List.eq_nil_of_length_eq_zero (by omega)
          have el : lineM st = 1 := by unfold lineM; rw [e1]; rfl
          show CL1 o st H2 _ _
          unfold CL1
          exact ⟨by rw [el]; rfl, Fr.refl0 _, rfl⟩
      · unfold CL1 at hw
        obtain ⟨rfl, _, rfl⟩ := hw
        have ec : closeM st = .ok (st.marks ++ st.ind.dropLast.map (fun _ => tk "dedent" eW (lineM st) 1) ++ [tk "end" eW (lineM st) 1]) := by unfold closeM; rw [h0]; rfl
        refine ⟨CL3 K C o m i z st H2, ⟨CL2 K C o m i z st H2, ⟨st.ind.length, ?_⟩, fun n σ H4 hw => ?_⟩, fun σ H4 hw => ?_⟩
        · unfold CL2
          exact ⟨0, st, rfl, rfl, sc, rfM, rfl, by obtain ⟨t, r, e⟩ := ind_cons ok; rw [e]; exact Nat.succ_pos _, by simp⟩
        · unfold CL2 at hw
          obtain ⟨n, st1, rfl, rfl, sc1, f1, ei, hn, em⟩ := hw
          obtain ⟨dx1, ho1⟩ := sc1.ob
          unfold fsOf at ho1
          obtain ⟨xs1, hm1, dm1⟩ := sc1.mks
          have hi1 := sc1.id
          have il1 : (indV st1).length = st1.ind.length := by unfold indV; simp
          have el1 : st1.ind.length = st.ind.length - n := by rw [ei]; simp
          have ml1 : st1.marks.length = st.marks.length + n := by rw [em]; simp; omega
          have dml1 := dm1.1
          have okil := ok.il
          tm_at "goo"
          · obtain ⟨t, r, e3, e4, e5⟩ := drop_pop (l := st.ind) (n := n) (by omega)
            have e6 : st1.ind = t :: r := by rw [ei, e3]
            have hi1' : H4 i = some (.lst ((r.reverse.map fun n => V.int ((n : Nat) : Int)) ++ [.int ((t : Nat) : Int)])) := by
              rw [hi1]
              unfold indV
              rw [e6, List.reverse_cons, List.map_append]
              rfl
            refine popL_step hi1' fun H5 h5 f5 => ?_
            have s5 := sc1.inds h5 f5
            have hm5 := f5.at1 hm1 mi
            have dm5 := dm1.fr f5
            have ho5 := f5.at1 ho1 oi
            tm_at "goo"
            have fN : Fr [] H5 _ := Fr.new (o := .tup [.str (Str.ofString "dedent"), .str (Str.ofString ""), .int ((lineM st : Nat) : Int), .int 1]) np
            have s6 := s5.fr0 fN
            have s7 := s6.mark (xs := xs1) (v := .ref p) (t := tk "dedent" eW (lineM st) 1) (fN.at0 hm5) (dm5.fr fN) (den_tk upd_same rfl (.str _)) hp fr
            show Nx (CL2 K C o m i z st H2) _ _ _
            refine Nx.of r.length (by rw [e6]; simp) ?_
            unfold CL2
            refine ⟨n + 1, _, rfl, rfl, s7, ((f1.comp (fr_sub f5 (by simp) sc1.nt)).comp0 fN).comp (fr_sub fr (by simp) s6.nt), e4.symm, by omega, ?_⟩
            show st1.marks ++ [_] = _
            rw [em, e5, List.map_append, List.append_assoc]
            rfl
          · show CL3 K C o m i z st H2 _ _
            unfold CL3
            refine ⟨st1, rfl, sc1, f1, ?_⟩
            rw [em, show n = st.ind.length - 1 by omega, List.dropLast_eq_take]
        · unfold CL3 at hw
          obtain ⟨st1, rfl, sc1, f1, em⟩ := hw
          obtain ⟨dx1, ho1⟩ := sc1.ob
          unfold fsOf at ho1
          obtain ⟨xs1, hm1, dm1⟩ := sc1.mks
          have okil := ok.il
          have ml1 : st1.marks.length ≤ st.marks.length + 11 := by rw [em]; simp; omega
          have dml1 := dm1.1
          tm_at "goo"
          have fN : Fr [] H4 _ := Fr.new (o := .tup [.str (Str.ofString "end"), .str (Str.ofString ""), .int ((lineM st : Nat) : Int), .int 1]) np
          have s6 := sc1.fr0 fN
          have s7 := s6.mark (xs := xs1) (v := .ref p) (t := tk "end" eW (lineM st) 1) (fN.at0 hm1) (dm1.fr fN) (den_tk upd_same rfl (.str _)) hp fr
          rw [ec] at kk
          exact kk _ _ (by show st1.marks ++ [_] = _; rw [em]) s7 ((f1.comp0 fN).comp (fr_sub fr (by simp) s6.nt))
end
end TK
set_option Elab.async false
set_option linter.all false
set_option maxRecDepth 100000
set_option maxHeartbeats 4000000
namespace TK
open PySem PySem.Spec PyProof.Rows L2 M14 SX K4
/-! ### a text cut at a sign -/
def splC (c : Nat) : List Nat → List (List Nat)
  | [] => [[]]
  | x :: r => if x = c then [] :: splC c r else match splC c r with
    | y :: ys => (x :: y) :: ys
    | [] => [[x]]
theorem rowsOf_splC : ∀ a, rowsOf a = splC 10 a
  | [] => rfl
  | x :: r => by unfold rowsOf splC; rw [rowsOf_splC r] <;> (split <;> rfl)
theorem splC_ne (c : Nat) : ∀ a, ∃ y ys, splC c a = y :: ys
  | [] => ⟨_, _, rfl⟩
  | x :: r => by
    unfold splC
    split
    · exact ⟨_, _, rfl⟩
    · split <;> exact ⟨_, _, rfl⟩
theorem spl_splC (c : Nat) : ∀ (a acc : List Nat) (y : List Nat) (ys : List (List Nat)), splC c a = y :: ys → TL.spl [c] 0 acc a = (acc ++ y) :: ys
  | [], acc, y, ys, e => by
    unfold splC at e
    cases e
    rw [TL.spl_nil, List.append_nil]
  | x :: r, acc, y, ys, e => by
    obtain ⟨z, zs, ez⟩ := splC_ne c r
    unfold splC at e
    by_cases h : x = c
    · rw [if_pos h] at e
      cases e
      rw [TL.spl_hit (by unfold TL.pre; rw [h]; simp), ez, List.append_nil]
      show acc :: TL.spl [c] 0 [] r = _
      rw [spl_splC c r [] z zs ez]
      rfl
    · rw [if_neg h, ez] at e
      cases e
      have : TL.pre [c] (x :: r) = false := by unfold TL.pre; simp [h]
      show (if TL.pre [c] (x :: r) = true then _ else TL.spl [c] 0 (acc ++ [x]) r) = _
      rw [if_neg (by rw [this]; exact Bool.false_ne_true), spl_splC c r (acc ++ [x]) z _ ez]
      simp
theorem split_splC {a : List Nat} {c : Nat} (hc : c < 256) : Txt.split (S a) (S [c]) = (splC c a).map S := by
  rw [split_S (by simp) (by simpa using hc)]
  obtain ⟨y, ys, e⟩ := splC_ne c a
  rw [spl_splC c a [] y ys e, e, List.nil_append]
@[irreducible] def rSpS : V → List V → Hp → VK → Prop := fun x xs H Q => ∃ a b, x = .str a ∧ xs = [.str b] ∧ (b.length == 0) = false ∧ a.length + 2 ≤ sizeLine ∧ rNewStrs (Txt.split a b) H Q
theorem mtSplitS {X : Cx} : MtR X "str.split" rSpS := by unfold rSpS; exact mt_split
def strsV (ls : List (List Nat)) : List V := ls.map fun l => V.str (S l)
theorem spl_step {a : List Nat} {c : Nat} {z : Str} {H : Hp} {Q : VK} (hz : a.length ≤ 1000000) (ez : z.cps.toList = [c]) (hc : c < 256) (k : ∀ p H', H p = none → H' p = some (.lst (strsV (splC c a))) → Fr [] H H' → Q (.ref p) H') : rSpS (.str (S a)) [.str z] H Q := by
  have e : z = S [c] := by rw [← ez]
  subst e
  unfold rSpS
  refine ⟨_, _, rfl, rfl, rfl, by show a.toArray.size + 2 ≤ 2 ^ 24; simp; omega, fun p np => k p _ np ?_ (Fr.new np)⟩
  rw [split_splC hc]
  unfold strsV
  rw [List.map_map]
  exact upd_same
theorem walk_enumK {K : PySem.W.Frag} {k0 : Int} {a : Addr} {xs : List V} : Walk (Itk K k0 a) xs.length (fun H => SqL K H a xs) (fun i H v H' => ∃ T x, v = .ref T ∧ H T = none ∧ H' = upd H T (.tup [.int (k0 + (i : Nat)), x]) ∧ xs[i]? = some x) :=
  ⟨fun i H hi h => ⟨xs, xs[i], h, List.getElem?_eq_getElem hi⟩, fun H h => ⟨xs, h, rfl⟩, fun i H x H' hi h y => let ⟨T, x, e1, e2, e3, e4⟩ := y; ⟨T, x, e1, e2, e3, e4 xs h⟩⟩
theorem rows_len {a r : List Nat} (h : r ∈ rowsOf a) : r.length ≤ a.length := by
  induction a generalizing r with
  | nil => unfold rowsOf at h; simp at h; subst h; exact Nat.le_refl _
  | cons c t ih =>
    unfold rowsOf at h
    split at h
    · rcases List.mem_cons.mp h with rfl | h
      · exact Nat.zero_le _
      · have := ih h; simp; omega
    · split at h
      · rename_i x xs e
        rcases List.mem_cons.mp h with rfl | h
        · have := ih (r := x) (by rw [e]; exact List.mem_cons_self); simp; omega
        · have := ih (r := r) (by rw [e]; exact List.mem_cons_of_mem _ h); simp; omega
      · simp at h; subst h; simp
theorem rows_many (a : List Nat) : (rowsOf a).length ≤ a.length + 1 := by
  induction a with
  | nil => exact Nat.le_refl _
  | cons c t ih =>
    unfold rowsOf
    split
    · simp; omega
    · split
      · rename_i x xs e
        rw [e] at ih
        simp at ih ⊢; omega
      · simp
/-! ### other_index -/
theorem bad_at {a : List Nat} {i c : Nat} (e : a[i]? = some c) (h : (a.take i).all okc = true) (hc : okc c = false) : firstBad a = some i := by
  unfold firstBad
  have hi : i < a.length := (List.getElem?_eq_some_iff.mp e).1
  rw [List.findIdx?_eq_some_iff_getElem]
  refine ⟨hi, ?_, fun j hj => ?_⟩
  · have : a[i] = c := by rw [List.getElem?_eq_getElem hi] at e; exact Option.some.inj e
    rw [this, hc]; rfl
  · rw [List.all_eq_true] at h
    have := h a[j] (List.mem_take_iff_getElem.mpr ⟨j, by omega, rfl⟩)
    rw [this]; simp
theorem bad_none {a : List Nat} (h : a.all okc = true) : firstBad a = none := by
  unfold firstBad
  rw [List.findIdx?_eq_none_iff]
  intro x m
  rw [List.all_eq_true] at h
  rw [h x m]; rfl
def idxV (x : Option Nat) : Int := match x with
  | some k => (k : Nat)
  | none => -1
@[irreducible] def OXM (a : List Nat) (H : Hp) (i : Nat) (σ : L2.St) (H' : Hp) : Prop := (∃ x1 x2 x3 x4, σ = [some (.str (S a)), x1, x2, x3, x4]) ∧ Fr [] H H' ∧ (a.take i).all okc = true
theorem OXM.of {a : List Nat} {H : Hp} {i : Nat} {x1 x2 x3 x4 : Option V} {σ : L2.St} {H' : Hp} (e : σ = [some (.str (S a)), x1, x2, x3, x4]) (f : Fr [] H H') (h : (a.take i).all okc = true) : OXM a H i σ H' := by
  unfold OXM
  exact ⟨⟨x1, x2, x3, x4, e⟩, f, h⟩
@[irreducible] def spOx : Sp := fun vs H Q _ => ∃ a : List Nat, vs = [.str (S a)] ∧ a.length ≤ 1000000 ∧ ∀ (r : Int) H', r = idxV (firstBad a) → Fr [] H H' → Q (.int r) H'
theorem ox_step {a : List Nat} {H : Hp} {Q : VK} {E : XK} (hz : a.length ≤ 1000000) (k : ∀ (r : Int) H', r = idxV (firstBad a) → Fr [] H H' → Q (.int r) H') : spOx ([.str (S a)] ++ []) H Q E := by
  unfold spOx
  exact ⟨a, rfl, hz, k⟩
theorem walk_enX {x : Str} : Walk (Itse x) x.cps.size (fun _ => True) (fun i H v H' => ∃ T c, v = .ref T ∧ H T = none ∧ H' = upd H T (.tup [.int (i : Nat), .str (S [c])]) ∧ x.cps[i]? = some c) :=
  ⟨fun _ _ hi _ => hi, fun _ _ => rfl, fun _ _ _ _ _ _ y => y⟩
/-! ### _checked_rows -/
theorem badSign_snoc {l : Nat} : ∀ {rs : List (List Nat)} {r : List Nat} {ts : List (List Nat)}, (∀ x ∈ rs, firstBad x = none) → ∀ {k}, firstBad r = some k → badSign l (rs ++ r :: ts) = some ⟨.sign, l + rs.length, k + 1⟩
  | [], r, ts, _, k, e => by
    show badSign l (r :: ts) = _
    unfold badSign
    rw [e]
    rfl
  | x :: rs, r, ts, h, k, e => by
    show badSign l (x :: (rs ++ r :: ts)) = _
    unfold badSign
    rw [h x List.mem_cons_self]
    show badSign (l + 1) (rs ++ r :: ts) = _
    rw [badSign_snoc (fun y m => h y (List.mem_cons_of_mem _ m)) e, List.length_cons, show l + 1 + rs.length = l + (rs.length + 1) by omega]
theorem badSign_none {l : Nat} : ∀ {rs : List (List Nat)}, (∀ x ∈ rs, firstBad x = none) → badSign l rs = none
  | [], _ => rfl
  | x :: rs, h => by
    unfold badSign
    rw [h x List.mem_cons_self]
    exact badSign_none fun y m => h y (List.mem_cons_of_mem _ m)
theorem badLong_snoc {l : Nat} : ∀ {rs : List (List Nat)} {r : List Nat} {ts : List (List Nat)}, (∀ x ∈ rs, x.length ≤ 120) → 120 < r.length → badLong l (rs ++ r :: ts) = some ⟨.long, l + rs.length, 121⟩
  | [], r, ts, _, e => by
    show badLong l (r :: ts) = _
    unfold badLong
    rw [if_pos e]
    rfl
  | x :: rs, r, ts, h, e => by
    have := h x List.mem_cons_self
    show badLong l (x :: (rs ++ r :: ts)) = _
    unfold badLong
    rw [if_neg (by omega), badLong_snoc (fun y m => h y (List.mem_cons_of_mem _ m)) e, List.length_cons, show l + 1 + rs.length = l + (rs.length + 1) by omega]
theorem badLong_none {l : Nat} : ∀ {rs : List (List Nat)}, (∀ x ∈ rs, x.length ≤ 120) → badLong l rs = none
  | [], _ => rfl
  | x :: rs, h => by
    have := h x List.mem_cons_self
    unfold badLong
    rw [if_neg (by omega)]
    exact badLong_none fun y m => h y (List.mem_cons_of_mem _ m)
theorem split_at {α : Type} {l : List α} {i : Nat} {x : α} (h : l[i]? = some x) : l = l.take i ++ x :: l.drop (i + 1) ∧ (l.take i).length = i := by
  have hi : i < l.length := (List.getElem?_eq_some_iff.mp h).1
  have e : l[i] = x := by rw [List.getElem?_eq_getElem hi] at h; exact Option.some.inj h
  refine ⟨?_, by simp; omega⟩
  rw [← e, ← List.drop_eq_getElem_cons hi, List.take_append_drop]
theorem take_all {α : Type} {l : List α} {i : Nat} {x : α} {p : α → Prop} (h : l[i]? = some x) (a : ∀ y ∈ l.take i, p y) (b : p x) : ∀ y ∈ l.take (i + 1), p y := by
  intro y m
  rw [List.take_succ, h] at m
  rcases List.mem_append.mp m with m | m
  · exact a y m
  · have : y = x := by simpa using m
    rw [this]; exact b
/-- what is wrong with a text before its words are read -/
def chkM (a : List Nat) : Option Er := if 6000 < a.length then some ⟨.long, 1, 1⟩ else match badSign 1 (rowsOf a) with
  | some e => some e
  | none => badLong 1 (rowsOf a)
@[irreducible] def spChk (CA : Cl → Addr) : Sp := fun vs H Q E => ∃ a : List Nat, vs = [.str (S a)] ∧ a.length ≤ 1000000 ∧ match chkM a with
  | some e => BadX CA e [] H E
  | none => ∀ p H', H p = none → H' p = some (.lst (strsV (rowsOf a))) → Fr [] H H' → Q (.ref p) H'
@[irreducible] def CK1 (a : List Nat) (p : Addr) (H : Hp) (i : Nat) (σ : L2.St) (H' : Hp) : Prop := (∃ x1 x2 x3, σ = [some (.str (S a)), some (.ref p), x1, x2, x3]) ∧ H' p = some (.lst (strsV (rowsOf a))) ∧ Fr [] H H' ∧ ∀ r ∈ (rowsOf a).take i, firstBad r = none
@[irreducible] def CK2 (a : List Nat) (p : Addr) (H : Hp) (i : Nat) (σ : L2.St) (H' : Hp) : Prop := (∃ x1 x2 x3, σ = [some (.str (S a)), some (.ref p), x1, x2, x3]) ∧ H' p = some (.lst (strsV (rowsOf a))) ∧ Fr [] H H' ∧ ∀ r ∈ (rowsOf a).take i, r.length ≤ 120
section
variable {P : Program} {w : World} {K : PySem.W.Frag} {mg : Str → Option Value} {base : Heap}
set_option hygiene false
local macro_rules | `(tactic| tm_at "sc") => `(tactic| (first | omega | (simp only [List.length_cons, List.length_nil, List.length_map, List.length_set, List.length_append]; omega) | (simp only [List.length_map] at h1 ⊢; omega) | (simp only [List.length_map] at c ⊢; omega) | with_reducible assumption | exact And.intro (by omega) (by omega) | exact Or.inl (And.intro (by omega) (by omega)) | exact Or.inr (And.intro (by omega) (by omega)) | decide +kernel | exact len1000 (by simp) | rfl | fail "no way"))
local macro_rules | `(tactic| tm_at "sc1") => `(tactic| (focus (simp; done)))
local macro_rules | `(tactic| tm_at "ne") => `(tactic| (first | assumption | exact Ne.symm (by assumption) | (apply Box.ne2; assumption; tm_at "hp") | (apply Ne.symm; apply Box.ne2; assumption; tm_at "hp") | (apply ne_of_none2; assumption; tm_at "hp") | (apply Ne.symm; apply ne_of_none2; assumption; tm_at "hp") | fail "no way"))
local macro_rules | `(tactic| tm_at "f0") => `(tactic| (first | assumption | (apply Fr.new; assumption) | fail "no way"))
local macro_rules | `(tactic| tm_at "hp") => `(tactic| (first | assumption | exact upd_same | (apply SqL.of; first | assumption | exact upd_same) | (apply Fr.at0; tm_at "f0"; tm_at "hp") | (apply Fr.at1n; assumption; tm_at "ne"; tm_at "hp") | (apply sqFr0; tm_at "f0"; tm_at "hp") | (apply sqFr1; assumption; tm_at "ne"; tm_at "hp") | (apply Box.fr0; tm_at "f0"; tm_at "hp") | (apply Box.fr1; assumption; tm_at "ne"; tm_at "hp") | (apply Den.fr; tm_at "f0"; tm_at "hp") | (apply Dens.fr; tm_at "f0"; tm_at "hp") | fail "no way"))
local macro_rules | `(tactic| tm_at "free0") => `(tactic| (first | assumption | (apply updFree; assumption) | (apply updFree; apply updFree; assumption) | (apply updFree; apply updFree; apply updFree; assumption) | (apply updFree; apply updFree; apply updFree; apply updFree; assumption) | fail "no way"))
local macro_rules | `(tactic| tm_at "free") => `(tactic| (first | tm_at "free0" | (apply Fr.free; assumption; tm_at "free0") | (apply Box.free; assumption; tm_at "fr"; tm_at "free0") | (apply Fr.free; assumption; apply Fr.free; assumption; tm_at "free0") | fail "no way"))
local macro_rules | `(tactic| tm_at "fr") => `(tactic| (first | assumption | exact Fr.refl0 _ | exact Fr.refl (Box.nt (by assumption)) | (refine Fr.comp0 ?_ (by tm_at "f0"); tm_at "fr") | (refine Fr.comp ?_ (by assumption); tm_at "fr") | (refine Fr.compN ?_ (by assumption) (by tm_at "free"); tm_at "fr") | fail "no way"))
local macro_rules | `(tactic| tm_at "call") => `(tactic| fail "no call")
local macro_rules | `(tactic| tm_at "call") => `(tactic| (apply take_step; tm_at "hp"; tm_at "sc"; tm_at "sc"; intro r H1 h0 h1 hB fr))
local macro_rules | `(tactic| tm_at "ty") => `(tactic| (first | assumption | exact .base .non | exact .base (.bl _) | exact .base (.int _) | exact .base (.str _) | (apply TyX.base; apply TyOf.lst; tm_at "hp") | (apply TyX.base; apply TyOf.tup; tm_at "hp") | fail "no way"))
local macro_rules | `(tactic| tm_at "pre") => `(tactic| fail "none")
local macro_rules | `(tactic| tm_at "go1") => `(tactic| (first | tm_at "pre" | refine ⟨_, rfl, ?_⟩ | refine ⟨_, _, rfl, rfl, ?_⟩ | (apply set_step; tm_at "hp"; tm_at "sc"; tm_at "sc"; intro H1 hp fr) | (with_reducible refine iteDI ?_ ?_ <;> intro c) | (with_reducible refine iteDS ?_ ?_ <;> intro c) | (with_reducible refine iteD ?_ ?_ <;> intro c) | (with_reducible refine iteEM ?_ ?_ <;> intro c) | (with_reducible refine iteE ?_ ?_ <;> intro c) | with_reducible refine iteN ?_ | with_reducible refine iteF ?_ | with_reducible refine iteT ?_ | (refine fun (p : Addr) (np : _ = (none : Option HO)) => ?_; fail_if_success (refine ⟨fun (_ _ : Nat) (_ : Hp) => True, ?_⟩)) | (apply isi_tt; tm_at "ty"; focus (decide +kernel)) | (apply isi_ff; tm_at "ty"; focus (decide +kernel)) | (apply sl_step; tm_at "hp"; intro qq H1 ms nq hq fr) | (apply sum_step; tm_at "hp"; intro i) | (apply tru_step; tm_at "hp") | (apply len_step; tm_at "hp") | (apply lenq_step; assumption) | (apply ixq_step; assumption; tm_at "sc"; tm_at "sc"; intro v hv) | (apply lst_step; tm_at "hp") | (apply tupl_step; tm_at "hp") | (apply ixr_step; tm_at "hp"; exact rfl) | (apply ix0_step; tm_at "hp") | (apply ix1_step; tm_at "hp") | (apply ix2_step; tm_at "hp") | (apply ixi_step; tm_at "hp"; tm_at "sc"; tm_at "sc"; intro n hn hn') | (apply ixl_step; tm_at "hp"; tm_at "sc"; tm_at "sc"; intro v hv) | (apply ixt_step; tm_at "hp"; tm_at "sc"; tm_at "sc"; intro v hm hv) | (apply in_step; tm_at "hp"; rfl; rfl) | (apply cat_step; tm_at "hp"; tm_at "hp"; tm_at "sc") | (apply catT_step; tm_at "hp"; tm_at "hp"; tm_at "sc1") | (apply tyL_and; tm_at "hp") | (apply app_step; tm_at "hp"; tm_at "sc"; intro H1 hp fr) | tm_at "call" | refine ⟨⟨_, rfl⟩, ?_⟩ | (apply ixs_step; tm_at "sc"; tm_at "sc"; tm_at "sc"; intro ch) | refine .inl ⟨_, rfl, ?_⟩ | refine .inr ⟨_, rfl, ?_⟩ | (apply And.intro; tm_at "sc") | (with_reducible refine wayB ?_ ?_ <;> intro c) | fail "no way"))
local macro_rules | `(tactic| tm_at "go") => `(tactic| (repeat tm_at "go1"))
local macro_rules | `(tactic| tm_at "goo") => `(tactic| (repeat' tm_at "go1"))
local macro_rules | `(tactic| tm_at "den") => `(tactic| (first | assumption | exact Den.str _ | exact Den.int _ | exact Den.bl _ | exact Den.non | (apply Den.tups; tm_at "hp"; tm_at "dens") | (apply Den.fr; tm_at "f0"; tm_at "den") | fail "no way"))
local macro_rules | `(tactic| tm_at "dens") => `(tactic| (first | assumption | exact Dens.nil | (apply Dens.cons; tm_at "den"; tm_at "dens") | (apply Dens.fr; tm_at "f0"; tm_at "dens") | fail "no way"))
local macro_rules | `(tactic| tm_at "ix") => `(tactic| (apply Ix.mk; tm_at "hp"; tm_at "ne"; assumption; assumption))
local macro_rules | `(tactic| tm_at "dep") => `(tactic| (first | assumption | exact Dep.int | exact Dep.str | exact Dep.bl | exact Dep.non | (apply Dep.tup; tm_at "dlen"; tm_at "deps") | (apply Dep.mono; assumption; decide) | fail "no way"))
local macro_rules | `(tactic| tm_at "deps") => `(tactic| (first | assumption | exact memN | (apply memC; tm_at "dep"; tm_at "deps") | fail "no way"))
local macro_rules | `(tactic| tm_at "dlen") => `(tactic| (first | assumption | (focus (simp; done)) | omega | fail "no way"))
local macro_rules | `(tactic| tm_at "pre") => `(tactic| (apply rep_step; tm_at "hp"; tm_at "sc"; tm_at "sc"; intro rp H1 nrp hrp fr))

local macro_rules | `(tactic| tm_at "lits") => `(tactic| (try simp only [l_nl, l_open, l_close, l_sp, l_quo, l_bs, l_minus, l_zero, l_empty, l_n] at c))
local macro_rules | `(tactic| tm_at "pre") => `(tactic| (first | (apply slm_step; tm_at "sc"; tm_at "sc"; tm_at "sc") | (apply slf_step; tm_at "sc"; tm_at "sc") | (apply slt_step; tm_at "sc"; tm_at "sc") | (with_reducible refine iteEqZ ?_ ?_ <;> (intro c; tm_at "lits")) | (apply catS_step; tm_at "sc") | (apply inD_step) | (apply ordS_step) | (apply intS_step; assumption) | (apply sign_step) | (apply lenS_step; tm_at "sc")))
local macro_rules | `(tactic| tm_at "pre") => `(tactic| (apply while_go))
local macro_rules | `(tactic| tm_at "pre") => `(tactic| (apply ixS_step; tm_at "sc"; tm_at "sc"; assumption))
local macro_rules | `(tactic| tm_at "pre") => `(tactic| (apply appB_step; tm_at "hp"; tm_at "sc"; intro H1 hp fr))

set_option pp.deepTerms false
set_option pp.deepTerms.threshold 3
abbrev s_p_other_index : Stmt := top 9
theorem sc_p_other_index : FnScope ["text", "at", "sign", "code", "printed"] ["text"] (defScope s_p_other_index) := ⟨rfl, rfl, rfl, by decide +kernel, rfl, by decide +kernel, by decide +kernel⟩

theorem ok_ox (T : K4.Bl mg) (g_SPACE_CODE : GV mg "SPACE_CODE" (.int 32)) (g_TILDE_CODE : GV mg "TILDE_CODE" (.int 126)) (g_PERCENT_CODE : GV mg "PERCENT_CODE" (.int 37)) (D : Def1 K mg "other_index" s_p_other_index) : Cal P w K mg base 1 "other_index" ["text"] spOx := by
  refine D.cal sc_p_other_index (fun _ _ _ _ _ _ us hl => match us, hl with | [_], _ => rfl) (fun vs H Q E h => ?_) (fun f cdv A outer s H vs Q E hr h => ?_) <;> unfold spOx at h
  · obtain ⟨a, rfl, _⟩ := h
    rfl
  · obtain ⟨a, rfl, hz, k⟩ := h
    refine ⟨_, (pss_cons (ps_for PassesOwn.never rfl (pi_enumS (by rfl) T.z_enumerate (pa_cons (pv 0) pa_nil)) (pg_tup (by rfl) (pgs_cons (pg_name (i := 1) sc_p_other_index.nd rfl (Or.inl rfl)) (pgs_cons (pg_name (i := 2) sc_p_other_index.nd rfl (Or.inl rfl)) pgs_nil)))
      (pss_cons (ps_set (i := 3) sc_p_other_index.nd rfl (Or.inl rfl) (pe_callB call_ordS (by rfl) T.z_ord (by decide +kernel) (pa_cons (pv 2) pa_nil)))
      (pss_cons (ps_set (i := 4) sc_p_other_index.nd rfl (Or.inl rfl) (pe_and (pe_chain op_le op_le (pe_gv g_SPACE_CODE (by rfl)) (pv 3) (pe_gv g_TILDE_CODE (by rfl))) (pe_one (pe_cmpR op_ne (pv 3) (pe_gv g_PERCENT_CODE (by rfl)) (nomark _)))))
      (pss_one (ps_if (PW.pt (pw_and (pt_not (pt_val (pv 4))) (pw_and1 (pt_cmpR op_ne (pv 2) pe_str (nomark _)))))
        (pss_one (ps_ret (pv 1)))
        pss_nil)))))
    (pss_one (ps_ret (pe_un un_neg pe_int)))), ?_⟩
    refine ⟨_, rfl, _, rfl, ?_⟩
    refine for_it walk_enX (OXM a H) (OXM.of rfl (Fr.refl0 _) rfl) (fun _ _ _ _ _ => trivial) (fun i x σ H1 H2 hi hp hy => ?_) (fun σ H1 hp => ?_)
    · unfold OXM at hp
      obtain ⟨⟨x1, x2, x3, x4, rfl⟩, f0, ha⟩ := hp
      obtain ⟨T, ch, rfl, hT, rfl, hc⟩ := hy
      have hc := getS hc
      refine ⟨T, _, rfl, SqT.of upd_same, rfl, ?_⟩
      have f1 : Fr [] H (upd H1 T (.tup [.int (i : Nat),   .str (S [ch])])) := f0.comp0 (Fr.new hT)
      refine ⟨_, _, rfl, _, _, rfl, rfl, ?_⟩
      tm_at "goo"
      all_goals first
        | exact OXM.of rfl f1 (all_snoc hc ha (okc_yes (.inl (by omega))))
        | exact OXM.of rfl f1 (all_snoc hc ha (okc_yes (.inr c)))
        | (refine k _ _ ?_ f1; rw [bad_at hc ha (okc_no (by omega) c)]; rfl)
    · unfold OXM at hp
      obtain ⟨⟨x1, x2, x3, x4, rfl⟩, f0, ha⟩ := hp
      tm_at "goo"
      refine k _ _ ?_ f0
      rw [List.take_of_length_le (by simp)] at ha
      rw [bad_none ha]
      rfl
local macro_rules | `(tactic| tm_at "call") => `(tactic| (apply rs_step; intro xd H1 nd hd fr))
local macro_rules | `(tactic| tm_at "call") => `(tactic| (apply ox_step; (focus (omega)); intro r0 H1 er fr))
abbrev s_p_checked_rows : Stmt := top 31
theorem sc_p_checked_rows : FnScope ["text", "rows", "line", "row", "at"] ["text"] (defScope s_p_checked_rows) := ⟨rfl, rfl, rfl, by decide +kernel, rfl, by decide +kernel, by decide +kernel⟩

theorem ok_chk {CA : Cl → Addr} (T : K4.Bl mg) (X_TooLong : XE2 P w K mg base "TooLong" (CA .long)) (X_BadSign : XE2 P w K mg base "BadSign" (CA .sign)) (g_MOST_CHARACTERS : GV mg "MOST_CHARACTERS" (.int 6000)) (g_MOST_COLUMNS : GV mg "MOST_COLUMNS" (.int 120)) (G_p_other_index : Cal P w K mg base 1 "other_index" ["text"] spOx) (D : Def1 K mg "_checked_rows" s_p_checked_rows) : CalX P w K mg base 3 "_checked_rows" ["text"] (spChk CA) := by
  refine D.calX sc_p_checked_rows (fun _ _ _ _ _ _ us hl => match us, hl with | [_], _ => rfl) (fun vs H Q E h => ?_) (fun f cdv A outer s H vs Q E hr h => ?_) <;> unfold spChk at h
  · obtain ⟨a, rfl, _⟩ := h
    rfl
  · obtain ⟨a, rfl, hz, k⟩ := h
    refine ⟨_, (pss_cons (ps_if (pt_cmpR op_gt (pe_callB call_lenS (by rfl) T.z_len (by decide +kernel) (pa_cons (pv 0) pa_nil)) (pe_gv g_MOST_CHARACTERS (by rfl)) (nomark _))
      (pss_one (ps_raise2 X_TooLong rfl takesE (hr.mono (by omega)) (by rfl) (pa_cons pe_int (pa_cons pe_int pa_nil))))
      pss_nil)
    (pss_cons (ps_set (i := 1) sc_p_checked_rows.nd rfl (Or.inl rfl) (pe_m1 PySem.F.slot_str_split PySem.F.type_str_split mtSplitS (pv 0) pe_str))
    (pss_cons (ps_for (passes_of rfl) rfl (pi_enumk (by rfl) T.z_enumerate (pa_cons (pv 1) pa_nil) (by decide) (by decide)) (pg_tup (by rfl) (pgs_cons (pg_name (i := 2) sc_p_checked_rows.nd rfl (Or.inl rfl)) (pgs_cons (pg_name (i := 3) sc_p_checked_rows.nd rfl (Or.inl rfl)) pgs_nil)))
      (pss_cons (ps_set (i := 4) sc_p_checked_rows.nd rfl (Or.inl rfl) (pe_cal G_p_other_index (hr.mono (by omega)) (by rfl) (pa_cons (pv 3) pa_nil)))
      (pss_one (ps_if (pt_cmpR op_ge (pv 4) pe_int (nomark _))
        (pss_one (ps_raise2 X_BadSign rfl takesE (hr.mono (by omega)) (by rfl) (pa_cons (pv 2) (pa_cons (pe_op op_add (pv 4) pe_int) pa_nil))))
        pss_nil))))
    (pss_cons (ps_for (passes_of rfl) rfl (pi_enumk (by rfl) T.z_enumerate (pa_cons (pv 1) pa_nil) (by decide) (by decide)) (pg_tup (by rfl) (pgs_cons (pg_name (i := 2) sc_p_checked_rows.nd rfl (Or.inl rfl)) (pgs_cons (pg_name (i := 3) sc_p_checked_rows.nd rfl (Or.inl rfl)) pgs_nil)))
      (pss_one (ps_if (pt_cmpR op_gt (pe_callB call_lenS (by rfl) T.z_len (by decide +kernel) (pa_cons (pv 3) pa_nil)) (pe_gv g_MOST_COLUMNS (by rfl)) (nomark _))
        (pss_one (ps_raise2 X_TooLong rfl takesE (hr.mono (by omega)) (by rfl) (pa_cons (pv 2) (pa_cons (pe_op op_add (pe_gv g_MOST_COLUMNS (by rfl)) pe_int) pa_nil))))
        pss_nil)))
    (pss_one (ps_ret (pv 1))))))), ?_⟩
    tm_at "goo"
    · have e : chkM a = some ⟨.long, 1, 1⟩ := by unfold chkM; rw [if_pos (by omega)]
      rw [e] at k
      exact k xd _ (by rw [hd]; rfl) fr
    · have e : chkM a = match badSign 1 (rowsOf a) with
          | some e => some e
          | none => badLong 1 (rowsOf a) := by unfold chkM; rw [if_neg (by omega)]
      rw [e] at k
      have rl : ∀ r ∈ rowsOf a, r.length ≤ 6000 := fun r m => by have := rows_len m; omega
      have rlen : (strsV (rowsOf a)).length = (rowsOf a).length := by unfold strsV; simp
      refine spl_step (c := 10) hz (by decide +kernel) (by decide) fun p H1 np hp f1 => ?_
      rw [← rowsOf_splC] at hp
      refine ⟨_, rfl, p, strsV (rowsOf a), rfl, .of hp, ?_⟩
      have row : ∀ (i : Nat) {x : V}, (strsV (rowsOf a))[i]? = some x → ∃ r, x = .str (S r) ∧ (rowsOf a)[i]? = some r := fun i x h => by
        unfold strsV at h
        rw [List.getElem?_map] at h
        cases e : (rowsOf a)[i]? with
        | none => rw [e] at h; cases h
        | some r => rw [e] at h; exact ⟨r, (Option.some.inj h).symm, rfl⟩
      refine for_it (walk_enumK (xs := strsV (rowsOf a))) (CK1 a p H) ?_ (fun i σ H2 _ h => ?_) (fun i x σ H2 H3 hi hp hy => ?_) (fun σ H2 hp => ?_)
      · unfold CK1
        exact ⟨⟨_, _, _, rfl⟩, hp, f1, fun r m => by simp at m⟩
      · unfold CK1 at h
        exact .of h.2.1
      · unfold CK1 at hp
        obtain ⟨⟨x1, x2, x3, rfl⟩, hp2, f2, no⟩ := hp
        obtain ⟨T, x, rfl, hT, rfl, hx⟩ := hy
        obtain ⟨r, rfl, hr2⟩ := row _ hx
        have rz := rl r (List.mem_of_getElem? hr2)
        have fT : Fr [] H2 (upd H2 T (.tup [.int (1 + (i : Nat)), .str (S r)])) := Fr.new hT
        refine ⟨T, _, rfl, SqT.of upd_same, rfl, ?_⟩
        refine ⟨_, _, rfl, _, _, rfl, rfl, ?_⟩
        obtain ⟨sp, sl⟩ := split_at hr2
        tm_at "goo"
        · rename_i H4 f4
          cases e4 : firstBad r with
          | none => rw [e4] at er; subst er; exact absurd c (by decide)
          | some j =>
            rw [e4] at er
            subst er
            have e5 : badSign 1 (rowsOf a) = some ⟨.sign, 1 + i, j + 1⟩ := by
              rw [sp, badSign_snoc no e4, sl]
            rw [e5] at k
            exact k xd _ (by rw [hd]; rfl) (((f2.comp0 fT).comp0 f4).comp0 fr)
        · have e4 : firstBad r = none := by
            cases e4 : firstBad r with
            | none => rfl
            | some j => rw [e4] at er; subst er; exact absurd (show (0 : Int) ≤ ((j : Nat) : Int) by omega) c
          show CK1 a p H (i + 1) _ _
          unfold CK1
          exact ⟨⟨_, _, _, rfl⟩, fr.at0 (fT.at0 hp2), (f2.comp0 fT).comp0 fr, take_all hr2 no e4⟩
      · unfold CK1 at hp
        obtain ⟨⟨x1, x2, x3, rfl⟩, hp2, f2, no⟩ := hp
        rw [List.take_of_length_le (by omega)] at no
        rw [badSign_none no] at k
        refine ⟨_, rfl, p, strsV (rowsOf a), rfl, .of hp2, ?_⟩
        refine for_it (walk_enumK (xs := strsV (rowsOf a))) (CK2 a p H) ?_ (fun i σ H2 _ h => ?_) (fun i x σ H3 H4 hi hp hy => ?_) (fun σ H3 hp => ?_)
        · unfold CK2
          exact ⟨⟨_, _, _, rfl⟩, hp2, f2, fun r m => by simp at m⟩
        · unfold CK2 at h
          exact .of h.2.1
        · unfold CK2 at hp
          obtain ⟨⟨x1, x2, x3, rfl⟩, hp3, f3, no2⟩ := hp
          obtain ⟨T, x, rfl, hT, rfl, hx⟩ := hy
          obtain ⟨r, rfl, hr2⟩ := row _ hx
          have rz := rl r (List.mem_of_getElem? hr2)
          have fT : Fr [] H3 (upd H3 T (.tup [.int (1 + (i : Nat)), .str (S r)])) := Fr.new hT
          refine ⟨T, _, rfl, SqT.of upd_same, rfl, ?_⟩
          refine ⟨_, _, rfl, _, _, rfl, rfl, ?_⟩
          obtain ⟨sp, sl⟩ := split_at hr2
          tm_at "goo"
          · have e5 : badLong 1 (rowsOf a) = some ⟨.long, 1 + i, 121⟩ := by
              rw [sp, badLong_snoc no2 (by omega), sl]
            rw [e5] at k
            exact k xd _ (by rw [hd]; rfl) ((f3.comp0 fT).comp0 fr)
          · show CK2 a p H (i + 1) _ _
            unfold CK2
            exact ⟨⟨_, _, _, rfl⟩, fT.at0 hp3, f3.comp0 fT, take_all hr2 no2 (by omega)⟩
        · unfold CK2 at hp
          obtain ⟨⟨x1, x2, x3, rfl⟩, hp3, f3, no2⟩ := hp
          rw [List.take_of_length_le (by omega)] at no2
          rw [badLong_none no2] at k
          tm_at "goo"
          exact k p _ np hp3 f3
end
end TK
set_option Elab.async false
set_option linter.all false
set_option maxRecDepth 100000
set_option maxHeartbeats 4000000
namespace TK
open PySem PySem.Spec PyProof.Rows L2 M14 SX K4
def tot : List (List Nat) → Nat
  | [] => 0
  | r :: rs => (12 * r.length + 1) + tot rs
theorem tot_rows (a : List Nat) : tot (rowsOf a) ≤ 12 * a.length + 1 := by
  induction a with
  | nil => exact Nat.le_refl _
  | cons c t ih =>
    unfold rowsOf
    split
    · show (12 * 0 + 1) + tot (rowsOf t) ≤ 12 * (t.length + 1) + 1
      omega
    · split
      · rename_i x xs e
        rw [e] at ih
        have ih : (12 * x.length + 1) + tot xs ≤ 12 * t.length + 1 := ih
        show (12 * (x.length + 1) + 1) + tot xs ≤ 12 * (t.length + 1) + 1
        omega
      · show (12 * 1 + 1) + 0 ≤ 12 * (t.length + 1) + 1
        omega
theorem fr_hide {M : List Addr} {H H1 H2 : Hp} (f0 : Fr [] H H1) (f : Fr M H1 H2) (n : ∀ a ∈ M, H a = none) : Fr [] H H2 :=
  ⟨fun a o h _ => f.kp a o (f0.at0 h) (fun m => by rw [n a m] at h; cases h), fun _ h => nomatch h⟩
theorem tokM_chk {a : List Nat} {e : Er} (h : chkM a = some e) : tokM a = .error e := by
  unfold chkM at h
  unfold tokM
  by_cases c : 6000 < a.length
  · rw [if_pos c] at h ⊢
    exact congrArg Except.error (Option.some.inj h)
  · rw [if_neg c] at h ⊢
    cases e2 : badSign 1 (rowsOf a) with
    | some e3 => rw [e2] at h; exact congrArg Except.error (Option.some.inj h)
    | none =>
      rw [e2] at h
      have h : badLong 1 (rowsOf a) = some e := h
      simp only
      rw [h]
theorem tokM_go {a : List Nat} (h : chkM a = none) : a.length ≤ 6000 ∧ tokM a = match rowsM 1 (rowsOf a) St0 with
      | .error e => .error e
      | .ok st => closeM st := by
  unfold chkM at h
  unfold tokM
  by_cases c : 6000 < a.length
  · rw [if_pos c] at h; cases h
  · refine ⟨by omega, ?_⟩
    rw [if_neg c] at h ⊢
    cases e2 : badSign 1 (rowsOf a) with
    | some e3 => rw [e2] at h; cases h
    | none =>
      rw [e2] at h
      have h : badLong 1 (rowsOf a) = none := h
      simp only
      rw [h] <;> rfl
theorem mk_si {K : PySem.W.Frag} {C : Addr} {H : Hp} {Q : VK} (k : ∀ o m z p H1, H o = none → H m = none → H z = none → H p = none → ScA K C H1 o m z p St0 → Fr [] H H1 → Q (.ref o) H1) : rxMk C (spSi C) E0 [] H Q := by
  unfold rxMk
  intro o dx no nd ne
  refine si_step upd_same fun m z p H1 nm nz np ho hm hz hp mz mp zp f1 => ⟨rfl, ?_⟩
  have nn : ∀ {b : Addr}, upd (upd H dx (.own o)) o (.ins C dx []) b = none → H b = none := fun h => updFree (updFree h)
  have f0 : Fr [] H (upd (upd H dx (.own o)) o (.ins C dx [])) := (Fr.new nd).comp0 (Fr.new (by rw [upd_ne (Ne.symm ne)]; exact no))
  refine k o m z p H1 no (nn nm) (nn nz) (nn np) ⟨⟨dx, ho⟩, ⟨[], hm, .nil⟩, hz, ⟨[], hp, .nil⟩, mz, mp, zp⟩ (fr_hide f0 f1 fun b m => ?_)
  rw [List.mem_singleton.mp m]
  exact no
theorem chk_step {CA : Cl → Addr} {a : List Nat} {H : Hp} {Q : VK} {E : XK} (hz : a.length ≤ 1000000) (k : match chkM a with
  | some e => BadX CA e [] H E
  | none => ∀ p H', H p = none → H' p = some (.lst (strsV (rowsOf a))) → Fr [] H H' → Q (.ref p) H') : spChk CA ([.str (S a)] ++ []) H Q E := by
  unfold spChk
  exact ⟨a, rfl, hz, k⟩
@[irreducible] def spTok (K : PySem.W.Frag) (CA : Cl → Addr) : Sp := fun vs H Q E => ∃ a : List Nat, vs = [.str (S a)] ∧ a.length ≤ 1000000 ∧ match tokM a with
  | .error e => BadX CA e [] H E
  | .ok ts => ∀ p H' xs, H p = none → H' p = some (.lst xs) → Dens K H' xs ts → Fr [] H H' → Q (.ref p) H'
theorem tok_step {K : PySem.W.Frag} {CA : Cl → Addr} {a : List Nat} {H : Hp} {Q : VK} {E : XK} (hz : a.length ≤ 1000000) (k : match tokM a with
  | .error e => BadX CA e [] H E
  | .ok ts => ∀ p H' xs, H p = none → H' p = some (.lst xs) → Dens K H' xs ts → Fr [] H H' → Q (.ref p) H') : spTok K CA ([.str (S a)] ++ []) H Q E := by
  unfold spTok
  exact ⟨a, rfl, hz, k⟩
@[irreducible] def TKM (K : PySem.W.Frag) (C o m z p q : Addr) (a : List Nat) (H : Hp) (i : Nat) (σ : L2.St) (H' : Hp) : Prop := ∃ (st1 : St) (n : Nat) (x1 x2 : Option V), σ = [some (.str (S a)), some (.ref o), x1, x2] ∧ ScA K C H' o m z p st1 ∧ StOk st1 n ∧ n + tot ((rowsOf a).drop i) ≤ 500000 ∧ Tks st1.marks ∧ H' q = some (.lst (strsV (rowsOf a))) ∧ Fr [] H H' ∧ rowsM 1 (rowsOf a) St0 = rowsM (1 + i) ((rowsOf a).drop i) st1
section
variable {P : Program} {w : World} {K : PySem.W.Frag} {mg : Str → Option Value} {base : Heap}
set_option hygiene false
local macro_rules | `(tactic| tm_at "sc") => `(tactic| (first | omega | (simp only [List.length_cons, List.length_nil, List.length_map, List.length_set, List.length_append]; omega) | (simp only [List.length_map] at h1 ⊢; omega) | (simp only [List.length_map] at c ⊢; omega) | with_reducible assumption | exact And.intro (by omega) (by omega) | exact Or.inl (And.intro (by omega) (by omega)) | exact Or.inr (And.intro (by omega) (by omega)) | decide +kernel | exact len1000 (by simp) | rfl | fail "no way"))
local macro_rules | `(tactic| tm_at "sc1") => `(tactic| (focus (simp; done)))
local macro_rules | `(tactic| tm_at "ne") => `(tactic| (first | assumption | exact Ne.symm (by assumption) | (apply Box.ne2; assumption; tm_at "hp") | (apply Ne.symm; apply Box.ne2; assumption; tm_at "hp") | (apply ne_of_none2; assumption; tm_at "hp") | (apply Ne.symm; apply ne_of_none2; assumption; tm_at "hp") | fail "no way"))
local macro_rules | `(tactic| tm_at "f0") => `(tactic| (first | assumption | (apply Fr.new; assumption) | fail "no way"))
local macro_rules | `(tactic| tm_at "hp") => `(tactic| (first | assumption | exact upd_same | (apply SqL.of; first | assumption | exact upd_same) | (apply Fr.at0; tm_at "f0"; tm_at "hp") | (apply Fr.at1n; assumption; tm_at "ne"; tm_at "hp") | (apply sqFr0; tm_at "f0"; tm_at "hp") | (apply sqFr1; assumption; tm_at "ne"; tm_at "hp") | (apply Box.fr0; tm_at "f0"; tm_at "hp") | (apply Box.fr1; assumption; tm_at "ne"; tm_at "hp") | (apply Den.fr; tm_at "f0"; tm_at "hp") | (apply Dens.fr; tm_at "f0"; tm_at "hp") | fail "no way"))
local macro_rules | `(tactic| tm_at "free0") => `(tactic| (first | assumption | (apply updFree; assumption) | (apply updFree; apply updFree; assumption) | (apply updFree; apply updFree; apply updFree; assumption) | (apply updFree; apply updFree; apply updFree; apply updFree; assumption) | fail "no way"))
local macro_rules | `(tactic| tm_at "free") => `(tactic| (first | tm_at "free0" | (apply Fr.free; assumption; tm_at "free0") | (apply Box.free; assumption; tm_at "fr"; tm_at "free0") | (apply Fr.free; assumption; apply Fr.free; assumption; tm_at "free0") | fail "no way"))
local macro_rules | `(tactic| tm_at "fr") => `(tactic| (first | assumption | exact Fr.refl0 _ | exact Fr.refl (Box.nt (by assumption)) | (refine Fr.comp0 ?_ (by tm_at "f0"); tm_at "fr") | (refine Fr.comp ?_ (by assumption); tm_at "fr") | (refine Fr.compN ?_ (by assumption) (by tm_at "free"); tm_at "fr") | fail "no way"))
local macro_rules | `(tactic| tm_at "call") => `(tactic| fail "no call")
local macro_rules | `(tactic| tm_at "call") => `(tactic| (apply take_step; tm_at "hp"; tm_at "sc"; tm_at "sc"; intro r H1 h0 h1 hB fr))
local macro_rules | `(tactic| tm_at "ty") => `(tactic| (first | assumption | exact .base .non | exact .base (.bl _) | exact .base (.int _) | exact .base (.str _) | (apply TyX.base; apply TyOf.lst; tm_at "hp") | (apply TyX.base; apply TyOf.tup; tm_at "hp") | fail "no way"))
local macro_rules | `(tactic| tm_at "pre") => `(tactic| fail "none")
local macro_rules | `(tactic| tm_at "go1") => `(tactic| (first | tm_at "pre" | refine ⟨_, rfl, ?_⟩ | refine ⟨_, _, rfl, rfl, ?_⟩ | (apply set_step; tm_at "hp"; tm_at "sc"; tm_at "sc"; intro H1 hp fr) | (with_reducible refine iteDI ?_ ?_ <;> intro c) | (with_reducible refine iteDS ?_ ?_ <;> intro c) | (with_reducible refine iteD ?_ ?_ <;> intro c) | (with_reducible refine iteEM ?_ ?_ <;> intro c) | (with_reducible refine iteE ?_ ?_ <;> intro c) | with_reducible refine iteN ?_ | with_reducible refine iteF ?_ | with_reducible refine iteT ?_ | (refine fun (p : Addr) (np : _ = (none : Option HO)) => ?_; fail_if_success (refine ⟨fun (_ _ : Nat) (_ : Hp) => True, ?_⟩)) | (apply isi_tt; tm_at "ty"; focus (decide +kernel)) | (apply isi_ff; tm_at "ty"; focus (decide +kernel)) | (apply sl_step; tm_at "hp"; intro qq H1 ms nq hq fr) | (apply sum_step; tm_at "hp"; intro i) | (apply tru_step; tm_at "hp") | (apply len_step; tm_at "hp") | (apply lenq_step; assumption) | (apply ixq_step; assumption; tm_at "sc"; tm_at "sc"; intro v hv) | (apply lst_step; tm_at "hp") | (apply tupl_step; tm_at "hp") | (apply ixr_step; tm_at "hp"; exact rfl) | (apply ix0_step; tm_at "hp") | (apply ix1_step; tm_at "hp") | (apply ix2_step; tm_at "hp") | (apply ixi_step; tm_at "hp"; tm_at "sc"; tm_at "sc"; intro n hn hn') | (apply ixl_step; tm_at "hp"; tm_at "sc"; tm_at "sc"; intro v hv) | (apply ixt_step; tm_at "hp"; tm_at "sc"; tm_at "sc"; intro v hm hv) | (apply in_step; tm_at "hp"; rfl; rfl) | (apply cat_step; tm_at "hp"; tm_at "hp"; tm_at "sc") | (apply catT_step; tm_at "hp"; tm_at "hp"; tm_at "sc1") | (apply tyL_and; tm_at "hp") | (apply app_step; tm_at "hp"; tm_at "sc"; intro H1 hp fr) | tm_at "call" | refine ⟨⟨_, rfl⟩, ?_⟩ | (apply ixs_step; tm_at "sc"; tm_at "sc"; tm_at "sc"; intro ch) | refine .inl ⟨_, rfl, ?_⟩ | refine .inr ⟨_, rfl, ?_⟩ | (apply And.intro; tm_at "sc") | (with_reducible refine wayB ?_ ?_ <;> intro c) | fail "no way"))
local macro_rules | `(tactic| tm_at "go") => `(tactic| (repeat tm_at "go1"))
local macro_rules | `(tactic| tm_at "goo") => `(tactic| (repeat' tm_at "go1"))
local macro_rules | `(tactic| tm_at "den") => `(tactic| (first | assumption | exact Den.str _ | exact Den.int _ | exact Den.bl _ | exact Den.non | (apply Den.tups; tm_at "hp"; tm_at "dens") | (apply Den.fr; tm_at "f0"; tm_at "den") | fail "no way"))
local macro_rules | `(tactic| tm_at "dens") => `(tactic| (first | assumption | exact Dens.nil | (apply Dens.cons; tm_at "den"; tm_at "dens") | (apply Dens.fr; tm_at "f0"; tm_at "dens") | fail "no way"))
local macro_rules | `(tactic| tm_at "ix") => `(tactic| (apply Ix.mk; tm_at "hp"; tm_at "ne"; assumption; assumption))
local macro_rules | `(tactic| tm_at "dep") => `(tactic| (first | assumption | exact Dep.int | exact Dep.str | exact Dep.bl | exact Dep.non | (apply Dep.tup; tm_at "dlen"; tm_at "deps") | (apply Dep.mono; assumption; decide) | fail "no way"))
local macro_rules | `(tactic| tm_at "deps") => `(tactic| (first | assumption | exact memN | (apply memC; tm_at "dep"; tm_at "deps") | fail "no way"))
local macro_rules | `(tactic| tm_at "dlen") => `(tactic| (first | assumption | (focus (simp; done)) | omega | fail "no way"))
local macro_rules | `(tactic| tm_at "pre") => `(tactic| (apply rep_step; tm_at "hp"; tm_at "sc"; tm_at "sc"; intro rp H1 nrp hrp fr))

local macro_rules | `(tactic| tm_at "lits") => `(tactic| (try simp only [l_nl, l_open, l_close, l_sp, l_quo, l_bs, l_minus, l_zero, l_empty, l_n] at c))
local macro_rules | `(tactic| tm_at "pre") => `(tactic| (first | (apply slm_step; tm_at "sc"; tm_at "sc"; tm_at "sc") | (apply slf_step; tm_at "sc"; tm_at "sc") | (apply slt_step; tm_at "sc"; tm_at "sc") | (with_reducible refine iteEqZ ?_ ?_ <;> (intro c; tm_at "lits")) | (apply catS_step; tm_at "sc") | (apply inD_step) | (apply ordS_step) | (apply intS_step; assumption) | (apply sign_step) | (apply lenS_step; tm_at "sc")))
local macro_rules | `(tactic| tm_at "pre") => `(tactic| (apply while_go))
local macro_rules | `(tactic| tm_at "pre") => `(tactic| (apply ixS_step; tm_at "sc"; tm_at "sc"; assumption))
local macro_rules | `(tactic| tm_at "pre") => `(tactic| (apply appB_step; tm_at "hp"; tm_at "sc"; intro H1 hp fr))

local macro_rules | `(tactic| tm_at "lk") => `(tactic| (first | with_reducible exact lookup_eq | ((with_reducible apply lookup_ne); (focus (decide +kernel)); tm_at "lk") | assumption | rfl | fail "no way"))
local macro_rules | `(tactic| tm_at "pf") => `(tactic| (first | with_reducible exact putF_nil | with_reducible exact putF_eq | ((with_reducible apply putF_ne); (focus (decide +kernel)); tm_at "pf") | fail "no way"))
local macro_rules | `(tactic| tm_at "fl") => `(tactic| (first | assumption | focus (simp only [List.length_cons, List.length_nil]; omega) | focus (simp only [List.length_cons, List.length_nil]; done) | focus (decide) | focus (simp; done) | focus (simp; omega) | fail "no way"))
local macro_rules | `(tactic| tm_at "pre") => `(tactic| (apply fld_step; tm_at "hp"; assumption; assumption; tm_at "lk"))
local macro_rules | `(tactic| tm_at "pre") => `(tactic| (apply putf_step; tm_at "hp"; assumption; assumption; tm_at "fl"; tm_at "pf"; intro H1 hp fr))
local macro_rules | `(tactic| tm_at "pre") => `(tactic| (apply aug_step; tm_at "hp"; assumption; assumption; tm_at "lk"))
local macro_rules | `(tactic| tm_at "pre") => `(tactic| (apply put2_step; tm_at "hp"; tm_at "fl"; tm_at "pf"; intro H1 hp fr))
local macro_rules | `(tactic| tm_at "pre") => `(tactic| (apply dget_step; tm_at "hp"; tm_at "lk"))
local macro_rules | `(tactic| tm_at "pre") => `(tactic| (apply dput_step; tm_at "hp"; (focus (omega)); intro H1 hp fr))
local macro_rules | `(tactic| tm_at "pre") => `(tactic| (apply mth_step; tm_at "hp"; tm_at "lk"))
local macro_rules | `(tactic| tm_at "pre") => `(tactic| (apply lenD_step; tm_at "hp"))
local macro_rules | `(tactic| tm_at "pre") => `(tactic| (apply addI_step))
local macro_rules | `(tactic| tm_at "pre") => `(tactic| (apply newD_step; intro dn H1 nd hp fr))
local macro_rules | `(tactic| tm_at "fr2") => `(tactic| (first | assumption | (apply Fr.appMb; assumption; (focus (simp; done)); tm_at "fr2") | (apply Fr.app0b; tm_at "f0"; tm_at "fr2") | (apply Fr.appNb; assumption; tm_at "free"; tm_at "fr2") | fail "no way"))
local macro_rules | `(tactic| tm_at "ne") => `(tactic| (apply ne_role; assumption; assumption; (focus (decide))))
local macro_rules | `(tactic| tm_at "pre") => `(tactic| (apply dnotin_step; tm_at "hp"))
local macro_rules | `(tactic| tm_at "pre") => `(tactic| (apply din_step; tm_at "hp"))

set_option pp.deepTerms false
set_option pp.deepTerms.threshold 3
abbrev s_SourceError_init : Stmt := inClass (top 12) 0
theorem sc_SourceError_init : FnScope ["self", "line", "column"] ["self", "line", "column"] (defScope s_SourceError_init) := ⟨rfl, rfl, rfl, by decide +kernel, rfl, by decide +kernel, by decide +kernel⟩

theorem ok_xi {f : Addr} {fd : FuncData} (D : FnP K "__init__" "SourceError.__init__" s_SourceError_init f fd) : FnOk P w K mg base CX0 1 f fd ["self", "line", "column"] (spXi K) := by
  refine D.ok sc_SourceError_init (fun vs H Q E h => ?_) (fun cdv A outer s H vs Q E hr h => ?_) <;> unfold spXi at h
  · obtain ⟨a, C, x, y, rfl, _⟩ := h
    rfl
  · obtain ⟨a, C, x, y, rfl, xf, ha, k⟩ := h
    suffices hx : ∃ t, PSs (cxOf CX0 P w K mg base ["self", "line", "column"] "SourceError.__init__" (defScope s_SourceError_init) f cdv A outer s H E).nox (defBody s_SourceError_init) t ∧ t { nx := fun _ H' => Q .non H', rt := Q } (L2.start ["self", "line", "column"] [.ref a, x, y]) H by
      obtain ⟨t, h1, h2⟩ := hx
      exact ⟨t, h1.nox, h2⟩
    refine ⟨_, pss_cons (ps_ost (pv 0) (pv 1)) (pss_one (ps_ost (pv 0) (pv 2))), ?_⟩
    refine ⟨_, rfl, _, rfl, a, C, rfl, xf.oc, xf.nl, .inl ⟨ha, fun d nd ne => ?_⟩⟩
    exact ⟨_, rfl, _, rfl, a, C, rfl, xf.oc, xf.nc, .inr ⟨d, [("line", x)], upd_same, by rw [upd_ne ne]; exact upd_same, Nat.succ_le_succ (Nat.zero_le _), k d nd ne⟩⟩
abbrev s_p_tokens : Stmt := top 30
theorem sc_p_tokens : FnScope ["text", "scanner", "line", "row"] ["text"] (defScope s_p_tokens) := ⟨rfl, rfl, rfl, by decide +kernel, rfl, by decide +kernel, by decide +kernel⟩

theorem ok_tok {C : Addr} {CA : Cl → Addr} (F : ScF K C) (T : K4.Bl mg) (G_Scanner : CalC P w K mg base 1 C "Scanner" ["self"] (spSi C)) (G_p_checked_rows : CalX P w K mg base 3 "_checked_rows" ["text"] (spChk CA)) (M_read_row : CalMX P w K mg base 5 C "read_row" ["self", "row", "line"] (spRow K CA C)) (M_close_text : CalMX P w K mg base 3 C "close_text" ["self"] (spClo K CA C)) (D : Def1 K mg "tokens" s_p_tokens) : CalX P w K mg base 6 "tokens" ["text"] (spTok K CA) := by
  refine D.calX sc_p_tokens (fun _ _ _ _ _ _ us hl => match us, hl with | [_], _ => rfl) (fun vs H Q E h => ?_) (fun f cdv A outer s H vs Q E hr h => ?_) <;> unfold spTok at h
  · obtain ⟨a, rfl, _⟩ := h
    rfl
  · obtain ⟨a, rfl, hz, k⟩ := h
    have c1 := F.cl
    have n1 := F.n1
    have n2 := F.n2
    have n3 := F.n3
    have n4 := F.n4
    refine ⟨_, (pss_cons (ps_set (i := 1) sc_p_tokens.nd rfl (Or.inl rfl) (pe_mkx0 G_Scanner (hr.mono (by omega)) (by rfl)))
    (pss_cons (ps_for (passes_of rfl) rfl (pi_enumk (by rfl) T.z_enumerate (pa_cons (pe_calX G_p_checked_rows takesE (hr.mono (by omega)) (by rfl) (pa_cons (pv 0) pa_nil)) pa_nil) (by decide) (by decide)) (pg_tup (by rfl) (pgs_cons (pg_name (i := 2) sc_p_tokens.nd rfl (Or.inl rfl)) (pgs_cons (pg_name (i := 3) sc_p_tokens.nd rfl (Or.inl rfl)) pgs_nil)))
      (pss_one (ps_expr (pe_mcalX (pv 1) M_read_row takesE (hr.mono (by omega)) (pa_cons (pv 3) (pa_cons (pv 2) pa_nil))))))
    (pss_cons (ps_expr (pe_mcalX0 (pv 1) M_close_text takesE (hr.mono (by omega))))
    (pss_one (ps_ret (pe_fldx K (pv 1) rfl)))))), ?_⟩
    show rxMk C (spSi C) E0 [] H _
    refine mk_si (K := K) fun o m z p H1 no nm nz np sc f1 => ?_
    have nM : ∀ b ∈ [o, m, z, p], H b = none := fun b mb => by
      simp only [List.mem_cons, List.not_mem_nil, or_false] at mb
      rcases mb with rfl | rfl | rfl | rfl <;> assumption
    refine ⟨_, rfl, ?_⟩
    refine chk_step hz ?_
    cases ec : chkM a with
    | some e =>
      rw [tokM_chk ec] at k
      exact fun d H2 hd f2 => k d H2 hd (f1.comp0 f2)
    | none =>
      obtain ⟨hz6, et⟩ := tokM_go ec
      rw [et] at k
      intro q H2 nq hq f2
      have sc2 := sc.fr0 f2
      have nin : q ∉ [o, m, z, p] := fun mb => by
        obtain ⟨dx, h1⟩ := sc.ob
        obtain ⟨_, h2, _⟩ := sc.mks
        have h3 := sc.id
        obtain ⟨_, h4, _⟩ := sc.opn
        simp only [List.mem_cons, List.not_mem_nil, or_false] at mb
        rcases mb with rfl | rfl | rfl | rfl
        · rw [h1] at nq; cases nq
        · rw [h2] at nq; cases nq
        · rw [h3] at nq; cases nq
        · rw [h4] at nq; cases nq
      have rlen : (strsV (rowsOf a)).length = (rowsOf a).length := by unfold strsV; simp
      refine ⟨q, strsV (rowsOf a), rfl, .of hq, ?_⟩
      refine for_it (walk_enumK (xs := strsV (rowsOf a))) (TKM K C o m z p q a H) ?_ (fun i σ H3 _ h => ?_) (fun i x σ H3 H4 hi hp hy => ?_) (fun σ H3 hp => ?_)
      · unfold TKM
        exact ⟨St0, 0, _, _, rfl, sc2, stOk0, by have := tot_rows a; rw [List.drop_zero]; omega, (fun t h => nomatch h), hq, f1.comp0 f2, rfl⟩
      · unfold TKM at h
        obtain ⟨_, _, _, _, _, _, _, _, _, h, _⟩ := h
        exact .of h
      · unfold TKM at hp
        obtain ⟨st1, n, x1, x2, rfl, sc3, ok3, hn, tks, hq3, f3, er⟩ := hp
        obtain ⟨U, x, rfl, hU, rfl, hx⟩ := hy
        obtain ⟨r, rfl, hr2⟩ : ∃ r, x = V.str (S r) ∧ (rowsOf a)[i]? = some r := by
          unfold strsV at hx
          rw [List.getElem?_map] at hx
          cases e : (rowsOf a)[i]? with
          | none => rw [e] at hx; cases hx
          | some r => rw [e] at hx; exact ⟨r, (Option.some.inj hx).symm, rfl⟩
        have rz : r.length ≤ 6000 := by have := rows_len (List.mem_of_getElem? hr2); omega
        have fU : Fr [] H3 (upd H3 U (.tup [.int (1 + (i : Nat)), .str (S r)])) := Fr.new hU
        have sc4 := sc3.fr0 fU
        obtain ⟨dx4, ho4⟩ := sc4.ob
        unfold fsOf at ho4
        refine ⟨U, _, rfl, SqT.of upd_same, rfl, ?_⟩
        refine ⟨_, _, rfl, _, _, rfl, rfl, ?_⟩
        tm_at "goo"
        have ed : (rowsOf a).drop i = r :: (rowsOf a).drop (i + 1) := by
          have hi' : i < (rowsOf a).length := by omega
          rw [List.drop_eq_getElem_cons hi']
          rw [List.getElem?_eq_getElem hi'] at hr2
          rw [Option.some.inj hr2]
        rw [ed] at hn er
        have hn : n + ((12 * r.length + 1) + tot ((rowsOf a).drop (i + 1))) ≤ 500000 := hn
        show spRow K CA C [.ref o, .str (S r), .int ((1 + i : Nat) : Int)] _ _ _
        refine row_step rz sc4 (ok3.mono (by omega)) ?_
        cases e5 : rowM (1 + i) r st1 with
        | error e =>
          have e6 : rowsM (1 + i) (r :: (rowsOf a).drop (i + 1)) st1 = .error e := by unfold rowsM; rw [e5]
          rw [er, e6] at k
          exact fun d H5 hd f5 => k d H5 hd (fr_hide (f3.comp0 fU) f5 nM)
        | ok st5 =>
          have e6 : rowsM (1 + i) (r :: (rowsOf a).drop (i + 1)) st1 = rowsM (1 + (i + 1)) ((rowsOf a).drop (i + 1)) st5 := by
            rw [rowsM, e5]
            rfl
          intro H5 sc5 f5
          show TKM K C o m z p q a H (i + 1) _ _
          unfold TKM
          exact ⟨st5, _, _, _, rfl, sc5, rowM_ok ok3 e5, by omega, rowM_tk tks e5, f5.kp _ _ (fU.at0 hq3) nin, fr_hide (f3.comp0 fU) f5 nM, by rw [er, e6]⟩
      · unfold TKM at hp
        obtain ⟨st1, n, x1, x2, rfl, sc3, ok3, hn, tks, hq3, f3, er⟩ := hp
        obtain ⟨dx4, ho4⟩ := sc3.ob
        unfold fsOf at ho4
        have e6 : rowsM (1 + (strsV (rowsOf a)).length) ((rowsOf a).drop (strsV (rowsOf a)).length) st1 = .ok st1 := by
          rw [List.drop_eq_nil_iff.mpr (by omega)]
          rfl
        rw [er, e6] at k
        tm_at "goo"
        show spClo K CA C [.ref o] _ _ _
        refine clo_step sc3 (ok3.mono (by omega)) tks ?_
        cases e7 : closeM st1 with
        | error e =>
          have k : BadX CA e [] H E := by simpa only [e7] using k
          exact fun d H5 hd f5 => k d H5 hd (fr_hide f3 f5 nM)
        | ok ts =>
          have k : ∀ p H' xs, H p = none → H' p = some (.lst xs) → Dens K H' xs ts → Fr [] H H' → Q (.ref p) H' := by simpa only [e7] using k
          intro st5 H5 em sc5 f5
          obtain ⟨dx5, ho5⟩ := sc5.ob
          obtain ⟨xs5, hm5, dm5⟩ := sc5.mks
          unfold fsOf at ho5
          tm_at "goo"
          exact k m _ xs5 nm hm5 (by rw [← em]; exact dm5) (fr_hide f3 f5 nM)
end
end TK
set_option Elab.async false
set_option linter.all false
set_option maxRecDepth 100000
set_option maxHeartbeats 4000000
namespace TK
open PySem PySem.Spec PyProof.Rows L2 M14 SX K4
/-! ### the box of draws: a list of three ints -/
def Box (H : Hp) (b : Addr) : Prop := ∃ i0 i1 i2 : Int, H b = some (.lst [.int i0, .int i1, .int i2])
theorem Box.fr0 {H H' : Hp} {b : Addr} (e : Fr [] H H') (h : Box H b) : Box H' b := let ⟨i0, i1, i2, h⟩ := h; ⟨i0, i1, i2, e.at0 h⟩
theorem Box.fr1 {H H' : Hp} {b p : Addr} (e : Fr [p] H H') (n : b ≠ p) (h : Box H b) : Box H' b := let ⟨i0, i1, i2, h⟩ := h; ⟨i0, i1, i2, e.at1 h n⟩
theorem Box.has {H : Hp} {b : Addr} (h : Box H b) : ∃ o, H b = some o := let ⟨_, _, _, h⟩ := h; ⟨_, h⟩
theorem Box.nt {H : Hp} {b : Addr} (h : Box H b) : ∀ a ∈ [b], ∀ (xs : List V), H a ≠ some (HO.tup xs) := fun a m xs e => by
  obtain ⟨_, _, _, h⟩ := h
  have z : a = b := by simpa using m
  rw [z, h] at e; cases e
theorem Box.free {H H' : Hp} {b l : Addr} (B : Box H' b) (e : Fr [b] H H') (h : H' l = none) : H l = none := let ⟨_, q⟩ := B.has; e.freeb q h
theorem Box.ne {H : Hp} {b l : Addr} (B : Box H b) (h : H l = none) : l ≠ b := fun e => by
  obtain ⟨o, q⟩ := B.has
  rw [e, q] at h; cases h
theorem Box.ne2 {H : Hp} {b l : Addr} (h : H l = none) (B : Box H b) : l ≠ b := B.ne h
@[irreducible] def spTake : Sp := fun vs H Q _ => ∃ (b : Addr) (n : Int), vs = [.ref b, .int n] ∧ Box H b ∧ 0 < n ∧ n < 1073741824 ∧ ∀ (r : Int) H', 0 ≤ r → r < n → Box H' b → Fr [b] H H' → Q (.int r) H'
theorem take_step {b : Addr} {n : Int} {H : Hp} {Q : VK} {E : XK} (hB : Box H b) (h0 : 0 < n) (h1 : n < 1073741824) (k : ∀ (r : Int) H', 0 ≤ r → r < n → Box H' b → Fr [b] H H' → Q (.int r) H') : spTake ([.ref b, .int n] ++ []) H Q E := by
  unfold spTake
  exact ⟨b, n, rfl, hB, h0, h1, k⟩
section
variable {P : Program} {w : World} {K : PySem.W.Frag} {mg : Str → Option Value} {base : Heap}
set_option hygiene false
local macro_rules | `(tactic| tm_at "sc") => `(tactic| (first | omega | (simp only [List.length_cons, List.length_nil, List.length_map, List.length_set, List.length_append]; omega) | (simp only [List.length_map] at h1 ⊢; omega) | (simp only [List.length_map] at c ⊢; omega) | with_reducible assumption | exact And.intro (by omega) (by omega) | exact Or.inl (And.intro (by omega) (by omega)) | exact Or.inr (And.intro (by omega) (by omega)) | decide +kernel | exact len1000 (by simp) | rfl | fail "no way"))
local macro_rules | `(tactic| tm_at "sc1") => `(tactic| (focus (simp; done)))
local macro_rules | `(tactic| tm_at "ne") => `(tactic| (first | assumption | exact Ne.symm (by assumption) | (apply Box.ne2; assumption; tm_at "hp") | (apply Ne.symm; apply Box.ne2; assumption; tm_at "hp") | (apply ne_of_none2; assumption; tm_at "hp") | (apply Ne.symm; apply ne_of_none2; assumption; tm_at "hp") | fail "no way"))
local macro_rules | `(tactic| tm_at "f0") => `(tactic| (first | assumption | (apply Fr.new; assumption) | fail "no way"))
local macro_rules | `(tactic| tm_at "hp") => `(tactic| (first | assumption | exact upd_same | (apply SqL.of; first | assumption | exact upd_same) | (apply Fr.at0; tm_at "f0"; tm_at "hp") | (apply Fr.at1n; assumption; tm_at "ne"; tm_at "hp") | (apply sqFr0; tm_at "f0"; tm_at "hp") | (apply sqFr1; assumption; tm_at "ne"; tm_at "hp") | (apply Box.fr0; tm_at "f0"; tm_at "hp") | (apply Box.fr1; assumption; tm_at "ne"; tm_at "hp") | (apply Den.fr; tm_at "f0"; tm_at "hp") | (apply Dens.fr; tm_at "f0"; tm_at "hp") | fail "no way"))
local macro_rules | `(tactic| tm_at "free0") => `(tactic| (first | assumption | (apply updFree; assumption) | (apply updFree; apply updFree; assumption) | (apply updFree; apply updFree; apply updFree; assumption) | (apply updFree; apply updFree; apply updFree; apply updFree; assumption) | fail "no way"))
local macro_rules | `(tactic| tm_at "free") => `(tactic| (first | tm_at "free0" | (apply Fr.free; assumption; tm_at "free0") | (apply Box.free; assumption; tm_at "fr"; tm_at "free0") | (apply Fr.free; assumption; apply Fr.free; assumption; tm_at "free0") | fail "no way"))
local macro_rules | `(tactic| tm_at "fr") => `(tactic| (first | assumption | exact Fr.refl0 _ | exact Fr.refl (Box.nt (by assumption)) | (refine Fr.comp0 ?_ (by tm_at "f0"); tm_at "fr") | (refine Fr.comp ?_ (by assumption); tm_at "fr") | (refine Fr.compN ?_ (by assumption) (by tm_at "free"); tm_at "fr") | fail "no way"))
local macro_rules | `(tactic| tm_at "call") => `(tactic| fail "no call")
local macro_rules | `(tactic| tm_at "call") => `(tactic| (apply take_step; tm_at "hp"; tm_at "sc"; tm_at "sc"; intro r H1 h0 h1 hB fr))
local macro_rules | `(tactic| tm_at "ty") => `(tactic| (first | assumption | exact .base .non | exact .base (.bl _) | exact .base (.int _) | exact .base (.str _) | (apply TyX.base; apply TyOf.lst; tm_at "hp") | (apply TyX.base; apply TyOf.tup; tm_at "hp") | fail "no way"))
local macro_rules | `(tactic| tm_at "pre") => `(tactic| fail "none")
local macro_rules | `(tactic| tm_at "go1") => `(tactic| (first | tm_at "pre" | refine ⟨_, rfl, ?_⟩ | refine ⟨_, _, rfl, rfl, ?_⟩ | (apply set_step; tm_at "hp"; tm_at "sc"; tm_at "sc"; intro H1 hp fr) | (with_reducible refine iteDI ?_ ?_ <;> intro c) | (with_reducible refine iteDS ?_ ?_ <;> intro c) | (with_reducible refine iteD ?_ ?_ <;> intro c) | (with_reducible refine iteEM ?_ ?_ <;> intro c) | (with_reducible refine iteE ?_ ?_ <;> intro c) | with_reducible refine iteN ?_ | with_reducible refine iteF ?_ | with_reducible refine iteT ?_ | (refine fun (p : Addr) (np : _ = (none : Option HO)) => ?_; fail_if_success (refine ⟨fun (_ _ : Nat) (_ : Hp) => True, ?_⟩)) | (apply isi_tt; tm_at "ty"; focus (decide +kernel)) | (apply isi_ff; tm_at "ty"; focus (decide +kernel)) | (apply sl_step; tm_at "hp"; intro qq H1 ms nq hq fr) | (apply sum_step; tm_at "hp"; intro i) | (apply tru_step; tm_at "hp") | (apply len_step; tm_at "hp") | (apply lenq_step; assumption) | (apply ixq_step; assumption; tm_at "sc"; tm_at "sc"; intro v hv) | (apply lst_step; tm_at "hp") | (apply tupl_step; tm_at "hp") | (apply ixr_step; tm_at "hp"; exact rfl) | (apply ix0_step; tm_at "hp") | (apply ix1_step; tm_at "hp") | (apply ix2_step; tm_at "hp") | (apply ixi_step; tm_at "hp"; tm_at "sc"; tm_at "sc"; intro n hn hn') | (apply ixl_step; tm_at "hp"; tm_at "sc"; tm_at "sc"; intro v hv) | (apply ixt_step; tm_at "hp"; tm_at "sc"; tm_at "sc"; intro v hm hv) | (apply in_step; tm_at "hp"; rfl; rfl) | (apply cat_step; tm_at "hp"; tm_at "hp"; tm_at "sc") | (apply catT_step; tm_at "hp"; tm_at "hp"; tm_at "sc1") | (apply tyL_and; tm_at "hp") | (apply app_step; tm_at "hp"; tm_at "sc"; intro H1 hp fr) | tm_at "call" | refine ⟨⟨_, rfl⟩, ?_⟩ | (apply ixs_step; tm_at "sc"; tm_at "sc"; tm_at "sc"; intro ch) | refine .inl ⟨_, rfl, ?_⟩ | refine .inr ⟨_, rfl, ?_⟩ | (apply And.intro; tm_at "sc") | (with_reducible refine wayB ?_ ?_ <;> intro c) | fail "no way"))
local macro_rules | `(tactic| tm_at "go") => `(tactic| (repeat tm_at "go1"))
local macro_rules | `(tactic| tm_at "goo") => `(tactic| (repeat' tm_at "go1"))
local macro_rules | `(tactic| tm_at "den") => `(tactic| (first | assumption | exact Den.str _ | exact Den.int _ | exact Den.bl _ | exact Den.non | (apply Den.tups; tm_at "hp"; tm_at "dens") | (apply Den.fr; tm_at "f0"; tm_at "den") | fail "no way"))
local macro_rules | `(tactic| tm_at "dens") => `(tactic| (first | assumption | exact Dens.nil | (apply Dens.cons; tm_at "den"; tm_at "dens") | (apply Dens.fr; tm_at "f0"; tm_at "dens") | fail "no way"))
local macro_rules | `(tactic| tm_at "ix") => `(tactic| (apply Ix.mk; tm_at "hp"; tm_at "ne"; assumption; assumption))
local macro_rules | `(tactic| tm_at "dep") => `(tactic| (first | assumption | exact Dep.int | exact Dep.str | exact Dep.bl | exact Dep.non | (apply Dep.tup; tm_at "dlen"; tm_at "deps") | (apply Dep.mono; assumption; decide) | fail "no way"))
local macro_rules | `(tactic| tm_at "deps") => `(tactic| (first | assumption | exact memN | (apply memC; tm_at "dep"; tm_at "deps") | fail "no way"))
local macro_rules | `(tactic| tm_at "dlen") => `(tactic| (first | assumption | (focus (simp; done)) | omega | fail "no way"))
local macro_rules | `(tactic| tm_at "pre") => `(tactic| (apply rep_step; tm_at "hp"; tm_at "sc"; tm_at "sc"; intro rp H1 nrp hrp fr))

local macro_rules | `(tactic| tm_at "lits") => `(tactic| (try simp only [l_nl, l_open, l_close, l_sp, l_quo, l_bs, l_minus, l_zero, l_empty, l_n] at c))
local macro_rules | `(tactic| tm_at "pre") => `(tactic| (first | (apply slm_step; tm_at "sc"; tm_at "sc"; tm_at "sc") | (apply slf_step; tm_at "sc"; tm_at "sc") | (apply slt_step; tm_at "sc"; tm_at "sc") | (with_reducible refine iteEqZ ?_ ?_ <;> (intro c; tm_at "lits")) | (apply catS_step; tm_at "sc") | (apply inD_step) | (apply ordS_step) | (apply intS_step; assumption) | (apply sign_step) | (apply lenS_step; tm_at "sc")))
local macro_rules | `(tactic| tm_at "pre") => `(tactic| (apply while_go))
local macro_rules | `(tactic| tm_at "pre") => `(tactic| (apply ixS_step; tm_at "sc"; tm_at "sc"; assumption))
local macro_rules | `(tactic| tm_at "pre") => `(tactic| (apply appB_step; tm_at "hp"; tm_at "sc"; intro H1 hp fr))

set_option pp.deepTerms false
set_option pp.deepTerms.threshold 3
abbrev s_take : Stmt := top 39
theorem sc_take : FnScope ["_law_bag_here", "_law_size", "_law_got", "_law_first", "_law_second"] ["_law_bag_here", "_law_size"] (defScope s_take) := ⟨rfl, rfl, rfl, by decide +kernel, rfl, by decide +kernel, by decide +kernel⟩

theorem ok_tak (T : K4.Bl mg) (D : Def1 K mg "_law_take" s_take) : Cal P w K mg base 1 "_law_take" ["_law_bag_here", "_law_size"] spTake := by
  refine D.cal sc_take (fun _ _ _ _ _ _ us hl => match us, hl with | [_, _], _ => rfl) (fun vs H Q E h => ?_) (fun f cdv A outer s H vs Q E hr h => ?_) <;> unfold spTake at h
  · obtain ⟨b, n, rfl, _⟩ := h
    rfl
  · obtain ⟨b, n, rfl, ⟨i0, i1, i2, hb⟩, n0, n1, k⟩ := h
    refine ⟨_, (pss_cons (ps_asg (pe_op op_add (pe_ix (ixL K) (pv 0) pe_int (fun _ _ => rfl)) pe_int) (pg_sub (pv 0) pe_int setL))
    (pss_cons (ps_if (pt_cmpR op_gt (pe_ix (ixL K) (pv 0) pe_int (fun _ _ => rfl)) pe_int (nomark _))
      (pss_cons (ps_set (i := 2) sc_take.nd rfl (Or.inl rfl) (pe_op op_mod (pe_callTy call_int1 (by rfl) T.z_int (by decide +kernel) (pa_cons (pe_ix (ixL K) (pv 0) pe_int (fun _ _ => rfl)) pa_nil)) (pv 1)))
      (pss_cons (ps_asg (pe_op op_fdiv (pe_ix (ixL K) (pv 0) pe_int (fun _ _ => rfl)) (pv 1)) (pg_sub (pv 0) pe_int setL))
      (pss_one (ps_ret (pv 2)))))
      pss_nil)
    (pss_cons (ps_set (i := 3) sc_take.nd rfl (Or.inl rfl) (pe_op op_mod (pe_callTy call_int1 (by rfl) T.z_int (by decide +kernel) (pa_cons (pe_op op_add (pe_op op_mul (pe_ix (ixL K) (pv 0) pe_int (fun _ _ => rfl)) pe_int) (pe_op op_mul (pe_ix (ixL K) (pv 0) pe_int (fun _ _ => rfl)) pe_int)) pa_nil)) pe_int))
    (pss_cons (ps_set (i := 4) sc_take.nd rfl (Or.inl rfl) (pe_op op_mod (pe_callTy call_int1 (by rfl) T.z_int (by decide +kernel) (pa_cons (pe_op op_add (pe_op op_add (pe_op op_mul (pe_op op_fdiv (pv 3) pe_int) (pv 3)) (pe_op op_mul (pe_ix (ixL K) (pv 0) pe_int (fun _ _ => rfl)) pe_int)) pe_int) pa_nil)) pe_int))
    (pss_one (ps_ret (pe_op op_mod (pe_op op_fdiv (pe_op op_mod (pe_callTy call_int1 (by rfl) T.z_int (by decide +kernel) (pa_cons (pe_op op_add (pe_op op_mul (pv 4) pe_int) (pe_ix (ixL K) (pv 0) pe_int (fun _ _ => rfl))) pa_nil)) pe_int) pe_int) (pv 1)))))))), ?_⟩
    have hB : Box H b := ⟨_, _, _, hb⟩
    tm_at "goo"
    all_goals (refine k _ _ (Int.emod_nonneg _ (by omega)) (Int.emod_lt_of_pos _ n0) ?_ (by tm_at "fr"))
    · exact ⟨_, _, _, hp⟩
    · exact ⟨_, _, _, hp⟩
@[irreducible] def BMid (l : Addr) (at_ : Int) (c : Int) (H : Hp) (_ : Nat) (σ : L2.St) (H' : Hp) : Prop := ∃ (s : Int) (x : Option V), σ = [some (.ref l), some (.int at_), some (.int c), some (.int s), x] ∧ H' = H
@[irreducible] def BM1 (l : Addr) (at_ : Int) (H : Hp) (σ : L2.St) (H' : Hp) : Prop := ∃ c : Int, σ = [some (.ref l), some (.int at_), some (.int c), none, none] ∧ H' = H
theorem BM1.of {l : Addr} {at_ : Int} {H : Hp} {σ : L2.St} {c : Int} (e : σ = [some (.ref l), some (.int at_), some (.int c), none, none]) : BM1 l at_ H σ H := by
  unfold BM1
  exact ⟨c, e, rfl⟩
@[irreducible] def spBag (K : PySem.W.Frag) : Sp := fun vs H Q _ => ∃ (l : Addr) (ns : List Int) (z : Int), vs = [.ref l, .int z] ∧ SqL K H l (ns.map V.int) ∧ 0 ≤ z ∧ z ≤ 1 ∧ ∀ p H', H p = none → Box H' p → Fr [] H H' → Q (.ref p) H'
theorem bag_step {K : PySem.W.Frag} {l : Addr} {ns : List Int} {z : Int} {H : Hp} {Q : VK} {E : XK} (h : SqL K H l (ns.map V.int)) (h0 : 0 ≤ z) (h1 : z ≤ 1) (k : ∀ p H', H p = none → Box H' p → Fr [] H H' → Q (.ref p) H') : spBag K ([.ref l, .int z] ++ []) H Q E := by
  unfold spBag
  exact ⟨l, ns, z, rfl, h, h0, h1, k⟩
abbrev s_bag : Stmt := top 38
theorem sc_bag : FnScope ["_law_script", "_law_at", "_law_cell", "_law_seed", "_law_one"] ["_law_script", "_law_at"] (defScope s_bag) := ⟨rfl, rfl, rfl, by decide +kernel, rfl, by decide +kernel, by decide +kernel⟩

theorem ok_bag (T : K4.Bl mg) (D : Def1 K mg "_law_bag" s_bag) : Cal P w K mg base 1 "_law_bag" ["_law_script", "_law_at"] (spBag K) := by
  refine D.cal sc_bag (fun _ _ _ _ _ _ us hl => match us, hl with | [_, _], _ => rfl) (fun vs H Q E h => ?_) (fun f cdv A outer s H vs Q E hr h => ?_) <;> unfold spBag at h
  · obtain ⟨b, n, z, rfl, _⟩ := h
    rfl
  · obtain ⟨l, ns, z, rfl, hs, h0, h1, k⟩ := h
    have hlen : (ns.map V.int).length = ns.length := by simp
    refine ⟨_, (pss_cons (ps_set (i := 2) sc_bag.nd rfl (Or.inl rfl) pe_int)
    (C8.pss_cut (ps_if (pt_cmpR op_lt (pv 1) (pe_callB (cLen K) (by rfl) T.z_len (by decide +kernel) (pa_cons (pv 0) pa_nil)) (nomark _))
      (pss_one (ps_set (i := 2) sc_bag.nd rfl (Or.inl rfl) (pe_ix (ixL K) (pv 0) (pv 1) (fun _ _ => rfl))))
      pss_nil)
    (C8.pss_cut (ps_if (pt_cmpR op_lt (pv 2) pe_int (nomark _))
      (pss_one (ps_set (i := 2) sc_bag.nd rfl (Or.inl rfl) (pe_op op_sub pe_int (pv 2))))
      pss_nil)
    (pss_cons (ps_set (i := 3) sc_bag.nd rfl (Or.inl rfl) (pe_op op_mul pe_int (pe_op op_add (pv 1) pe_int)))
    (pss_cons (ps_for PassesOwn.never rfl (pi_list (pe_slice (slL K) (pv 0) po_none (po_some pe_int))) (pg_name (i := 4) sc_bag.nd rfl (Or.inl rfl))
      (pss_one (ps_set (i := 3) sc_bag.nd rfl (Or.inl rfl) (pe_op op_mod (pe_callTy call_int1 (by rfl) T.z_int (by decide +kernel) (pa_cons (pe_op op_add (pe_op op_add (pe_op op_mul (pv 3) pe_int) (pe_op op_mod (pe_callTy call_int1 (by rfl) T.z_int (by decide +kernel) (pa_cons (pv 4) pa_nil)) pe_int)) pe_int) pa_nil)) pe_int))))
    (pss_cons (ps_if (pt_cmpR op_lt (pv 2) (pe_op op_pow pe_int pe_int) (nomark _))
      (pss_one (ps_set (i := 2) sc_bag.nd rfl (Or.inl rfl) pe_int))
      pss_nil)
    (pss_one (ps_ret (pe_lst (pa_cons (pv 2) (pa_cons (pv 3) (pa_cons pe_int pa_nil)))))))))))), ?_⟩
    refine ⟨BM1 l z H, ?_, fun σ H1 hw => ?_⟩
    · tm_at "goo"
      · exact BM1.of rfl
      · exact BM1.of rfl
    · unfold BM1 at hw
      obtain ⟨c0, rfl, rfl⟩ := hw
      refine ⟨BM1 l z H1, ?_, fun σ H1 hw => ?_⟩
      · tm_at "goo"
        · exact BM1.of rfl
        · exact BM1.of rfl
      · unfold BM1 at hw
        obtain ⟨c1, rfl, rfl⟩ := hw
        tm_at "goo"
        refine ⟨⟨_, SqL.of hq⟩, ?_⟩
        refine for_it (walk_list (xs := ms.map V.int)) (BMid l z c1 H1) ?_ (fun _ _ _ _ hp => ?_) (fun i x σ H3 H4 hi hp hy => ?_) (fun σ H3 hp => ?_)
        · unfold BMid
          exact ⟨_, none, rfl, rfl⟩
        · unfold BMid at hp
          obtain ⟨_, _, _, rfl⟩ := hp
          exact SqL.of hq
        · unfold BMid at hp
          obtain ⟨s0, x0, rfl, rfl⟩ := hp
          obtain ⟨rfl, hx⟩ := hy
          obtain ⟨m, rfl⟩ : ∃ m, x = V.int m := by
            rw [List.getElem?_map] at hx
            cases e : ms[i]? with
            | none => rw [e] at hx; cases hx
            | some m => rw [e] at hx; exact ⟨m, (Option.some.inj hx).symm⟩
          show tAsg _ _ _ _ _
          tm_at "goo"
          show BMid l z c1 _ (i + 1) _ _
          unfold BMid
          exact ⟨_, _, rfl, rfl⟩
        · unfold BMid at hp
          obtain ⟨s0, x0, rfl, rfl⟩ := hp
          tm_at "goo"
          all_goals exact k _ _ (Fr.free (by assumption) (by assumption)) ⟨_, _, _, upd_same⟩ (Fr.comp0 (by assumption) (Fr.new (by assumption)))
end
end TK
set_option Elab.async false
set_option linter.all false
set_option maxRecDepth 100000
set_option maxHeartbeats 4000000
namespace TK
open PySem PySem.Spec PyProof.Rows L2 M14 SX K4
/-! ### texts of which no more than their size is told -/
theorem z_S (z : Str) : V.str z = V.str (S z.cps.toList) := by rw [S_tl]
theorem z_len (z : Str) : z.cps.toList.length = z.length := by rw [← S_len, S_tl]
theorem catZ_step {x y : Str} {H : Hp} {Q : VK} (h : x.length + y.length ≤ 1000000) (q : ∀ z : Str, z.length = x.length + y.length → Q (.str z) H) : rCatS (.str x) (.str y) H Q := by
  unfold rCatS
  exact ⟨_, _, rfl, rfl, Nat.le_trans h (by decide), q _ (Str.length_append x y)⟩
theorem ixZ_step {x : Str} {i : Int} {H : Hp} {Q : VK} (hz : x.length ≤ 1000000) (h0 : 0 ≤ i) (h1 : i < x.length) (q : ∀ z : Str, z.length = 1 → Q (.str z) H) : rxS (.str x) (.int i) H Q := by
  have hl : i.toNat < x.cps.toList.length := by rw [z_len]; omega
  rw [z_S x]
  exact ixS_step (by rw [z_len]; exact hz) h0 (List.getElem?_eq_getElem hl) (q _ (by rw [S_len]; rfl))
theorem lenZ_step {x : Str} {H : Hp} {Q : VK} (hz : x.length ≤ 1000000) (h : Q (.int x.length) H) : rLenS [.str x] H Q := by
  unfold rLenS
  exact ⟨_, rfl, Nat.le_trans hz (by decide), h⟩
def DrZ (n : Nat) (b : Addr) (H : Hp) (Q : VK) : Prop := Box H b ∧ ∀ (z : Str) H', z.length ≤ n → Box H' b → Fr [b] H H' → Q (.str z) H'
@[irreducible] def spDr (n : Nat) : Sp := fun vs H Q _ => ∃ b : Addr, vs = [.ref b] ∧ DrZ n b H Q
theorem dr_step {n : Nat} {b : Addr} {H : Hp} {Q : VK} {E : XK} (hB : Box H b) (k : ∀ (z : Str) H', z.length ≤ n → Box H' b → Fr [b] H H' → Q (.str z) H') : spDr n ([.ref b] ++ []) H Q E := by
  unfold spDr
  exact ⟨b, rfl, hB, k⟩
@[irreducible] def spK (v : V) : Sp := fun vs H Q _ => vs = [] ∧ Q v H
theorem k_step {v : V} {H : Hp} {Q : VK} {E : XK} (k : Q v H) : spK v [] H Q E := by
  unfold spK
  exact ⟨rfl, k⟩
abbrev zAl0 : Str := Str.ofString " !\"#$&'()*+,-./0123456789:;<=>?@ABCDEFGHIJKLMNOPQRSTUVWXYZ[\\]^_"
abbrev zAl1 : Str := Str.ofString "`abcdefghijklmnopqrstuvwxyz{|}~\n"
/-- the signs that are allowed -/
def alS : List Nat := zAl0.cps.toList ++ zAl1.cps.toList
theorem al_len : alS.length = 95 := by decide +kernel
theorem al_in {c : Nat} : decide (c ∈ alS) = okc c := by
  by_cases h : c < 128
  · have all : ∀ d : Nat, d < 128 → decide (d ∈ alS) = okc d := by decide +kernel
    exact all c h
  · have lt : ∀ x ∈ alS, x < 128 := by decide +kernel
    have n1 : ¬ c ∈ alS := fun m => h (lt c m)
    rw [decide_eq_false n1]
    unfold okc
    simp; omega
section
variable {P : Program} {w : World} {K : PySem.W.Frag} {mg : Str → Option Value} {base : Heap}
set_option hygiene false
local macro_rules | `(tactic| tm_at "sc") => `(tactic| (first | omega | (simp only [List.length_cons, List.length_nil, List.length_map, List.length_set, List.length_append]; omega) | (simp only [List.length_map] at h1 ⊢; omega) | (simp only [List.length_map] at c ⊢; omega) | with_reducible assumption | exact And.intro (by omega) (by omega) | exact Or.inl (And.intro (by omega) (by omega)) | exact Or.inr (And.intro (by omega) (by omega)) | decide +kernel | exact len1000 (by simp) | rfl | fail "no way"))
local macro_rules | `(tactic| tm_at "sc1") => `(tactic| (focus (simp; done)))
local macro_rules | `(tactic| tm_at "ne") => `(tactic| (first | assumption | exact Ne.symm (by assumption) | (apply Box.ne2; assumption; tm_at "hp") | (apply Ne.symm; apply Box.ne2; assumption; tm_at "hp") | (apply ne_of_none2; assumption; tm_at "hp") | (apply Ne.symm; apply ne_of_none2; assumption; tm_at "hp") | fail "no way"))
local macro_rules | `(tactic| tm_at "f0") => `(tactic| (first | assumption | (apply Fr.new; assumption) | fail "no way"))
local macro_rules | `(tactic| tm_at "hp") => `(tactic| (first | assumption | exact upd_same | (apply SqL.of; first | assumption | exact upd_same) | (apply Fr.at0; tm_at "f0"; tm_at "hp") | (apply Fr.at1n; assumption; tm_at "ne"; tm_at "hp") | (apply sqFr0; tm_at "f0"; tm_at "hp") | (apply sqFr1; assumption; tm_at "ne"; tm_at "hp") | (apply Box.fr0; tm_at "f0"; tm_at "hp") | (apply Box.fr1; assumption; tm_at "ne"; tm_at "hp") | (apply Den.fr; tm_at "f0"; tm_at "hp") | (apply Dens.fr; tm_at "f0"; tm_at "hp") | fail "no way"))
local macro_rules | `(tactic| tm_at "free0") => `(tactic| (first | assumption | (apply updFree; assumption) | (apply updFree; apply updFree; assumption) | (apply updFree; apply updFree; apply updFree; assumption) | (apply updFree; apply updFree; apply updFree; apply updFree; assumption) | fail "no way"))
local macro_rules | `(tactic| tm_at "free") => `(tactic| (first | tm_at "free0" | (apply Fr.free; assumption; tm_at "free0") | (apply Box.free; assumption; tm_at "fr"; tm_at "free0") | (apply Fr.free; assumption; apply Fr.free; assumption; tm_at "free0") | fail "no way"))
local macro_rules | `(tactic| tm_at "fr") => `(tactic| (first | assumption | exact Fr.refl0 _ | exact Fr.refl (Box.nt (by assumption)) | (refine Fr.comp0 ?_ (by tm_at "f0"); tm_at "fr") | (refine Fr.comp ?_ (by assumption); tm_at "fr") | (refine Fr.compN ?_ (by assumption) (by tm_at "free"); tm_at "fr") | fail "no way"))
local macro_rules | `(tactic| tm_at "call") => `(tactic| fail "no call")
local macro_rules | `(tactic| tm_at "call") => `(tactic| (apply take_step; tm_at "hp"; tm_at "sc"; tm_at "sc"; intro r H1 h0 h1 hB fr))
local macro_rules | `(tactic| tm_at "ty") => `(tactic| (first | assumption | exact .base .non | exact .base (.bl _) | exact .base (.int _) | exact .base (.str _) | (apply TyX.base; apply TyOf.lst; tm_at "hp") | (apply TyX.base; apply TyOf.tup; tm_at "hp") | fail "no way"))
local macro_rules | `(tactic| tm_at "pre") => `(tactic| fail "none")
local macro_rules | `(tactic| tm_at "go1") => `(tactic| (first | tm_at "pre" | refine ⟨_, rfl, ?_⟩ | refine ⟨_, _, rfl, rfl, ?_⟩ | (apply set_step; tm_at "hp"; tm_at "sc"; tm_at "sc"; intro H1 hp fr) | (with_reducible refine iteDI ?_ ?_ <;> intro c) | (with_reducible refine iteDS ?_ ?_ <;> intro c) | (with_reducible refine iteD ?_ ?_ <;> intro c) | (with_reducible refine iteEM ?_ ?_ <;> intro c) | (with_reducible refine iteE ?_ ?_ <;> intro c) | with_reducible refine iteN ?_ | with_reducible refine iteF ?_ | with_reducible refine iteT ?_ | (refine fun (p : Addr) (np : _ = (none : Option HO)) => ?_; fail_if_success (refine ⟨fun (_ _ : Nat) (_ : Hp) => True, ?_⟩)) | (apply isi_tt; tm_at "ty"; focus (decide +kernel)) | (apply isi_ff; tm_at "ty"; focus (decide +kernel)) | (apply sl_step; tm_at "hp"; intro qq H1 ms nq hq fr) | (apply sum_step; tm_at "hp"; intro i) | (apply tru_step; tm_at "hp") | (apply len_step; tm_at "hp") | (apply lenq_step; assumption) | (apply ixq_step; assumption; tm_at "sc"; tm_at "sc"; intro v hv) | (apply lst_step; tm_at "hp") | (apply tupl_step; tm_at "hp") | (apply ixr_step; tm_at "hp"; exact rfl) | (apply ix0_step; tm_at "hp") | (apply ix1_step; tm_at "hp") | (apply ix2_step; tm_at "hp") | (apply ixi_step; tm_at "hp"; tm_at "sc"; tm_at "sc"; intro n hn hn') | (apply ixl_step; tm_at "hp"; tm_at "sc"; tm_at "sc"; intro v hv) | (apply ixt_step; tm_at "hp"; tm_at "sc"; tm_at "sc"; intro v hm hv) | (apply in_step; tm_at "hp"; rfl; rfl) | (apply cat_step; tm_at "hp"; tm_at "hp"; tm_at "sc") | (apply catT_step; tm_at "hp"; tm_at "hp"; tm_at "sc1") | (apply tyL_and; tm_at "hp") | (apply app_step; tm_at "hp"; tm_at "sc"; intro H1 hp fr) | tm_at "call" | refine ⟨⟨_, rfl⟩, ?_⟩ | (apply ixs_step; tm_at "sc"; tm_at "sc"; tm_at "sc"; intro ch) | refine .inl ⟨_, rfl, ?_⟩ | refine .inr ⟨_, rfl, ?_⟩ | (apply And.intro; tm_at "sc") | (with_reducible refine wayB ?_ ?_ <;> intro c) | fail "no way"))
local macro_rules | `(tactic| tm_at "go") => `(tactic| (repeat tm_at "go1"))
local macro_rules | `(tactic| tm_at "goo") => `(tactic| (repeat' tm_at "go1"))
local macro_rules | `(tactic| tm_at "den") => `(tactic| (first | assumption | exact Den.str _ | exact Den.int _ | exact Den.bl _ | exact Den.non | (apply Den.tups; tm_at "hp"; tm_at "dens") | (apply Den.fr; tm_at "f0"; tm_at "den") | fail "no way"))
local macro_rules | `(tactic| tm_at "dens") => `(tactic| (first | assumption | exact Dens.nil | (apply Dens.cons; tm_at "den"; tm_at "dens") | (apply Dens.fr; tm_at "f0"; tm_at "dens") | fail "no way"))
local macro_rules | `(tactic| tm_at "ix") => `(tactic| (apply Ix.mk; tm_at "hp"; tm_at "ne"; assumption; assumption))
local macro_rules | `(tactic| tm_at "dep") => `(tactic| (first | assumption | exact Dep.int | exact Dep.str | exact Dep.bl | exact Dep.non | (apply Dep.tup; tm_at "dlen"; tm_at "deps") | (apply Dep.mono; assumption; decide) | fail "no way"))
local macro_rules | `(tactic| tm_at "deps") => `(tactic| (first | assumption | exact memN | (apply memC; tm_at "dep"; tm_at "deps") | fail "no way"))
local macro_rules | `(tactic| tm_at "dlen") => `(tactic| (first | assumption | (focus (simp; done)) | omega | fail "no way"))
local macro_rules | `(tactic| tm_at "pre") => `(tactic| (apply rep_step; tm_at "hp"; tm_at "sc"; tm_at "sc"; intro rp H1 nrp hrp fr))

local macro_rules | `(tactic| tm_at "lits") => `(tactic| (try simp only [l_nl, l_open, l_close, l_sp, l_quo, l_bs, l_minus, l_zero, l_empty, l_n] at c))
local macro_rules | `(tactic| tm_at "pre") => `(tactic| (first | (apply slm_step; tm_at "sc"; tm_at "sc"; tm_at "sc") | (apply slf_step; tm_at "sc"; tm_at "sc") | (apply slt_step; tm_at "sc"; tm_at "sc") | (with_reducible refine iteEqZ ?_ ?_ <;> (intro c; tm_at "lits")) | (apply catS_step; tm_at "sc") | (apply inD_step) | (apply ordS_step) | (apply intS_step; assumption) | (apply sign_step) | (apply lenS_step; tm_at "sc")))
local macro_rules | `(tactic| tm_at "pre") => `(tactic| (apply while_go))
local macro_rules | `(tactic| tm_at "pre") => `(tactic| (apply ixS_step; tm_at "sc"; tm_at "sc"; assumption))
local macro_rules | `(tactic| tm_at "pre") => `(tactic| (apply appB_step; tm_at "hp"; tm_at "sc"; intro H1 hp fr))

local macro_rules | `(tactic| tm_at "pre") => `(tactic| (first | (apply catZ_step; (focus (omega)); intro z hz) | (apply ixZ_step; (focus (omega)); (focus (omega)); (focus (omega)); intro z hz) | (apply lenZ_step; (focus (omega)))))
local macro_rules | `(tactic| tm_at "call") => `(tactic| (apply k_step))
set_option pp.deepTerms false
set_option pp.deepTerms.threshold 3
abbrev s_letters : Stmt := top 43
theorem sc_letters : FnScope [] [] (defScope s_letters) := ⟨rfl, rfl, rfl, by decide +kernel, rfl, by decide +kernel, by decide +kernel⟩

theorem ok_let (D : Def1 K mg "_law_letters" s_letters) : Cal P w K mg base 1 "_law_letters" [] (spK (.str zNs)) := by
  refine D.cal sc_letters (fun _ _ _ _ _ _ us hl => match us, hl with | [], _ => rfl) (fun vs H Q E h => ?_) (fun f cdv A outer s H vs Q E hr h => ?_) <;> unfold spK at h
  · obtain ⟨rfl, _⟩ := h
    rfl
  · obtain ⟨rfl, k⟩ := h
    refine ⟨_, (pss_one (ps_ret pe_str)), ?_⟩
    exact k
abbrev s_allowed : Stmt := top 44
theorem sc_allowed : FnScope ["_law_first"] [] (defScope s_allowed) := ⟨rfl, rfl, rfl, by decide +kernel, rfl, by decide +kernel, by decide +kernel⟩

theorem ok_alw (D : Def1 K mg "_law_allowed" s_allowed) : Cal P w K mg base 1 "_law_allowed" [] (spK (.str (S alS))) := by
  refine D.cal sc_allowed (fun _ _ _ _ _ _ us hl => match us, hl with | [], _ => rfl) (fun vs H Q E h => ?_) (fun f cdv A outer s H vs Q E hr h => ?_) <;> unfold spK at h
  · obtain ⟨rfl, _⟩ := h
    rfl
  · obtain ⟨rfl, k⟩ := h
    refine ⟨_, (pss_cons (ps_set (i := 0) sc_allowed.nd rfl (Or.inl rfl) pe_str)
    (pss_one (ps_ret (pe_op op_catS (pv 0) pe_str)))), ?_⟩
    refine ⟨_, rfl, ?_⟩
    show rCatS (.str zAl0) (.str zAl1) H _
    rw [z_S zAl0, z_S zAl1]
    refine catS_step (by decide +kernel) ?_
    exact k
end
end TK
set_option Elab.async false
set_option linter.all false
set_option maxRecDepth 100000
set_option maxHeartbeats 4000000
namespace TK
open PySem PySem.Spec PyProof.Rows L2 M14 SX K4
/-- a text's own facts: a list of texts, each of n signs at most -/
def strZ (n : Nat) (v : V) : Prop := ∃ z : Str, v = .str z ∧ z.length ≤ n
theorem strZ_all {n : Nat} {l : List V} (h : l.all (fun v => match v with | .str z => decide (z.length ≤ n) | _ => false) = true) {i : Nat} {v : V} (m : l[i]? = some v) : strZ n v := by
  have := List.all_eq_true.mp h v (List.mem_of_getElem? m)
  cases v with
  | str z => exact ⟨z, rfl, of_decide_eq_true this⟩
  | _ => cases this
theorem inZ_step {x y : Str} {neg : Bool} {H : Hp} {Q : VK} (hx : x.length = 1) (h : ∀ bl : Bool, Q (.bl bl) H) : rSign neg (.str x) (.str y) H Q := by
  obtain ⟨c, hc⟩ : ∃ c, x.cps.toList = [c] := List.length_eq_one_iff.mp (by rw [z_len]; exact hx)
  rw [z_S x, hc]
  exact sign_step (h _)
abbrev zSg : Str := Str.ofString "//= += -= *= // == != <= >= < > = + - * ( ) [ ] { } , : ."
theorem signs_spl : splC 32 zSg.cps.toList = sgs := by decide +kernel
abbrev zKw0 : Str := Str.ofString "and as break class continue def del elif else except False finally for from global if in is"
abbrev zKw1 : Str := Str.ofString " lambda mod None nonlocal not or pass raise return True try while with yield"
theorem kws_spl : splC 32 (zKw0.cps.toList ++ zKw1.cps.toList) = kws := by decide +kernel
section
variable {P : Program} {w : World} {K : PySem.W.Frag} {mg : Str → Option Value} {base : Heap}
set_option hygiene false
local macro_rules | `(tactic| tm_at "sc") => `(tactic| (first | omega | (simp only [List.length_cons, List.length_nil, List.length_map, List.length_set, List.length_append]; omega) | (simp only [List.length_map] at h1 ⊢; omega) | (simp only [List.length_map] at c ⊢; omega) | with_reducible assumption | exact And.intro (by omega) (by omega) | exact Or.inl (And.intro (by omega) (by omega)) | exact Or.inr (And.intro (by omega) (by omega)) | decide +kernel | exact len1000 (by simp) | rfl | fail "no way"))
local macro_rules | `(tactic| tm_at "sc1") => `(tactic| (focus (simp; done)))
local macro_rules | `(tactic| tm_at "ne") => `(tactic| (first | assumption | exact Ne.symm (by assumption) | (apply Box.ne2; assumption; tm_at "hp") | (apply Ne.symm; apply Box.ne2; assumption; tm_at "hp") | (apply ne_of_none2; assumption; tm_at "hp") | (apply Ne.symm; apply ne_of_none2; assumption; tm_at "hp") | fail "no way"))
local macro_rules | `(tactic| tm_at "f0") => `(tactic| (first | assumption | (apply Fr.new; assumption) | fail "no way"))
local macro_rules | `(tactic| tm_at "hp") => `(tactic| (first | assumption | exact upd_same | (apply SqL.of; first | assumption | exact upd_same) | (apply Fr.at0; tm_at "f0"; tm_at "hp") | (apply Fr.at1n; assumption; tm_at "ne"; tm_at "hp") | (apply sqFr0; tm_at "f0"; tm_at "hp") | (apply sqFr1; assumption; tm_at "ne"; tm_at "hp") | (apply Box.fr0; tm_at "f0"; tm_at "hp") | (apply Box.fr1; assumption; tm_at "ne"; tm_at "hp") | (apply Den.fr; tm_at "f0"; tm_at "hp") | (apply Dens.fr; tm_at "f0"; tm_at "hp") | fail "no way"))
local macro_rules | `(tactic| tm_at "free0") => `(tactic| (first | assumption | (apply updFree; assumption) | (apply updFree; apply updFree; assumption) | (apply updFree; apply updFree; apply updFree; assumption) | (apply updFree; apply updFree; apply updFree; apply updFree; assumption) | fail "no way"))
local macro_rules | `(tactic| tm_at "free") => `(tactic| (first | tm_at "free0" | (apply Fr.free; assumption; tm_at "free0") | (apply Box.free; assumption; tm_at "fr"; tm_at "free0") | (apply Fr.free; assumption; apply Fr.free; assumption; tm_at "free0") | fail "no way"))
local macro_rules | `(tactic| tm_at "fr") => `(tactic| (first | assumption | exact Fr.refl0 _ | exact Fr.refl (Box.nt (by assumption)) | (refine Fr.comp0 ?_ (by tm_at "f0"); tm_at "fr") | (refine Fr.comp ?_ (by assumption); tm_at "fr") | (refine Fr.compN ?_ (by assumption) (by tm_at "free"); tm_at "fr") | fail "no way"))
local macro_rules | `(tactic| tm_at "call") => `(tactic| fail "no call")
local macro_rules | `(tactic| tm_at "call") => `(tactic| (apply take_step; tm_at "hp"; tm_at "sc"; tm_at "sc"; intro r H1 h0 h1 hB fr))
local macro_rules | `(tactic| tm_at "ty") => `(tactic| (first | assumption | exact .base .non | exact .base (.bl _) | exact .base (.int _) | exact .base (.str _) | (apply TyX.base; apply TyOf.lst; tm_at "hp") | (apply TyX.base; apply TyOf.tup; tm_at "hp") | fail "no way"))
local macro_rules | `(tactic| tm_at "pre") => `(tactic| fail "none")
local macro_rules | `(tactic| tm_at "go1") => `(tactic| (first | tm_at "pre" | refine ⟨_, rfl, ?_⟩ | refine ⟨_, _, rfl, rfl, ?_⟩ | (apply set_step; tm_at "hp"; tm_at "sc"; tm_at "sc"; intro H1 hp fr) | (with_reducible refine iteDI ?_ ?_ <;> intro c) | (with_reducible refine iteDS ?_ ?_ <;> intro c) | (with_reducible refine iteD ?_ ?_ <;> intro c) | (with_reducible refine iteEM ?_ ?_ <;> intro c) | (with_reducible refine iteE ?_ ?_ <;> intro c) | with_reducible refine iteN ?_ | with_reducible refine iteF ?_ | with_reducible refine iteT ?_ | (refine fun (p : Addr) (np : _ = (none : Option HO)) => ?_; fail_if_success (refine ⟨fun (_ _ : Nat) (_ : Hp) => True, ?_⟩)) | (apply isi_tt; tm_at "ty"; focus (decide +kernel)) | (apply isi_ff; tm_at "ty"; focus (decide +kernel)) | (apply sl_step; tm_at "hp"; intro qq H1 ms nq hq fr) | (apply sum_step; tm_at "hp"; intro i) | (apply tru_step; tm_at "hp") | (apply len_step; tm_at "hp") | (apply lenq_step; assumption) | (apply ixq_step; assumption; tm_at "sc"; tm_at "sc"; intro v hv) | (apply lst_step; tm_at "hp") | (apply tupl_step; tm_at "hp") | (apply ixr_step; tm_at "hp"; exact rfl) | (apply ix0_step; tm_at "hp") | (apply ix1_step; tm_at "hp") | (apply ix2_step; tm_at "hp") | (apply ixi_step; tm_at "hp"; tm_at "sc"; tm_at "sc"; intro n hn hn') | (apply ixl_step; tm_at "hp"; tm_at "sc"; tm_at "sc"; intro v hv) | (apply ixt_step; tm_at "hp"; tm_at "sc"; tm_at "sc"; intro v hm hv) | (apply in_step; tm_at "hp"; rfl; rfl) | (apply cat_step; tm_at "hp"; tm_at "hp"; tm_at "sc") | (apply catT_step; tm_at "hp"; tm_at "hp"; tm_at "sc1") | (apply tyL_and; tm_at "hp") | (apply app_step; tm_at "hp"; tm_at "sc"; intro H1 hp fr) | tm_at "call" | refine ⟨⟨_, rfl⟩, ?_⟩ | (apply ixs_step; tm_at "sc"; tm_at "sc"; tm_at "sc"; intro ch) | refine .inl ⟨_, rfl, ?_⟩ | refine .inr ⟨_, rfl, ?_⟩ | (apply And.intro; tm_at "sc") | (with_reducible refine wayB ?_ ?_ <;> intro c) | fail "no way"))
local macro_rules | `(tactic| tm_at "go") => `(tactic| (repeat tm_at "go1"))
local macro_rules | `(tactic| tm_at "goo") => `(tactic| (repeat' tm_at "go1"))
local macro_rules | `(tactic| tm_at "den") => `(tactic| (first | assumption | exact Den.str _ | exact Den.int _ | exact Den.bl _ | exact Den.non | (apply Den.tups; tm_at "hp"; tm_at "dens") | (apply Den.fr; tm_at "f0"; tm_at "den") | fail "no way"))
local macro_rules | `(tactic| tm_at "dens") => `(tactic| (first | assumption | exact Dens.nil | (apply Dens.cons; tm_at "den"; tm_at "dens") | (apply Dens.fr; tm_at "f0"; tm_at "dens") | fail "no way"))
local macro_rules | `(tactic| tm_at "ix") => `(tactic| (apply Ix.mk; tm_at "hp"; tm_at "ne"; assumption; assumption))
local macro_rules | `(tactic| tm_at "dep") => `(tactic| (first | assumption | exact Dep.int | exact Dep.str | exact Dep.bl | exact Dep.non | (apply Dep.tup; tm_at "dlen"; tm_at "deps") | (apply Dep.mono; assumption; decide) | fail "no way"))
local macro_rules | `(tactic| tm_at "deps") => `(tactic| (first | assumption | exact memN | (apply memC; tm_at "dep"; tm_at "deps") | fail "no way"))
local macro_rules | `(tactic| tm_at "dlen") => `(tactic| (first | assumption | (focus (simp; done)) | omega | fail "no way"))
local macro_rules | `(tactic| tm_at "pre") => `(tactic| (apply rep_step; tm_at "hp"; tm_at "sc"; tm_at "sc"; intro rp H1 nrp hrp fr))

local macro_rules | `(tactic| tm_at "lits") => `(tactic| (try simp only [l_nl, l_open, l_close, l_sp, l_quo, l_bs, l_minus, l_zero, l_empty, l_n] at c))
local macro_rules | `(tactic| tm_at "pre") => `(tactic| (first | (apply slm_step; tm_at "sc"; tm_at "sc"; tm_at "sc") | (apply slf_step; tm_at "sc"; tm_at "sc") | (apply slt_step; tm_at "sc"; tm_at "sc") | (with_reducible refine iteEqZ ?_ ?_ <;> (intro c; tm_at "lits")) | (apply catS_step; tm_at "sc") | (apply inD_step) | (apply ordS_step) | (apply intS_step; assumption) | (apply sign_step) | (apply lenS_step; tm_at "sc")))
local macro_rules | `(tactic| tm_at "pre") => `(tactic| (apply while_go))
local macro_rules | `(tactic| tm_at "pre") => `(tactic| (apply ixS_step; tm_at "sc"; tm_at "sc"; assumption))
local macro_rules | `(tactic| tm_at "pre") => `(tactic| (apply appB_step; tm_at "hp"; tm_at "sc"; intro H1 hp fr))

local macro_rules | `(tactic| tm_at "pre") => `(tactic| (first | (apply catZ_step; (focus (omega)); intro z hz) | (apply ixZ_step; (focus (omega)); (focus (omega)); (focus (omega)); intro z hz) | (apply lenZ_step; (focus (omega)))))
local macro_rules | `(tactic| tm_at "call") => `(tactic| (apply k_step))
local macro_rules | `(tactic| tm_at "call") => `(tactic| (apply dr_step; tm_at "hp"; intro z H1 hz hB fr))
set_option pp.deepTerms false
set_option pp.deepTerms.threshold 3
@[irreducible] def spSgs : Sp := fun vs H Q _ => vs = [] ∧ ∀ p H', H p = none → H' p = some (.lst (strsV sgs)) → Fr [] H H' → Q (.ref p) H'
theorem sgs_step {H : Hp} {Q : VK} {E : XK} (k : ∀ p H', H p = none → H' p = some (.lst (strsV sgs)) → Fr [] H H' → Q (.ref p) H') : spSgs [] H Q E := by
  unfold spSgs
  exact ⟨rfl, k⟩
@[irreducible] def spKws : Sp := fun vs H Q _ => vs = [] ∧ ∀ p H', H p = none → H' p = some (.lst (strsV kws)) → Fr [] H H' → Q (.ref p) H'
theorem kws_step {H : Hp} {Q : VK} {E : XK} (k : ∀ p H', H p = none → H' p = some (.lst (strsV kws)) → Fr [] H H' → Q (.ref p) H') : spKws [] H Q E := by
  unfold spKws
  exact ⟨rfl, k⟩
abbrev s_signs : Stmt := top 41
theorem sc_signs : FnScope [] [] (defScope s_signs) := ⟨rfl, rfl, rfl, by decide +kernel, rfl, by decide +kernel, by decide +kernel⟩

theorem ok_sgs (D : Def1 K mg "_law_signs" s_signs) : Cal P w K mg base 1 "_law_signs" [] spSgs := by
  refine D.cal sc_signs (fun _ _ _ _ _ _ us hl => match us, hl with | [], _ => rfl) (fun vs H Q E h => ?_) (fun f cdv A outer s H vs Q E hr h => ?_) <;> unfold spSgs at h
  · obtain ⟨rfl, _⟩ := h
    rfl
  · obtain ⟨rfl, k⟩ := h
    refine ⟨_, (pss_one (ps_ret (pe_m1 PySem.F.slot_str_split PySem.F.type_str_split mtSplitS pe_str pe_str))), ?_⟩
    refine ⟨⟨_, rfl⟩, ?_⟩
    show rSpS (.str zSg) [.str (Str.ofString " ")] H _
    rw [z_S zSg]
    refine spl_step (a := zSg.cps.toList) (z := Str.ofString " ") (c := 32) (by decide +kernel) (by decide +kernel) (by decide) fun p H1 np hp f1 => ?_
    rw [signs_spl] at hp
    exact k p H1 np hp f1
abbrev s_keywords : Stmt := top 42
theorem sc_keywords : FnScope ["_law_words"] [] (defScope s_keywords) := ⟨rfl, rfl, rfl, by decide +kernel, rfl, by decide +kernel, by decide +kernel⟩

theorem ok_kws (D : Def1 K mg "_law_keywords" s_keywords) : Cal P w K mg base 1 "_law_keywords" [] spKws := by
  refine D.cal sc_keywords (fun _ _ _ _ _ _ us hl => match us, hl with | [], _ => rfl) (fun vs H Q E h => ?_) (fun f cdv A outer s H vs Q E hr h => ?_) <;> unfold spKws at h
  · obtain ⟨rfl, _⟩ := h
    rfl
  · obtain ⟨rfl, k⟩ := h
    refine ⟨_, (pss_cons (ps_set (i := 0) sc_keywords.nd rfl (Or.inl rfl) pe_str)
    (pss_cons (ps_set (i := 0) sc_keywords.nd rfl (Or.inl rfl) (pe_op op_catS (pv 0) pe_str))
    (pss_one (ps_ret (pe_m1 PySem.F.slot_str_split PySem.F.type_str_split mtSplitS (pv 0) pe_str))))), ?_⟩
    refine ⟨_, rfl, ?_⟩
    show rCatS (.str zKw0) (.str zKw1) H _
    rw [z_S zKw0, z_S zKw1]
    refine catS_step (by decide +kernel) ?_
    refine ⟨_, rfl, ⟨_, rfl⟩, ?_⟩
    refine spl_step (a := zKw0.cps.toList ++ zKw1.cps.toList) (z := Str.ofString " ") (c := 32) (by decide +kernel) (by decide +kernel) (by decide) fun p H1 np hp f1 => ?_
    rw [kws_spl] at hp
    exact k p H1 np hp f1
end
end TK
set_option Elab.async false
set_option linter.all false
set_option maxRecDepth 100000
set_option maxHeartbeats 4000000
/-! Comprehensions: what they leave, with and without draws from the box. -/
namespace M14
open PySem PySem.Spec PyProof.Rows L2

/-- a property of values that stays when other things change -/
def Stab (P : Hp → Nat → V → Prop) : Prop := ∀ (M : List Addr) (H H' : Hp) (i : Nat) (y : V), Fr M H H' → P H i y → P H' i y
theorem stab_v {p : Nat → V → Prop} : Stab fun _ i y => p i y := fun _ _ _ _ _ _ h => h
theorem stab_den {K : PySem.W.Frag} {p : Nat → T → Prop} : Stab fun H i y => ∃ t, Den K H y t ∧ p i t := fun _ _ _ _ _ f ⟨t, d, q⟩ => ⟨t, d.fr f, q⟩
theorem wipe_again (σ : L2.St) (j : Nat) (x : Option V) : wipe ((wipe σ [j]).set j x) [j] = wipe σ [j] := by
  show ((σ.set j none).set j x).set j none = σ.set j none
  rw [List.set_set, List.set_set]
/-- what is kept of i turns -/
def keptN (f : Nat → Bool) (i : Nat) : List Nat := (List.range i).filter f
theorem keptN_yes {f : Nat → Bool} {i : Nat} (h : f i = true) : keptN f (i + 1) = keptN f i ++ [i] := by
  unfold keptN; rw [List.range_succ, List.filter_append]; simp [h]
theorem keptN_no {f : Nat → Bool} {i : Nat} (h : f i = false) : keptN f (i + 1) = keptN f i := by
  unfold keptN; rw [List.range_succ, List.filter_append]; simp [h]
theorem keptN_le (f : Nat → Bool) (i : Nat) : (keptN f i).length ≤ i := by
  unfold keptN
  have := List.length_filter_le f (List.range i)
  simpa using this
theorem keptN_all (i : Nat) : keptN (fun _ => true) i = List.range i := by
  unfold keptN
  exact List.filter_eq_self.mpr fun _ _ => rfl
/-- the kept turns and what was made of them -/
def Made (P : Hp → Nat → V → Prop) (H : Hp) (is : List Nat) (ys : List V) : Prop := ys.length = is.length ∧ ∀ (k i : Nat) (y : V), is[k]? = some i → ys[k]? = some y → P H i y
theorem Made.snoc {P : Hp → Nat → V → Prop} {H : Hp} {is : List Nat} {ys : List V} {i : Nat} {y : V} (m : Made P H is ys) (p : P H i y) : Made P H (is ++ [i]) (ys ++ [y]) := by
  refine ⟨by simp [m.1], fun k l z a b => ?_⟩
  by_cases hk : k < is.length
  · rw [List.getElem?_append_left hk] at a
    rw [List.getElem?_append_left (by rw [m.1]; exact hk)] at b
    exact m.2 k l z a b
  · rw [List.getElem?_append_right (by omega)] at a
    rw [List.getElem?_append_right (by rw [m.1]; omega), m.1] at b
    cases e : k - is.length with
    | zero =>
      rw [e] at a b
      simp at a b
      subst a b
      exact p
    | succ q => rw [e] at a; simp at a
theorem Made.fr {P : Hp → Nat → V → Prop} (st : Stab P) {M : List Addr} {H H' : Hp} {is : List Nat} {ys : List V} (f : Fr M H H') (m : Made P H is ys) : Made P H' is ys := ⟨m.1, fun k i y a b => st M H H' i y f (m.2 k i y a b)⟩
theorem Made.all {P : Hp → Nat → V → Prop} {H : Hp} {n : Nat} {ys : List V} (m : Made P H (List.range n) ys) : ys.length = n ∧ ∀ (i : Nat) (y : V), ys[i]? = some y → P H i y := by
  have l : ys.length = n := by rw [m.1, List.length_range]
  refine ⟨l, fun i y e => m.2 i i y ?_ e⟩
  have hi : i < n := by rw [← l]; exact (List.getElem?_eq_some_iff.mp e).1
  rw [List.getElem?_range hi]
theorem Made.mem {P : Hp → Nat → V → Prop} {H : Hp} {is : List Nat} {ys : List V} (m : Made P H is ys) {y : V} (h : y ∈ ys) : ∃ i, i ∈ is ∧ P H i y := by
  obtain ⟨k, e⟩ := List.getElem?_of_mem h
  have hk : k < is.length := by rw [← m.1]; exact (List.getElem?_eq_some_iff.mp e).1
  exact ⟨is[k], List.getElem_mem hk, m.2 k _ y (List.getElem?_eq_getElem hk) e⟩

/-- what a comprehension may touch (M) and what holds throughout (S) -/
structure Cg (M : List Addr) (S : Hp → Prop) (H1 : Hp) : Prop where
  nt : ∀ a ∈ M, ∀ (xs : List V), H1 a ≠ some (HO.tup xs)
  th : ∀ a ∈ M, H1 a ≠ none
  s0 : ∀ H', Fr [] H1 H' → S H'
  sD : ∀ D H H', H1 D = none → Fr [D] H H' → S H → S H'
theorem Cg.nil (H1 : Hp) : Cg [] (fun _ => True) H1 := ⟨fun _ h => (nomatch h), fun _ h => (nomatch h), fun _ _ => trivial, fun _ _ _ _ _ _ => trivial⟩
theorem Cg.box {H1 : Hp} {b : Addr} (hB : Box H1 b) : Cg [b] (fun H => Box H b) H1 :=
  ⟨hB.nt, fun a m e => (by
    obtain ⟨o, q⟩ := hB.has
    have z : a = b := by simpa using m
    rw [z, q] at e; cases e), fun H' f => hB.fr0 f, fun D H H' n f h => h.fr1 f (hB.ne n).symm⟩
section
variable {te : TE} {tt : TT} {σ : L2.St} {H1 : Hp} {j : Nat} {M : List Addr} {S : Hp → Prop} {f : Nat → Bool} {P : Hp → Nat → V → Prop} {Qd : Addr → Hp → Prop}
/-- between two turns -/
def CI (M : List Addr) (S : Hp → Prop) (H1 : Hp) (f : Nat → Bool) (P : Hp → Nat → V → Prop) (D : Addr) (i : Nat) (H : Hp) : Prop := S H ∧ Fr M H1 H ∧ ∃ ys, H D = some (.lst ys) ∧ Made P H (keptN f i) ys
theorem CI.start (G : Cg M S H1) {D : Addr} (hD : H1 D = none) : CI M S H1 f P D 0 (upd H1 D (.lst [])) :=
  ⟨G.s0 _ (Fr.new hD), (Fr.refl G.nt).comp0 (Fr.new hD), [], upd_same, rfl, fun k i y e _ => by
    have z : keptN f 0 = [] := rfl
    rw [z] at e; simp at e⟩
/-- one turn: the test's answer is f i, the item fits P -/
theorem CI.turn {i n : Nat} {H : Hp} {σ2 : L2.St} {D : Addr} (G : Cg M S H1) (st : Stab P) (hD : H1 D = none) (hi : i < n) (hz : n ≤ 10000) (h : CI M S H1 f P D i H)
    (ht : ∀ R : Bool → Hp → Prop, (∀ H', S H' → Fr M H H' → R (f i) H') → tt σ2 H R)
    (he : f i = true → ∀ H', S H' → Fr M H1 H' → ∀ R : VK, (∀ y H'', S H'' → Fr M H' H'' → P H'' i y → R y H'') → te σ2 H' R) :
    tt σ2 H fun b H3 => if b = true then te σ2 H3 fun y H4 => ∃ acc, H4 D = some (.lst acc) ∧ acc.length < sizeLine ∧ CI M S H1 f P D (i + 1) (upd H4 D (.lst (acc ++ [y]))) else CI M S H1 f P D (i + 1) H3 := by
  obtain ⟨s, fr, ys, e, m⟩ := h
  have dm : D ∉ M := fun z => G.th D z hD
  refine ht _ fun H3 s3 f3 => ?_
  have e3 := f3.kp D _ e dm
  cases hf : f i with
  | false =>
    refine iteF ?_
    exact ⟨s3, fr.comp f3, ys, e3, by rw [keptN_no hf]; exact m.fr st f3⟩
  | true =>
    refine iteT ?_
    refine he hf H3 s3 (fr.comp f3) _ fun y H4 s4 f4 p => ?_
    have e4 := f4.kp D _ e3 dm
    have fp : Fr [D] H4 (upd H4 D (.lst (ys ++ [y]))) := Fr.put e4 (by intro _ z; cases z)
    have ly : ys.length ≤ i := by rw [m.1]; exact keptN_le f i
    refine ⟨ys, e4, Nat.lt_of_le_of_lt (Nat.le_trans ly (Nat.le_of_lt (Nat.lt_of_lt_of_le hi hz))) (by decide), G.sD D _ _ hD fp s4, ((fr.comp f3).comp f4).compN fp hD, ys ++ [y], upd_same, ?_⟩
    rw [keptN_yes hf]
    exact (((m.fr st f3).fr st f4).fr st fp).snoc (st _ _ _ _ _ fp p)
/-- [elt for x in range(lo, lo + n) if test] -/
theorem lcR {lo : Int} {n : Nat} (f : Nat → Bool) (P : Hp → Nat → V → Prop) (G : Cg M S H1) (st : Stab P) (hz : n ≤ 10000)
    (ht : ∀ (i : Nat) H, i < n → S H → Fr M H1 H → ∀ R : Bool → Hp → Prop, (∀ H', S H' → Fr M H H' → R (f i) H') → tt ((wipe σ [j]).set j (some (.int (lo + i)))) H R)
    (he : ∀ (i : Nat) H, i < n → f i = true → S H → Fr M H1 H → ∀ R : VK, (∀ y H', S H' → Fr M H H' → P H' i y → R y H') → te ((wipe σ [j]).set j (some (.int (lo + i)))) H R)
    (hd : ∀ D H' ys, H1 D = none → H' D = some (.lst ys) → Made P H' (keptN f n) ys → S H' → Fr M H1 H' → Qd D H') :
    ∀ D, H1 D = none → ∃ W : Nat → Nat → Hp → Prop, (∃ m, W 0 m (upd H1 D (.lst []))) ∧ ∀ i m H, W i m H →
      ((Itr lo n).stop i H ∧ Qd D H) ∨ ((Itr lo n).go i H ∧ ∃ Nx : Hp → Prop, (∀ H', Nx H' → ∃ m', m' < m ∧ W (i + 1) m' H') ∧ ∀ x H', (Itr lo n).yld i H x H' → gName j x (wipe σ [j]) H' fun σ2 H2 => wipe σ2 [j] = wipe σ [j] ∧ tt σ2 H2 fun b H3 =>
        if b = true then te σ2 H3 fun y H4 => ∃ acc, H4 D = some (.lst acc) ∧ acc.length < sizeLine ∧ Nx (upd H4 D (.lst (acc ++ [y]))) else Nx H3) := fun D hD =>
  lc_range (CI M S H1 f P D) (CI.start G hD) (fun i H hi h => ⟨wipe_again σ j _, CI.turn G st hD hi hz h (ht i H hi h.1 h.2.1) fun hf H' s f' => he i H' hi hf s f'⟩) fun H h => let ⟨s, fr, ys, e, m⟩ := h; hd D H ys hD e m s fr
/-- .. for x in a list -/
theorem lcL {K : PySem.W.Frag} {a : Addr} {xs : List V} (f : Nat → Bool) (P : Hp → Nat → V → Prop) (G : Cg M S H1) (st : Stab P) (hx : SqL K H1 a xs) (na : a ∉ M) (hz : xs.length ≤ 10000)
    (ht : ∀ (i : Nat) (x : V) H, xs[i]? = some x → S H → Fr M H1 H → ∀ R : Bool → Hp → Prop, (∀ H', S H' → Fr M H H' → R (f i) H') → tt ((wipe σ [j]).set j (some x)) H R)
    (he : ∀ (i : Nat) (x : V) H, xs[i]? = some x → f i = true → S H → Fr M H1 H → ∀ R : VK, (∀ y H', S H' → Fr M H H' → P H' i y → R y H') → te ((wipe σ [j]).set j (some x)) H R)
    (hd : ∀ D H' ys, H1 D = none → H' D = some (.lst ys) → Made P H' (keptN f xs.length) ys → S H' → Fr M H1 H' → Qd D H') :
    ∀ D, H1 D = none → ∃ W : Nat → Nat → Hp → Prop, (∃ m, W 0 m (upd H1 D (.lst []))) ∧ ∀ i m H, W i m H →
      ((Itl K a).stop i H ∧ Qd D H) ∨ ((Itl K a).go i H ∧ ∃ Nx : Hp → Prop, (∀ H', Nx H' → ∃ m', m' < m ∧ W (i + 1) m' H') ∧ ∀ x H', (Itl K a).yld i H x H' → gName j x (wipe σ [j]) H' fun σ2 H2 => wipe σ2 [j] = wipe σ [j] ∧ tt σ2 H2 fun b H3 =>
        if b = true then te σ2 H3 fun y H4 => ∃ acc, H4 D = some (.lst acc) ∧ acc.length < sizeLine ∧ Nx (upd H4 D (.lst (acc ++ [y]))) else Nx H3) := fun D hD =>
  lc_list (CI M S H1 f P D) (CI.start G hD) (fun i H _ h => sqFr h.2.1 na hx) (fun i x H hi h => ⟨wipe_again σ j _, CI.turn G st hD (List.getElem?_eq_some_iff.mp hi).1 hz h (ht i x H hi h.1 h.2.1) fun hf H' s f' => he i x H' hi hf s f'⟩) fun H h => let ⟨s, fr, ys, e, m⟩ := h; hd D H ys hD e m s fr
/-- no test -/
theorem tyes_ok {σ2 : L2.St} {H : Hp} (hs : S H) (nt : ∀ a ∈ M, ∀ (xs : List V), H a ≠ some (HO.tup xs)) : ∀ R : Bool → Hp → Prop, (∀ H', S H' → Fr M H H' → R true H') → tYes σ2 H R := fun R k => k H hs (Fr.refl nt)
end
end M14
set_option Elab.async false
set_option linter.all false
set_option maxRecDepth 100000
set_option maxHeartbeats 4000000
namespace TK
open PySem PySem.Spec PyProof.Rows L2 M14 SX K4
theorem inLv_step {K : PySem.W.Frag} {H : Hp} {x : V} {p : Addr} {xs : List V} {Q : VK} {neg : Bool} (hp : SqL K H p xs) (hx : flatV x = true) (hf : xs.all flatV = true) (h : Q (.bl (neg != inV x xs)) H) : rxIn K neg x (.ref p) H Q := by
  unfold rxIn
  refine ⟨p, xs, rfl, .inl hp, hx, hf, ?_⟩
  cases neg with
  | false => rw [if_neg Bool.false_ne_true]; simpa using h
  | true => rw [if_pos rfl]; simpa using h
def br6 : List V := [.str (Str.ofString "("), .str (Str.ofString ")"), .str (Str.ofString "["), .str (Str.ofString "]"), .str (Str.ofString "{"), .str (Str.ofString "}")]
def fPl (i : Nat) : Bool := match sgs[i]? with
  | some l => !(inV (.str (S l)) br6)
  | none => false
theorem fPl_some : 0 < (keptN fPl 24).length := by decide +kernel
section
variable {P : Program} {w : World} {K : PySem.W.Frag} {mg : Str → Option Value} {base : Heap}
set_option hygiene false
local macro_rules | `(tactic| tm_at "sc") => `(tactic| (first | omega | (simp only [List.length_cons, List.length_nil, List.length_map, List.length_set, List.length_append]; omega) | (simp only [List.length_map] at h1 ⊢; omega) | (simp only [List.length_map] at c ⊢; omega) | with_reducible assumption | exact And.intro (by omega) (by omega) | exact Or.inl (And.intro (by omega) (by omega)) | exact Or.inr (And.intro (by omega) (by omega)) | decide +kernel | exact len1000 (by simp) | rfl | fail "no way"))
local macro_rules | `(tactic| tm_at "sc1") => `(tactic| (focus (simp; done)))
local macro_rules | `(tactic| tm_at "ne") => `(tactic| (first | assumption | exact Ne.symm (by assumption) | (apply Box.ne2; assumption; tm_at "hp") | (apply Ne.symm; apply Box.ne2; assumption; tm_at "hp") | (apply ne_of_none2; assumption; tm_at "hp") | (apply Ne.symm; apply ne_of_none2; assumption; tm_at "hp") | fail "no way"))
local macro_rules | `(tactic| tm_at "f0") => `(tactic| (first | assumption | (apply Fr.new; assumption) | fail "no way"))
local macro_rules | `(tactic| tm_at "hp") => `(tactic| (first | assumption | exact upd_same | (apply SqL.of; first | assumption | exact upd_same) | (apply Fr.at0; tm_at "f0"; tm_at "hp") | (apply Fr.at1n; assumption; tm_at "ne"; tm_at "hp") | (apply sqFr0; tm_at "f0"; tm_at "hp") | (apply sqFr1; assumption; tm_at "ne"; tm_at "hp") | (apply Box.fr0; tm_at "f0"; tm_at "hp") | (apply Box.fr1; assumption; tm_at "ne"; tm_at "hp") | (apply Den.fr; tm_at "f0"; tm_at "hp") | (apply Dens.fr; tm_at "f0"; tm_at "hp") | fail "no way"))
local macro_rules | `(tactic| tm_at "free0") => `(tactic| (first | assumption | (apply updFree; assumption) | (apply updFree; apply updFree; assumption) | (apply updFree; apply updFree; apply updFree; assumption) | (apply updFree; apply updFree; apply updFree; apply updFree; assumption) | fail "no way"))
local macro_rules | `(tactic| tm_at "free") => `(tactic| (first | tm_at "free0" | (apply Fr.free; assumption; tm_at "free0") | (apply Box.free; assumption; tm_at "fr"; tm_at "free0") | (apply Fr.free; assumption; apply Fr.free; assumption; tm_at "free0") | fail "no way"))
local macro_rules | `(tactic| tm_at "fr") => `(tactic| (first | assumption | exact Fr.refl0 _ | exact Fr.refl (Box.nt (by assumption)) | (refine Fr.comp0 ?_ (by tm_at "f0"); tm_at "fr") | (refine Fr.comp ?_ (by assumption); tm_at "fr") | (refine Fr.compN ?_ (by assumption) (by tm_at "free"); tm_at "fr") | fail "no way"))
local macro_rules | `(tactic| tm_at "call") => `(tactic| fail "no call")
local macro_rules | `(tactic| tm_at "call") => `(tactic| (apply take_step; tm_at "hp"; tm_at "sc"; tm_at "sc"; intro r H1 h0 h1 hB fr))
local macro_rules | `(tactic| tm_at "ty") => `(tactic| (first | assumption | exact .base .non | exact .base (.bl _) | exact .base (.int _) | exact .base (.str _) | (apply TyX.base; apply TyOf.lst; tm_at "hp") | (apply TyX.base; apply TyOf.tup; tm_at "hp") | fail "no way"))
local macro_rules | `(tactic| tm_at "pre") => `(tactic| fail "none")
local macro_rules | `(tactic| tm_at "go1") => `(tactic| (first | tm_at "pre" | refine ⟨_, rfl, ?_⟩ | refine ⟨_, _, rfl, rfl, ?_⟩ | (apply set_step; tm_at "hp"; tm_at "sc"; tm_at "sc"; intro H1 hp fr) | (with_reducible refine iteDI ?_ ?_ <;> intro c) | (with_reducible refine iteDS ?_ ?_ <;> intro c) | (with_reducible refine iteD ?_ ?_ <;> intro c) | (with_reducible refine iteEM ?_ ?_ <;> intro c) | (with_reducible refine iteE ?_ ?_ <;> intro c) | with_reducible refine iteN ?_ | with_reducible refine iteF ?_ | with_reducible refine iteT ?_ | (refine fun (p : Addr) (np : _ = (none : Option HO)) => ?_; fail_if_success (refine ⟨fun (_ _ : Nat) (_ : Hp) => True, ?_⟩)) | (apply isi_tt; tm_at "ty"; focus (decide +kernel)) | (apply isi_ff; tm_at "ty"; focus (decide +kernel)) | (apply sl_step; tm_at "hp"; intro qq H1 ms nq hq fr) | (apply sum_step; tm_at "hp"; intro i) | (apply tru_step; tm_at "hp") | (apply len_step; tm_at "hp") | (apply lenq_step; assumption) | (apply ixq_step; assumption; tm_at "sc"; tm_at "sc"; intro v hv) | (apply lst_step; tm_at "hp") | (apply tupl_step; tm_at "hp") | (apply ixr_step; tm_at "hp"; exact rfl) | (apply ix0_step; tm_at "hp") | (apply ix1_step; tm_at "hp") | (apply ix2_step; tm_at "hp") | (apply ixi_step; tm_at "hp"; tm_at "sc"; tm_at "sc"; intro n hn hn') | (apply ixl_step; tm_at "hp"; tm_at "sc"; tm_at "sc"; intro v hv) | (apply ixt_step; tm_at "hp"; tm_at "sc"; tm_at "sc"; intro v hm hv) | (apply in_step; tm_at "hp"; rfl; rfl) | (apply cat_step; tm_at "hp"; tm_at "hp"; tm_at "sc") | (apply catT_step; tm_at "hp"; tm_at "hp"; tm_at "sc1") | (apply tyL_and; tm_at "hp") | (apply app_step; tm_at "hp"; tm_at "sc"; intro H1 hp fr) | tm_at "call" | refine ⟨⟨_, rfl⟩, ?_⟩ | (apply ixs_step; tm_at "sc"; tm_at "sc"; tm_at "sc"; intro ch) | refine .inl ⟨_, rfl, ?_⟩ | refine .inr ⟨_, rfl, ?_⟩ | (apply And.intro; tm_at "sc") | (with_reducible refine wayB ?_ ?_ <;> intro c) | fail "no way"))
local macro_rules | `(tactic| tm_at "go") => `(tactic| (repeat tm_at "go1"))
local macro_rules | `(tactic| tm_at "goo") => `(tactic| (repeat' tm_at "go1"))
local macro_rules | `(tactic| tm_at "den") => `(tactic| (first | assumption | exact Den.str _ | exact Den.int _ | exact Den.bl _ | exact Den.non | (apply Den.tups; tm_at "hp"; tm_at "dens") | (apply Den.fr; tm_at "f0"; tm_at "den") | fail "no way"))
local macro_rules | `(tactic| tm_at "dens") => `(tactic| (first | assumption | exact Dens.nil | (apply Dens.cons; tm_at "den"; tm_at "dens") | (apply Dens.fr; tm_at "f0"; tm_at "dens") | fail "no way"))
local macro_rules | `(tactic| tm_at "ix") => `(tactic| (apply Ix.mk; tm_at "hp"; tm_at "ne"; assumption; assumption))
local macro_rules | `(tactic| tm_at "dep") => `(tactic| (first | assumption | exact Dep.int | exact Dep.str | exact Dep.bl | exact Dep.non | (apply Dep.tup; tm_at "dlen"; tm_at "deps") | (apply Dep.mono; assumption; decide) | fail "no way"))
local macro_rules | `(tactic| tm_at "deps") => `(tactic| (first | assumption | exact memN | (apply memC; tm_at "dep"; tm_at "deps") | fail "no way"))
local macro_rules | `(tactic| tm_at "dlen") => `(tactic| (first | assumption | (focus (simp; done)) | omega | fail "no way"))
local macro_rules | `(tactic| tm_at "pre") => `(tactic| (apply rep_step; tm_at "hp"; tm_at "sc"; tm_at "sc"; intro rp H1 nrp hrp fr))

local macro_rules | `(tactic| tm_at "lits") => `(tactic| (try simp only [l_nl, l_open, l_close, l_sp, l_quo, l_bs, l_minus, l_zero, l_empty, l_n] at c))
local macro_rules | `(tactic| tm_at "pre") => `(tactic| (first | (apply slm_step; tm_at "sc"; tm_at "sc"; tm_at "sc") | (apply slf_step; tm_at "sc"; tm_at "sc") | (apply slt_step; tm_at "sc"; tm_at "sc") | (with_reducible refine iteEqZ ?_ ?_ <;> (intro c; tm_at "lits")) | (apply catS_step; tm_at "sc") | (apply inD_step) | (apply ordS_step) | (apply intS_step; assumption) | (apply sign_step) | (apply lenS_step; tm_at "sc")))
local macro_rules | `(tactic| tm_at "pre") => `(tactic| (apply while_go))
local macro_rules | `(tactic| tm_at "pre") => `(tactic| (apply ixS_step; tm_at "sc"; tm_at "sc"; assumption))
local macro_rules | `(tactic| tm_at "pre") => `(tactic| (apply appB_step; tm_at "hp"; tm_at "sc"; intro H1 hp fr))

local macro_rules | `(tactic| tm_at "pre") => `(tactic| (first | (apply catZ_step; (focus (omega)); intro z hz) | (apply ixZ_step; (focus (omega)); (focus (omega)); (focus (omega)); intro z hz) | (apply lenZ_step; (focus (omega)))))
local macro_rules | `(tactic| tm_at "call") => `(tactic| (apply k_step))
local macro_rules | `(tactic| tm_at "call") => `(tactic| (apply sgs_step; intro p H1 np hp fr))
local macro_rules | `(tactic| tm_at "call") => `(tactic| (apply kws_step; intro p H1 np hp fr))
local macro_rules | `(tactic| tm_at "call") => `(tactic| (apply dr_step; tm_at "hp"; intro z H1 hz hB fr))
set_option pp.deepTerms false
set_option pp.deepTerms.threshold 3
end
end TK
set_option Elab.async false
set_option linter.all false
set_option maxRecDepth 100000
set_option maxHeartbeats 4000000
/-! lists and tuples compared -/
namespace TK
open PySem PySem.Spec PyProof.Rows L2 M14 SX K4
@[irreducible] def rxEqD (K : PySem.W.Frag) (neg : Bool) : R2 := fun x y H Q => ∃ d e, Dp K H x d ∧ Dp K H y e ∧ SeqAt.shaped d = true ∧ SeqAt.shaped e = true ∧ Q (.bl (neg != PyData.eqv d e)) H
theorem opEqD {X : Cx} (K : PySem.W.Frag) (hu : X.A.units + 65 < cLine) (hK : X.K = K := by rfl) : OpR X (compareOp .Eq) (rxEqD K false) := by
  unfold rxEqD
  rw [← hK]
  intro pins s σ H x y v u Q I rx ry h
  obtain ⟨d, e, h1, h2, h3, h4, q⟩ := h
  refine op_eqD (by omega) pins s σ H _ _ v u Q I rx ry ⟨d, e, h1, h2, h3, h4, ?_⟩
  simpa using q
theorem opNeD {X : Cx} (K : PySem.W.Frag) (hu : X.A.units + 65 < cLine) (hK : X.K = K := by rfl) : OpR X (compareOp .NotEq) (rxEqD K true) := by
  unfold rxEqD
  rw [← hK]
  intro pins s σ H x y v u Q I rx ry h
  obtain ⟨d, e, h1, h2, h3, h4, q⟩ := h
  refine op_neD (by omega) pins s σ H _ _ v u Q I rx ry ⟨d, e, h1, h2, h3, h4, ?_⟩
  simpa using q
theorem room_65 {k : Nat} {A : Around} (r : Room k A) : A.units + 65 < cLine := by have := r.un; omega
/-- a value that can be compared: what it says -/
structure Cmp (K : PySem.W.Frag) (H : Hp) (v : V) (n : Nat) (d : PyData) : Prop where
  dp : Dp K H v d
  lay : PyData.canLay0 d = true
  dep : PyData.depth d ≤ n
/-- a list's items that can be compared -/
structure Cmps (K : PySem.W.Frag) (H : Hp) (xs : List V) (n : Nat) (ds : List PyData) : Prop where
  dp : DpAll K H xs ds
  lay : PyData.canLayAll0 ds = true
  dep : PyData.depthAll ds ≤ n
section
variable {K : PySem.W.Frag} {H : Hp}
theorem Cmps.nil {n : Nat} : Cmps K H [] n [] := ⟨.nil, rfl, Nat.zero_le _⟩
theorem Cmps.cons {v : V} {d : PyData} {xs : List V} {ds : List PyData} {n : Nat} (a : Cmp K H v n d) (b : Cmps K H xs n ds) : Cmps K H (v :: xs) n (d :: ds) :=
  ⟨.cons a.dp b.dp, by show (PyData.canLay0 d && PyData.canLayAll0 ds) = true; rw [a.lay, b.lay]; rfl, by show max (PyData.depth d) (PyData.depthAll ds) ≤ n; have := a.dep; have := b.dep; omega⟩
theorem Cmp.int {i : Int} {n : Nat} : Cmp K H (.int i) n (.int i) := ⟨.int i, rfl, Nat.zero_le _⟩
/-- a text's signs are signs -/
def okS (s : List Nat) : Bool := s.all fun c => decide (c < 0x110000)
theorem Cmp.str {s : List Nat} {n : Nat} (h : okS s = true) : Cmp K H (.str (S s)) n (.str (S s)) := ⟨.str _, by
  show (S s).cps.all (fun c => decide (c < 0x110000)) = true
  rw [← Array.all_toList]
  exact h, Nat.zero_le _⟩
theorem Cmp.strZ {z : Str} {n : Nat} (h : okS z.cps.toList = true) : Cmp K H (.str z) n (.str z) := ⟨.str _, by
  show z.cps.all (fun c => decide (c < 0x110000)) = true
  rw [← Array.all_toList]
  exact h, Nat.zero_le _⟩
theorem Cmp.lst {a : Addr} {xs : List V} {ds : List PyData} {n : Nat} (h : SqL K H a xs) (c : Cmps K H xs n ds) : Cmp K H (.ref a) (n + 1) (.list ds) :=
  ⟨.lst h c.dp, c.lay, by have := c.dep; show PyData.depthAll ds + 1 ≤ n + 1; omega⟩
theorem Cmp.tup {a : Addr} {xs : List V} {ds : List PyData} {n : Nat} (h : SqT K H a xs) (c : Cmps K H xs n ds) : Cmp K H (.ref a) (n + 1) (.tuple ds) :=
  ⟨.tup h c.dp, c.lay, by have := c.dep; show PyData.depthAll ds + 1 ≤ n + 1; omega⟩
theorem eqD_step {neg : Bool} {x y : V} {n : Nat} {d e : PyData} {Q : VK} (hx : Cmp K H x n d) (hy : Cmp K H y n e) (hn : n ≤ 64) (q : Q (.bl (neg != PyData.eqv d e)) H) : rxEqD K neg x y H Q := by
  unfold rxEqD
  refine ⟨d, e, hx.dp, hy.dp, ?_, ?_, q⟩
  · unfold SeqAt.shaped
    exact Bool.and_eq_true_iff.mpr ⟨hx.lay, decide_eq_true (Nat.le_trans hx.dep hn)⟩
  · unfold SeqAt.shaped
    exact Bool.and_eq_true_iff.mpr ⟨hy.lay, decide_eq_true (Nat.le_trans hy.dep hn)⟩
theorem dpAll_len {xs : List V} {ds : List PyData} (h : DpAll K H xs ds) : xs.length = ds.length := by
  induction ds generalizing xs with
  | nil => cases h; rfl
  | cons d ds ih => cases h with
    | cons a b => simp [ih b]
/-- x == [] and x != [] -/
theorem eqNil_step {neg : Bool} {a b : Addr} {xs : List V} {ds : List PyData} {n : Nat} {Q : VK} (ha : SqL K H a xs) (hb : SqL K H b []) (c : Cmps K H xs n ds) (hn : n < 64) (q : Q (.bl (neg != xs.isEmpty)) H) : rxEqD K neg (.ref a) (.ref b) H Q := by
  refine eqD_step (Cmp.lst ha c) (Cmp.lst hb .nil) (by omega) ?_
  have l := dpAll_len c.dp
  have e : PyData.eqv (.list ds) (.list []) = xs.isEmpty := by
    cases ds with
    | nil => cases xs with
      | nil => rfl
      | cons => simp at l
    | cons p r => cases xs with
      | nil => simp at l
      | cons => rfl
  rw [e]
  exact q
theorem eqNew_step {neg : Bool} {a p : Addr} {xs : List V} {ds : List PyData} {n : Nat} {Q : VK} (np : H p = none) (ha : H a = some (.lst xs)) (c : Cmps K (upd H p (.lst [])) xs n ds) (hn : n < 64) (q : Q (.bl (neg != xs.isEmpty)) (upd H p (.lst []))) : rxEqD K neg (.ref a) (.ref p) (upd H p (.lst [])) Q :=
  eqNil_step (.of ((Fr.new np).at0 ha)) (.of upd_same) c hn q
theorem cmps_ints {ns : List Int} {n : Nat} : Cmps K H (ns.map V.int) n (ns.map PyData.int) := by
  induction ns with
  | nil => exact .nil
  | cons i r ih => exact .cons .int ih
theorem cmps_strs {ls : List (List Nat)} {n : Nat} (h : ∀ l ∈ ls, okS l = true) : Cmps K H (strsV ls) n (ls.map fun l => PyData.str (S l)) := by
  induction ls with
  | nil => exact .nil
  | cons l r ih => exact .cons (.str (h l List.mem_cons_self)) (ih fun x m => h x (List.mem_cons_of_mem _ m))
end
@[irreducible] def rxClr : V → List V → Hp → VK → Prop := rClear
theorem mtClr {X : Cx} : MtM X "list.clear" rxClr := by unfold rxClr; exact mt_clear
theorem clr_step {H : Hp} {l : Addr} {xs : List V} {Q : VK} (h : H l = some (.lst xs)) (q : ∀ H' : Hp, H' l = some (.lst []) → Fr [l] H H' → Q .non H') : rxClr (.ref l) [] H Q := by
  unfold rxClr
  exact ⟨l, xs, rfl, rfl, h, q _ upd_same (Fr.put h (by intro _ q; cases q))⟩
@[irreducible] def rxExt : V → List V → Hp → VK → Prop := rExtend
theorem mtExt {X : Cx} : MtM X "list.extend" rxExt := by unfold rxExt; exact mt_extend
theorem ext_step {H : Hp} {l b : Addr} {xs zs : List V} {Q : VK} (h : H l = some (.lst xs)) (hb : H b = some (.lst zs)) (hz : xs.length + zs.length ≤ 10000) (q : ∀ H' : Hp, H' l = some (.lst (xs ++ zs)) → Fr [l] H H' → Q .non H') : rxExt (.ref l) [.ref b] H Q := by
  unfold rxExt
  exact ⟨l, b, xs, zs, rfl, rfl, h, hb, Nat.le_trans hz (by decide), q _ upd_same (Fr.put h (by intro _ q; cases q))⟩
@[irreducible] def rAllL (K : PySem.W.Frag) : List V → Hp → VK → Prop := fun vs H Q => ∃ (a : Addr) (bs : List Bool), vs = [V.ref a] ∧ SqL K H a (bs.map V.bl) ∧ Q (.bl (bs.all id)) H
theorem cAllL {X : Cx} (K : PySem.W.Frag) (hc : X.calm = true := by rfl) (hK : X.K = K := by rfl) : CallR X (.builtin "all") (rAllL K) := by
  unfold rAllL
  rw [← hK]
  exact cr_all hc
theorem allL_step {K : PySem.W.Frag} {a : Addr} {bs : List Bool} {H : Hp} {Q : VK} (h : SqL K H a (bs.map V.bl)) (q : Q (.bl (bs.all id)) H) : rAllL K [.ref a] H Q := by
  unfold rAllL
  exact ⟨a, bs, rfl, h, q⟩
structure Bl2 (mg : Str → Option Value) : Prop where
  z_reversed : mg "reversed" = none
  z_all : mg "all" = none
/-- z * n: some text -/
theorem repZ_step {z : Str} {n : Int} {H : Hp} {Q : VK} (hz : z.length ≤ 1) (h0 : 0 ≤ n) (h1 : n ≤ 10000) (k : ∀ a : Str, a.length ≤ n.toNat → Q (.str a) H) : rRepS (.str z) (.int n) H Q := by
  unfold rRepS
  have hb : z.length * n.toNat ≤ 1 * n.toNat := Nat.mul_le_mul hz (Nat.le_refl _)
  refine ⟨z, n, rfl, rfl, by omega, by omega, by omega, ?_⟩
  have hl : (Txt.mul z n).length ≤ 1 * n.toNat := len_mul_leN hz (by omega)
  exact k _ (by omega)
end TK
set_option Elab.async false
set_option linter.all false
set_option maxRecDepth 100000
set_option maxHeartbeats 4000000
/-! the drawn words, walked -/
namespace TK
open PySem PySem.Spec PyProof.Rows L2 M14 SX K4
/-- x[i], the sign that stands there -/
theorem ixA_step {x : Str} {i : Int} {H : Hp} {Q : VK} (hz : x.length ≤ 1000000) (h0 : 0 ≤ i) (h1 : i < x.length) (q : ∀ c, x.cps.toList[i.toNat]? = some c → Q (.str (S [c])) H) : rxS (.str x) (.int i) H Q := by
  have hl : i.toNat < x.cps.toList.length := by rw [z_len]; omega
  rw [z_S x]
  exact ixS_step (by rw [z_len]; exact hz) h0 (List.getElem?_eq_getElem hl) (q _ (List.getElem?_eq_getElem hl))
theorem catA_step {x y : Str} {H : Hp} {Q : VK} (h : x.length + y.length ≤ 1000000) (q : Q (.str (S (x.cps.toList ++ y.cps.toList))) H) : rCatS (.str x) (.str y) H Q := by
  rw [z_S x, z_S y]
  exact catS_step (by rw [z_len, z_len]; exact h) q
def NmOk (z : List Nat) : Prop := ∃ c t, z = c :: t ∧ isNs c = true ∧ (∀ x ∈ t, isNc x = true) ∧ z.length ≤ 30
def DgOk (z : List Nat) : Prop := (∀ c ∈ z, isDig c = true) ∧ z ≠ [] ∧ (z = [48] ∨ z.head? ≠ some 48) ∧ z.length ≤ 40
/-- a drawn text that is as p says -/
@[irreducible] def spDt (p : List Nat → Prop) : Sp := fun vs H Q _ => ∃ (b : Addr) (sm : Bool), vs = [.ref b, .bl sm] ∧ Box H b ∧ ∀ z H', p z → Box H' b → Fr [b] H H' → Q (.str (S z)) H'
theorem dt_step {p : List Nat → Prop} {b : Addr} {sm : Bool} {H : Hp} {Q : VK} {E : XK} (hB : Box H b) (k : ∀ z H', p z → Box H' b → Fr [b] H H' → Q (.str (S z)) H') : spDt p ([.ref b, .bl sm] ++ []) H Q E := by
  unfold spDt
  exact ⟨b, sm, rfl, hB, k⟩
@[irreducible] def UN0 (b : Addr) (sm : Bool) (y : Str) (H : Hp) (σ : L2.St) (H' : Hp) : Prop := ∃ (sz : Int), σ = [some (.ref b), some (.bl sm), some (.str zNs), some (.str y), some (.int sz), none, none] ∧ 0 ≤ sz ∧ sz ≤ 29 ∧ Box H' b ∧ Fr [b] H H'
@[irreducible] def UN1 (b : Addr) (sm : Bool) (y : Str) (sz : Int) (H : Hp) (i : Nat) (σ : L2.St) (H' : Hp) : Prop := ∃ (c : Nat) (t : List Nat) (x : Option V), σ = [some (.ref b), some (.bl sm), some (.str zNs), some (.str y), some (.int sz), some (.str (S (c :: t))), x] ∧ t.length = i ∧ isNs c = true ∧ (∀ x ∈ t, isNc x = true) ∧ Box H' b ∧ Fr [b] H H'
@[irreducible] def UF0 (b : Addr) (sm : Bool) (H : Hp) (σ : L2.St) (H' : Hp) : Prop := ∃ (sz : Int), σ = [some (.ref b), some (.bl sm), some (.int sz), none, none] ∧ 0 ≤ sz ∧ sz ≤ 39 ∧ Box H' b ∧ Fr [b] H H'
@[irreducible] def UF1 (b : Addr) (sm : Bool) (sz : Int) (H : Hp) (i : Nat) (σ : L2.St) (H' : Hp) : Prop := ∃ (c : Nat) (t : List Nat) (x : Option V), σ = [some (.ref b), some (.bl sm), some (.int sz), some (.str (S (c :: t))), x] ∧ t.length = i ∧ c ≠ 48 ∧ (∀ x ∈ c :: t, isDig x = true) ∧ Box H' b ∧ Fr [b] H H'
section
variable {P : Program} {w : World} {K : PySem.W.Frag} {mg : Str → Option Value} {base : Heap}
set_option hygiene false
local macro_rules | `(tactic| tm_at "sc") => `(tactic| (first | omega | (simp only [List.length_cons, List.length_nil, List.length_map, List.length_set, List.length_append]; omega) | (simp only [List.length_map] at h1 ⊢; omega) | (simp only [List.length_map] at c ⊢; omega) | with_reducible assumption | exact And.intro (by omega) (by omega) | exact Or.inl (And.intro (by omega) (by omega)) | exact Or.inr (And.intro (by omega) (by omega)) | decide +kernel | exact len1000 (by simp) | rfl | fail "no way"))
local macro_rules | `(tactic| tm_at "sc1") => `(tactic| (focus (simp; done)))
local macro_rules | `(tactic| tm_at "ne") => `(tactic| (first | assumption | exact Ne.symm (by assumption) | (apply Box.ne2; assumption; tm_at "hp") | (apply Ne.symm; apply Box.ne2; assumption; tm_at "hp") | (apply ne_of_none2; assumption; tm_at "hp") | (apply Ne.symm; apply ne_of_none2; assumption; tm_at "hp") | fail "no way"))
local macro_rules | `(tactic| tm_at "f0") => `(tactic| (first | assumption | (apply Fr.new; assumption) | fail "no way"))
local macro_rules | `(tactic| tm_at "hp") => `(tactic| (first | assumption | exact upd_same | (apply SqL.of; first | assumption | exact upd_same) | (apply Fr.at0; tm_at "f0"; tm_at "hp") | (apply Fr.at1n; assumption; tm_at "ne"; tm_at "hp") | (apply sqFr0; tm_at "f0"; tm_at "hp") | (apply sqFr1; assumption; tm_at "ne"; tm_at "hp") | (apply Box.fr0; tm_at "f0"; tm_at "hp") | (apply Box.fr1; assumption; tm_at "ne"; tm_at "hp") | (apply Den.fr; tm_at "f0"; tm_at "hp") | (apply Dens.fr; tm_at "f0"; tm_at "hp") | fail "no way"))
local macro_rules | `(tactic| tm_at "free0") => `(tactic| (first | assumption | (apply updFree; assumption) | (apply updFree; apply updFree; assumption) | (apply updFree; apply updFree; apply updFree; assumption) | (apply updFree; apply updFree; apply updFree; apply updFree; assumption) | fail "no way"))
local macro_rules | `(tactic| tm_at "free") => `(tactic| (first | tm_at "free0" | (apply Fr.free; assumption; tm_at "free0") | (apply Box.free; assumption; tm_at "fr"; tm_at "free0") | (apply Fr.free; assumption; apply Fr.free; assumption; tm_at "free0") | fail "no way"))
local macro_rules | `(tactic| tm_at "fr") => `(tactic| (first | assumption | exact Fr.refl0 _ | exact Fr.refl (Box.nt (by assumption)) | (refine Fr.comp0 ?_ (by tm_at "f0"); tm_at "fr") | (refine Fr.comp ?_ (by assumption); tm_at "fr") | (refine Fr.compN ?_ (by assumption) (by tm_at "free"); tm_at "fr") | fail "no way"))
local macro_rules | `(tactic| tm_at "call") => `(tactic| fail "no call")
local macro_rules | `(tactic| tm_at "call") => `(tactic| (apply take_step; tm_at "hp"; tm_at "sc"; tm_at "sc"; intro r H1 h0 h1 hB fr))
local macro_rules | `(tactic| tm_at "ty") => `(tactic| (first | assumption | exact .base .non | exact .base (.bl _) | exact .base (.int _) | exact .base (.str _) | (apply TyX.base; apply TyOf.lst; tm_at "hp") | (apply TyX.base; apply TyOf.tup; tm_at "hp") | fail "no way"))
local macro_rules | `(tactic| tm_at "pre") => `(tactic| fail "none")
local macro_rules | `(tactic| tm_at "go1") => `(tactic| (first | tm_at "pre" | refine ⟨_, rfl, ?_⟩ | refine ⟨_, _, rfl, rfl, ?_⟩ | (apply set_step; tm_at "hp"; tm_at "sc"; tm_at "sc"; intro H1 hp fr) | (with_reducible refine iteDI ?_ ?_ <;> intro c) | (with_reducible refine iteDS ?_ ?_ <;> intro c) | (with_reducible refine iteD ?_ ?_ <;> intro c) | (with_reducible refine iteEM ?_ ?_ <;> intro c) | (with_reducible refine iteE ?_ ?_ <;> intro c) | with_reducible refine iteN ?_ | with_reducible refine iteF ?_ | with_reducible refine iteT ?_ | (refine fun (p : Addr) (np : _ = (none : Option HO)) => ?_; fail_if_success (refine ⟨fun (_ _ : Nat) (_ : Hp) => True, ?_⟩)) | (apply isi_tt; tm_at "ty"; focus (decide +kernel)) | (apply isi_ff; tm_at "ty"; focus (decide +kernel)) | (apply sl_step; tm_at "hp"; intro qq H1 ms nq hq fr) | (apply sum_step; tm_at "hp"; intro i) | (apply tru_step; tm_at "hp") | (apply len_step; tm_at "hp") | (apply lenq_step; assumption) | (apply ixq_step; assumption; tm_at "sc"; tm_at "sc"; intro v hv) | (apply lst_step; tm_at "hp") | (apply tupl_step; tm_at "hp") | (apply ixr_step; tm_at "hp"; exact rfl) | (apply ix0_step; tm_at "hp") | (apply ix1_step; tm_at "hp") | (apply ix2_step; tm_at "hp") | (apply ixi_step; tm_at "hp"; tm_at "sc"; tm_at "sc"; intro n hn hn') | (apply ixl_step; tm_at "hp"; tm_at "sc"; tm_at "sc"; intro v hv) | (apply ixt_step; tm_at "hp"; tm_at "sc"; tm_at "sc"; intro v hm hv) | (apply in_step; tm_at "hp"; rfl; rfl) | (apply cat_step; tm_at "hp"; tm_at "hp"; tm_at "sc") | (apply catT_step; tm_at "hp"; tm_at "hp"; tm_at "sc1") | (apply tyL_and; tm_at "hp") | (apply app_step; tm_at "hp"; tm_at "sc"; intro H1 hp fr) | tm_at "call" | refine ⟨⟨_, rfl⟩, ?_⟩ | (apply ixs_step; tm_at "sc"; tm_at "sc"; tm_at "sc"; intro ch) | refine .inl ⟨_, rfl, ?_⟩ | refine .inr ⟨_, rfl, ?_⟩ | (apply And.intro; tm_at "sc") | (with_reducible refine wayB ?_ ?_ <;> intro c) | fail "no way"))
local macro_rules | `(tactic| tm_at "go") => `(tactic| (repeat tm_at "go1"))
local macro_rules | `(tactic| tm_at "goo") => `(tactic| (repeat' tm_at "go1"))
local macro_rules | `(tactic| tm_at "den") => `(tactic| (first | assumption | exact Den.str _ | exact Den.int _ | exact Den.bl _ | exact Den.non | (apply Den.tups; tm_at "hp"; tm_at "dens") | (apply Den.fr; tm_at "f0"; tm_at "den") | fail "no way"))
local macro_rules | `(tactic| tm_at "dens") => `(tactic| (first | assumption | exact Dens.nil | (apply Dens.cons; tm_at "den"; tm_at "dens") | (apply Dens.fr; tm_at "f0"; tm_at "dens") | fail "no way"))
local macro_rules | `(tactic| tm_at "ix") => `(tactic| (apply Ix.mk; tm_at "hp"; tm_at "ne"; assumption; assumption))
local macro_rules | `(tactic| tm_at "dep") => `(tactic| (first | assumption | exact Dep.int | exact Dep.str | exact Dep.bl | exact Dep.non | (apply Dep.tup; tm_at "dlen"; tm_at "deps") | (apply Dep.mono; assumption; decide) | fail "no way"))
local macro_rules | `(tactic| tm_at "deps") => `(tactic| (first | assumption | exact memN | (apply memC; tm_at "dep"; tm_at "deps") | fail "no way"))
local macro_rules | `(tactic| tm_at "dlen") => `(tactic| (first | assumption | (focus (simp; done)) | omega | fail "no way"))
local macro_rules | `(tactic| tm_at "pre") => `(tactic| (apply rep_step; tm_at "hp"; tm_at "sc"; tm_at "sc"; intro rp H1 nrp hrp fr))

local macro_rules | `(tactic| tm_at "lits") => `(tactic| (try simp only [l_nl, l_open, l_close, l_sp, l_quo, l_bs, l_minus, l_zero, l_empty, l_n] at c))
local macro_rules | `(tactic| tm_at "pre") => `(tactic| (first | (apply slm_step; tm_at "sc"; tm_at "sc"; tm_at "sc") | (apply slf_step; tm_at "sc"; tm_at "sc") | (apply slt_step; tm_at "sc"; tm_at "sc") | (with_reducible refine iteEqZ ?_ ?_ <;> (intro c; tm_at "lits")) | (apply catS_step; tm_at "sc") | (apply inD_step) | (apply ordS_step) | (apply intS_step; assumption) | (apply sign_step) | (apply lenS_step; tm_at "sc")))
local macro_rules | `(tactic| tm_at "pre") => `(tactic| (apply while_go))
local macro_rules | `(tactic| tm_at "pre") => `(tactic| (apply ixS_step; tm_at "sc"; tm_at "sc"; assumption))
local macro_rules | `(tactic| tm_at "pre") => `(tactic| (apply appB_step; tm_at "hp"; tm_at "sc"; intro H1 hp fr))

local macro_rules | `(tactic| tm_at "pre") => `(tactic| (first | (apply catA_step; (focus (omega))) | (apply ixA_step; (focus (omega)); (focus (omega)); (focus (omega)); intro ch hch)))
local macro_rules | `(tactic| tm_at "call") => `(tactic| (apply k_step))
set_option pp.deepTerms false
set_option pp.deepTerms.threshold 3
abbrev s_name : Stmt := top 45
theorem sc_name : FnScope ["_law_bag_here", "_law_small", "_law_letters_here", "_law_more", "_law_size", "_law_built", "_law_turn"] ["_law_bag_here", "_law_small"] (defScope s_name) := ⟨rfl, rfl, rfl, by decide +kernel, rfl, by decide +kernel, by decide +kernel⟩

theorem ok_nme (T : K4.Bl mg) (G_take : Cal P w K mg base 1 "_law_take" ["_law_bag_here", "_law_size"] spTake) (G_letters : Cal P w K mg base 1 "_law_letters" [] (spK (.str zNs))) (D : Def1 K mg "_law_name" s_name) : Cal P w K mg base 2 "_law_name" ["_law_bag_here", "_law_small"] (spDt NmOk) := by
  refine D.cal sc_name (fun _ _ _ _ _ _ us hl => match us, hl with | [_, _], _ => rfl) (fun vs H Q E h => ?_) (fun f cdv A outer s H vs Q E hr h => ?_) <;> unfold spDt at h
  · obtain ⟨b, sm, rfl, _⟩ := h
    rfl
  · obtain ⟨b, sm, rfl, hB, k⟩ := h
    refine ⟨_, (pss_cons (ps_set (i := 2) sc_name.nd rfl (Or.inl rfl) (pe_cal0 G_letters (hr.mono (by omega)) (by rfl)))
    (pss_cons (ps_set (i := 3) sc_name.nd rfl (Or.inl rfl) (pe_op op_catS (pv 2) pe_str))
    (pss_cons (ps_set (i := 4) sc_name.nd rfl (Or.inl rfl) (pe_cal G_take (hr.mono (by omega)) (by rfl) (pa_cons (pv 0) (pa_cons pe_int pa_nil))))
    (C8.pss_cut (ps_if (PW.pt (pw_and (pt_not (pt_val (pv 1))) (pw_and1 (pt_cmpR op_eq (pe_cal G_take (hr.mono (by omega)) (by rfl) (pa_cons (pv 0) (pa_cons pe_int pa_nil))) pe_int (nomark _)))))
      (pss_one (ps_set (i := 4) sc_name.nd rfl (Or.inl rfl) (pe_op op_add pe_int (pe_cal G_take (hr.mono (by omega)) (by rfl) (pa_cons (pv 0) (pa_cons pe_int pa_nil))))))
      pss_nil)
    (pss_cons (ps_set (i := 5) sc_name.nd rfl (Or.inl rfl) (pe_ix ixS (pv 2) (pe_cal G_take (hr.mono (by omega)) (by rfl) (pa_cons (pv 0) (pa_cons pe_int pa_nil))) (fun _ _ => rfl)))
    (pss_cons (ps_for PassesOwn.never rfl (pi_range1 (by rfl) T.z_range (pa_cons (pv 4) pa_nil)) (pg_name (i := 6) sc_name.nd rfl (Or.inl rfl))
      (pss_one (ps_set (i := 5) sc_name.nd rfl (Or.inl rfl) (pe_op op_catS (pv 5) (pe_ix ixS (pv 3) (pe_cal G_take (hr.mono (by omega)) (by rfl) (pa_cons (pv 0) (pa_cons pe_int pa_nil))) (fun _ _ => rfl))))))
    (pss_one (ps_ret (pv 5))))))))), ?_⟩
    have ln : zNs.length = 53 := by decide +kernel
    have ld : (Str.ofString "0123456789").length = 10 := by decide +kernel
    have e63 : zNs.cps.toList ++ (Str.ofString "0123456789").cps.toList = zNc.cps.toList := by decide +kernel
    have ly : (S zNc.cps.toList).length = 63 := by rw [S_tl]; decide +kernel
    tm_at "goo"
    rw [e63]
    have f1 := fr
    refine ⟨UN0 b sm (S zNc.cps.toList) H, ?_, fun σ H2 hw => ?_⟩
    · show tIfS _ _ _ _ _ _
      cases sm
      all_goals tm_at "goo"
      all_goals show UN0 b _ _ H _ _
      all_goals unfold UN0
      all_goals exact ⟨_, rfl, by omega, by omega, by assumption, by tm_at "fr"⟩
    · unfold UN0 at hw
      obtain ⟨sz, rfl, s0, s1, hB2, f2⟩ := hw
      tm_at "goo"
      have F3 := f2.comp fr
      refine forR (lo := 0) (UN1 b sm (S zNc.cps.toList) sz H) ?_ (fun i σ H3 hi hp => ?_) (fun σ H3 hp => ?_)
      · unfold UN1
        refine ⟨ch, [], _, rfl, rfl, ?_, (fun _ m => nomatch m), by assumption, F3⟩
        rw [← ns_in]
        exact decide_eq_true (List.mem_of_getElem? hch)
      · unfold UN1 at hp
        obtain ⟨c, t, x, rfl, hz, hc, ht, hB3, f3⟩ := hp
        have hsl : (S (c :: t)).length ≤ 40 := by rw [S_len]; simp; omega
        tm_at "goo"
        show UN1 b sm _ sz H (i + 1) _ _
        unfold UN1
        refine ⟨c, t ++ [ch], _, rfl, by simp [hz], hc, fun x m => ?_, by assumption, f3.comp (by assumption)⟩
        rcases List.mem_append.mp m with m | m
        · exact ht x m
        · rw [List.mem_singleton.mp m, ← nc_in]
          exact decide_eq_true (List.mem_of_getElem? hch)
      · unfold UN1 at hp
        obtain ⟨c, t, x, rfl, hz, hc, ht, hB3, f3⟩ := hp
        tm_at "goo"
        exact k _ H3 ⟨c, t, rfl, hc, ht, by simp; omega⟩ hB3 f3
abbrev s_figures : Stmt := top 46
theorem sc_figures : FnScope ["_law_bag_here", "_law_small", "_law_size", "_law_built", "_law_turn"] ["_law_bag_here", "_law_small"] (defScope s_figures) := ⟨rfl, rfl, rfl, by decide +kernel, rfl, by decide +kernel, by decide +kernel⟩

theorem ok_fig (T : K4.Bl mg) (G_take : Cal P w K mg base 1 "_law_take" ["_law_bag_here", "_law_size"] spTake) (D : Def1 K mg "_law_figures" s_figures) : Cal P w K mg base 2 "_law_figures" ["_law_bag_here", "_law_small"] (spDt DgOk) := by
  refine D.cal sc_figures (fun _ _ _ _ _ _ us hl => match us, hl with | [_, _], _ => rfl) (fun vs H Q E h => ?_) (fun f cdv A outer s H vs Q E hr h => ?_) <;> unfold spDt at h
  · obtain ⟨b, sm, rfl, _⟩ := h
    rfl
  · obtain ⟨b, sm, rfl, hB, k⟩ := h
    refine ⟨_, (pss_cons (ps_set (i := 2) sc_figures.nd rfl (Or.inl rfl) (pe_cal G_take (hr.mono (by omega)) (by rfl) (pa_cons (pv 0) (pa_cons pe_int pa_nil))))
    (C8.pss_cut (ps_if (PW.pt (pw_and (pt_not (pt_val (pv 1))) (pw_and1 (pt_cmpR op_eq (pe_cal G_take (hr.mono (by omega)) (by rfl) (pa_cons (pv 0) (pa_cons pe_int pa_nil))) pe_int (nomark _)))))
      (pss_one (ps_set (i := 2) sc_figures.nd rfl (Or.inl rfl) (pe_op op_add pe_int (pe_cal G_take (hr.mono (by omega)) (by rfl) (pa_cons (pv 0) (pa_cons pe_int pa_nil))))))
      pss_nil)
    (pss_cons (ps_set (i := 3) sc_figures.nd rfl (Or.inl rfl) (pe_ix ixS pe_str (pe_cal G_take (hr.mono (by omega)) (by rfl) (pa_cons (pv 0) (pa_cons pe_int pa_nil))) (fun _ _ => rfl)))
    (pss_cons (ps_if (pt_cmpR op_eq (pv 3) pe_str (nomark _))
      (pss_one (ps_ret (pv 3)))
      pss_nil)
    (pss_cons (ps_for PassesOwn.never rfl (pi_range1 (by rfl) T.z_range (pa_cons (pv 2) pa_nil)) (pg_name (i := 4) sc_figures.nd rfl (Or.inl rfl))
      (pss_one (ps_set (i := 3) sc_figures.nd rfl (Or.inl rfl) (pe_op op_catS (pv 3) (pe_ix ixS pe_str (pe_cal G_take (hr.mono (by omega)) (by rfl) (pa_cons (pv 0) (pa_cons pe_int pa_nil))) (fun _ _ => rfl))))))
    (pss_one (ps_ret (pv 3)))))))), ?_⟩
    have ld : (Str.ofString "0123456789").length = 10 := by decide +kernel
    tm_at "goo"
    have f1 := fr
    refine ⟨UF0 b sm H, ?_, fun σ H2 hw => ?_⟩
    · show tIfS _ _ _ _ _ _
      cases sm
      all_goals tm_at "goo"
      all_goals show UF0 b _ H _ _
      all_goals unfold UF0
      all_goals exact ⟨_, rfl, by omega, by omega, by assumption, by tm_at "fr"⟩
    · unfold UF0 at hw
      obtain ⟨sz, rfl, s0, s1, hB2, f2⟩ := hw
      have dg : ∀ {ch j : Nat}, (Str.ofString "0123456789").cps.toList[j]? = some ch → isDig ch = true := fun h => by
        rw [← dig_in]
        exact decide_eq_true (List.mem_of_getElem? h)
      tm_at "goo"
      · have F3 := f2.comp fr
        have e48 : ch = 48 := (List.cons.inj c).1
        subst e48
        exact k _ _ ⟨fun x m => by rw [List.mem_singleton.mp m]; rfl, List.cons_ne_nil _ _, .inl rfl, by decide⟩ (by assumption) F3
      · have F3 := f2.comp fr
        have n48 : ch ≠ 48 := fun e => c (by rw [e])
        refine forR (lo := 0) (UF1 b sm sz H) ?_ (fun i σ H3 hi hp => ?_) (fun σ H3 hp => ?_)
        · unfold UF1
          exact ⟨ch, [], _, rfl, rfl, n48, fun x m => by rw [List.mem_singleton.mp m]; exact dg hch, by assumption, F3⟩
        · unfold UF1 at hp
          obtain ⟨c, t, x, rfl, hz, hc, ht, hB3, f3⟩ := hp
          have hsl : (S (c :: t)).length ≤ 41 := by rw [S_len]; simp; omega
          tm_at "goo"
          show UF1 b sm sz H (i + 1) _ _
          unfold UF1
          refine ⟨c, t ++ [ch], _, rfl, by simp [hz], hc, fun x m => ?_, by assumption, f3.comp (by assumption)⟩
          rcases List.mem_cons.mp m with m | m
          · exact ht x (by rw [m]; exact List.mem_cons_self)
          · rcases List.mem_append.mp m with m | m
            · exact ht x (List.mem_cons_of_mem _ m)
            · rw [List.mem_singleton.mp m]
              exact dg hch
        · unfold UF1 at hp
          obtain ⟨c, t, x, rfl, hz, hc, ht, hB3, f3⟩ := hp
          tm_at "goo"
          exact k _ H3 ⟨ht, List.cons_ne_nil _ _, .inr (fun e => hc (Option.some.inj e)), by simp; omega⟩ hB3 f3
end
end TK
set_option Elab.async false
set_option linter.all false
set_option maxRecDepth 100000
set_option maxHeartbeats 4000000
/-! the drawn texts and words, walked -/
namespace TK
open PySem PySem.Spec PyProof.Rows L2 M14 SX K4
/-- the value of a word -/
def vW : T → V
  | .str z => .str z
  | .int i => .int i
  | _ => .non
/-- a drawn piece: its kind, word and spelling -/
structure PcOk (kd : String) (w : T) (sp : List Nat) : Prop where
  wd : Wd kd w sp
  nb : signOf kd w ∉ ([[40], [91], [123], [41], [93], [125]] : List (List Nat))
  lf : (∃ s, w = .str (S s) ∧ okS s = true ∧ kd ≠ "number") ∨ ∃ n : Nat, w = .int (n : Nat) ∧ kd = "number"
def pcV (kd : String) (w : T) (sp : List Nat) : HO := .tup [.str (Str.ofString kd), vW w, .str (S sp)]
@[irreducible] def spPc1 : Sp := fun vs H Q _ => ∃ (b : Addr) (sm : Bool), vs = [.ref b, .bl sm] ∧ Box H b ∧ ∀ p kd w sp H', H p = none → H' p = some (pcV kd w sp) → PcOk kd w sp → Box H' b → Fr [b] H H' → Q (.ref p) H'
theorem pc_step {b : Addr} {sm : Bool} {H : Hp} {Q : VK} {E : XK} (hB : Box H b) (k : ∀ p kd w sp H', H p = none → H' p = some (pcV kd w sp) → PcOk kd w sp → Box H' b → Fr [b] H H' → Q (.ref p) H') : spPc1 ([.ref b, .bl sm] ++ []) H Q E := by
  unfold spPc1
  exact ⟨b, sm, rfl, hB, k⟩
theorem okc_ok {c : Nat} (h : okc c = true) : c < 0x110000 := by
  have : c ∈ alS := of_decide_eq_true (by rw [al_in]; exact h)
  have all : ∀ x ∈ alS, x < 0x110000 := by decide +kernel
  exact all c this
theorem okS_of {l : List Nat} (h : ∀ c ∈ l, okc c = true) : okS l = true := by
  unfold okS
  rw [List.all_eq_true]
  exact fun c m => decide_eq_true (okc_ok (h c m))
/-- a sign and its spelling within a text -/
structure SgT (q ch : Nat) (sp : List Nat) : Prop where
  tx : TxB q [ch] sp
  le : sp.length ≤ 2
  ok : ∀ c ∈ sp, okc c = true ∧ c ≠ 10
theorem sgt_nl {q : Nat} (hq : q = 34 ∨ q = 39) : SgT q 10 [92, 110] := ⟨TxB.esc (e0 := 110) (by omega) rfl, by decide, by decide⟩
theorem sgt_esc {q ch : Nat} (hq : q = 34 ∨ q = 39) (h : ch = 92 ∨ ch = 34 ∨ ch = 39) : SgT q ch [92, ch] := by
  have e : dcE ch = ch := by unfold dcE; rw [if_neg (by omega)]
  have t := TxB.esc (q := q) (e0 := ch) (by omega) (by rcases h with rfl | rfl | rfl <;> rfl)
  rw [e] at t
  exact ⟨t, by simp, by rcases h with rfl | rfl | rfl <;> decide⟩
theorem sgt_plain {q ch : Nat} (ho : okc ch = true) (h10 : ch ≠ 10) (hq : ch ≠ q) (h92 : ch ≠ 92) : SgT q ch [ch] := ⟨TxB.plain hq h92, by simp, fun c m => by rw [List.mem_singleton.mp m]; exact ⟨ho, h10⟩⟩
@[irreducible] def QT (b : Addr) (sm : Bool) (q : Nat) (H : Hp) (i : Nat) (σ : L2.St) (H' : Hp) : Prop := ∃ (d body : List Nat) (x6 x7 : Option V), σ = [some (.ref b), some (.bl sm), some (.str (S [q])), some (.str (S alS)), some (.str (S d)), some (.str (S (q :: body))), x6, x7] ∧ d.length = i ∧ TxB q d body ∧ body.length ≤ 2 * i ∧ (∀ c ∈ d, okc c = true) ∧ (∀ c ∈ body, okc c = true ∧ c ≠ 10) ∧ Box H' b ∧ Fr [b] H H'
@[irreducible] def QT1 (b : Addr) (sm : Bool) (q : Nat) (d body : List Nat) (x6 : Option V) (H : Hp) (σ : L2.St) (H' : Hp) : Prop := ∃ ch : Nat, σ = [some (.ref b), some (.bl sm), some (.str (S [q])), some (.str (S alS)), some (.str (S d)), some (.str (S (q :: body))), x6, some (.str (S [ch]))] ∧ okc ch = true ∧ Box H' b ∧ Fr [b] H H'
@[irreducible] def QT2 (b : Addr) (sm : Bool) (q ch : Nat) (d body : List Nat) (x6 : Option V) (H : Hp) (σ : L2.St) (H' : Hp) : Prop := ∃ sp : List Nat, σ = [some (.ref b), some (.bl sm), some (.str (S [q])), some (.str (S alS)), some (.str (S (d ++ [ch]))), some (.str (S (q :: body))), x6, some (.str (S sp))] ∧ SgT q ch sp ∧ Box H' b ∧ Fr [b] H H'
section
variable {P : Program} {w : World} {K : PySem.W.Frag} {mg : Str → Option Value} {base : Heap}
set_option hygiene false
local macro_rules | `(tactic| tm_at "sc") => `(tactic| (first | omega | (simp only [List.length_cons, List.length_nil, List.length_map, List.length_set, List.length_append]; omega) | (simp only [List.length_map] at h1 ⊢; omega) | (simp only [List.length_map] at c ⊢; omega) | with_reducible assumption | exact And.intro (by omega) (by omega) | exact Or.inl (And.intro (by omega) (by omega)) | exact Or.inr (And.intro (by omega) (by omega)) | decide +kernel | exact len1000 (by simp) | rfl | fail "no way"))
local macro_rules | `(tactic| tm_at "sc1") => `(tactic| (focus (simp; done)))
local macro_rules | `(tactic| tm_at "ne") => `(tactic| (first | assumption | exact Ne.symm (by assumption) | (apply Box.ne2; assumption; tm_at "hp") | (apply Ne.symm; apply Box.ne2; assumption; tm_at "hp") | (apply ne_of_none2; assumption; tm_at "hp") | (apply Ne.symm; apply ne_of_none2; assumption; tm_at "hp") | fail "no way"))
local macro_rules | `(tactic| tm_at "f0") => `(tactic| (first | assumption | (apply Fr.new; assumption) | fail "no way"))
local macro_rules | `(tactic| tm_at "hp") => `(tactic| (first | assumption | exact upd_same | (apply SqL.of; first | assumption | exact upd_same) | (apply Fr.at0; tm_at "f0"; tm_at "hp") | (apply Fr.at1n; assumption; tm_at "ne"; tm_at "hp") | (apply sqFr0; tm_at "f0"; tm_at "hp") | (apply sqFr1; assumption; tm_at "ne"; tm_at "hp") | (apply Box.fr0; tm_at "f0"; tm_at "hp") | (apply Box.fr1; assumption; tm_at "ne"; tm_at "hp") | (apply Den.fr; tm_at "f0"; tm_at "hp") | (apply Dens.fr; tm_at "f0"; tm_at "hp") | fail "no way"))
local macro_rules | `(tactic| tm_at "free0") => `(tactic| (first | assumption | (apply updFree; assumption) | (apply updFree; apply updFree; assumption) | (apply updFree; apply updFree; apply updFree; assumption) | (apply updFree; apply updFree; apply updFree; apply updFree; assumption) | fail "no way"))
local macro_rules | `(tactic| tm_at "free") => `(tactic| (first | tm_at "free0" | (apply Fr.free; assumption; tm_at "free0") | (apply Box.free; assumption; tm_at "fr"; tm_at "free0") | (apply Fr.free; assumption; apply Fr.free; assumption; tm_at "free0") | fail "no way"))
local macro_rules | `(tactic| tm_at "fr") => `(tactic| (first | assumption | exact Fr.refl0 _ | exact Fr.refl (Box.nt (by assumption)) | (refine Fr.comp0 ?_ (by tm_at "f0"); tm_at "fr") | (refine Fr.comp ?_ (by assumption); tm_at "fr") | (refine Fr.compN ?_ (by assumption) (by tm_at "free"); tm_at "fr") | fail "no way"))
local macro_rules | `(tactic| tm_at "call") => `(tactic| fail "no call")
local macro_rules | `(tactic| tm_at "call") => `(tactic| (apply take_step; tm_at "hp"; tm_at "sc"; tm_at "sc"; intro r H1 h0 h1 hB fr))
local macro_rules | `(tactic| tm_at "ty") => `(tactic| (first | assumption | exact .base .non | exact .base (.bl _) | exact .base (.int _) | exact .base (.str _) | (apply TyX.base; apply TyOf.lst; tm_at "hp") | (apply TyX.base; apply TyOf.tup; tm_at "hp") | fail "no way"))
local macro_rules | `(tactic| tm_at "pre") => `(tactic| fail "none")
local macro_rules | `(tactic| tm_at "go1") => `(tactic| (first | tm_at "pre" | refine ⟨_, rfl, ?_⟩ | refine ⟨_, _, rfl, rfl, ?_⟩ | (apply set_step; tm_at "hp"; tm_at "sc"; tm_at "sc"; intro H1 hp fr) | (with_reducible refine iteDI ?_ ?_ <;> intro c) | (with_reducible refine iteDS ?_ ?_ <;> intro c) | (with_reducible refine iteD ?_ ?_ <;> intro c) | (with_reducible refine iteEM ?_ ?_ <;> intro c) | (with_reducible refine iteE ?_ ?_ <;> intro c) | with_reducible refine iteN ?_ | with_reducible refine iteF ?_ | with_reducible refine iteT ?_ | (refine fun (p : Addr) (np : _ = (none : Option HO)) => ?_; fail_if_success (refine ⟨fun (_ _ : Nat) (_ : Hp) => True, ?_⟩)) | (apply isi_tt; tm_at "ty"; focus (decide +kernel)) | (apply isi_ff; tm_at "ty"; focus (decide +kernel)) | (apply sl_step; tm_at "hp"; intro qq H1 ms nq hq fr) | (apply sum_step; tm_at "hp"; intro i) | (apply tru_step; tm_at "hp") | (apply len_step; tm_at "hp") | (apply lenq_step; assumption) | (apply ixq_step; assumption; tm_at "sc"; tm_at "sc"; intro v hv) | (apply lst_step; tm_at "hp") | (apply tupl_step; tm_at "hp") | (apply ixr_step; tm_at "hp"; exact rfl) | (apply ix0_step; tm_at "hp") | (apply ix1_step; tm_at "hp") | (apply ix2_step; tm_at "hp") | (apply ixi_step; tm_at "hp"; tm_at "sc"; tm_at "sc"; intro n hn hn') | (apply ixl_step; tm_at "hp"; tm_at "sc"; tm_at "sc"; intro v hv) | (apply ixt_step; tm_at "hp"; tm_at "sc"; tm_at "sc"; intro v hm hv) | (apply in_step; tm_at "hp"; rfl; rfl) | (apply cat_step; tm_at "hp"; tm_at "hp"; tm_at "sc") | (apply catT_step; tm_at "hp"; tm_at "hp"; tm_at "sc1") | (apply tyL_and; tm_at "hp") | (apply app_step; tm_at "hp"; tm_at "sc"; intro H1 hp fr) | tm_at "call" | refine ⟨⟨_, rfl⟩, ?_⟩ | (apply ixs_step; tm_at "sc"; tm_at "sc"; tm_at "sc"; intro ch) | refine .inl ⟨_, rfl, ?_⟩ | refine .inr ⟨_, rfl, ?_⟩ | (apply And.intro; tm_at "sc") | (with_reducible refine wayB ?_ ?_ <;> intro c) | fail "no way"))
local macro_rules | `(tactic| tm_at "go") => `(tactic| (repeat tm_at "go1"))
local macro_rules | `(tactic| tm_at "goo") => `(tactic| (repeat' tm_at "go1"))
local macro_rules | `(tactic| tm_at "den") => `(tactic| (first | assumption | exact Den.str _ | exact Den.int _ | exact Den.bl _ | exact Den.non | (apply Den.tups; tm_at "hp"; tm_at "dens") | (apply Den.fr; tm_at "f0"; tm_at "den") | fail "no way"))
local macro_rules | `(tactic| tm_at "dens") => `(tactic| (first | assumption | exact Dens.nil | (apply Dens.cons; tm_at "den"; tm_at "dens") | (apply Dens.fr; tm_at "f0"; tm_at "dens") | fail "no way"))
local macro_rules | `(tactic| tm_at "ix") => `(tactic| (apply Ix.mk; tm_at "hp"; tm_at "ne"; assumption; assumption))
local macro_rules | `(tactic| tm_at "dep") => `(tactic| (first | assumption | exact Dep.int | exact Dep.str | exact Dep.bl | exact Dep.non | (apply Dep.tup; tm_at "dlen"; tm_at "deps") | (apply Dep.mono; assumption; decide) | fail "no way"))
local macro_rules | `(tactic| tm_at "deps") => `(tactic| (first | assumption | exact memN | (apply memC; tm_at "dep"; tm_at "deps") | fail "no way"))
local macro_rules | `(tactic| tm_at "dlen") => `(tactic| (first | assumption | (focus (simp; done)) | omega | fail "no way"))
local macro_rules | `(tactic| tm_at "pre") => `(tactic| (apply rep_step; tm_at "hp"; tm_at "sc"; tm_at "sc"; intro rp H1 nrp hrp fr))

local macro_rules | `(tactic| tm_at "lits") => `(tactic| (try simp only [l_nl, l_open, l_close, l_sp, l_quo, l_bs, l_minus, l_zero, l_empty, l_n] at c))
local macro_rules | `(tactic| tm_at "pre") => `(tactic| (first | (apply slm_step; tm_at "sc"; tm_at "sc"; tm_at "sc") | (apply slf_step; tm_at "sc"; tm_at "sc") | (apply slt_step; tm_at "sc"; tm_at "sc") | (with_reducible refine iteEqZ ?_ ?_ <;> (intro c; tm_at "lits")) | (apply catS_step; tm_at "sc") | (apply inD_step) | (apply ordS_step) | (apply intS_step; assumption) | (apply sign_step) | (apply lenS_step; tm_at "sc")))
local macro_rules | `(tactic| tm_at "pre") => `(tactic| (apply while_go))
local macro_rules | `(tactic| tm_at "pre") => `(tactic| (apply ixS_step; tm_at "sc"; tm_at "sc"; assumption))
local macro_rules | `(tactic| tm_at "pre") => `(tactic| (apply appB_step; tm_at "hp"; tm_at "sc"; intro H1 hp fr))

local macro_rules | `(tactic| tm_at "pre") => `(tactic| (first | (apply catA_step; (focus (omega))) | (apply ixA_step; (focus (omega)); (focus (omega)); (focus (omega)); intro ch hch) | (apply lenZ_step; (focus (omega)))))
local macro_rules | `(tactic| tm_at "call") => `(tactic| (apply k_step))
set_option pp.deepTerms false
set_option pp.deepTerms.threshold 3
abbrev s_quoted : Stmt := top 47
theorem sc_quoted : FnScope ["_law_bag_here", "_law_small", "_law_quote", "_law_signs_here", "_law_word_here", "_law_spelled", "_law_turn", "_law_sign"] ["_law_bag_here", "_law_small"] (defScope s_quoted) := ⟨rfl, rfl, rfl, by decide +kernel, rfl, by decide +kernel, by decide +kernel⟩

theorem ok_qtd (T : K4.Bl mg) (G_take : Cal P w K mg base 1 "_law_take" ["_law_bag_here", "_law_size"] spTake) (G_allowed : Cal P w K mg base 1 "_law_allowed" [] (spK (.str (S alS)))) (D : Def1 K mg "_law_quoted" s_quoted) : Cal P w K mg base 2 "_law_quoted" ["_law_bag_here", "_law_small"] spPc1 := by
  refine D.cal sc_quoted (fun _ _ _ _ _ _ us hl => match us, hl with | [_, _], _ => rfl) (fun vs H Q E h => ?_) (fun f cdv A outer s H vs Q E hr h => ?_) <;> unfold spPc1 at h
  · obtain ⟨b, sm, rfl, _⟩ := h
    rfl
  · obtain ⟨b, sm, rfl, hB, k⟩ := h
    refine ⟨_, (pss_cons (ps_set (i := 2) sc_quoted.nd rfl (Or.inl rfl) (pe_ix ixS pe_str (pe_cal G_take (hr.mono (by omega)) (by rfl) (pa_cons (pv 0) (pa_cons pe_int pa_nil))) (fun _ _ => rfl)))
    (pss_cons (ps_set (i := 3) sc_quoted.nd rfl (Or.inl rfl) (pe_cal0 G_allowed (hr.mono (by omega)) (by rfl)))
    (pss_cons (ps_set (i := 4) sc_quoted.nd rfl (Or.inl rfl) pe_str)
    (pss_cons (ps_set (i := 5) sc_quoted.nd rfl (Or.inl rfl) (pv 2))
    (pss_cons (ps_for PassesOwn.never rfl (pi_range1 (by rfl) T.z_range (pa_cons (pe_cal G_take (hr.mono (by omega)) (by rfl) (pa_cons (pv 0) (pa_cons (pe_ifExp (pt_val (pv 1)) pe_int pe_int) pa_nil))) pa_nil)) (pg_name (i := 6) sc_quoted.nd rfl (Or.inl rfl))
      (pss_cons (ps_set (i := 7) sc_quoted.nd rfl (Or.inl rfl) (pe_ix ixS (pv 3) (pe_cal G_take (hr.mono (by omega)) (by rfl) (pa_cons (pv 0) (pa_cons (pe_callB call_lenS (by rfl) T.z_len (by decide +kernel) (pa_cons (pv 3) pa_nil)) pa_nil))) (fun _ _ => rfl)))
      (C8.pss_cut (ps_if (pt_cmpR op_eq (pe_cal G_take (hr.mono (by omega)) (by rfl) (pa_cons (pv 0) (pa_cons pe_int pa_nil))) pe_int (nomark _))
        (pss_one (ps_set (i := 7) sc_quoted.nd rfl (Or.inl rfl) (pe_ix ixS pe_str (pe_cal G_take (hr.mono (by omega)) (by rfl) (pa_cons (pv 0) (pa_cons pe_int pa_nil))) (fun _ _ => rfl))))
        pss_nil)
      (pss_cons (ps_set (i := 4) sc_quoted.nd rfl (Or.inl rfl) (pe_op op_catS (pv 4) (pv 7)))
      (C8.pss_cut (ps_if (pt_cmpR op_eq (pv 7) pe_str (nomark _))
        (pss_one (ps_set (i := 7) sc_quoted.nd rfl (Or.inl rfl) pe_str))
        (pss_one (ps_if (PW.pt (pw_or (pt_cmpR op_eq (pv 7) pe_str (nomark _)) (pw_or1 (pt_cmpR op_eq (pv 7) (pv 2) (nomark _)))))
          (pss_one (ps_set (i := 7) sc_quoted.nd rfl (Or.inl rfl) (pe_op op_catS pe_str (pv 7))))
          (pss_one (ps_if (PW.pt (pw_and (pt_cmpR op_inG (pv 7) pe_str (by rfl)) (pw_and1 (pt_cmpR op_eq (pe_cal G_take (hr.mono (by omega)) (by rfl) (pa_cons (pv 0) (pa_cons pe_int pa_nil))) pe_int (nomark _)))))
            (pss_one (ps_set (i := 7) sc_quoted.nd rfl (Or.inl rfl) (pe_op op_catS pe_str (pv 7))))
            pss_nil)))))
      (pss_one (ps_set (i := 5) sc_quoted.nd rfl (Or.inl rfl) (pe_op op_catS (pv 5) (pv 7)))))))))
    (pss_one (ps_ret (pe_tup (pa_cons pe_str (pa_cons (pv 4) (pa_cons (pe_op op_catS (pv 5) (pv 2)) pa_nil))))))))))), ?_⟩
    have lq : (Str.ofString "\"'").length = 2 := by decide +kernel
    have la : (S alS).length = 95 := by rw [S_len]; exact al_len
    have l4 : (Str.ofString "\\'\"\n").length = 4 := by decide +kernel
    have alo : ∀ {c j : Nat}, (S alS).cps.toList[j]? = some c → okc c = true := fun h => by
      rw [← al_in]
      exact decide_eq_true (List.mem_of_getElem? (l := alS) h)
    have al4 : ∀ {c j : Nat}, (Str.ofString "\\'\"\n").cps.toList[j]? = some c → okc c = true := fun h => by
      have all : ∀ x ∈ (Str.ofString "\\'\"\n").cps.toList, okc x = true := by decide +kernel
      exact all _ (List.mem_of_getElem? h)
    tm_at "goo"
    all_goals
      have hq : ch = 34 ∨ ch = 39 := by
        have m := List.mem_of_getElem? hch
        rw [show (Str.ofString "\"'").cps.toList = [34, 39] by decide +kernel] at m
        simpa using m
      have F0 : Fr [b] H H1 := by tm_at "fr"
      obtain ⟨q, eq⟩ : ∃ q, q = ch := ⟨_, rfl⟩
      rw [← eq] at hq ⊢
      refine forR (lo := 0) (QT b sm q H) ?_ (fun i σ H3 hi hp => ?_) (fun σ H3 hp => ?_)
      · unfold QT
        exact ⟨[], [], _, _, rfl, rfl, .nil, Nat.le_refl _, (fun _ m => nomatch m), (fun _ m => nomatch m), by assumption, F0⟩
      · unfold QT at hp
        obtain ⟨d, body, x6, x7, rfl, hd, tx, hb, od, ob, hB3, f3⟩ := hp
        have hi8 : i ≤ 8 := by omega
        tm_at "goo"
        refine ⟨QT1 b sm q d body (some (.int (0 + (i : Int)))) H, ?_, fun σ H4 hw => ?_⟩
        · have F3 := f3.comp fr
          have o1 := alo hch
          show tIfS _ _ _ _ _ _
          tm_at "goo"
          all_goals show QT1 b sm q d body _ H _ _
          all_goals unfold QT1
          all_goals first
            | exact ⟨_, rfl, o1, by assumption, by tm_at "fr"⟩
            | exact ⟨_, rfl, al4 hch, by assumption, by tm_at "fr"⟩
        · unfold QT1 at hw
          obtain ⟨ch, rfl, och, hB4, f4⟩ := hw
          have ls1 : (S d).length ≤ 10 := by rw [S_len]; omega
          have ls2 : (S [ch]).length = 1 := by rw [S_len]; rfl
          tm_at "goo"
          refine ⟨QT2 b sm q ch d body (some (.int (0 + (i : Int)))) H, ?_, fun σ H5 hw => ?_⟩
          · have lb : (Str.ofString "\\").length = 1 := by decide +kernel
            have eb : (Str.ofString "\\").cps.toList = [92] := by decide +kernel
            have en : Str.ofString "\\n" = S [92, 110] := by rw [← S_tl (Str.ofString "\\n"), show (Str.ofString "\\n").cps.toList = [92, 110] by decide +kernel]
            have eq2 : (Str.ofString "\"'").cps.toList = [34, 39] := by decide +kernel
            have F4 := f4
            show tIfS _ _ _ _ _ _
            tm_at "goo"
            all_goals show QT2 b sm q ch d body _ H _ _
            all_goals unfold QT2
            all_goals first
              | (have e1 : ch = 10 := (List.cons.inj c).1
                 subst e1
                 rw [en]
                 exact ⟨_, rfl, sgt_nl hq, by assumption, F4⟩)
              | (have e1 : ch = 92 := (List.cons.inj c).1
                 rw [eb]
                 exact ⟨_, rfl, sgt_esc hq (.inl e1), by assumption, F4⟩)
              | (have e1 : ch = q := (List.cons.inj c).1
                 rw [eb]
                 exact ⟨_, rfl, sgt_esc hq (.inr (by omega)), by assumption, F4⟩)
              | (have m : (false != decide (ch ∈ (Str.ofString "\"'").cps.toList)) = true := by assumption
                 have m2 := of_dt m
                 rw [eq2] at m2
                 have e1 : ch = 34 ∨ ch = 39 := by simpa using m2
                 rw [eb]
                 exact ⟨_, rfl, sgt_esc hq (.inr e1), by assumption, by tm_at "fr"⟩)
              | exact ⟨_, rfl, sgt_plain och (fun e => absurd (by rw [e]) (by assumption : [ch] ≠ [10])) (fun e => absurd (by rw [e]) (by assumption : [ch] ≠ [q])) (fun e => absurd (by rw [e]) (by assumption : [ch] ≠ [92])), by assumption, by tm_at "fr"⟩
          · unfold QT2 at hw
            obtain ⟨sp, rfl, sg, hB5, f5⟩ := hw
            have ls3 : (S (q :: body)).length ≤ 30 := by rw [S_len]; simp; omega
            have ls4 : (S sp).length ≤ 2 := by rw [S_len]; exact sg.le
            tm_at "goo"
            show QT b sm q H (i + 1) _ _
            unfold QT
            refine ⟨d ++ [ch], body ++ sp, _, _, rfl, by simp [hd], tx.snoc sg.tx, by have := sg.le; simp; omega, fun x m => ?_, fun x m => ?_, hB5, f5⟩
            · rcases List.mem_append.mp m with m | m
              · exact od x m
              · rw [List.mem_singleton.mp m]; exact och
            · rcases List.mem_append.mp m with m | m
              · exact ob x m
              · exact sg.ok x m
      · unfold QT at hp
        obtain ⟨d, body, x6, x7, rfl, hd, tx, hb, od, ob, hB3, f3⟩ := hp
        have ls3 : (S (q :: body)).length ≤ 30 := by rw [S_len]; simp; omega
        have ls2 : (S [q]).length = 1 := by rw [S_len]; rfl
        have hb38 : body.length ≤ 38 := by omega
        tm_at "goo"
        have N4 := Fr.new (o := .tup [.str (Str.ofString "text"), .str (S d), .str (S (q :: body ++ [q]))]) np
        refine k p "text" (.str (S d)) (q :: body ++ [q]) _ (hB3.free f3 np) upd_same ⟨wd_text hq tx hb38 ob, ?_, .inl ⟨d, rfl, okS_of od, by decide⟩⟩ (hB3.fr0 N4) (f3.comp0 N4)
        rw [show signOf "text" (.str (S d)) = [] by unfold signOf; simp]
        decide
end
end TK
set_option Elab.async false
set_option linter.all false
set_option maxRecDepth 100000
set_option maxHeartbeats 4000000
/-! the drawn words and comments, walked -/
namespace TK
open PySem PySem.Spec PyProof.Rows L2 M14 SX K4
theorem kws_wd : ∀ z ∈ kws, ∃ c t, z = c :: t ∧ isNs c = true ∧ (∀ x ∈ t, isNc x = true) ∧ z.length ≤ 30 := by
  have h : ∀ z ∈ kws, (match z with | [] => false | c :: t => isNs c && (t.all isNc && decide (z.length ≤ 30))) = true := by decide +kernel
  intro z m
  have := h z m
  cases z with
  | nil => cases this
  | cons c t =>
    simp only [Bool.and_eq_true, List.all_eq_true, decide_eq_true_eq] at this
    exact ⟨c, t, rfl, this.1, this.2.1, this.2.2⟩
theorem pc_name {z : List Nat} (h : NmOk z) : PcOk (if z ∈ kws then "keyword" else "name") (.str (S z)) z := by
  obtain ⟨c, t, rfl, hc, ht, hl⟩ := h
  refine ⟨wd_name hc ht hl, ?_, .inl ⟨_, rfl, okS_of fun x m => ?_, by split <;> decide⟩⟩
  · have : signOf (if c :: t ∈ kws then "keyword" else "name") (.str (S (c :: t))) = [] := by
      show (if (if c :: t ∈ kws then "keyword" else "name") = "sign" then (S (c :: t)).cps.toList else []) = []
      rw [if_neg (by split <;> decide)]
    rw [this]
    decide
  · rcases List.mem_cons.mp m with rfl | m
    · exact (nc_okc (by unfold isNc; rw [hc]; rfl)).1
    · exact (nc_okc (ht x m)).1
theorem pc_num {z : List Nat} (h : DgOk z) : PcOk "number" (.int ((NumText.digitsVal z : Nat) : Int)) z :=
  ⟨wd_num h.1 h.2.1 h.2.2.1 h.2.2.2, by rw [show signOf "number" (.int ((NumText.digitsVal z : Nat) : Int)) = [] from rfl]; decide, .inr ⟨_, rfl, rfl⟩⟩
theorem pc_sign {z : List Nat} (m : z ∈ sgs) (h : z ∉ ([[40], [91], [123], [41], [93], [125]] : List (List Nat))) : PcOk "sign" (.str (S z)) z := by
  refine ⟨wd_sign m, h, .inl ⟨_, rfl, okS_of fun c mc => ?_, by decide⟩⟩
  have all : ∀ x ∈ sgs, ∀ c ∈ x, okc c = true := by decide +kernel
  exact all z m c mc
theorem intD2_step {w : List Nat} {H : Hp} {Q : VK} (h : DgOk w) (q : Q (.int ((NumText.digitsVal w : Nat) : Int)) H) : rIntS [.str (S w)] H Q := by
  have hd : NumText.AllDigits w := allDig.mp (by rw [List.all_eq_true]; exact h.1)
  exact intD_step hd h.2.1 (by have := h.2.2.2; omega) q
/-- the signs that are no brackets -/
theorem fPl_yes {i : Nat} (h : fPl i = true) : ∃ s, sgs[i]? = some s ∧ s ∉ ([[40], [91], [123], [41], [93], [125]] : List (List Nat)) := by
  have hi : i < 24 := by
    by_cases c : i < 24
    · exact c
    · unfold fPl at h
      rw [List.getElem?_eq_none_iff.mpr (by rw [sgs_len]; omega)] at h
      cases h
  have all : ∀ j, j < 24 → fPl j = true → ∃ s, sgs[j]? = some s ∧ s ∉ ([[40], [91], [123], [41], [93], [125]] : List (List Nat)) := by
    have d : ∀ j, j < 24 → fPl j = true → (match sgs[j]? with | some s => decide (s ∉ ([[40], [91], [123], [41], [93], [125]] : List (List Nat))) | none => false) = true := by decide +kernel
    intro j hj hf
    have := d j hj hf
    cases e : sgs[j]? with
    | none => rw [e] at this; cases this
    | some s => rw [e] at this; exact ⟨s, rfl, of_decide_eq_true this⟩
  exact all i hi h
theorem inLs_step {K : PySem.W.Frag} {H : Hp} {l : List Nat} {p : Addr} {ls : List (List Nat)} {Q : VK} {neg : Bool} (hp : SqL K H p (strsV ls)) (h : Q (.bl (neg != decide (l ∈ ls))) H) : rxIn K neg (.str (S l)) (.ref p) H Q :=
  inLv_step hp rfl (flat_strs ls) (by rw [show strsV ls = ls.map fun l => V.str (S l) from rfl, inV_strs]; exact h)
theorem strs_at {ls : List (List Nat)} {j : Nat} {v : V} (h : (strsV ls)[j]? = some v) : ∃ z, v = .str (S z) ∧ ls[j]? = some z := by
  unfold strsV at h
  rw [List.getElem?_map] at h
  cases e : ls[j]? with
  | none => rw [e] at h; cases h
  | some z => rw [e] at h; exact ⟨z, (Option.some.inj h).symm, rfl⟩
theorem keptN_mem {f : Nat → Bool} {n i : Nat} (h : i ∈ keptN f n) : f i = true := by
  unfold keptN at h
  exact (List.mem_filter.mp h).2
/-- a comment's signs -/
def CmOk (z : List Nat) : Prop := ∃ t, z = 35 :: t ∧ z.length ≤ 9 ∧ ∀ c ∈ z, okc c = true ∧ c ≠ 10
@[irreducible] def spCm : Sp := fun vs H Q _ => ∃ b : Addr, vs = [.ref b] ∧ Box H b ∧ ∀ z H', CmOk z → Box H' b → Fr [b] H H' → Q (.str (S z)) H'
theorem cm_step {b : Addr} {H : Hp} {Q : VK} {E : XK} (hB : Box H b) (k : ∀ z H', CmOk z → Box H' b → Fr [b] H H' → Q (.str (S z)) H') : spCm ([.ref b] ++ []) H Q E := by
  unfold spCm
  exact ⟨b, rfl, hB, k⟩
@[irreducible] def CMt (b : Addr) (H : Hp) (i : Nat) (σ : L2.St) (H' : Hp) : Prop := ∃ (t : List Nat) (x : Option V), σ = [some (.ref b), some (.str (S (35 :: t))), some (.str (S alS)), x] ∧ t.length = i ∧ (∀ c ∈ t, okc c = true ∧ c ≠ 10) ∧ Box H' b ∧ Fr [b] H H'
section
variable {P : Program} {w : World} {K : PySem.W.Frag} {mg : Str → Option Value} {base : Heap}
set_option hygiene false
local macro_rules | `(tactic| tm_at "sc") => `(tactic| (first | omega | (simp only [List.length_cons, List.length_nil, List.length_map, List.length_set, List.length_append]; omega) | (simp only [List.length_map] at h1 ⊢; omega) | (simp only [List.length_map] at c ⊢; omega) | with_reducible assumption | exact And.intro (by omega) (by omega) | exact Or.inl (And.intro (by omega) (by omega)) | exact Or.inr (And.intro (by omega) (by omega)) | decide +kernel | exact len1000 (by simp) | rfl | fail "no way"))
local macro_rules | `(tactic| tm_at "sc1") => `(tactic| (focus (simp; done)))
local macro_rules | `(tactic| tm_at "ne") => `(tactic| (first | assumption | exact Ne.symm (by assumption) | (apply Box.ne2; assumption; tm_at "hp") | (apply Ne.symm; apply Box.ne2; assumption; tm_at "hp") | (apply ne_of_none2; assumption; tm_at "hp") | (apply Ne.symm; apply ne_of_none2; assumption; tm_at "hp") | fail "no way"))
local macro_rules | `(tactic| tm_at "f0") => `(tactic| (first | assumption | (apply Fr.new; assumption) | fail "no way"))
local macro_rules | `(tactic| tm_at "hp") => `(tactic| (first | assumption | exact upd_same | (apply SqL.of; first | assumption | exact upd_same) | (apply Fr.at0; tm_at "f0"; tm_at "hp") | (apply Fr.at1n; assumption; tm_at "ne"; tm_at "hp") | (apply sqFr0; tm_at "f0"; tm_at "hp") | (apply sqFr1; assumption; tm_at "ne"; tm_at "hp") | (apply Box.fr0; tm_at "f0"; tm_at "hp") | (apply Box.fr1; assumption; tm_at "ne"; tm_at "hp") | (apply Den.fr; tm_at "f0"; tm_at "hp") | (apply Dens.fr; tm_at "f0"; tm_at "hp") | fail "no way"))
local macro_rules | `(tactic| tm_at "free0") => `(tactic| (first | assumption | (apply updFree; assumption) | (apply updFree; apply updFree; assumption) | (apply updFree; apply updFree; apply updFree; assumption) | (apply updFree; apply updFree; apply updFree; apply updFree; assumption) | fail "no way"))
local macro_rules | `(tactic| tm_at "free") => `(tactic| (first | tm_at "free0" | (apply Fr.free; assumption; tm_at "free0") | (apply Box.free; assumption; tm_at "fr"; tm_at "free0") | (apply Fr.free; assumption; apply Fr.free; assumption; tm_at "free0") | fail "no way"))
local macro_rules | `(tactic| tm_at "fr") => `(tactic| (first | assumption | exact Fr.refl0 _ | exact Fr.refl (Box.nt (by assumption)) | (refine Fr.comp0 ?_ (by tm_at "f0"); tm_at "fr") | (refine Fr.comp ?_ (by assumption); tm_at "fr") | (refine Fr.compN ?_ (by assumption) (by tm_at "free"); tm_at "fr") | fail "no way"))
local macro_rules | `(tactic| tm_at "call") => `(tactic| fail "no call")
local macro_rules | `(tactic| tm_at "call") => `(tactic| (apply take_step; tm_at "hp"; tm_at "sc"; tm_at "sc"; intro r H1 h0 h1 hB fr))
local macro_rules | `(tactic| tm_at "ty") => `(tactic| (first | assumption | exact .base .non | exact .base (.bl _) | exact .base (.int _) | exact .base (.str _) | (apply TyX.base; apply TyOf.lst; tm_at "hp") | (apply TyX.base; apply TyOf.tup; tm_at "hp") | fail "no way"))
local macro_rules | `(tactic| tm_at "pre") => `(tactic| fail "none")
local macro_rules | `(tactic| tm_at "go1") => `(tactic| (first | tm_at "pre" | refine ⟨_, rfl, ?_⟩ | refine ⟨_, _, rfl, rfl, ?_⟩ | (apply set_step; tm_at "hp"; tm_at "sc"; tm_at "sc"; intro H1 hp fr) | (with_reducible refine iteDI ?_ ?_ <;> intro c) | (with_reducible refine iteDS ?_ ?_ <;> intro c) | (with_reducible refine iteD ?_ ?_ <;> intro c) | (with_reducible refine iteEM ?_ ?_ <;> intro c) | (with_reducible refine iteE ?_ ?_ <;> intro c) | with_reducible refine iteN ?_ | with_reducible refine iteF ?_ | with_reducible refine iteT ?_ | (refine fun (p : Addr) (np : _ = (none : Option HO)) => ?_; fail_if_success (refine ⟨fun (_ _ : Nat) (_ : Hp) => True, ?_⟩)) | (apply isi_tt; tm_at "ty"; focus (decide +kernel)) | (apply isi_ff; tm_at "ty"; focus (decide +kernel)) | (apply sl_step; tm_at "hp"; intro qq H1 ms nq hq fr) | (apply sum_step; tm_at "hp"; intro i) | (apply tru_step; tm_at "hp") | (apply len_step; tm_at "hp") | (apply lenq_step; assumption) | (apply ixq_step; assumption; tm_at "sc"; tm_at "sc"; intro v hv) | (apply lst_step; tm_at "hp") | (apply tupl_step; tm_at "hp") | (apply ixr_step; tm_at "hp"; exact rfl) | (apply ix0_step; tm_at "hp") | (apply ix1_step; tm_at "hp") | (apply ix2_step; tm_at "hp") | (apply ixi_step; tm_at "hp"; tm_at "sc"; tm_at "sc"; intro n hn hn') | (apply ixl_step; tm_at "hp"; tm_at "sc"; tm_at "sc"; intro v hv) | (apply ixt_step; tm_at "hp"; tm_at "sc"; tm_at "sc"; intro v hm hv) | (apply in_step; tm_at "hp"; rfl; rfl) | (apply cat_step; tm_at "hp"; tm_at "hp"; tm_at "sc") | (apply catT_step; tm_at "hp"; tm_at "hp"; tm_at "sc1") | (apply tyL_and; tm_at "hp") | (apply app_step; tm_at "hp"; tm_at "sc"; intro H1 hp fr) | tm_at "call" | refine ⟨⟨_, rfl⟩, ?_⟩ | (apply ixs_step; tm_at "sc"; tm_at "sc"; tm_at "sc"; intro ch) | refine .inl ⟨_, rfl, ?_⟩ | refine .inr ⟨_, rfl, ?_⟩ | (apply And.intro; tm_at "sc") | (with_reducible refine wayB ?_ ?_ <;> intro c) | fail "no way"))
local macro_rules | `(tactic| tm_at "go") => `(tactic| (repeat tm_at "go1"))
local macro_rules | `(tactic| tm_at "goo") => `(tactic| (repeat' tm_at "go1"))
local macro_rules | `(tactic| tm_at "den") => `(tactic| (first | assumption | exact Den.str _ | exact Den.int _ | exact Den.bl _ | exact Den.non | (apply Den.tups; tm_at "hp"; tm_at "dens") | (apply Den.fr; tm_at "f0"; tm_at "den") | fail "no way"))
local macro_rules | `(tactic| tm_at "dens") => `(tactic| (first | assumption | exact Dens.nil | (apply Dens.cons; tm_at "den"; tm_at "dens") | (apply Dens.fr; tm_at "f0"; tm_at "dens") | fail "no way"))
local macro_rules | `(tactic| tm_at "ix") => `(tactic| (apply Ix.mk; tm_at "hp"; tm_at "ne"; assumption; assumption))
local macro_rules | `(tactic| tm_at "dep") => `(tactic| (first | assumption | exact Dep.int | exact Dep.str | exact Dep.bl | exact Dep.non | (apply Dep.tup; tm_at "dlen"; tm_at "deps") | (apply Dep.mono; assumption; decide) | fail "no way"))
local macro_rules | `(tactic| tm_at "deps") => `(tactic| (first | assumption | exact memN | (apply memC; tm_at "dep"; tm_at "deps") | fail "no way"))
local macro_rules | `(tactic| tm_at "dlen") => `(tactic| (first | assumption | (focus (simp; done)) | omega | fail "no way"))
local macro_rules | `(tactic| tm_at "pre") => `(tactic| (apply rep_step; tm_at "hp"; tm_at "sc"; tm_at "sc"; intro rp H1 nrp hrp fr))

local macro_rules | `(tactic| tm_at "lits") => `(tactic| (try simp only [l_nl, l_open, l_close, l_sp, l_quo, l_bs, l_minus, l_zero, l_empty, l_n] at c))
local macro_rules | `(tactic| tm_at "pre") => `(tactic| (first | (apply slm_step; tm_at "sc"; tm_at "sc"; tm_at "sc") | (apply slf_step; tm_at "sc"; tm_at "sc") | (apply slt_step; tm_at "sc"; tm_at "sc") | (with_reducible refine iteEqZ ?_ ?_ <;> (intro c; tm_at "lits")) | (apply catS_step; tm_at "sc") | (apply inD_step) | (apply ordS_step) | (apply intS_step; assumption) | (apply sign_step) | (apply lenS_step; tm_at "sc")))
local macro_rules | `(tactic| tm_at "pre") => `(tactic| (apply while_go))
local macro_rules | `(tactic| tm_at "pre") => `(tactic| (apply ixS_step; tm_at "sc"; tm_at "sc"; assumption))
local macro_rules | `(tactic| tm_at "pre") => `(tactic| (apply appB_step; tm_at "hp"; tm_at "sc"; intro H1 hp fr))

local macro_rules | `(tactic| tm_at "pre") => `(tactic| (first | (apply catA_step; (focus (omega))) | (apply ixA_step; (focus (omega)); (focus (omega)); (focus (omega)); intro ch hch) | (apply lenZ_step; (focus (omega)))))
local macro_rules | `(tactic| tm_at "call") => `(tactic| (apply k_step))
local macro_rules | `(tactic| tm_at "call") => `(tactic| (apply sgs_step; intro p H1 np hp fr))
local macro_rules | `(tactic| tm_at "call") => `(tactic| (apply kws_step; intro p H1 np hp fr))
local macro_rules | `(tactic| tm_at "pre") => `(tactic| (first | (apply intD2_step; assumption) | (apply inLs_step; tm_at "hp")))
set_option pp.deepTerms false
set_option pp.deepTerms.threshold 3
abbrev s_comment : Stmt := top 49
theorem sc_comment : FnScope ["_law_bag_here", "_law_built", "_law_signs_here", "_law_turn"] ["_law_bag_here"] (defScope s_comment) := ⟨rfl, rfl, rfl, by decide +kernel, rfl, by decide +kernel, by decide +kernel⟩

theorem ok_com (T : K4.Bl mg) (G_take : Cal P w K mg base 1 "_law_take" ["_law_bag_here", "_law_size"] spTake) (G_allowed : Cal P w K mg base 1 "_law_allowed" [] (spK (.str (S alS)))) (D : Def1 K mg "_law_comment" s_comment) : Cal P w K mg base 2 "_law_comment" ["_law_bag_here"] spCm := by
  refine D.cal sc_comment (fun _ _ _ _ _ _ us hl => match us, hl with | [_], _ => rfl) (fun vs H Q E h => ?_) (fun f cdv A outer s H vs Q E hr h => ?_) <;> unfold spCm at h
  · obtain ⟨b, rfl, _⟩ := h
    rfl
  · obtain ⟨b, rfl, hB, k⟩ := h
    refine ⟨_, (pss_cons (ps_set (i := 1) sc_comment.nd rfl (Or.inl rfl) pe_str)
    (pss_cons (ps_set (i := 2) sc_comment.nd rfl (Or.inl rfl) (pe_cal0 G_allowed (hr.mono (by omega)) (by rfl)))
    (pss_cons (ps_for PassesOwn.never rfl (pi_range1 (by rfl) T.z_range (pa_cons (pe_cal G_take (hr.mono (by omega)) (by rfl) (pa_cons (pv 0) (pa_cons pe_int pa_nil))) pa_nil)) (pg_name (i := 3) sc_comment.nd rfl (Or.inl rfl))
      (pss_one (ps_set (i := 1) sc_comment.nd rfl (Or.inl rfl) (pe_op op_catS (pv 1) (pe_ix ixS (pv 2) (pe_cal G_take (hr.mono (by omega)) (by rfl) (pa_cons (pv 0) (pa_cons (pe_op op_sub (pe_callB call_lenS (by rfl) T.z_len (by decide +kernel) (pa_cons (pv 2) pa_nil)) pe_int) pa_nil))) (fun _ _ => rfl))))))
    (pss_one (ps_ret (pv 1)))))), ?_⟩
    have la : (S alS).length = 95 := by rw [S_len]; exact al_len
    have e35 : Str.ofString "#" = S [35] := by rw [← S_tl (Str.ofString "#"), show (Str.ofString "#").cps.toList = [35] by decide +kernel]
    tm_at "goo"
    have f1 := fr
    have nl : alS[94]? = some 10 := by decide +kernel
    have nd : ∀ j, j < 94 → ∀ c, alS[j]? = some c → c ≠ 10 := by
      have d : ∀ j, j < 94 → alS[j]? ≠ some 10 := by decide +kernel
      exact fun j hj c e z => d j hj (by rw [e, z])
    refine forR (lo := 0) (CMt b H) ?_ (fun i σ H3 hi hp => ?_) (fun σ H3 hp => ?_)
    · unfold CMt
      rw [e35]
      exact ⟨[], _, rfl, rfl, (fun _ m => nomatch m), by assumption, by tm_at "fr"⟩
    · unfold CMt at hp
      obtain ⟨t, x, rfl, ht, ot, hB3, f3⟩ := hp
      have ls : (S (35 :: t)).length ≤ 10 := by rw [S_len]; simp; omega
      tm_at "goo"
      show CMt b H (i + 1) _ _
      unfold CMt
      refine ⟨t ++ [ch], _, rfl, by simp [ht], fun c m => ?_, by assumption, f3.comp (by assumption)⟩
      rcases List.mem_append.mp m with m | m
      · exact ot c m
      · rw [List.mem_singleton.mp m]
        refine ⟨?_, nd _ (by omega) ch hch⟩
        rw [← al_in]
        exact decide_eq_true (List.mem_of_getElem? (l := alS) hch)
    · unfold CMt at hp
      obtain ⟨t, x, rfl, ht, ot, hB3, f3⟩ := hp
      tm_at "goo"
      refine k _ H3 ⟨t, rfl, by simp; omega, fun c m => ?_⟩ hB3 f3
      rcases List.mem_cons.mp m with rfl | m
      · decide
      · exact ot c m
abbrev s_word : Stmt := top 48
theorem sc_word : FnScope ["_law_bag_here", "_law_small", "_law_way", "_law_name_here", "_law_words", "_law_word_here", "_law_figures_here", "_law_signs_here", "_law_sign"] ["_law_bag_here", "_law_small"] (defScope s_word) := ⟨rfl, rfl, rfl, by decide +kernel, rfl, by decide +kernel, by decide +kernel⟩

theorem ok_wrd (T : K4.Bl mg) (G_take : Cal P w K mg base 1 "_law_take" ["_law_bag_here", "_law_size"] spTake) (G_signs : Cal P w K mg base 1 "_law_signs" [] spSgs) (G_keywords : Cal P w K mg base 1 "_law_keywords" [] spKws) (G_name : Cal P w K mg base 2 "_law_name" ["_law_bag_here", "_law_small"] (spDt NmOk)) (G_figures : Cal P w K mg base 2 "_law_figures" ["_law_bag_here", "_law_small"] (spDt DgOk)) (G_quoted : Cal P w K mg base 2 "_law_quoted" ["_law_bag_here", "_law_small"] spPc1) (D : Def1 K mg "_law_word" s_word) : Cal P w K mg base 3 "_law_word" ["_law_bag_here", "_law_small"] spPc1 := by
  refine D.cal sc_word (fun _ _ _ _ _ _ us hl => match us, hl with | [_, _], _ => rfl) (fun vs H Q E h => ?_) (fun f cdv A outer s H vs Q E hr h => ?_) <;> unfold spPc1 at h
  · obtain ⟨b, sm, rfl, _⟩ := h
    rfl
  · obtain ⟨b, sm, rfl, hB, k⟩ := h
    refine ⟨_, (pss_cons (ps_set (i := 2) sc_word.nd rfl (Or.inl rfl) (pe_cal G_take (hr.mono (by omega)) (by rfl) (pa_cons (pv 0) (pa_cons pe_int pa_nil))))
    (pss_cons (ps_if (pt_cmpR op_lt (pv 2) pe_int (nomark _))
      (pss_cons (ps_set (i := 3) sc_word.nd rfl (Or.inl rfl) (pe_cal G_name (hr.mono (by omega)) (by rfl) (pa_cons (pv 0) (pa_cons (pv 1) pa_nil))))
      (pss_one (ps_ret (pe_tup (pa_cons (pe_ifExp (pt_cmpR (opIn K) (pv 3) (pe_cal0 G_keywords (hr.mono (by omega)) (by rfl)) (by rfl)) pe_str pe_str) (pa_cons (pv 3) (pa_cons (pv 3) pa_nil)))))))
      pss_nil)
    (pss_cons (ps_if (pt_cmpR op_eq (pv 2) pe_int (nomark _))
      (pss_cons (ps_set (i := 4) sc_word.nd rfl (Or.inl rfl) (pe_cal0 G_keywords (hr.mono (by omega)) (by rfl)))
      (pss_cons (ps_set (i := 5) sc_word.nd rfl (Or.inl rfl) (pe_ix (ixL K) (pv 4) (pe_cal G_take (hr.mono (by omega)) (by rfl) (pa_cons (pv 0) (pa_cons (pe_callB (cLen K) (by rfl) T.z_len (by decide +kernel) (pa_cons (pv 4) pa_nil)) pa_nil))) (fun _ _ => rfl)))
      (pss_one (ps_ret (pe_tup (pa_cons pe_str (pa_cons (pv 5) (pa_cons (pv 5) pa_nil))))))))
      pss_nil)
    (pss_cons (ps_if (pt_cmpR op_eq (pv 2) pe_int (nomark _))
      (pss_cons (ps_set (i := 6) sc_word.nd rfl (Or.inl rfl) (pe_cal G_figures (hr.mono (by omega)) (by rfl) (pa_cons (pv 0) (pa_cons (pv 1) pa_nil))))
      (pss_one (ps_ret (pe_tup (pa_cons pe_str (pa_cons (pe_callTy call_intS (by rfl) T.z_int (by decide +kernel) (pa_cons (pv 6) pa_nil)) (pa_cons (pv 6) pa_nil)))))))
      pss_nil)
    (pss_cons (ps_if (pt_cmpR op_lt (pv 2) pe_int (nomark _))
      (pss_one (ps_ret (pe_cal G_quoted (hr.mono (by omega)) (by rfl) (pa_cons (pv 0) (pa_cons (pv 1) pa_nil)))))
      pss_nil)
    (pss_cons (ps_setLc (i := 7) (own := [("_law_sign", 8)]) (g := gName 8) (by rfl) sc_word.nd rfl rfl (sw_true rfl rfl rfl (by decide +kernel)) (pi_list (pe_cal0 G_signs (hr.mono (by omega)) (by rfl))) (blkOk_by (own := [("_law_sign", 8)]) (N := [("_law_bag_here" : Str), ("_law_small" : Str), ("_law_way" : Str), ("_law_name_here" : Str), ("_law_words" : Str), ("_law_word_here" : Str), ("_law_figures_here" : Str), ("_law_signs_here" : Str), ("_law_sign" : Str)]) (sc := defScope s_word) (by decide +kernel)) (fun _ _ _ _ _ => pg_name (i := 8) sc_word.nd rfl (Or.inl rfl)) (fun _ _ _ _ _ => (pts_one (pt_cmpR (opNotIn K) (pv 8) (pe_lst (pa_cons pe_str (pa_cons pe_str (pa_cons pe_str (pa_cons pe_str (pa_cons pe_str (pa_cons pe_str pa_nil))))))) (by rfl)))) (fun _ _ _ _ _ => (pv 8)))
    (pss_cons (ps_set (i := 8) sc_word.nd rfl (Or.inl rfl) (pe_ix (ixL K) (pv 7) (pe_cal G_take (hr.mono (by omega)) (by rfl) (pa_cons (pv 0) (pa_cons (pe_callB (cLen K) (by rfl) T.z_len (by decide +kernel) (pa_cons (pv 7) pa_nil)) pa_nil))) (fun _ _ => rfl)))
    (pss_one (ps_ret (pe_tup (pa_cons pe_str (pa_cons (pv 8) (pa_cons (pv 8) pa_nil))))))))))))), ?_⟩
    have lk : (strsV kws).length = 32 := by decide +kernel
    have sl : (strsV sgs).length = 24 := by decide +kernel
    tm_at "goo"
    · have f1 := fr
      refine dt_step hB fun z H2 hz hB2 f2 => ?_
      have pc := pc_name hz
      tm_at "goo"
      · rw [if_pos (by simpa using c)] at pc
        have N3 := Fr.new (o := pcV "keyword" (.str (S z)) z) np
        have F1 := (f1.comp f2).comp0 fr
        have hB3 := hB2.fr0 fr
        exact k p "keyword" (.str (S z)) z _ (hB3.free F1 np) upd_same pc (hB3.fr0 N3) (F1.comp0 N3)
      · rw [if_neg (by simpa using c)] at pc
        have N3 := Fr.new (o := pcV "name" (.str (S z)) z) np
        have F1 := (f1.comp f2).comp0 fr
        have hB3 := hB2.fr0 fr
        exact k p "name" (.str (S z)) z _ (hB3.free F1 np) upd_same pc (hB3.fr0 N3) (F1.comp0 N3)
    · obtain ⟨z, rfl, hz⟩ := strs_at hv
      have mz := List.mem_of_getElem? hz
      have pc := pc_name (kws_wd z mz)
      rw [if_pos mz] at pc
      have N3 := Fr.new (o := pcV "keyword" (.str (S z)) z) np
      have F1 : Fr [b] H H1 := by tm_at "fr"
      exact k p "keyword" (.str (S z)) z _ (hB.free F1 np) upd_same pc (hB.fr0 N3) (F1.comp0 N3)
    · have f1 := fr
      refine dt_step hB fun z H2 hz hB2 f2 => ?_
      have pc := pc_num hz
      tm_at "goo"
      have N3 := Fr.new (o := pcV "number" (.int ((NumText.digitsVal z : Nat) : Int)) z) np
      have F1 := f1.comp f2
      exact k p "number" _ z _ (hB2.free F1 np) upd_same pc (hB2.fr0 N3) (F1.comp0 N3)
    · have f1 := fr
      exact pc_step hB fun p kd w sp H' np hp pc hB' f' => k p kd w sp H' (hB.free f1 np) hp pc hB' (f1.comp f')
    · have hB1 : Box H1 b := by tm_at "hp"
      have F1 : Fr [b] H H1 := by tm_at "fr"
      refine ⟨⟨_, .of hp⟩, ?_⟩
      refine lcL fPl (fun _ i y => ∃ s, sgs[i]? = some s ∧ y = V.str (S s)) (Cg.nil _) stab_v (.of hp) (by simp) (by omega) (fun i x H2 hi hS f R kk => ?_) (fun i x H2 hi _ hS f R kk => ?_) (fun L H2 ys nL hL m _ f2 => ?_)
      · obtain ⟨l, rfl, e⟩ := strs_at hi
        tm_at "goo"
        refine inLv_step (.of upd_same) rfl (by decide) ?_
        tm_at "goo"
        have ef : fPl i = (true != inV (.str (S l)) br6) := by unfold fPl; rw [e]; simp
        have := kk _ trivial (Fr.new (o := .lst br6) np)
        rw [ef] at this
        exact this
      · obtain ⟨l, rfl, e⟩ := strs_at hi
        tm_at "goo"
        exact kk _ _ trivial (Fr.refl0 _) ⟨l, e, rfl⟩
      · have ml : ys.length = (keptN fPl 24).length := by rw [m.1, sl]
        have ml0 := fPl_some
        have ml1 := keptN_le fPl 24
        have hB2 := hB1.fr0 f2
        have F2 := F1.comp0 f2
        rw [sl] at m
        tm_at "goo"
        obtain ⟨i, mi, s, es, rfl⟩ := m.mem (List.mem_of_getElem? hv)
        obtain ⟨s2, e2, nb⟩ := fPl_yes (keptN_mem mi)
        have e3 : s = s2 := Option.some.inj (es.symm.trans e2)
        subst e3
        have pc := pc_sign (List.mem_of_getElem? es) nb
        have N3 := Fr.new (o := pcV "sign" (.str (S s)) s) np
        have F3 : Fr [b] H _ := F2.comp fr
        exact k p "sign" (.str (S s)) s _ (hB.free F3 np) upd_same pc (hB.fr0 N3) (F3.comp0 N3)
end
end TK
set_option Elab.async false
set_option linter.all false
set_option maxRecDepth 100000
set_option maxHeartbeats 4000000
/-! must_part -/
namespace TK
open PySem PySem.Spec PyProof.Rows L2 M14 SX K4
theorem slT_at {a : List Nat} {z : Int} {k : Nat} (h : z = (k : Nat)) : a.take z.toNat = a.take k := by
  subst h
  rw [Int.toNat_natCast]
theorem ixLast_step {xs : List Nat} {c : Nat} {H : Hp} {Q : VK} (hz : (xs ++ [c]).length ≤ 1000000) (h : Q (.str (S [c])) H) : rxS (.str (S (xs ++ [c]))) (.int (-1)) H Q := by
  unfold rxS
  exact ⟨_, _, c, rfl, rfl, big_size hz, atI_last _ _, h⟩
theorem cmps_all {K : PySem.W.Frag} {H : Hp} {n : Nat} : ∀ {ys : List V}, (∀ y ∈ ys, ∃ s, y = .str (S s) ∧ okS s = true) → ∃ ds, Cmps K H ys n ds
  | [], _ => ⟨[], .nil⟩
  | y :: ys, h => by
    obtain ⟨s, rfl, os⟩ := h y List.mem_cons_self
    obtain ⟨ds, c⟩ := cmps_all (ys := ys) fun z m => h z (List.mem_cons_of_mem _ m)
    exact ⟨_, .cons (.str os) c⟩
@[irreducible] def spMp : Sp := fun vs H Q _ => ∃ bf sp : List Nat, vs = [.str (S bf), .str (S sp)] ∧ sp ≠ [] ∧ bf ≠ [47] ∧ bf.length ≤ 1000 ∧ sp.length ≤ 1000 ∧ ∀ (r : Bool) H', Fr [] H H' → (r = false → ∀ rest, Adm bf (sp ++ rest)) → Q (.bl r) H'
theorem mp_step {bf sp : List Nat} {H : Hp} {Q : VK} {E : XK} (h1 : sp ≠ []) (h2 : bf ≠ [47]) (h3 : bf.length ≤ 1000) (h4 : sp.length ≤ 1000) (k : ∀ (r : Bool) H', Fr [] H H' → (r = false → ∀ rest, Adm bf (sp ++ rest)) → Q (.bl r) H') : spMp ([.str (S bf), .str (S sp)] ++ []) H Q E := by
  unfold spMp
  exact ⟨bf, sp, rfl, h1, h2, h3, h4, k⟩
def mpF (J bf : List Nat) (i : Nat) : Bool := match sgs[i]? with
  | some s => decide (bf.length < s.length) && decide (J.take s.length = s)
  | none => false
theorem mpF_none {J bf : List Nat} (h : keptN (mpF J bf) 24 = []) : ∀ s ∈ sgs, bf.length < s.length → J.take s.length ≠ s := by
  intro s m l e
  obtain ⟨i, hi⟩ := List.getElem?_of_mem m
  have h24 : i < 24 := by
    have := (List.getElem?_eq_some_iff.mp hi).1
    rw [sgs_len] at this
    exact this
  have : i ∈ keptN (mpF J bf) 24 := by
    unfold keptN
    refine List.mem_filter.mpr ⟨List.mem_range.mpr h24, ?_⟩
    unfold mpF
    rw [hi]
    simp [l, e]
  rw [h] at this
  cases this
section
variable {P : Program} {w : World} {K : PySem.W.Frag} {mg : Str → Option Value} {base : Heap}
set_option hygiene false
local macro_rules | `(tactic| tm_at "sc") => `(tactic| (first | omega | (simp only [List.length_cons, List.length_nil, List.length_map, List.length_set, List.length_append]; omega) | (simp only [List.length_map] at h1 ⊢; omega) | (simp only [List.length_map] at c ⊢; omega) | with_reducible assumption | exact And.intro (by omega) (by omega) | exact Or.inl (And.intro (by omega) (by omega)) | exact Or.inr (And.intro (by omega) (by omega)) | decide +kernel | exact len1000 (by simp) | rfl | fail "no way"))
local macro_rules | `(tactic| tm_at "sc1") => `(tactic| (focus (simp; done)))
local macro_rules | `(tactic| tm_at "ne") => `(tactic| (first | assumption | exact Ne.symm (by assumption) | (apply Box.ne2; assumption; tm_at "hp") | (apply Ne.symm; apply Box.ne2; assumption; tm_at "hp") | (apply ne_of_none2; assumption; tm_at "hp") | (apply Ne.symm; apply ne_of_none2; assumption; tm_at "hp") | fail "no way"))
local macro_rules | `(tactic| tm_at "f0") => `(tactic| (first | assumption | (apply Fr.new; assumption) | fail "no way"))
local macro_rules | `(tactic| tm_at "hp") => `(tactic| (first | assumption | exact upd_same | (apply SqL.of; first | assumption | exact upd_same) | (apply Fr.at0; tm_at "f0"; tm_at "hp") | (apply Fr.at1n; assumption; tm_at "ne"; tm_at "hp") | (apply sqFr0; tm_at "f0"; tm_at "hp") | (apply sqFr1; assumption; tm_at "ne"; tm_at "hp") | (apply Box.fr0; tm_at "f0"; tm_at "hp") | (apply Box.fr1; assumption; tm_at "ne"; tm_at "hp") | (apply Den.fr; tm_at "f0"; tm_at "hp") | (apply Dens.fr; tm_at "f0"; tm_at "hp") | fail "no way"))
local macro_rules | `(tactic| tm_at "free0") => `(tactic| (first | assumption | (apply updFree; assumption) | (apply updFree; apply updFree; assumption) | (apply updFree; apply updFree; apply updFree; assumption) | (apply updFree; apply updFree; apply updFree; apply updFree; assumption) | fail "no way"))
local macro_rules | `(tactic| tm_at "free") => `(tactic| (first | tm_at "free0" | (apply Fr.free; assumption; tm_at "free0") | (apply Box.free; assumption; tm_at "fr"; tm_at "free0") | (apply Fr.free; assumption; apply Fr.free; assumption; tm_at "free0") | fail "no way"))
local macro_rules | `(tactic| tm_at "fr") => `(tactic| (first | assumption | exact Fr.refl0 _ | exact Fr.refl (Box.nt (by assumption)) | (refine Fr.comp0 ?_ (by tm_at "f0"); tm_at "fr") | (refine Fr.comp ?_ (by assumption); tm_at "fr") | (refine Fr.compN ?_ (by assumption) (by tm_at "free"); tm_at "fr") | fail "no way"))
local macro_rules | `(tactic| tm_at "call") => `(tactic| fail "no call")
local macro_rules | `(tactic| tm_at "call") => `(tactic| (apply take_step; tm_at "hp"; tm_at "sc"; tm_at "sc"; intro r H1 h0 h1 hB fr))
local macro_rules | `(tactic| tm_at "ty") => `(tactic| (first | assumption | exact .base .non | exact .base (.bl _) | exact .base (.int _) | exact .base (.str _) | (apply TyX.base; apply TyOf.lst; tm_at "hp") | (apply TyX.base; apply TyOf.tup; tm_at "hp") | fail "no way"))
local macro_rules | `(tactic| tm_at "pre") => `(tactic| fail "none")
local macro_rules | `(tactic| tm_at "go1") => `(tactic| (first | tm_at "pre" | refine ⟨_, rfl, ?_⟩ | refine ⟨_, _, rfl, rfl, ?_⟩ | (apply set_step; tm_at "hp"; tm_at "sc"; tm_at "sc"; intro H1 hp fr) | (with_reducible refine iteDI ?_ ?_ <;> intro c) | (with_reducible refine iteDS ?_ ?_ <;> intro c) | (with_reducible refine iteD ?_ ?_ <;> intro c) | (with_reducible refine iteEM ?_ ?_ <;> intro c) | (with_reducible refine iteE ?_ ?_ <;> intro c) | with_reducible refine iteN ?_ | with_reducible refine iteF ?_ | with_reducible refine iteT ?_ | (refine fun (p : Addr) (np : _ = (none : Option HO)) => ?_; fail_if_success (refine ⟨fun (_ _ : Nat) (_ : Hp) => True, ?_⟩)) | (apply isi_tt; tm_at "ty"; focus (decide +kernel)) | (apply isi_ff; tm_at "ty"; focus (decide +kernel)) | (apply sl_step; tm_at "hp"; intro qq H1 ms nq hq fr) | (apply sum_step; tm_at "hp"; intro i) | (apply tru_step; tm_at "hp") | (apply len_step; tm_at "hp") | (apply lenq_step; assumption) | (apply ixq_step; assumption; tm_at "sc"; tm_at "sc"; intro v hv) | (apply lst_step; tm_at "hp") | (apply tupl_step; tm_at "hp") | (apply ixr_step; tm_at "hp"; exact rfl) | (apply ix0_step; tm_at "hp") | (apply ix1_step; tm_at "hp") | (apply ix2_step; tm_at "hp") | (apply ixi_step; tm_at "hp"; tm_at "sc"; tm_at "sc"; intro n hn hn') | (apply ixl_step; tm_at "hp"; tm_at "sc"; tm_at "sc"; intro v hv) | (apply ixt_step; tm_at "hp"; tm_at "sc"; tm_at "sc"; intro v hm hv) | (apply in_step; tm_at "hp"; rfl; rfl) | (apply cat_step; tm_at "hp"; tm_at "hp"; tm_at "sc") | (apply catT_step; tm_at "hp"; tm_at "hp"; tm_at "sc1") | (apply tyL_and; tm_at "hp") | (apply app_step; tm_at "hp"; tm_at "sc"; intro H1 hp fr) | tm_at "call" | refine ⟨⟨_, rfl⟩, ?_⟩ | (apply ixs_step; tm_at "sc"; tm_at "sc"; tm_at "sc"; intro ch) | refine .inl ⟨_, rfl, ?_⟩ | refine .inr ⟨_, rfl, ?_⟩ | (apply And.intro; tm_at "sc") | (with_reducible refine wayB ?_ ?_ <;> intro c) | fail "no way"))
local macro_rules | `(tactic| tm_at "go") => `(tactic| (repeat tm_at "go1"))
local macro_rules | `(tactic| tm_at "goo") => `(tactic| (repeat' tm_at "go1"))
local macro_rules | `(tactic| tm_at "den") => `(tactic| (first | assumption | exact Den.str _ | exact Den.int _ | exact Den.bl _ | exact Den.non | (apply Den.tups; tm_at "hp"; tm_at "dens") | (apply Den.fr; tm_at "f0"; tm_at "den") | fail "no way"))
local macro_rules | `(tactic| tm_at "dens") => `(tactic| (first | assumption | exact Dens.nil | (apply Dens.cons; tm_at "den"; tm_at "dens") | (apply Dens.fr; tm_at "f0"; tm_at "dens") | fail "no way"))
local macro_rules | `(tactic| tm_at "ix") => `(tactic| (apply Ix.mk; tm_at "hp"; tm_at "ne"; assumption; assumption))
local macro_rules | `(tactic| tm_at "dep") => `(tactic| (first | assumption | exact Dep.int | exact Dep.str | exact Dep.bl | exact Dep.non | (apply Dep.tup; tm_at "dlen"; tm_at "deps") | (apply Dep.mono; assumption; decide) | fail "no way"))
local macro_rules | `(tactic| tm_at "deps") => `(tactic| (first | assumption | exact memN | (apply memC; tm_at "dep"; tm_at "deps") | fail "no way"))
local macro_rules | `(tactic| tm_at "dlen") => `(tactic| (first | assumption | (focus (simp; done)) | omega | fail "no way"))
local macro_rules | `(tactic| tm_at "pre") => `(tactic| (apply rep_step; tm_at "hp"; tm_at "sc"; tm_at "sc"; intro rp H1 nrp hrp fr))

local macro_rules | `(tactic| tm_at "lits") => `(tactic| (try simp only [l_nl, l_open, l_close, l_sp, l_quo, l_bs, l_minus, l_zero, l_empty, l_n] at c))
local macro_rules | `(tactic| tm_at "pre") => `(tactic| (first | (apply slm_step; tm_at "sc"; tm_at "sc"; tm_at "sc") | (apply slf_step; tm_at "sc"; tm_at "sc") | (apply slt_step; tm_at "sc"; tm_at "sc") | (with_reducible refine iteEqZ ?_ ?_ <;> (intro c; tm_at "lits")) | (apply catS_step; tm_at "sc") | (apply inD_step) | (apply ordS_step) | (apply intS_step; assumption) | (apply sign_step) | (apply lenS_step; tm_at "sc")))
local macro_rules | `(tactic| tm_at "pre") => `(tactic| (apply while_go))
local macro_rules | `(tactic| tm_at "pre") => `(tactic| (apply ixS_step; tm_at "sc"; tm_at "sc"; assumption))
local macro_rules | `(tactic| tm_at "pre") => `(tactic| (apply appB_step; tm_at "hp"; tm_at "sc"; intro H1 hp fr))

local macro_rules | `(tactic| tm_at "call") => `(tactic| (apply k_step))
local macro_rules | `(tactic| tm_at "call") => `(tactic| (apply sgs_step; intro p H1 np hp fr))
set_option pp.deepTerms false
set_option pp.deepTerms.threshold 3
abbrev s_must_part : Stmt := top 50
theorem sc_must_part : FnScope ["_law_before", "_law_spelled", "_law_joined", "_law_more", "_law_one"] ["_law_before", "_law_spelled"] (defScope s_must_part) := ⟨rfl, rfl, rfl, by decide +kernel, rfl, by decide +kernel, by decide +kernel⟩

theorem ok_mus (T : K4.Bl mg) (G_letters : Cal P w K mg base 1 "_law_letters" [] (spK (.str zNs))) (G_signs : Cal P w K mg base 1 "_law_signs" [] spSgs) (D : Def1 K mg "_law_must_part" s_must_part) : Cal P w K mg base 2 "_law_must_part" ["_law_before", "_law_spelled"] spMp := by
  refine D.cal sc_must_part (fun _ _ _ _ _ _ us hl => match us, hl with | [_, _], _ => rfl) (fun vs H Q E h => ?_) (fun f cdv A outer s H vs Q E hr h => ?_) <;> unfold spMp at h
  · obtain ⟨bf, sp, rfl, _⟩ := h
    rfl
  · obtain ⟨bf, sp, rfl, hs, hb, l1, l2, k⟩ := h
    have hu65 := room_65 hr
    refine ⟨_, (pss_cons (ps_if (pt_cmpR op_eq (pv 0) pe_str (nomark _))
      (pss_one (ps_ret pe_bl))
      pss_nil)
    (pss_cons (ps_set (i := 2) sc_must_part.nd rfl (Or.inr rfl) (pe_op op_catS (pv 0) (pv 1)))
    (pss_cons (ps_set (i := 3) sc_must_part.nd rfl (Or.inl rfl) (pe_op op_catS (pe_cal0 G_letters (hr.mono (by omega)) (by rfl)) pe_str))
    (pss_cons (ps_if (PW.pt (pw_and (pt_cmpR op_inG (pe_ix ixS (pv 0) (pe_un un_neg pe_int) (fun _ _ => rfl)) (pv 3) (by rfl)) (pw_and1 (pt_cmpR op_inG (pe_ix ixS (pv 1) pe_int (fun _ _ => rfl)) (pv 3) (by rfl)))))
      (pss_one (ps_ret pe_bl))
      pss_nil)
    (pss_one (ps_ret (pe_cmpR (opNeD K hu65) (pe_lc (own := [("_law_one", 4)]) (g := gName 4) (by rfl) sc_must_part.nd (pi_list (pe_cal0 G_signs (hr.mono (by omega)) (by rfl))) (blkOk_by (own := [("_law_one", 4)]) (N := [("_law_before" : Str), ("_law_spelled" : Str), ("_law_joined" : Str), ("_law_more" : Str), ("_law_one" : Str)]) (sc := defScope s_must_part) (by decide +kernel)) (fun _ _ _ _ _ => pg_name (i := 4) sc_must_part.nd rfl (Or.inl rfl)) (fun _ _ _ _ _ => (pts_one (PW.pt (pw_and (pt_cmpR op_gt (pe_callB call_lenS (by rfl) T.z_len (by decide +kernel) (pa_cons (pv 4) pa_nil)) (pe_callB call_lenS (by rfl) T.z_len (by decide +kernel) (pa_cons (pv 0) pa_nil)) (nomark _)) (pw_and1 (pt_cmpR op_eq (pe_slice slS (pv 2) po_none (po_some (pe_callB call_lenS (by rfl) T.z_len (by decide +kernel) (pa_cons (pv 4) pa_nil)))) (pv 4) (nomark _))))))) (fun _ _ _ _ _ => (pv 4))) (pe_lst pa_nil) (nomark _)))))))), ?_⟩
    have e63 : zNs.cps.toList ++ (Str.ofString "0123456789").cps.toList = zNc.cps.toList := by decide +kernel
    have lz : zNs.cps.toList.length + (Str.ofString "0123456789").cps.toList.length ≤ 1000000 := by decide +kernel
    obtain ⟨c0, t, rfl⟩ := List.exists_cons_of_ne_nil hs
    have hc0 : (c0 :: t)[((0 : Int)).toNat]? = some c0 := rfl
    by_cases hbn : bf = []
    · subst hbn
      tm_at "goo"
      · exact k false H (Fr.refl0 _) fun _ _ => .inl rfl
      · exact absurd rfl c
    · obtain ⟨xs, cl, rfl⟩ : ∃ xs cl, bf = xs ++ [cl] := ⟨bf.dropLast, bf.getLast hbn, (List.dropLast_concat_getLast hbn).symm⟩
      have elast : (xs ++ [cl]).getLastD 0 = cl := by rw [List.getLastD_eq_getLast?, List.getLast?_concat]; rfl
      have sl : (strsV sgs).length = 24 := by decide +kernel
      have big : (xs ++ [cl]).length ≤ 1000000 := by omega
      tm_at "goo"
      · exact absurd c hbn
      · refine ixLast_step big ?_
        tm_at "goo"
        · exact k true H (Fr.refl0 _) (fun e => nomatch e)
        all_goals
          have h1 : ¬ (isNc ((xs ++ [cl]).getLastD 0) = true ∧ isNc ((c0 :: t).headD 0) = true) := by
            rw [elast]
            rintro ⟨z1, z2⟩
            have z2 : isNc c0 = true := z2
            rw [← nc_in, ← e63] at z1 z2
            first
              | exact absurd (of_decide_eq_true z2) (of_df (p := c0 ∈ (zNs.cps.toList ++ (Str.ofString "0123456789").cps.toList)) (by assumption))
              | exact absurd (of_decide_eq_true z1) (of_df (p := cl ∈ (zNs.cps.toList ++ (Str.ofString "0123456789").cps.toList)) (by assumption))
          have f1 := fr
          refine ⟨⟨_, .of hp⟩, ?_⟩
          refine lcL (mpF (xs ++ [cl] ++ c0 :: t) (xs ++ [cl])) (fun _ i y => ∃ s, sgs[i]? = some s ∧ y = V.str (S s)) (Cg.nil _) stab_v (.of hp) (by simp) (by omega) (fun i x H2 hi hS f R kk => ?_) (fun i x H2 hi _ hS f R kk => ?_) (fun L H2 ys nL hL m _ f2 => ?_)
          · obtain ⟨l, rfl, e⟩ := strs_at hi
            have l3 := sgs_le l (List.mem_of_getElem? e)
            have ef : mpF (xs ++ [cl] ++ c0 :: t) (xs ++ [cl]) i = (decide ((xs ++ [cl]).length < l.length) && decide ((xs ++ [cl] ++ c0 :: t).take l.length = l)) := by unfold mpF; rw [e]
            have lj : (xs ++ [cl] ++ c0 :: t).length ≤ 1000000 := by rw [List.length_append]; omega
            tm_at "goo"
            · rw [ef, decide_eq_true (by omega), Bool.true_and] at kk
              have ed : decide (V.str (S ((xs ++ [cl] ++ c0 :: t).take ((l.length : Nat) : Int).toNat)) = V.str (S l)) = decide ((xs ++ [cl] ++ c0 :: t).take l.length = l) := by
                rw [Int.toNat_natCast]
                exact decide_eq_decide.mpr strEq
              show R (decide (V.str (S ((xs ++ [cl] ++ c0 :: t).take ((l.length : Nat) : Int).toNat)) = V.str (S l))) H2
              rw [ed]
              exact kk _ trivial (Fr.refl0 _)
            · rw [ef, decide_eq_false (by omega), Bool.false_and] at kk
              exact kk _ trivial (Fr.refl0 _)
          · obtain ⟨l, rfl, e⟩ := strs_at hi
            tm_at "goo"
            exact kk _ _ trivial (Fr.refl0 _) ⟨l, e, rfl⟩
          · rw [sl] at m
            have oks : ∀ x ∈ sgs, okS x = true := by decide +kernel
            tm_at "goo"
            obtain ⟨ds, cm⟩ := cmps_all (K := K) (H := upd H2 p (.lst [])) (n := 0) (ys := ys) fun y my => by
              obtain ⟨i, _, s, es, rfl⟩ := m.mem my
              exact ⟨s, rfl, oks s (List.mem_of_getElem? es)⟩
            refine eqNew_step np hL cm (by decide) ?_
            refine k _ _ ((f1.comp0 f2).comp0 (Fr.new np)) fun e rest => .inr ?_
            have ey : ys = [] := by
              cases ys with
              | nil => rfl
              | cons a b => cases e
            have e0 : keptN (mpF (xs ++ [cl] ++ c0 :: t) (xs ++ [cl])) 24 = [] := List.length_eq_zero_iff.mp (by rw [← m.1, ey]; rfl)
            exact nj_of hb hbn hs h1 (mpF_none e0)
end
end TK
set_option Elab.async false
set_option linter.all false
set_option maxRecDepth 100000
set_option maxHeartbeats 4000000
/-! the page -/
namespace TK
open PySem PySem.Spec PyProof.Rows L2 M14 SX K4
/-- " " * n -/
theorem sps_step {n : Int} {H : Hp} {Q : VK} (h0 : 0 ≤ n) (h1 : n ≤ 10000) (q : Q (.str (S (List.replicate n.toNat 32))) H) : rRepS (.str (Str.ofString " ")) (.int n) H Q := by
  unfold rRepS
  have e : Str.ofString " " = (⟨#[32]⟩ : Str) := by
    rw [← S_tl (Str.ofString " "), show (Str.ofString " ").cps.toList = [32] by decide +kernel]
  refine ⟨_, n, rfl, rfl, by omega, by omega, by rw [e]; show 1 * n.toNat ≤ _; omega, ?_⟩
  have e2 : Txt.mul (Str.ofString " ") n = S (List.replicate n.toNat 32) := by
    rw [e, ← S_tl (Txt.mul _ n), mul_one_list]
  rw [e2]
  exact q
theorem _root_.M14.Fr.subs {M N : List Addr} {H H1 H2 : Hp} (a : Fr M H H1) (b : Fr N H1 H2) (h : ∀ x ∈ N, x ∈ M) : Fr M H H2 := ⟨fun x o e n => b.kp x o (a.kp x o e n) fun m => n (h x m), a.nt⟩
/-- the law's page: A the list of its five parts, b the bag -/
structure PgA (K : PySem.W.Frag) (H : Hp) (b A R Tk : Addr) (rows : List (List Nat)) (cur : List Nat) (toks : List T) (cnt : Nat) (sa sb : Nat) : Prop where
  hA : ∃ Sp, H A = some (.lst [.ref R, .str (S cur), .ref Tk, .int (cnt : Nat), .ref Sp]) ∧ H Sp = some (.lst [.int (sa : Nat), .int (sb : Nat)]) ∧ Sp ≠ A ∧ Sp ≠ R ∧ Sp ≠ Tk ∧ Sp ≠ b
  hR : H R = some (.lst (strsV rows))
  hT : ∃ xs, H Tk = some (.lst xs) ∧ Dens K H xs toks
  hb : Box H b
  ab : A ≠ b
  ar : A ≠ R
  at_ : A ≠ Tk
  rb : R ≠ b
  rt : R ≠ Tk
  tb : Tk ≠ b
section
variable {K : PySem.W.Frag} {H H' : Hp} {b A R Tk : Addr} {rows : List (List Nat)} {cur : List Nat} {toks : List T} {cnt sa sb : Nat}
theorem PgA.fr0 (p : PgA K H b A R Tk rows cur toks cnt sa sb) (f : Fr [] H H') : PgA K H' b A R Tk rows cur toks cnt sa sb :=
  ⟨let ⟨Sp, h1, h2, n⟩ := p.hA; ⟨Sp, f.at0 h1, f.at0 h2, n⟩, f.at0 p.hR, let ⟨xs, h, d⟩ := p.hT; ⟨xs, f.at0 h, d.fr f⟩, p.hb.fr0 f, p.ab, p.ar, p.at_, p.rb, p.rt, p.tb⟩
theorem PgA.frb (p : PgA K H b A R Tk rows cur toks cnt sa sb) (f : Fr [b] H H') (hb : Box H' b) : PgA K H' b A R Tk rows cur toks cnt sa sb :=
  ⟨let ⟨Sp, h1, h2, n1, n2, n3, n4⟩ := p.hA; ⟨Sp, f.at1 h1 p.ab, f.at1 h2 n4, n1, n2, n3, n4⟩, f.at1 p.hR p.rb, let ⟨xs, h, d⟩ := p.hT; ⟨xs, f.at1 h p.tb, d.fr f⟩, hb, p.ab, p.ar, p.at_, p.rb, p.rt, p.tb⟩
theorem PgA.nt (p : PgA K H b A R Tk rows cur toks cnt sa sb) : ∀ a ∈ [b, A, R, Tk], ∀ xs, H a ≠ some (.tup xs) := by
  intro a m xs e
  obtain ⟨Sp, h1, _⟩ := p.hA
  obtain ⟨ys, h3, _⟩ := p.hT
  have h2 := p.hR
  obtain ⟨i0, i1, i2, h4⟩ := p.hb
  simp only [List.mem_cons, List.not_mem_nil, or_false] at m
  rcases m with rfl | rfl | rfl | rfl
  · rw [h4] at e; cases e
  · rw [h1] at e; cases e
  · rw [h2] at e; cases e
  · rw [h3] at e; cases e
theorem PgA.rf (p : PgA K H b A R Tk rows cur toks cnt sa sb) : Fr [b, A, R, Tk] H H := Fr.refl p.nt
/-- one of the four changes -/
theorem PgA.sub (p : PgA K H b A R Tk rows cur toks cnt sa sb) {x : Addr} (f : Fr [x] H H') (hx : x ∈ [b, A, R, Tk]) : Fr [b, A, R, Tk] H H' := fr_sub f hx p.nt
end
theorem den_vW {K : PySem.W.Frag} {H : Hp} {w : T} (h : (∃ s, w = .str s) ∨ ∃ i, w = .int i) : Den K H (vW w) w := by
  rcases h with ⟨s, rfl⟩ | ⟨i, rfl⟩
  · exact .str _
  · exact .int _
@[irreducible] def spPut (K : PySem.W.Frag) : Sp := fun vs H Q _ => ∃ (b A R Tk : Addr) (rows : List (List Nat)) (cur : List Nat) (toks : List T) (cnt sa sb : Nat) (kd : String) (w : T) (sp : List Nat), vs = [.ref A, .str (Str.ofString kd), vW w, .str (S sp)] ∧ PgA K H b A R Tk rows cur toks cnt sa sb ∧ rows.length ≤ 9000 ∧ toks.length ≤ 9000 ∧ cur.length ≤ 1000 ∧ sp.length ≤ 1000 ∧ ((∃ s, w = .str s) ∨ ∃ i, w = .int i) ∧ ∀ H', PgA K H' b A R Tk rows (cur ++ sp) (toks ++ [tk kd w (rows.length + 1) (cur.length + 1)]) cnt (rows.length + 1) ((cur ++ sp).length + 1) → Fr [b, A, R, Tk] H H' → Q .non H'
theorem put_step {K : PySem.W.Frag} {b A R Tk : Addr} {rows : List (List Nat)} {cur : List Nat} {toks : List T} {cnt sa sb : Nat} {kd : String} {w : T} {sp : List Nat} {H : Hp} {Q : VK} {E : XK} (p : PgA K H b A R Tk rows cur toks cnt sa sb) (h1 : rows.length ≤ 9000) (h2 : toks.length ≤ 9000) (h3 : cur.length ≤ 1000) (h4 : sp.length ≤ 1000) (h5 : (∃ s, w = .str s) ∨ ∃ i, w = .int i) (k : ∀ H', PgA K H' b A R Tk rows (cur ++ sp) (toks ++ [tk kd w (rows.length + 1) (cur.length + 1)]) cnt (rows.length + 1) ((cur ++ sp).length + 1) → Fr [b, A, R, Tk] H H' → Q .non H') : spPut K ([.ref A, .str (Str.ofString kd), vW w, .str (S sp)] ++ []) H Q E := by
  unfold spPut
  exact ⟨b, A, R, Tk, rows, cur, toks, cnt, sa, sb, kd, w, sp, rfl, p, h1, h2, h3, h4, h5, k⟩
section
variable {P : Program} {w : World} {K : PySem.W.Frag} {mg : Str → Option Value} {base : Heap}
set_option hygiene false
local macro_rules | `(tactic| tm_at "sc") => `(tactic| (first | omega | (simp only [List.length_cons, List.length_nil, List.length_map, List.length_set, List.length_append]; omega) | (simp only [List.length_map] at h1 ⊢; omega) | (simp only [List.length_map] at c ⊢; omega) | with_reducible assumption | exact And.intro (by omega) (by omega) | exact Or.inl (And.intro (by omega) (by omega)) | exact Or.inr (And.intro (by omega) (by omega)) | decide +kernel | exact len1000 (by simp) | rfl | fail "no way"))
local macro_rules | `(tactic| tm_at "sc1") => `(tactic| (focus (simp; done)))
local macro_rules | `(tactic| tm_at "ne") => `(tactic| (first | assumption | exact Ne.symm (by assumption) | (apply Box.ne2; assumption; tm_at "hp") | (apply Ne.symm; apply Box.ne2; assumption; tm_at "hp") | (apply ne_of_none2; assumption; tm_at "hp") | (apply Ne.symm; apply ne_of_none2; assumption; tm_at "hp") | fail "no way"))
local macro_rules | `(tactic| tm_at "f0") => `(tactic| (first | assumption | (apply Fr.new; assumption) | fail "no way"))
local macro_rules | `(tactic| tm_at "hp") => `(tactic| (first | assumption | exact upd_same | (apply SqL.of; first | assumption | exact upd_same) | (apply Fr.at0; tm_at "f0"; tm_at "hp") | (apply Fr.at1n; assumption; tm_at "ne"; tm_at "hp") | (apply sqFr0; tm_at "f0"; tm_at "hp") | (apply sqFr1; assumption; tm_at "ne"; tm_at "hp") | (apply Box.fr0; tm_at "f0"; tm_at "hp") | (apply Box.fr1; assumption; tm_at "ne"; tm_at "hp") | (apply Den.fr; tm_at "f0"; tm_at "hp") | (apply Dens.fr; tm_at "f0"; tm_at "hp") | fail "no way"))
local macro_rules | `(tactic| tm_at "free0") => `(tactic| (first | assumption | (apply updFree; assumption) | (apply updFree; apply updFree; assumption) | (apply updFree; apply updFree; apply updFree; assumption) | (apply updFree; apply updFree; apply updFree; apply updFree; assumption) | fail "no way"))
local macro_rules | `(tactic| tm_at "free") => `(tactic| (first | tm_at "free0" | (apply Fr.free; assumption; tm_at "free0") | (apply Box.free; assumption; tm_at "fr"; tm_at "free0") | (apply Fr.free; assumption; apply Fr.free; assumption; tm_at "free0") | fail "no way"))
local macro_rules | `(tactic| tm_at "fr") => `(tactic| (first | assumption | exact Fr.refl0 _ | exact Fr.refl (Box.nt (by assumption)) | (refine Fr.comp0 ?_ (by tm_at "f0"); tm_at "fr") | (refine Fr.comp ?_ (by assumption); tm_at "fr") | (refine Fr.compN ?_ (by assumption) (by tm_at "free"); tm_at "fr") | fail "no way"))
local macro_rules | `(tactic| tm_at "call") => `(tactic| fail "no call")
local macro_rules | `(tactic| tm_at "call") => `(tactic| (apply take_step; tm_at "hp"; tm_at "sc"; tm_at "sc"; intro r H1 h0 h1 hB fr))
local macro_rules | `(tactic| tm_at "ty") => `(tactic| (first | assumption | exact .base .non | exact .base (.bl _) | exact .base (.int _) | exact .base (.str _) | (apply TyX.base; apply TyOf.lst; tm_at "hp") | (apply TyX.base; apply TyOf.tup; tm_at "hp") | fail "no way"))
local macro_rules | `(tactic| tm_at "pre") => `(tactic| fail "none")
local macro_rules | `(tactic| tm_at "go1") => `(tactic| (first | tm_at "pre" | refine ⟨_, rfl, ?_⟩ | refine ⟨_, _, rfl, rfl, ?_⟩ | (apply set_step; tm_at "hp"; tm_at "sc"; tm_at "sc"; intro H1 hp fr) | (with_reducible refine iteDI ?_ ?_ <;> intro c) | (with_reducible refine iteDS ?_ ?_ <;> intro c) | (with_reducible refine iteD ?_ ?_ <;> intro c) | (with_reducible refine iteEM ?_ ?_ <;> intro c) | (with_reducible refine iteE ?_ ?_ <;> intro c) | with_reducible refine iteN ?_ | with_reducible refine iteF ?_ | with_reducible refine iteT ?_ | (refine fun (p : Addr) (np : _ = (none : Option HO)) => ?_; fail_if_success (refine ⟨fun (_ _ : Nat) (_ : Hp) => True, ?_⟩)) | (apply isi_tt; tm_at "ty"; focus (decide +kernel)) | (apply isi_ff; tm_at "ty"; focus (decide +kernel)) | (apply sl_step; tm_at "hp"; intro qq H1 ms nq hq fr) | (apply sum_step; tm_at "hp"; intro i) | (apply tru_step; tm_at "hp") | (apply len_step; tm_at "hp") | (apply lenq_step; assumption) | (apply ixq_step; assumption; tm_at "sc"; tm_at "sc"; intro v hv) | (apply lst_step; tm_at "hp") | (apply tupl_step; tm_at "hp") | (apply ixr_step; tm_at "hp"; exact rfl) | (apply ix0_step; tm_at "hp") | (apply ix1_step; tm_at "hp") | (apply ix2_step; tm_at "hp") | (apply ixi_step; tm_at "hp"; tm_at "sc"; tm_at "sc"; intro n hn hn') | (apply ixl_step; tm_at "hp"; tm_at "sc"; tm_at "sc"; intro v hv) | (apply ixt_step; tm_at "hp"; tm_at "sc"; tm_at "sc"; intro v hm hv) | (apply in_step; tm_at "hp"; rfl; rfl) | (apply cat_step; tm_at "hp"; tm_at "hp"; tm_at "sc") | (apply catT_step; tm_at "hp"; tm_at "hp"; tm_at "sc1") | (apply tyL_and; tm_at "hp") | (apply app_step; tm_at "hp"; tm_at "sc"; intro H1 hp fr) | tm_at "call" | refine ⟨⟨_, rfl⟩, ?_⟩ | (apply ixs_step; tm_at "sc"; tm_at "sc"; tm_at "sc"; intro ch) | refine .inl ⟨_, rfl, ?_⟩ | refine .inr ⟨_, rfl, ?_⟩ | (apply And.intro; tm_at "sc") | (with_reducible refine wayB ?_ ?_ <;> intro c) | fail "no way"))
local macro_rules | `(tactic| tm_at "go") => `(tactic| (repeat tm_at "go1"))
local macro_rules | `(tactic| tm_at "goo") => `(tactic| (repeat' tm_at "go1"))
local macro_rules | `(tactic| tm_at "den") => `(tactic| (first | assumption | exact Den.str _ | exact Den.int _ | exact Den.bl _ | exact Den.non | (apply Den.tups; tm_at "hp"; tm_at "dens") | (apply Den.fr; tm_at "f0"; tm_at "den") | fail "no way"))
local macro_rules | `(tactic| tm_at "dens") => `(tactic| (first | assumption | exact Dens.nil | (apply Dens.cons; tm_at "den"; tm_at "dens") | (apply Dens.fr; tm_at "f0"; tm_at "dens") | fail "no way"))
local macro_rules | `(tactic| tm_at "ix") => `(tactic| (apply Ix.mk; tm_at "hp"; tm_at "ne"; assumption; assumption))
local macro_rules | `(tactic| tm_at "dep") => `(tactic| (first | assumption | exact Dep.int | exact Dep.str | exact Dep.bl | exact Dep.non | (apply Dep.tup; tm_at "dlen"; tm_at "deps") | (apply Dep.mono; assumption; decide) | fail "no way"))
local macro_rules | `(tactic| tm_at "deps") => `(tactic| (first | assumption | exact memN | (apply memC; tm_at "dep"; tm_at "deps") | fail "no way"))
local macro_rules | `(tactic| tm_at "dlen") => `(tactic| (first | assumption | (focus (simp; done)) | omega | fail "no way"))
local macro_rules | `(tactic| tm_at "pre") => `(tactic| (apply rep_step; tm_at "hp"; tm_at "sc"; tm_at "sc"; intro rp H1 nrp hrp fr))

local macro_rules | `(tactic| tm_at "lits") => `(tactic| (try simp only [l_nl, l_open, l_close, l_sp, l_quo, l_bs, l_minus, l_zero, l_empty, l_n] at c))
local macro_rules | `(tactic| tm_at "pre") => `(tactic| (first | (apply slm_step; tm_at "sc"; tm_at "sc"; tm_at "sc") | (apply slf_step; tm_at "sc"; tm_at "sc") | (apply slt_step; tm_at "sc"; tm_at "sc") | (with_reducible refine iteEqZ ?_ ?_ <;> (intro c; tm_at "lits")) | (apply catS_step; tm_at "sc") | (apply inD_step) | (apply ordS_step) | (apply intS_step; assumption) | (apply sign_step) | (apply lenS_step; tm_at "sc")))
local macro_rules | `(tactic| tm_at "pre") => `(tactic| (apply while_go))
local macro_rules | `(tactic| tm_at "pre") => `(tactic| (apply ixS_step; tm_at "sc"; tm_at "sc"; assumption))
local macro_rules | `(tactic| tm_at "pre") => `(tactic| (apply appB_step; tm_at "hp"; tm_at "sc"; intro H1 hp fr))

local macro_rules | `(tactic| tm_at "pre") => `(tactic| (first | (apply catA_step; (focus (omega))) | (apply lenZ_step; (focus (omega)))))
set_option pp.deepTerms false
set_option pp.deepTerms.threshold 3
abbrev s_put : Stmt := top 51
theorem sc_put : FnScope ["_law_page_here", "_law_kind", "_law_word_here", "_law_spelled"] ["_law_page_here", "_law_kind", "_law_word_here", "_law_spelled"] (defScope s_put) := ⟨rfl, rfl, rfl, by decide +kernel, rfl, by decide +kernel, by decide +kernel⟩

theorem ok_put (T : K4.Bl mg) (D : Def1 K mg "_law_put" s_put) : Cal P w K mg base 1 "_law_put" ["_law_page_here", "_law_kind", "_law_word_here", "_law_spelled"] (spPut K) := by
  refine D.cal sc_put (fun _ _ _ _ _ _ us hl => match us, hl with | [_, _, _, _], _ => rfl) (fun vs H Q E h => ?_) (fun f cdv A outer s H vs Q E hr h => ?_) <;> unfold spPut at h
  · obtain ⟨b, A, R, Tk, rows, cur, toks, cnt, sa, sb, kd, w, sp, rfl, _⟩ := h
    rfl
  · obtain ⟨b, A, R, Tk, rows, cur, toks, cnt, sa, sb, kd, w, sp, rfl, pg, h1, h2, h3, h4, h5, k⟩ := h
    obtain ⟨Sp, hA, hS, n1, n2, n3, n4⟩ := pg.hA
    obtain ⟨xs, hT, dT⟩ := pg.hT
    have hR := pg.hR
    have rl : (strsV rows).length = rows.length := by unfold strsV; simp
    have xl := dT.1
    have nar := pg.ar
    have nat' := pg.at_
    have nrt := pg.rt
    refine ⟨_, (pss_cons (ps_expr (pe_bm PySem.F.plainAttrs_list PySem.F.slot_list_append PySem.F.type_list_append mtApp (pe_ix (ixL K) (pv 0) pe_int (fun _ _ => rfl)) (pa_cons (pe_tup (pa_cons (pv 1) (pa_cons (pv 2) (pa_cons (pe_op op_add (pe_callB (cLen K) (by rfl) T.z_len (by decide +kernel) (pa_cons (pe_ix (ixL K) (pv 0) pe_int (fun _ _ => rfl)) pa_nil)) pe_int) (pa_cons (pe_op op_add (pe_callB call_lenS (by rfl) T.z_len (by decide +kernel) (pa_cons (pe_ix (ixL K) (pv 0) pe_int (fun _ _ => rfl)) pa_nil)) pe_int) pa_nil))))) pa_nil)))
    (pss_cons (ps_asg (pe_op op_catS (pe_ix (ixL K) (pv 0) pe_int (fun _ _ => rfl)) (pv 3)) (pg_sub (pv 0) pe_int setL))
    (pss_one (ps_asg (pe_lst (pa_cons (pe_op op_add (pe_callB (cLen K) (by rfl) T.z_len (by decide +kernel) (pa_cons (pe_ix (ixL K) (pv 0) pe_int (fun _ _ => rfl)) pa_nil)) pe_int) (pa_cons (pe_op op_add (pe_callB call_lenS (by rfl) T.z_len (by decide +kernel) (pa_cons (pe_ix (ixL K) (pv 0) pe_int (fun _ _ => rfl)) pa_nil)) pe_int) pa_nil))) (pg_sub (pv 0) pe_int setL))))), ?_⟩
    tm_at "goo"
    rename_i p0 np0 H2 hT2 f2 H3 hA3 f3
    have N0 : Fr [] H (upd H p0 (.tup [.str (Str.ofString kd), vW w, .int ((strsV rows).length + 1), .int ((S cur).length + 1)])) := Fr.new np0
    have N4 := Fr.new (o := .lst [.int (((strsV rows).length : Int) + 1), .int (((S (cur ++ sp)).length : Int) + 1)]) np
    have dtk : Den K (upd H p0 (.tup [.str (Str.ofString kd), vW w, .int ((strsV rows).length + 1), .int ((S cur).length + 1)])) (.ref p0) (tk kd w (rows.length + 1) (cur.length + 1)) := by
      rw [rl, S_len]
      exact Den.tups upd_same (.cons (.str _) (.cons (den_vW h5) (.cons (.int _) (.cons (.int _) .nil))))
    have hR2 := f2.at1 (N0.at0 hR) nrt
    have hR3 := f3.at1 hR2 (Ne.symm nar)
    have hR4 := fr.at1 (N4.at0 hR3) (Ne.symm nar)
    have hB2 := (pg.hb.fr0 N0).fr1 f2 (Ne.symm pg.tb)
    have hB4 := ((hB2.fr1 f3 (Ne.symm pg.ab)).fr0 N4).fr1 fr (Ne.symm pg.ab)
    have hT3 := f3.at1 hT2 (Ne.symm nat')
    have hT4 := fr.at1 (N4.at0 hT3) (Ne.symm nat')
    have pA : p ≠ A := fun e => by rw [e, hA3] at np; cases np
    have pR : p ≠ R := fun e => by rw [e, hR3] at np; cases np
    have pT : p ≠ Tk := fun e => by rw [e, hT3] at np; cases np
    have pb : p ≠ b := fun e => by
      obtain ⟨_, q⟩ := (hB2.fr1 f3 (Ne.symm pg.ab)).has
      rw [e, q] at np; cases np
    have d2 := (((((dT.fr N0).snoc dtk).fr f2).fr f3).fr N4).fr fr
    refine k H1 ⟨⟨p, hp, ?_, pA, pR, pT, pb⟩, hR4, ⟨_, hT4, d2⟩, hB4, pg.ab, pg.ar, pg.at_, pg.rb, pg.rt, pg.tb⟩ ?_
    · rw [fr.at1 upd_same pA]
      show some (HO.lst [.int (((strsV rows).length : Int) + 1), .int ((((cur ++ sp).length : Nat) : Int) + 1)]) = _
      rw [rl]
      rfl
    · exact ((((pg.rf.comp0 N0).subs f2 (by simp)).subs f3 (by simp)).comp0 N4).subs fr (by simp)
end
end TK
set_option Elab.async false
set_option linter.all false
set_option maxRecDepth 100000
set_option maxHeartbeats 4000000
/-! rows end -/
namespace TK
open PySem PySem.Spec PyProof.Rows L2 M14 SX K4
@[irreducible] def spClr (K : PySem.W.Frag) : Sp := fun vs H Q _ => ∃ (b A R Tk : Addr) (rows : List (List Nat)) (cur : List Nat) (toks : List T) (cnt sa sb : Nat), vs = [.ref A] ∧ PgA K H b A R Tk rows cur toks cnt sa sb ∧ rows.length ≤ 9000 ∧ cur.length ≤ 1000 ∧ ∀ H', PgA K H' b A R Tk (rows ++ [cur]) [] toks (cnt + cur.length + 1) sa sb → Fr [b, A, R, Tk] H H' → Q .non H'
theorem clr_step2 {K : PySem.W.Frag} {b A R Tk : Addr} {rows : List (List Nat)} {cur : List Nat} {toks : List T} {cnt sa sb : Nat} {H : Hp} {Q : VK} {E : XK} (p : PgA K H b A R Tk rows cur toks cnt sa sb) (h1 : rows.length ≤ 9000) (h3 : cur.length ≤ 1000) (k : ∀ H', PgA K H' b A R Tk (rows ++ [cur]) [] toks (cnt + cur.length + 1) sa sb → Fr [b, A, R, Tk] H H' → Q .non H') : spClr K ([.ref A] ++ []) H Q E := by
  unfold spClr
  exact ⟨b, A, R, Tk, rows, cur, toks, cnt, sa, sb, rfl, p, h1, h3, k⟩
def cmt (cm : List Nat) : Prop := cm = [] ∨ ∃ t, cm = 35 :: t
def blk (r : List Nat) : Prop := (∃ n cm, r = List.replicate n 32 ++ cm ∧ cmt cm) ∧ okRow r
/-- a row has ended: with it the rows without words behind it -/
structure RowEnd (rows : List (List Nat)) (cur : List Nat) (cnt : Nat) (rows' : List (List Nat)) (cnt' : Nat) : Prop where
  rw' : ∃ n cm bl, rows' = rows ++ (cur ++ List.replicate n 32 ++ cm) :: bl ∧ cmt cm ∧ okRow (cur ++ List.replicate n 32 ++ cm) ∧ ∀ r ∈ bl, blk r
  le : cnt' ≤ cnt + 157
  tot : cnt' + totR rows = cnt + totR rows'
  len : rows'.length ≤ rows.length + 3
@[irreducible] def spRe (K : PySem.W.Frag) : Sp := fun vs H Q _ => ∃ (b A R Tk : Addr) (rows : List (List Nat)) (cur : List Nat) (toks : List T) (cnt sa sb : Nat), vs = [.ref b, .ref A] ∧ PgA K H b A R Tk rows cur toks cnt sa sb ∧ rows.length ≤ 8000 ∧ cur.length < 114 ∧ (∀ c ∈ cur, okc c = true ∧ c ≠ 10) ∧ ∀ H' rows' cnt', PgA K H' b A R Tk rows' [] toks cnt' sa sb → RowEnd rows cur cnt rows' cnt' → Fr [b, A, R, Tk] H H' → Q .non H'
theorem re_step {K : PySem.W.Frag} {b A R Tk : Addr} {rows : List (List Nat)} {cur : List Nat} {toks : List T} {cnt sa sb : Nat} {H : Hp} {Q : VK} {E : XK} (p : PgA K H b A R Tk rows cur toks cnt sa sb) (h1 : rows.length ≤ 8000) (h3 : cur.length < 114) (h4 : ∀ c ∈ cur, okc c = true ∧ c ≠ 10) (k : ∀ H' rows' cnt', PgA K H' b A R Tk rows' [] toks cnt' sa sb → RowEnd rows cur cnt rows' cnt' → Fr [b, A, R, Tk] H H' → Q .non H') : spRe K ([.ref b, .ref A] ++ []) H Q E := by
  unfold spRe
  exact ⟨b, A, R, Tk, rows, cur, toks, cnt, sa, sb, rfl, p, h1, h3, h4, k⟩
theorem totR_snoc {rs : List (List Nat)} {r : List Nat} : totR (rs ++ [r]) = totR rs + (r.length + 1) := by unfold totR; simp
/-- the list of five, its text changed -/
theorem PgA.cur' {K : PySem.W.Frag} {H H' : Hp} {b A R Tk : Addr} {rows : List (List Nat)} {cur cur' : List Nat} {toks : List T} {cnt cnt' sa sb : Nat} (p : PgA K H b A R Tk rows cur toks cnt sa sb) (h : ∀ Sp, H A = some (.lst [.ref R, .str (S cur), .ref Tk, .int (cnt : Nat), .ref Sp]) → H' A = some (.lst [.ref R, .str (S cur'), .ref Tk, .int (cnt' : Nat), .ref Sp])) (f : Fr [A] H H') : PgA K H' b A R Tk rows cur' toks cnt' sa sb :=
  ⟨let ⟨Sp, h1, h2, n1, n⟩ := p.hA; ⟨Sp, h Sp h1, f.at1 h2 n1, n1, n⟩, f.at1 p.hR (Ne.symm p.ar), let ⟨xs, h, d⟩ := p.hT; ⟨xs, f.at1 h (Ne.symm p.at_), d.fr f⟩, p.hb.fr1 f (Ne.symm p.ab), p.ab, p.ar, p.at_, p.rb, p.rt, p.tb⟩
@[irreducible] def RE0 (K : PySem.W.Frag) (b A R Tk : Addr) (rows : List (List Nat)) (cur : List Nat) (toks : List T) (cnt sa sb : Nat) (H : Hp) (σ : L2.St) (H' : Hp) : Prop := ∃ (n : Nat) (cm : List Nat), σ = [some (.ref b), some (.ref A), none] ∧ PgA K H' b A R Tk rows (cur ++ List.replicate n 32 ++ cm) toks cnt sa sb ∧ cmt cm ∧ (cur ++ List.replicate n 32 ++ cm).length < 114 ∧ (∀ c ∈ cm, okc c = true ∧ c ≠ 10) ∧ Fr [b, A, R, Tk] H H'
@[irreducible] def RE1 (K : PySem.W.Frag) (b A R Tk : Addr) (rows : List (List Nat)) (row : List Nat) (toks : List T) (cnt sa sb : Nat) (H : Hp) (i : Nat) (σ : L2.St) (H' : Hp) : Prop := ∃ (bl : List (List Nat)) (cnt' : Nat) (x : Option V), σ = [some (.ref b), some (.ref A), x] ∧ PgA K H' b A R Tk (rows ++ row :: bl) [] toks cnt' sa sb ∧ bl.length = i ∧ (∀ r ∈ bl, blk r) ∧ cnt' ≤ cnt + row.length + 1 + 18 * i ∧ cnt' + totR rows = cnt + totR (rows ++ row :: bl) ∧ Fr [b, A, R, Tk] H H'
@[irreducible] def RE2 (K : PySem.W.Frag) (b A R Tk : Addr) (rows2 : List (List Nat)) (toks : List T) (cnt sa sb : Nat) (x : Option V) (H : Hp) (σ : L2.St) (H' : Hp) : Prop := ∃ (r : List Nat), σ = [some (.ref b), some (.ref A), x] ∧ PgA K H' b A R Tk rows2 r toks cnt sa sb ∧ blk r ∧ r.length ≤ 17 ∧ Fr [b, A, R, Tk] H H'
theorem CmOk.len {z : List Nat} (h : CmOk z) : z.length ≤ 9 := let ⟨_, _, l, _⟩ := h; l
theorem CmOk.cm {z : List Nat} (h : CmOk z) : cmt z := let ⟨t, e, _, _⟩ := h; .inr ⟨t, e⟩
theorem CmOk.ok {z : List Nat} (h : CmOk z) : ∀ c ∈ z, okc c = true ∧ c ≠ 10 := let ⟨_, _, _, o⟩ := h; o
theorem PgA.cur2 {K : PySem.W.Frag} {H H' : Hp} {b A R Tk Sp : Addr} {rows : List (List Nat)} {cur cur' : List Nat} {toks : List T} {cnt cnt' sa sb : Nat} (p : PgA K H b A R Tk rows cur toks cnt sa sb) (hA : H A = some (.lst [.ref R, .str (S cur), .ref Tk, .int (cnt : Nat), .ref Sp])) (h : H' A = some (.lst [.ref R, .str (S cur'), .ref Tk, .int (cnt' : Nat), .ref Sp])) (f : Fr [A] H H') : PgA K H' b A R Tk rows cur' toks cnt' sa sb :=
  p.cur' (fun Sp2 h2 => by
    rw [hA] at h2
    cases h2
    exact h) f
theorem sps_ok {n c : Nat} (h : c ∈ List.replicate n 32) : okc c = true ∧ c ≠ 10 := by
  rw [List.eq_of_mem_replicate h]
  decide
section
variable {P : Program} {w : World} {K : PySem.W.Frag} {mg : Str → Option Value} {base : Heap}
set_option hygiene false
local macro_rules | `(tactic| tm_at "sc") => `(tactic| (first | omega | (simp only [List.length_cons, List.length_nil, List.length_map, List.length_set, List.length_append]; omega) | (simp only [List.length_map] at h1 ⊢; omega) | (simp only [List.length_map] at c ⊢; omega) | with_reducible assumption | exact And.intro (by omega) (by omega) | exact Or.inl (And.intro (by omega) (by omega)) | exact Or.inr (And.intro (by omega) (by omega)) | decide +kernel | exact len1000 (by simp) | rfl | fail "no way"))
local macro_rules | `(tactic| tm_at "sc1") => `(tactic| (focus (simp; done)))
local macro_rules | `(tactic| tm_at "ne") => `(tactic| (first | assumption | exact Ne.symm (by assumption) | (apply Box.ne2; assumption; tm_at "hp") | (apply Ne.symm; apply Box.ne2; assumption; tm_at "hp") | (apply ne_of_none2; assumption; tm_at "hp") | (apply Ne.symm; apply ne_of_none2; assumption; tm_at "hp") | fail "no way"))
local macro_rules | `(tactic| tm_at "f0") => `(tactic| (first | assumption | (apply Fr.new; assumption) | fail "no way"))
local macro_rules | `(tactic| tm_at "hp") => `(tactic| (first | assumption | exact upd_same | (apply SqL.of; first | assumption | exact upd_same) | (apply Fr.at0; tm_at "f0"; tm_at "hp") | (apply Fr.at1n; assumption; tm_at "ne"; tm_at "hp") | (apply sqFr0; tm_at "f0"; tm_at "hp") | (apply sqFr1; assumption; tm_at "ne"; tm_at "hp") | (apply Box.fr0; tm_at "f0"; tm_at "hp") | (apply Box.fr1; assumption; tm_at "ne"; tm_at "hp") | (apply Den.fr; tm_at "f0"; tm_at "hp") | (apply Dens.fr; tm_at "f0"; tm_at "hp") | fail "no way"))
local macro_rules | `(tactic| tm_at "free0") => `(tactic| (first | assumption | (apply updFree; assumption) | (apply updFree; apply updFree; assumption) | (apply updFree; apply updFree; apply updFree; assumption) | (apply updFree; apply updFree; apply updFree; apply updFree; assumption) | fail "no way"))
local macro_rules | `(tactic| tm_at "free") => `(tactic| (first | tm_at "free0" | (apply Fr.free; assumption; tm_at "free0") | (apply Box.free; assumption; tm_at "fr"; tm_at "free0") | (apply Fr.free; assumption; apply Fr.free; assumption; tm_at "free0") | fail "no way"))
local macro_rules | `(tactic| tm_at "fr") => `(tactic| (first | assumption | exact Fr.refl0 _ | exact Fr.refl (Box.nt (by assumption)) | (refine Fr.comp0 ?_ (by tm_at "f0"); tm_at "fr") | (refine Fr.comp ?_ (by assumption); tm_at "fr") | (refine Fr.compN ?_ (by assumption) (by tm_at "free"); tm_at "fr") | fail "no way"))
local macro_rules | `(tactic| tm_at "call") => `(tactic| fail "no call")
local macro_rules | `(tactic| tm_at "call") => `(tactic| (apply take_step; tm_at "hp"; tm_at "sc"; tm_at "sc"; intro r H1 h0 h1 hB fr))
local macro_rules | `(tactic| tm_at "ty") => `(tactic| (first | assumption | exact .base .non | exact .base (.bl _) | exact .base (.int _) | exact .base (.str _) | (apply TyX.base; apply TyOf.lst; tm_at "hp") | (apply TyX.base; apply TyOf.tup; tm_at "hp") | fail "no way"))
local macro_rules | `(tactic| tm_at "pre") => `(tactic| fail "none")
local macro_rules | `(tactic| tm_at "go1") => `(tactic| (first | tm_at "pre" | refine ⟨_, rfl, ?_⟩ | refine ⟨_, _, rfl, rfl, ?_⟩ | (apply set_step; tm_at "hp"; tm_at "sc"; tm_at "sc"; intro H1 hp fr) | (with_reducible refine iteDI ?_ ?_ <;> intro c) | (with_reducible refine iteDS ?_ ?_ <;> intro c) | (with_reducible refine iteD ?_ ?_ <;> intro c) | (with_reducible refine iteEM ?_ ?_ <;> intro c) | (with_reducible refine iteE ?_ ?_ <;> intro c) | with_reducible refine iteN ?_ | with_reducible refine iteF ?_ | with_reducible refine iteT ?_ | (refine fun (p : Addr) (np : _ = (none : Option HO)) => ?_; fail_if_success (refine ⟨fun (_ _ : Nat) (_ : Hp) => True, ?_⟩)) | (apply isi_tt; tm_at "ty"; focus (decide +kernel)) | (apply isi_ff; tm_at "ty"; focus (decide +kernel)) | (apply sl_step; tm_at "hp"; intro qq H1 ms nq hq fr) | (apply sum_step; tm_at "hp"; intro i) | (apply tru_step; tm_at "hp") | (apply len_step; tm_at "hp") | (apply lenq_step; assumption) | (apply ixq_step; assumption; tm_at "sc"; tm_at "sc"; intro v hv) | (apply lst_step; tm_at "hp") | (apply tupl_step; tm_at "hp") | (apply ixr_step; tm_at "hp"; exact rfl) | (apply ix0_step; tm_at "hp") | (apply ix1_step; tm_at "hp") | (apply ix2_step; tm_at "hp") | (apply ixi_step; tm_at "hp"; tm_at "sc"; tm_at "sc"; intro n hn hn') | (apply ixl_step; tm_at "hp"; tm_at "sc"; tm_at "sc"; intro v hv) | (apply ixt_step; tm_at "hp"; tm_at "sc"; tm_at "sc"; intro v hm hv) | (apply in_step; tm_at "hp"; rfl; rfl) | (apply cat_step; tm_at "hp"; tm_at "hp"; tm_at "sc") | (apply catT_step; tm_at "hp"; tm_at "hp"; tm_at "sc1") | (apply tyL_and; tm_at "hp") | (apply app_step; tm_at "hp"; tm_at "sc"; intro H1 hp fr) | tm_at "call" | refine ⟨⟨_, rfl⟩, ?_⟩ | (apply ixs_step; tm_at "sc"; tm_at "sc"; tm_at "sc"; intro ch) | refine .inl ⟨_, rfl, ?_⟩ | refine .inr ⟨_, rfl, ?_⟩ | (apply And.intro; tm_at "sc") | (with_reducible refine wayB ?_ ?_ <;> intro c) | fail "no way"))
local macro_rules | `(tactic| tm_at "go") => `(tactic| (repeat tm_at "go1"))
local macro_rules | `(tactic| tm_at "goo") => `(tactic| (repeat' tm_at "go1"))
local macro_rules | `(tactic| tm_at "den") => `(tactic| (first | assumption | exact Den.str _ | exact Den.int _ | exact Den.bl _ | exact Den.non | (apply Den.tups; tm_at "hp"; tm_at "dens") | (apply Den.fr; tm_at "f0"; tm_at "den") | fail "no way"))
local macro_rules | `(tactic| tm_at "dens") => `(tactic| (first | assumption | exact Dens.nil | (apply Dens.cons; tm_at "den"; tm_at "dens") | (apply Dens.fr; tm_at "f0"; tm_at "dens") | fail "no way"))
local macro_rules | `(tactic| tm_at "ix") => `(tactic| (apply Ix.mk; tm_at "hp"; tm_at "ne"; assumption; assumption))
local macro_rules | `(tactic| tm_at "dep") => `(tactic| (first | assumption | exact Dep.int | exact Dep.str | exact Dep.bl | exact Dep.non | (apply Dep.tup; tm_at "dlen"; tm_at "deps") | (apply Dep.mono; assumption; decide) | fail "no way"))
local macro_rules | `(tactic| tm_at "deps") => `(tactic| (first | assumption | exact memN | (apply memC; tm_at "dep"; tm_at "deps") | fail "no way"))
local macro_rules | `(tactic| tm_at "dlen") => `(tactic| (first | assumption | (focus (simp; done)) | omega | fail "no way"))
local macro_rules | `(tactic| tm_at "pre") => `(tactic| (apply rep_step; tm_at "hp"; tm_at "sc"; tm_at "sc"; intro rp H1 nrp hrp fr))

local macro_rules | `(tactic| tm_at "lits") => `(tactic| (try simp only [l_nl, l_open, l_close, l_sp, l_quo, l_bs, l_minus, l_zero, l_empty, l_n] at c))
local macro_rules | `(tactic| tm_at "pre") => `(tactic| (first | (apply slm_step; tm_at "sc"; tm_at "sc"; tm_at "sc") | (apply slf_step; tm_at "sc"; tm_at "sc") | (apply slt_step; tm_at "sc"; tm_at "sc") | (with_reducible refine iteEqZ ?_ ?_ <;> (intro c; tm_at "lits")) | (apply catS_step; tm_at "sc") | (apply inD_step) | (apply ordS_step) | (apply intS_step; assumption) | (apply sign_step) | (apply lenS_step; tm_at "sc")))
local macro_rules | `(tactic| tm_at "pre") => `(tactic| (apply while_go))
local macro_rules | `(tactic| tm_at "pre") => `(tactic| (apply ixS_step; tm_at "sc"; tm_at "sc"; assumption))
local macro_rules | `(tactic| tm_at "pre") => `(tactic| (apply appB_step; tm_at "hp"; tm_at "sc"; intro H1 hp fr))

local macro_rules | `(tactic| tm_at "pre") => `(tactic| (first | (apply catA_step; (focus (omega))) | (apply lenZ_step; (focus (omega))) | (apply sps_step; (focus (omega)); (focus (omega)))))
set_option pp.deepTerms false
set_option pp.deepTerms.threshold 3
abbrev s_close_row : Stmt := top 52
theorem sc_close_row : FnScope ["_law_page_here"] ["_law_page_here"] (defScope s_close_row) := ⟨rfl, rfl, rfl, by decide +kernel, rfl, by decide +kernel, by decide +kernel⟩

theorem ok_clr (T : K4.Bl mg) (D : Def1 K mg "_law_close_row" s_close_row) : Cal P w K mg base 1 "_law_close_row" ["_law_page_here"] (spClr K) := by
  refine D.cal sc_close_row (fun _ _ _ _ _ _ us hl => match us, hl with | [_], _ => rfl) (fun vs H Q E h => ?_) (fun f cdv A outer s H vs Q E hr h => ?_) <;> unfold spClr at h
  · obtain ⟨b, A, R, Tk, rows, cur, toks, cnt, sa, sb, rfl, _⟩ := h
    rfl
  · obtain ⟨b, A, R, Tk, rows, cur, toks, cnt, sa, sb, rfl, pg, h1, h3, k⟩ := h
    obtain ⟨Sp, hA, hS, n1, n2, n3, n4⟩ := pg.hA
    obtain ⟨xs, hT, dT⟩ := pg.hT
    have hR := pg.hR
    have rl : (strsV rows).length = rows.length := by unfold strsV; simp
    have nar := pg.ar
    have nat' := pg.at_
    have nrt := pg.rt
    have sl : (S cur).length = cur.length := S_len _
    refine ⟨_, (pss_cons (ps_expr (pe_bm PySem.F.plainAttrs_list PySem.F.slot_list_append PySem.F.type_list_append mtApp (pe_ix (ixL K) (pv 0) pe_int (fun _ _ => rfl)) (pa_cons (pe_ix (ixL K) (pv 0) pe_int (fun _ _ => rfl)) pa_nil)))
    (pss_cons (ps_asg (pe_op op_add (pe_op op_add (pe_ix (ixL K) (pv 0) pe_int (fun _ _ => rfl)) (pe_callB call_lenS (by rfl) T.z_len (by decide +kernel) (pa_cons (pe_ix (ixL K) (pv 0) pe_int (fun _ _ => rfl)) pa_nil))) pe_int) (pg_sub (pv 0) pe_int setL))
    (pss_one (ps_asg pe_str (pg_sub (pv 0) pe_int setL))))), ?_⟩
    tm_at "goo"
    rename_i H2 hR2 f2 H3 hA3 f3
    have hA2 := f2.at1 hA nar
    have hR4 := fr.at1 (f3.at1 hR2 (Ne.symm nar)) (Ne.symm nar)
    have hT4 := fr.at1 (f3.at1 (f2.at1 hT (Ne.symm nrt)) (Ne.symm nat')) (Ne.symm nat')
    have hB4 := ((pg.hb.fr1 f2 (Ne.symm pg.rb)).fr1 f3 (Ne.symm pg.ab)).fr1 fr (Ne.symm pg.ab)
    have hS4 := fr.at1 (f3.at1 (f2.at1 hS n2) n1) n1
    have eR : strsV rows ++ [V.str (S cur)] = strsV (rows ++ [cur]) := by unfold strsV; simp
    refine k H1 ⟨⟨Sp, ?_, hS4, n1, n2, n3, n4⟩, by rw [hR4, ← eR], ⟨_, hT4, ((dT.fr f2).fr f3).fr fr⟩, hB4, pg.ab, pg.ar, pg.at_, pg.rb, pg.rt, pg.tb⟩ (((pg.rf.subs f2 (by simp)).subs f3 (by simp)).subs fr (by simp))
    rw [hp]
    have ec : ((cnt : Int) + ((S cur).length : Int) + 1) = ((cnt + cur.length + 1 : Nat) : Int) := by rw [sl]; omega
    show some (HO.lst [.ref R, .str (Str.ofString ""), .ref Tk, .int ((cnt : Int) + ((S cur).length : Int) + 1), .ref Sp]) = _
    rw [ec]
    rfl
local macro_rules | `(tactic| tm_at "call") => `(tactic| (apply cm_step; tm_at "hp"; intro z H1 hz hB fr; have zl := CmOk.len hz))
local macro_rules | `(tactic| tm_at "ln") => `(tactic| (focus (first | omega | (simp only [List.length_append, List.length_replicate]; omega))))
local macro_rules | `(tactic| tm_at "pre") => `(tactic| (first | (apply catS_step; tm_at "ln") | (apply lenS_step; tm_at "ln")))
abbrev s_row_end : Stmt := top 53
theorem sc_row_end : FnScope ["_law_bag_here", "_law_page_here", "_law_turn"] ["_law_bag_here", "_law_page_here"] (defScope s_row_end) := ⟨rfl, rfl, rfl, by decide +kernel, rfl, by decide +kernel, by decide +kernel⟩

theorem ok_rwe (T : K4.Bl mg) (G_take : Cal P w K mg base 1 "_law_take" ["_law_bag_here", "_law_size"] spTake) (G_comment : Cal P w K mg base 2 "_law_comment" ["_law_bag_here"] spCm) (G_close_row : Cal P w K mg base 1 "_law_close_row" ["_law_page_here"] (spClr K)) (D : Def1 K mg "_law_row_end" s_row_end) : Cal P w K mg base 3 "_law_row_end" ["_law_bag_here", "_law_page_here"] (spRe K) := by
  refine D.cal sc_row_end (fun _ _ _ _ _ _ us hl => match us, hl with | [_, _], _ => rfl) (fun vs H Q E h => ?_) (fun f cdv A outer s H vs Q E hr h => ?_) <;> unfold spRe at h
  · obtain ⟨b, A, R, Tk, rows, cur, toks, cnt, sa, sb, rfl, _⟩ := h
    rfl
  · obtain ⟨b, A, R, Tk, rows, cur, toks, cnt, sa, sb, rfl, pg, h1, h3, h4, k⟩ := h
    have hB := pg.hb
    obtain ⟨Sp, hA, hS, n1, n2, n3, n4⟩ := pg.hA
    have nab := pg.ab
    refine ⟨_, (C8.pss_cut (ps_if (pt_cmpR op_lt (pe_callB call_lenS (by rfl) T.z_len (by decide +kernel) (pa_cons (pe_ix (ixL K) (pv 1) pe_int (fun _ _ => rfl)) pa_nil)) pe_int (nomark _))
      (pss_cons (ps_asg (pe_op op_catS (pe_ix (ixL K) (pv 1) pe_int (fun _ _ => rfl)) (pe_op op_repS pe_str (pe_cal G_take (hr.mono (by omega)) (by rfl) (pa_cons (pv 0) (pa_cons pe_int pa_nil))))) (pg_sub (pv 1) pe_int setL))
      (pss_one (ps_if (pt_cmpR op_eq (pe_cal G_take (hr.mono (by omega)) (by rfl) (pa_cons (pv 0) (pa_cons pe_int pa_nil))) pe_int (nomark _))
        (pss_one (ps_asg (pe_op op_catS (pe_ix (ixL K) (pv 1) pe_int (fun _ _ => rfl)) (pe_cal G_comment (hr.mono (by omega)) (by rfl) (pa_cons (pv 0) pa_nil))) (pg_sub (pv 1) pe_int setL)))
        pss_nil)))
      pss_nil)
    (pss_cons (ps_expr (pe_cal G_close_row (hr.mono (by omega)) (by rfl) (pa_cons (pv 1) pa_nil)))
    (pss_one (ps_for PassesOwn.never rfl (pi_range1 (by rfl) T.z_range (pa_cons (pe_ix (ixL K) (pe_lst (pa_cons pe_int (pa_cons pe_int (pa_cons pe_int (pa_cons pe_int (pa_cons pe_int (pa_cons pe_int pa_nil))))))) (pe_cal G_take (hr.mono (by omega)) (by rfl) (pa_cons (pv 0) (pa_cons pe_int pa_nil))) (fun _ _ => rfl)) pa_nil)) (pg_name (i := 2) sc_row_end.nd rfl (Or.inl rfl))
      (pss_cons (ps_asg (pe_op op_repS pe_str (pe_cal G_take (hr.mono (by omega)) (by rfl) (pa_cons (pv 0) (pa_cons pe_int pa_nil)))) (pg_sub (pv 1) pe_int setL))
      (C8.pss_cut (ps_if (pt_cmpR op_eq (pe_cal G_take (hr.mono (by omega)) (by rfl) (pa_cons (pv 0) (pa_cons pe_int pa_nil))) pe_int (nomark _))
        (pss_one (ps_asg (pe_op op_catS (pe_ix (ixL K) (pv 1) pe_int (fun _ _ => rfl)) (pe_cal G_comment (hr.mono (by omega)) (by rfl) (pa_cons (pv 0) pa_nil))) (pg_sub (pv 1) pe_int setL)))
        pss_nil)
      (pss_one (ps_expr (pe_cal G_close_row (hr.mono (by omega)) (by rfl) (pa_cons (pv 1) pa_nil)))))))))), ?_⟩
    tm_at "goo"
    refine ⟨RE0 K b A R Tk rows cur toks cnt sa sb H, ?_, fun σ H2 hw => ?_⟩
    · show tIfS _ _ _ _ _ _
      tm_at "goo"
      all_goals show RE0 K b A R Tk rows cur toks cnt sa sb H _ _
      all_goals unfold RE0
      · rename_i Ha h0a h1a hBa fa H3 hA3 f3 Hc hBc fc Hd fd
        have hA2 := fa.at1 hA nab
        have p3 := (pg.frb fa hBa).cur2 hA2 hA3 f3
        have p4 := (p3.frb fc hBc).frb fd hB
        have hA4 := fd.at1 (fc.at1 hA3 nab) nab
        have p5 := p4.cur2 hA4 hp fr
        refine ⟨_, z, rfl, p5, hz.cm, by simp; omega, hz.ok, ?_⟩
        exact (((((pg.rf.subs fa (by simp)).subs f3 (by simp)).subs fc (by simp)).subs fd (by simp)).subs fr (by simp))
      · rename_i Ha h0a h1a hBa fa H3 f3
        have hA2 := fa.at1 hA nab
        have p3 := (pg.frb fa hBa).cur2 hA2 hp f3
        refine ⟨_, [], rfl, by rw [List.append_nil]; exact p3.frb fr hB, .inl rfl, by simp; omega, (fun _ m => nomatch m), ?_⟩
        exact (((pg.rf.subs fa (by simp)).subs f3 (by simp)).subs fr (by simp))
      · refine ⟨0, [], rfl, by simpa using pg, .inl rfl, by simpa using h3, (fun _ m => nomatch m), pg.rf⟩
    · unfold RE0 at hw
      obtain ⟨n, cm, rfl, p2, hcm, hl, ocm, f2⟩ := hw
      tm_at "goo"
      refine clr_step2 p2 (by omega) (by omega) fun H3 p3 f3 => ?_
      have F3 := f2.subs f3 (fun x m => m)
      obtain ⟨row, er⟩ : ∃ row, row = cur ++ List.replicate n 32 ++ cm := ⟨_, rfl⟩
      rw [← er] at p3 hl
      have orow : okRow row := ⟨by omega, fun c m => by
        rw [er] at m
        rcases List.mem_append.mp m with m | m
        · rcases List.mem_append.mp m with m | m
          · exact h4 c m
          · exact sps_ok m
        · exact ocm c m⟩
      have hB3 := p3.hb
      tm_at "goo"
      obtain ⟨m, rfl, hm⟩ : ∃ m : Nat, v = .int ((m : Nat) : Int) ∧ m ≤ 2 := by
        have h6 : r.toNat < 6 := by omega
        generalize r.toNat = j at hv h6
        match j, h6, hv with
        | 0, _, hv => exact ⟨0, (Option.some.inj hv).symm, by decide⟩
        | 1, _, hv => exact ⟨0, (Option.some.inj hv).symm, by decide⟩
        | 2, _, hv => exact ⟨0, (Option.some.inj hv).symm, by decide⟩
        | 3, _, hv => exact ⟨0, (Option.some.inj hv).symm, by decide⟩
        | 4, _, hv => exact ⟨1, (Option.some.inj hv).symm, by decide⟩
        | 5, _, hv => exact ⟨2, (Option.some.inj hv).symm, by decide⟩
      have N4 := Fr.new (o := .lst [.int 0, .int 0, .int 0, .int 0, .int 1, .int 2]) np
      have p4 := (p3.fr0 N4).frb fr hB
      have F4 := (F3.comp0 N4).subs fr (by simp)
      refine ⟨_, rfl, by omega, by omega, ?_⟩
      rw [Int.toNat_natCast]
      refine forR (lo := 0) (RE1 K b A R Tk rows row toks cnt sa sb H) ?_ (fun i σ H5 hi hq => ?_) (fun σ H5 hq => ?_)
      · unfold RE1
        refine ⟨[], _, _, rfl, p4, rfl, (fun _ m => nomatch m), by omega, ?_, F4⟩
        rw [totR_snoc]
        omega
      · unfold RE1 at hq
        obtain ⟨bl, cnt2, x, rfl, p5, hbl, obl, le5, tot5, F5⟩ := hq
        have hB5 := p5.hb
        obtain ⟨Sp5, hA5, _⟩ := p5.hA
        have l5 : (rows ++ row :: bl).length ≤ 9000 := by simp; omega
        tm_at "goo"
        rename_i Ha fa
        have p6 := (p5.frb fa hB).cur2 (fa.at1 hA5 nab) hp fr
        have F6 := (F5.subs fa (by simp)).subs fr (by simp)
        obtain ⟨Sp6, hA6, _⟩ := p6.hA
        have hB6 := p6.hb
        obtain ⟨rr, er⟩ : ∃ rr, rr = r := ⟨_, rfl⟩
        rw [← er] at p6 hA6
        have n9 : rr.toNat ≤ 8 := by omega
        refine ⟨RE2 K b A R Tk (rows ++ row :: bl) toks cnt2 sa sb (some (.int (0 + (i : Int)))) H, ?_, fun σ H7 hw => ?_⟩
        · show tIfS _ _ _ _ _ _
          tm_at "goo"
          all_goals show RE2 K b A R Tk _ toks cnt2 sa sb _ H _ _
          all_goals unfold RE2
          · rename_i Hc hBc fc Hd fd
            have p9 := ((p6.frb fc hBc).frb fd hB).cur2 (fd.at1 (fc.at1 hA6 nab) nab) hp fr
            have lz : (List.replicate rr.toNat 32 ++ z).length ≤ 17 := by simp; omega
            refine ⟨_, rfl, p9, ⟨⟨_, z, rfl, hz.cm⟩, by omega, fun c mc => ?_⟩, lz, ((F6.subs fc (by simp)).subs fd (by simp)).subs fr (by simp)⟩
            rcases List.mem_append.mp mc with mc | mc
            · exact sps_ok mc
            · exact hz.ok c mc
          · have lz : (List.replicate rr.toNat 32).length ≤ 17 := by simp; omega
            refine ⟨_, rfl, p6.frb fr hB, ⟨⟨_, [], (List.append_nil _).symm, .inl rfl⟩, by omega, fun c mc => sps_ok mc⟩, lz, F6.subs fr (by simp)⟩
        · unfold RE2 at hw
          obtain ⟨r2, rfl, p7, b7, l7, F7⟩ := hw
          tm_at "goo"
          refine clr_step2 p7 l5 (by omega) fun H8 p8 f8 => ?_
          tm_at "goo"
          show RE1 K b A R Tk rows row toks cnt sa sb H (i + 1) _ _
          unfold RE1
          have ea : rows ++ row :: (bl ++ [r2]) = rows ++ row :: bl ++ [r2] := by simp
          refine ⟨bl ++ [r2], _, _, rfl, by rw [ea]; exact p8, by simp [hbl], fun z mz => ?_, by omega, ?_, F7.subs f8 (fun x m => m)⟩
          · rcases List.mem_append.mp mz with mz | mz
            · exact obl z mz
            · rw [List.mem_singleton.mp mz]; exact b7
          · rw [ea, totR_snoc]
            omega
      · unfold RE1 at hq
        obtain ⟨bl, cnt2, x, rfl, p5, hbl, obl, le5, tot5, F5⟩ := hq
        tm_at "goo"
        refine k _ _ _ p5 ⟨⟨n, cm, bl, by rw [er], hcm, by rw [← er]; exact orow, obl⟩, by omega, tot5, ?_⟩ F5
        simp
        omega
end
end TK
set_option Elab.async false
set_option linter.all false
set_option maxRecDepth 100000
set_option maxHeartbeats 4000000
/-! lay, broken -/
namespace TK
open PySem PySem.Spec PyProof.Rows L2 M14 SX K4
@[irreducible] def spLay (K : PySem.W.Frag) : Sp := fun vs H Q _ => ∃ (b A R Tk p : Addr) (rows : List (List Nat)) (cur bf : List Nat) (toks : List T) (cnt sa sb : Nat) (kd : String) (w : T) (sp : List Nat), vs = [.ref b, .ref A, .ref p, .str (S bf)] ∧ PgA K H b A R Tk rows cur toks cnt sa sb ∧ H p = some (pcV kd w sp) ∧ Wd kd w sp ∧ ((∃ s, w = .str s) ∨ ∃ i, w = .int i) ∧ bf ≠ [47] ∧ bf.length ≤ 40 ∧ rows.length ≤ 8000 ∧ toks.length ≤ 8000 ∧ cur.length < 114 ∧
  ∀ H' g, PgA K H' b A R Tk rows (cur ++ List.replicate g 32 ++ sp) (toks ++ [tk kd w (rows.length + 1) ((cur ++ List.replicate g 32).length + 1)]) cnt (rows.length + 1) ((cur ++ List.replicate g 32 ++ sp).length + 1) → g ≤ 3 → (bf = [] → g = 0) → (g = 0 → ∀ rest, Adm bf (sp ++ rest)) → Fr [b, A, R, Tk] H H' → Q (.str (S sp)) H'
theorem lay_step {K : PySem.W.Frag} {b A R Tk p : Addr} {rows : List (List Nat)} {cur bf : List Nat} {toks : List T} {cnt sa sb : Nat} {kd : String} {w : T} {sp : List Nat} {H : Hp} {Q : VK} {E : XK} (pg : PgA K H b A R Tk rows cur toks cnt sa sb) (hp : H p = some (pcV kd w sp)) (wd : Wd kd w sp) (lf : (∃ s, w = .str s) ∨ ∃ i, w = .int i) (h1 : bf ≠ [47]) (h2 : bf.length ≤ 40) (h3 : rows.length ≤ 8000) (h4 : toks.length ≤ 8000) (h5 : cur.length < 114)
    (k : ∀ H' g, PgA K H' b A R Tk rows (cur ++ List.replicate g 32 ++ sp) (toks ++ [tk kd w (rows.length + 1) ((cur ++ List.replicate g 32).length + 1)]) cnt (rows.length + 1) ((cur ++ List.replicate g 32 ++ sp).length + 1) → g ≤ 3 → (bf = [] → g = 0) → (g = 0 → ∀ rest, Adm bf (sp ++ rest)) → Fr [b, A, R, Tk] H H' → Q (.str (S sp)) H') : spLay K ([.ref b, .ref A, .ref p, .str (S bf)] ++ []) H Q E := by
  unfold spLay
  exact ⟨b, A, R, Tk, p, rows, cur, bf, toks, cnt, sa, sb, kd, w, sp, rfl, pg, hp, wd, lf, h1, h2, h3, h4, h5, k⟩
@[irreducible] def LA0 (b A p : Addr) (bf sp : List Nat) (H : Hp) (σ : L2.St) (H' : Hp) : Prop := ∃ g : Nat, σ = [some (.ref b), some (.ref A), some (.ref p), some (.str (S bf)), some (.int (g : Nat))] ∧ g ≤ 3 ∧ (g = 0 → ∀ rest, Adm bf (sp ++ rest)) ∧ Box H' b ∧ Fr [b] H H'
@[irreducible] def LA1 (b A p : Addr) (bf sp : List Nat) (H : Hp) (σ : L2.St) (H' : Hp) : Prop := ∃ g : Nat, σ = [some (.ref b), some (.ref A), some (.ref p), some (.str (S bf)), some (.int (g : Nat))] ∧ g ≤ 3 ∧ (bf = [] → g = 0) ∧ (g = 0 → ∀ rest, Adm bf (sp ++ rest)) ∧ Box H' b ∧ Fr [b] H H'
section
variable {P : Program} {w : World} {K : PySem.W.Frag} {mg : Str → Option Value} {base : Heap}
set_option hygiene false
local macro_rules | `(tactic| tm_at "sc") => `(tactic| (first | omega | (simp only [List.length_cons, List.length_nil, List.length_map, List.length_set, List.length_append]; omega) | (simp only [List.length_map] at h1 ⊢; omega) | (simp only [List.length_map] at c ⊢; omega) | with_reducible assumption | exact And.intro (by omega) (by omega) | exact Or.inl (And.intro (by omega) (by omega)) | exact Or.inr (And.intro (by omega) (by omega)) | decide +kernel | exact len1000 (by simp) | rfl | fail "no way"))
local macro_rules | `(tactic| tm_at "sc1") => `(tactic| (focus (simp; done)))
local macro_rules | `(tactic| tm_at "ne") => `(tactic| (first | assumption | exact Ne.symm (by assumption) | (apply Box.ne2; assumption; tm_at "hp") | (apply Ne.symm; apply Box.ne2; assumption; tm_at "hp") | (apply ne_of_none2; assumption; tm_at "hp") | (apply Ne.symm; apply ne_of_none2; assumption; tm_at "hp") | fail "no way"))
local macro_rules | `(tactic| tm_at "f0") => `(tactic| (first | assumption | (apply Fr.new; assumption) | fail "no way"))
local macro_rules | `(tactic| tm_at "hp") => `(tactic| (first | assumption | exact upd_same | (apply SqL.of; first | assumption | exact upd_same) | (apply Fr.at0; tm_at "f0"; tm_at "hp") | (apply Fr.at1n; assumption; tm_at "ne"; tm_at "hp") | (apply sqFr0; tm_at "f0"; tm_at "hp") | (apply sqFr1; assumption; tm_at "ne"; tm_at "hp") | (apply Box.fr0; tm_at "f0"; tm_at "hp") | (apply Box.fr1; assumption; tm_at "ne"; tm_at "hp") | (apply Den.fr; tm_at "f0"; tm_at "hp") | (apply Dens.fr; tm_at "f0"; tm_at "hp") | fail "no way"))
local macro_rules | `(tactic| tm_at "free0") => `(tactic| (first | assumption | (apply updFree; assumption) | (apply updFree; apply updFree; assumption) | (apply updFree; apply updFree; apply updFree; assumption) | (apply updFree; apply updFree; apply updFree; apply updFree; assumption) | fail "no way"))
local macro_rules | `(tactic| tm_at "free") => `(tactic| (first | tm_at "free0" | (apply Fr.free; assumption; tm_at "free0") | (apply Box.free; assumption; tm_at "fr"; tm_at "free0") | (apply Fr.free; assumption; apply Fr.free; assumption; tm_at "free0") | fail "no way"))
local macro_rules | `(tactic| tm_at "fr") => `(tactic| (first | assumption | exact Fr.refl0 _ | exact Fr.refl (Box.nt (by assumption)) | (refine Fr.comp0 ?_ (by tm_at "f0"); tm_at "fr") | (refine Fr.comp ?_ (by assumption); tm_at "fr") | (refine Fr.compN ?_ (by assumption) (by tm_at "free"); tm_at "fr") | fail "no way"))
local macro_rules | `(tactic| tm_at "call") => `(tactic| fail "no call")
local macro_rules | `(tactic| tm_at "call") => `(tactic| (apply take_step; tm_at "hp"; tm_at "sc"; tm_at "sc"; intro r H1 h0 h1 hB fr))
local macro_rules | `(tactic| tm_at "ty") => `(tactic| (first | assumption | exact .base .non | exact .base (.bl _) | exact .base (.int _) | exact .base (.str _) | (apply TyX.base; apply TyOf.lst; tm_at "hp") | (apply TyX.base; apply TyOf.tup; tm_at "hp") | fail "no way"))
local macro_rules | `(tactic| tm_at "pre") => `(tactic| fail "none")
local macro_rules | `(tactic| tm_at "go1") => `(tactic| (first | tm_at "pre" | refine ⟨_, rfl, ?_⟩ | refine ⟨_, _, rfl, rfl, ?_⟩ | (apply set_step; tm_at "hp"; tm_at "sc"; tm_at "sc"; intro H1 hp fr) | (with_reducible refine iteDI ?_ ?_ <;> intro c) | (with_reducible refine iteDS ?_ ?_ <;> intro c) | (with_reducible refine iteD ?_ ?_ <;> intro c) | (with_reducible refine iteEM ?_ ?_ <;> intro c) | (with_reducible refine iteE ?_ ?_ <;> intro c) | with_reducible refine iteN ?_ | with_reducible refine iteF ?_ | with_reducible refine iteT ?_ | (refine fun (p : Addr) (np : _ = (none : Option HO)) => ?_; fail_if_success (refine ⟨fun (_ _ : Nat) (_ : Hp) => True, ?_⟩)) | (apply isi_tt; tm_at "ty"; focus (decide +kernel)) | (apply isi_ff; tm_at "ty"; focus (decide +kernel)) | (apply sl_step; tm_at "hp"; intro qq H1 ms nq hq fr) | (apply sum_step; tm_at "hp"; intro i) | (apply tru_step; tm_at "hp") | (apply len_step; tm_at "hp") | (apply lenq_step; assumption) | (apply ixq_step; assumption; tm_at "sc"; tm_at "sc"; intro v hv) | (apply lst_step; tm_at "hp") | (apply tupl_step; tm_at "hp") | (apply ixr_step; tm_at "hp"; exact rfl) | (apply ix0_step; tm_at "hp") | (apply ix1_step; tm_at "hp") | (apply ix2_step; tm_at "hp") | (apply ixi_step; tm_at "hp"; tm_at "sc"; tm_at "sc"; intro n hn hn') | (apply ixl_step; tm_at "hp"; tm_at "sc"; tm_at "sc"; intro v hv) | (apply ixt_step; tm_at "hp"; tm_at "sc"; tm_at "sc"; intro v hm hv) | (apply in_step; tm_at "hp"; rfl; rfl) | (apply cat_step; tm_at "hp"; tm_at "hp"; tm_at "sc") | (apply catT_step; tm_at "hp"; tm_at "hp"; tm_at "sc1") | (apply tyL_and; tm_at "hp") | (apply app_step; tm_at "hp"; tm_at "sc"; intro H1 hp fr) | tm_at "call" | refine ⟨⟨_, rfl⟩, ?_⟩ | (apply ixs_step; tm_at "sc"; tm_at "sc"; tm_at "sc"; intro ch) | refine .inl ⟨_, rfl, ?_⟩ | refine .inr ⟨_, rfl, ?_⟩ | (apply And.intro; tm_at "sc") | (with_reducible refine wayB ?_ ?_ <;> intro c) | fail "no way"))
local macro_rules | `(tactic| tm_at "go") => `(tactic| (repeat tm_at "go1"))
local macro_rules | `(tactic| tm_at "goo") => `(tactic| (repeat' tm_at "go1"))
local macro_rules | `(tactic| tm_at "den") => `(tactic| (first | assumption | exact Den.str _ | exact Den.int _ | exact Den.bl _ | exact Den.non | (apply Den.tups; tm_at "hp"; tm_at "dens") | (apply Den.fr; tm_at "f0"; tm_at "den") | fail "no way"))
local macro_rules | `(tactic| tm_at "dens") => `(tactic| (first | assumption | exact Dens.nil | (apply Dens.cons; tm_at "den"; tm_at "dens") | (apply Dens.fr; tm_at "f0"; tm_at "dens") | fail "no way"))
local macro_rules | `(tactic| tm_at "ix") => `(tactic| (apply Ix.mk; tm_at "hp"; tm_at "ne"; assumption; assumption))
local macro_rules | `(tactic| tm_at "dep") => `(tactic| (first | assumption | exact Dep.int | exact Dep.str | exact Dep.bl | exact Dep.non | (apply Dep.tup; tm_at "dlen"; tm_at "deps") | (apply Dep.mono; assumption; decide) | fail "no way"))
local macro_rules | `(tactic| tm_at "deps") => `(tactic| (first | assumption | exact memN | (apply memC; tm_at "dep"; tm_at "deps") | fail "no way"))
local macro_rules | `(tactic| tm_at "dlen") => `(tactic| (first | assumption | (focus (simp; done)) | omega | fail "no way"))
local macro_rules | `(tactic| tm_at "pre") => `(tactic| (apply rep_step; tm_at "hp"; tm_at "sc"; tm_at "sc"; intro rp H1 nrp hrp fr))

local macro_rules | `(tactic| tm_at "lits") => `(tactic| (try simp only [l_nl, l_open, l_close, l_sp, l_quo, l_bs, l_minus, l_zero, l_empty, l_n] at c))
local macro_rules | `(tactic| tm_at "pre") => `(tactic| (first | (apply slm_step; tm_at "sc"; tm_at "sc"; tm_at "sc") | (apply slf_step; tm_at "sc"; tm_at "sc") | (apply slt_step; tm_at "sc"; tm_at "sc") | (with_reducible refine iteEqZ ?_ ?_ <;> (intro c; tm_at "lits")) | (apply catS_step; tm_at "sc") | (apply inD_step) | (apply ordS_step) | (apply intS_step; assumption) | (apply sign_step) | (apply lenS_step; tm_at "sc")))
local macro_rules | `(tactic| tm_at "pre") => `(tactic| (apply while_go))
local macro_rules | `(tactic| tm_at "pre") => `(tactic| (apply ixS_step; tm_at "sc"; tm_at "sc"; assumption))
local macro_rules | `(tactic| tm_at "pre") => `(tactic| (apply appB_step; tm_at "hp"; tm_at "sc"; intro H1 hp fr))

local macro_rules | `(tactic| tm_at "ln") => `(tactic| (focus (first | omega | (simp only [List.length_append, List.length_replicate]; omega))))
local macro_rules | `(tactic| tm_at "pre") => `(tactic| (first | (apply catS_step; tm_at "ln") | (apply lenS_step; tm_at "ln") | (apply sps_step; (focus (omega)); (focus (omega)))))
local macro_rules | `(tactic| tm_at "call") => `(tactic| (apply mp_step; assumption; assumption; (focus (omega)); (focus (omega)); intro rm H1 fr hrm))
set_option pp.deepTerms false
set_option pp.deepTerms.threshold 3
abbrev s_lay : Stmt := top 54
theorem sc_lay : FnScope ["_law_bag_here", "_law_page_here", "_law_piece", "_law_before", "_law_gap"] ["_law_bag_here", "_law_page_here", "_law_piece", "_law_before"] (defScope s_lay) := ⟨rfl, rfl, rfl, by decide +kernel, rfl, by decide +kernel, by decide +kernel⟩

theorem ok_lay (T : K4.Bl mg) (G_take : Cal P w K mg base 1 "_law_take" ["_law_bag_here", "_law_size"] spTake) (G_must_part : Cal P w K mg base 2 "_law_must_part" ["_law_before", "_law_spelled"] spMp) (G_put : Cal P w K mg base 1 "_law_put" ["_law_page_here", "_law_kind", "_law_word_here", "_law_spelled"] (spPut K)) (D : Def1 K mg "_law_lay" s_lay) : Cal P w K mg base 3 "_law_lay" ["_law_bag_here", "_law_page_here", "_law_piece", "_law_before"] (spLay K) := by
  refine D.cal sc_lay (fun _ _ _ _ _ _ us hl => match us, hl with | [_, _, _, _], _ => rfl) (fun vs H Q E h => ?_) (fun f cdv A outer s H vs Q E hr h => ?_) <;> unfold spLay at h
  · obtain ⟨b, A, R, Tk, p, rows, cur, bf, toks, cnt, sa, sb, kd, w, sp, rfl, _⟩ := h
    rfl
  · obtain ⟨b, A, R, Tk, p, rows, cur, bf, toks, cnt, sa, sb, kd, w, sp, rfl, pg, hpc, wd, lf, hb47, hbl, hrl, htl, hcl, k⟩ := h
    have hB := pg.hb
    have nab := pg.ab
    have hne := wd.ne
    have hle := wd.le
    have pb : p ≠ b := fun e => pg.hb.nt b (by simp) _ (by rw [← e]; exact hpc)
    have hpt : H p = some (.tup [.str (Str.ofString kd), vW w, .str (S sp)]) := hpc
    refine ⟨_, (pss_cons (ps_set (i := 4) sc_lay.nd rfl (Or.inl rfl) (pe_cal G_take (hr.mono (by omega)) (by rfl) (pa_cons (pv 0) (pa_cons pe_int pa_nil))))
    (C8.pss_cut (ps_if (PW.pt (pw_and (pt_cmpR op_eq (pv 4) pe_int (nomark _)) (pw_and1 (pt_val (pe_cal G_must_part (hr.mono (by omega)) (by rfl) (pa_cons (pv 3) (pa_cons (pe_ix (ixT K) (pv 2) pe_int (fun _ _ => rfl)) pa_nil)))))))
      (pss_one (ps_set (i := 4) sc_lay.nd rfl (Or.inl rfl) pe_int))
      pss_nil)
    (C8.pss_cut (ps_if (pt_cmpR op_eq (pv 3) pe_str (nomark _))
      (pss_one (ps_set (i := 4) sc_lay.nd rfl (Or.inl rfl) pe_int))
      pss_nil)
    (pss_cons (ps_asg (pe_op op_catS (pe_ix (ixL K) (pv 1) pe_int (fun _ _ => rfl)) (pe_op op_repS pe_str (pv 4))) (pg_sub (pv 1) pe_int setL))
    (pss_cons (ps_expr (pe_cal G_put (hr.mono (by omega)) (by rfl) (pa_cons (pv 1) (pa_cons (pe_ix (ixT K) (pv 2) pe_int (fun _ _ => rfl)) (pa_cons (pe_ix (ixT K) (pv 2) pe_int (fun _ _ => rfl)) (pa_cons (pe_ix (ixT K) (pv 2) pe_int (fun _ _ => rfl)) pa_nil))))))
    (pss_one (ps_ret (pe_ix (ixT K) (pv 2) pe_int (fun _ _ => rfl))))))))), ?_⟩
    tm_at "goo"
    refine ⟨LA0 b A p bf sp H, ?_, fun σ H2 hw => ?_⟩
    · have hpt1 := fr.at1 hpt pb
      show tIfS _ _ _ _ _ _
      tm_at "goo"
      all_goals show LA0 b A p bf sp H _ _
      all_goals unfold LA0
      · exact ⟨1, rfl, by decide, (fun e => by cases e), by tm_at "hp", by tm_at "fr"⟩
      · rename_i c0
        exact ⟨0, by rw [c0]; rfl, by decide, fun _ => hrm c, by tm_at "hp", by tm_at "fr"⟩
      · exact ⟨r.toNat, by rw [show ((r.toNat : Nat) : Int) = r by omega]; rfl, by omega, fun e => by omega, hB, fr⟩
    · unfold LA0 at hw
      obtain ⟨g, rfl, g3, ga, hB2, f2⟩ := hw
      tm_at "goo"
      refine ⟨LA1 b A p bf sp H, ?_, fun σ H3 hw => ?_⟩
      · show tIfS _ _ _ _ _ _
        tm_at "goo"
        all_goals show LA1 b A p bf sp H _ _
        all_goals unfold LA1
        · exact ⟨0, rfl, by decide, fun _ => rfl, fun _ _ => .inl (by simpa using c), hB2, f2⟩
        · exact ⟨g, rfl, g3, fun e => absurd e (by simpa using c), ga, hB2, f2⟩
      · unfold LA1 at hw
        obtain ⟨g, rfl, g3, g0, ga, hB3, f3⟩ := hw
        have p3 := pg.frb f3 hB3
        obtain ⟨Sp, hA3, _⟩ := p3.hA
        have hpt3 := f3.at1 hpt pb
        have pA : p ≠ A := fun e => by rw [← e, hpt3] at hA3; cases hA3
        tm_at "goo"
        have hpt4 := fr.at1 hpt3 pA
        have p4 := p3.cur2 hA3 hp fr
        have f4 : Fr [b, A, R, Tk] H H1 := (pg.rf.subs f3 (by simp)).subs fr (by simp)
        refine put_step p4 (by omega) (by omega) (by simp; omega) (by omega) lf fun H5 p5 f5 => ?_
        have hpt5 := f5.kp _ _ hpt4 fun m => by
          simp only [List.mem_cons, List.not_mem_nil, or_false] at m
          rcases m with e | e | e | e
          · exact pb e
          · exact pA e
          · have := p4.hR; rw [← e, hpt4] at this; cases this
          · obtain ⟨xs, h, _⟩ := p4.hT; rw [← e, hpt4] at h; cases h
        tm_at "goo"
        simp only [Int.toNat_natCast] at p5
        exact k H5 g p5 g3 g0 ga (f4.subs f5 (fun x m => m))
end
end TK
set_option Elab.async false
set_option linter.all false
set_option maxRecDepth 100000
set_option maxHeartbeats 4000000
/-! broken -/
namespace TK
open PySem PySem.Spec PyProof.Rows L2 M14 SX K4
@[irreducible] def spBrk (K : PySem.W.Frag) : Sp := fun vs H Q _ => ∃ (b A R Tk : Addr) (rows : List (List Nat)) (cur bf : List Nat) (toks : List T) (cnt sa sb : Nat) (ins : Bool) (wide : Nat), vs = [.ref b, .ref A, .str (S bf), .bl ins, .int (wide : Nat)] ∧ PgA K H b A R Tk rows cur toks cnt sa sb ∧ rows.length ≤ 7000 ∧ cur.length < 114 ∧ (∀ c ∈ cur, okc c = true ∧ c ≠ 10) ∧ wide ≤ 1000 ∧
  (ins = false ∨ cur.length + wide < 114 → ∀ H', PgA K H' b A R Tk rows cur toks cnt sa sb → Fr [b, A, R, Tk] H H' → Q (.str (S bf)) H') ∧
  (ins = true → ∀ H' rows' cnt' n, n ≤ 8 → PgA K H' b A R Tk rows' (List.replicate n 32) toks cnt' sa sb → RowEnd rows cur cnt rows' cnt' → Fr [b, A, R, Tk] H H' → Q (.str (S [])) H')
theorem brk_step {K : PySem.W.Frag} {b A R Tk : Addr} {rows : List (List Nat)} {cur bf : List Nat} {toks : List T} {cnt sa sb : Nat} {ins : Bool} {wide : Nat} {H : Hp} {Q : VK} {E : XK} (pg : PgA K H b A R Tk rows cur toks cnt sa sb) (h1 : rows.length ≤ 7000) (h2 : cur.length < 114) (h3 : ∀ c ∈ cur, okc c = true ∧ c ≠ 10) (h4 : wide ≤ 1000)
    (k1 : ins = false ∨ cur.length + wide < 114 → ∀ H', PgA K H' b A R Tk rows cur toks cnt sa sb → Fr [b, A, R, Tk] H H' → Q (.str (S bf)) H')
    (k2 : ins = true → ∀ H' rows' cnt' n, n ≤ 8 → PgA K H' b A R Tk rows' (List.replicate n 32) toks cnt' sa sb → RowEnd rows cur cnt rows' cnt' → Fr [b, A, R, Tk] H H' → Q (.str (S [])) H') : spBrk K ([.ref b, .ref A, .str (S bf), .bl ins, .int (wide : Nat)] ++ []) H Q E := by
  unfold spBrk
  exact ⟨b, A, R, Tk, rows, cur, bf, toks, cnt, sa, sb, ins, wide, rfl, pg, h1, h2, h3, h4, k1, k2⟩
section
variable {P : Program} {w : World} {K : PySem.W.Frag} {mg : Str → Option Value} {base : Heap}
set_option hygiene false
local macro_rules | `(tactic| tm_at "sc") => `(tactic| (first | omega | (simp only [List.length_cons, List.length_nil, List.length_map, List.length_set, List.length_append]; omega) | (simp only [List.length_map] at h1 ⊢; omega) | (simp only [List.length_map] at c ⊢; omega) | with_reducible assumption | exact And.intro (by omega) (by omega) | exact Or.inl (And.intro (by omega) (by omega)) | exact Or.inr (And.intro (by omega) (by omega)) | decide +kernel | exact len1000 (by simp) | rfl | fail "no way"))
local macro_rules | `(tactic| tm_at "sc1") => `(tactic| (focus (simp; done)))
local macro_rules | `(tactic| tm_at "ne") => `(tactic| (first | assumption | exact Ne.symm (by assumption) | (apply Box.ne2; assumption; tm_at "hp") | (apply Ne.symm; apply Box.ne2; assumption; tm_at "hp") | (apply ne_of_none2; assumption; tm_at "hp") | (apply Ne.symm; apply ne_of_none2; assumption; tm_at "hp") | fail "no way"))
local macro_rules | `(tactic| tm_at "f0") => `(tactic| (first | assumption | (apply Fr.new; assumption) | fail "no way"))
local macro_rules | `(tactic| tm_at "hp") => `(tactic| (first | assumption | exact upd_same | (apply SqL.of; first | assumption | exact upd_same) | (apply Fr.at0; tm_at "f0"; tm_at "hp") | (apply Fr.at1n; assumption; tm_at "ne"; tm_at "hp") | (apply sqFr0; tm_at "f0"; tm_at "hp") | (apply sqFr1; assumption; tm_at "ne"; tm_at "hp") | (apply Box.fr0; tm_at "f0"; tm_at "hp") | (apply Box.fr1; assumption; tm_at "ne"; tm_at "hp") | (apply Den.fr; tm_at "f0"; tm_at "hp") | (apply Dens.fr; tm_at "f0"; tm_at "hp") | fail "no way"))
local macro_rules | `(tactic| tm_at "free0") => `(tactic| (first | assumption | (apply updFree; assumption) | (apply updFree; apply updFree; assumption) | (apply updFree; apply updFree; apply updFree; assumption) | (apply updFree; apply updFree; apply updFree; apply updFree; assumption) | fail "no way"))
local macro_rules | `(tactic| tm_at "free") => `(tactic| (first | tm_at "free0" | (apply Fr.free; assumption; tm_at "free0") | (apply Box.free; assumption; tm_at "fr"; tm_at "free0") | (apply Fr.free; assumption; apply Fr.free; assumption; tm_at "free0") | fail "no way"))
local macro_rules | `(tactic| tm_at "fr") => `(tactic| (first | assumption | exact Fr.refl0 _ | exact Fr.refl (Box.nt (by assumption)) | (refine Fr.comp0 ?_ (by tm_at "f0"); tm_at "fr") | (refine Fr.comp ?_ (by assumption); tm_at "fr") | (refine Fr.compN ?_ (by assumption) (by tm_at "free"); tm_at "fr") | fail "no way"))
local macro_rules | `(tactic| tm_at "call") => `(tactic| fail "no call")
local macro_rules | `(tactic| tm_at "call") => `(tactic| (apply take_step; tm_at "hp"; tm_at "sc"; tm_at "sc"; intro r H1 h0 h1 hB fr))
local macro_rules | `(tactic| tm_at "ty") => `(tactic| (first | assumption | exact .base .non | exact .base (.bl _) | exact .base (.int _) | exact .base (.str _) | (apply TyX.base; apply TyOf.lst; tm_at "hp") | (apply TyX.base; apply TyOf.tup; tm_at "hp") | fail "no way"))
local macro_rules | `(tactic| tm_at "pre") => `(tactic| fail "none")
local macro_rules | `(tactic| tm_at "go1") => `(tactic| (first | tm_at "pre" | refine ⟨_, rfl, ?_⟩ | refine ⟨_, _, rfl, rfl, ?_⟩ | (apply set_step; tm_at "hp"; tm_at "sc"; tm_at "sc"; intro H1 hp fr) | (with_reducible refine iteDI ?_ ?_ <;> intro c) | (with_reducible refine iteDS ?_ ?_ <;> intro c) | (with_reducible refine iteD ?_ ?_ <;> intro c) | (with_reducible refine iteEM ?_ ?_ <;> intro c) | (with_reducible refine iteE ?_ ?_ <;> intro c) | with_reducible refine iteN ?_ | with_reducible refine iteF ?_ | with_reducible refine iteT ?_ | (refine fun (p : Addr) (np : _ = (none : Option HO)) => ?_; fail_if_success (refine ⟨fun (_ _ : Nat) (_ : Hp) => True, ?_⟩)) | (apply isi_tt; tm_at "ty"; focus (decide +kernel)) | (apply isi_ff; tm_at "ty"; focus (decide +kernel)) | (apply sl_step; tm_at "hp"; intro qq H1 ms nq hq fr) | (apply sum_step; tm_at "hp"; intro i) | (apply tru_step; tm_at "hp") | (apply len_step; tm_at "hp") | (apply lenq_step; assumption) | (apply ixq_step; assumption; tm_at "sc"; tm_at "sc"; intro v hv) | (apply lst_step; tm_at "hp") | (apply tupl_step; tm_at "hp") | (apply ixr_step; tm_at "hp"; exact rfl) | (apply ix0_step; tm_at "hp") | (apply ix1_step; tm_at "hp") | (apply ix2_step; tm_at "hp") | (apply ixi_step; tm_at "hp"; tm_at "sc"; tm_at "sc"; intro n hn hn') | (apply ixl_step; tm_at "hp"; tm_at "sc"; tm_at "sc"; intro v hv) | (apply ixt_step; tm_at "hp"; tm_at "sc"; tm_at "sc"; intro v hm hv) | (apply in_step; tm_at "hp"; rfl; rfl) | (apply cat_step; tm_at "hp"; tm_at "hp"; tm_at "sc") | (apply catT_step; tm_at "hp"; tm_at "hp"; tm_at "sc1") | (apply tyL_and; tm_at "hp") | (apply app_step; tm_at "hp"; tm_at "sc"; intro H1 hp fr) | tm_at "call" | refine ⟨⟨_, rfl⟩, ?_⟩ | (apply ixs_step; tm_at "sc"; tm_at "sc"; tm_at "sc"; intro ch) | refine .inl ⟨_, rfl, ?_⟩ | refine .inr ⟨_, rfl, ?_⟩ | (apply And.intro; tm_at "sc") | (with_reducible refine wayB ?_ ?_ <;> intro c) | fail "no way"))
local macro_rules | `(tactic| tm_at "go") => `(tactic| (repeat tm_at "go1"))
local macro_rules | `(tactic| tm_at "goo") => `(tactic| (repeat' tm_at "go1"))
local macro_rules | `(tactic| tm_at "den") => `(tactic| (first | assumption | exact Den.str _ | exact Den.int _ | exact Den.bl _ | exact Den.non | (apply Den.tups; tm_at "hp"; tm_at "dens") | (apply Den.fr; tm_at "f0"; tm_at "den") | fail "no way"))
local macro_rules | `(tactic| tm_at "dens") => `(tactic| (first | assumption | exact Dens.nil | (apply Dens.cons; tm_at "den"; tm_at "dens") | (apply Dens.fr; tm_at "f0"; tm_at "dens") | fail "no way"))
local macro_rules | `(tactic| tm_at "ix") => `(tactic| (apply Ix.mk; tm_at "hp"; tm_at "ne"; assumption; assumption))
local macro_rules | `(tactic| tm_at "dep") => `(tactic| (first | assumption | exact Dep.int | exact Dep.str | exact Dep.bl | exact Dep.non | (apply Dep.tup; tm_at "dlen"; tm_at "deps") | (apply Dep.mono; assumption; decide) | fail "no way"))
local macro_rules | `(tactic| tm_at "deps") => `(tactic| (first | assumption | exact memN | (apply memC; tm_at "dep"; tm_at "deps") | fail "no way"))
local macro_rules | `(tactic| tm_at "dlen") => `(tactic| (first | assumption | (focus (simp; done)) | omega | fail "no way"))
local macro_rules | `(tactic| tm_at "pre") => `(tactic| (apply rep_step; tm_at "hp"; tm_at "sc"; tm_at "sc"; intro rp H1 nrp hrp fr))

local macro_rules | `(tactic| tm_at "lits") => `(tactic| (try simp only [l_nl, l_open, l_close, l_sp, l_quo, l_bs, l_minus, l_zero, l_empty, l_n] at c))
local macro_rules | `(tactic| tm_at "pre") => `(tactic| (first | (apply slm_step; tm_at "sc"; tm_at "sc"; tm_at "sc") | (apply slf_step; tm_at "sc"; tm_at "sc") | (apply slt_step; tm_at "sc"; tm_at "sc") | (with_reducible refine iteEqZ ?_ ?_ <;> (intro c; tm_at "lits")) | (apply catS_step; tm_at "sc") | (apply inD_step) | (apply ordS_step) | (apply intS_step; assumption) | (apply sign_step) | (apply lenS_step; tm_at "sc")))
local macro_rules | `(tactic| tm_at "pre") => `(tactic| (apply while_go))
local macro_rules | `(tactic| tm_at "pre") => `(tactic| (apply ixS_step; tm_at "sc"; tm_at "sc"; assumption))
local macro_rules | `(tactic| tm_at "pre") => `(tactic| (apply appB_step; tm_at "hp"; tm_at "sc"; intro H1 hp fr))

local macro_rules | `(tactic| tm_at "ln") => `(tactic| (focus (first | omega | (simp only [List.length_append, List.length_replicate]; omega))))
local macro_rules | `(tactic| tm_at "pre") => `(tactic| (first | (apply catS_step; tm_at "ln") | (apply lenS_step; tm_at "ln") | (apply sps_step; (focus (omega)); (focus (omega)))))
set_option pp.deepTerms false
set_option pp.deepTerms.threshold 3
abbrev s_broken : Stmt := top 55
theorem sc_broken : FnScope ["_law_bag_here", "_law_page_here", "_law_before", "_law_inside", "_law_wide"] ["_law_bag_here", "_law_page_here", "_law_before", "_law_inside", "_law_wide"] (defScope s_broken) := ⟨rfl, rfl, rfl, by decide +kernel, rfl, by decide +kernel, by decide +kernel⟩

theorem ok_brn (T : K4.Bl mg) (G_take : Cal P w K mg base 1 "_law_take" ["_law_bag_here", "_law_size"] spTake) (G_row_end : Cal P w K mg base 3 "_law_row_end" ["_law_bag_here", "_law_page_here"] (spRe K)) (D : Def1 K mg "_law_broken" s_broken) : Cal P w K mg base 4 "_law_broken" ["_law_bag_here", "_law_page_here", "_law_before", "_law_inside", "_law_wide"] (spBrk K) := by
  refine D.cal sc_broken (fun _ _ _ _ _ _ us hl => match us, hl with | [_, _, _, _, _], _ => rfl) (fun vs H Q E h => ?_) (fun f cdv A outer s H vs Q E hr h => ?_) <;> unfold spBrk at h
  · obtain ⟨b, A, R, Tk, rows, cur, bf, toks, cnt, sa, sb, ins, wide, rfl, _⟩ := h
    rfl
  · obtain ⟨b, A, R, Tk, rows, cur, bf, toks, cnt, sa, sb, ins, wide, rfl, pg, h1, h2, h3, h4, k1, k2⟩ := h
    have hB := pg.hb
    have nab := pg.ab
    obtain ⟨Sp, hA, _⟩ := pg.hA
    refine ⟨_, (pss_cons (ps_if (PW.pt (pw_or (pt_not (pt_val (pv 3))) (pw_or1 (PW.pt (pw_and (pt_cmpR op_lt (pe_op op_add (pe_callB call_lenS (by rfl) T.z_len (by decide +kernel) (pa_cons (pe_ix (ixL K) (pv 1) pe_int (fun _ _ => rfl)) pa_nil)) (pv 4)) pe_int (nomark _)) (pw_and1 (pt_cmpR op_gt (pe_cal G_take (hr.mono (by omega)) (by rfl) (pa_cons (pv 0) (pa_cons pe_int pa_nil))) pe_int (nomark _))))))))
      (pss_one (ps_ret (pv 2)))
      pss_nil)
    (pss_cons (ps_expr (pe_cal G_row_end (hr.mono (by omega)) (by rfl) (pa_cons (pv 0) (pa_cons (pv 1) pa_nil))))
    (pss_cons (ps_asg (pe_op op_repS pe_str (pe_cal G_take (hr.mono (by omega)) (by rfl) (pa_cons (pv 0) (pa_cons pe_int pa_nil)))) (pg_sub (pv 1) pe_int setL))
    (pss_one (ps_ret pe_str))))), ?_⟩
    cases ins
    · tm_at "goo"
      all_goals exact k1 (.inl rfl) H pg pg.rf
    · tm_at "goo"
      · exact k1 (.inr (by omega)) H1 (pg.frb fr hB) (pg.rf.subs fr (by simp))
      · have f0 := fr
        have pb := pg.frb f0 hB
        refine re_step pb (by omega) h2 h3 fun H3 rows' cnt' p3 rend f3 => ?_
        have hB3 := p3.hb
        obtain ⟨Sp3, hA3, _⟩ := p3.hA
        tm_at "goo"
        rename_i Hc fc
        have p5 := (p3.frb fc hB).cur2 (fc.at1 hA3 nab) hp fr
        exact k2 rfl H1 rows' cnt' _ (by omega) p5 rend ((((pg.rf.subs f0 (by simp)).subs f3 (fun x m => m)).subs fc (by simp)).subs fr (by simp))
      · refine re_step pg (by omega) h2 h3 fun H3 rows' cnt' p3 rend f3 => ?_
        have hB3 := p3.hb
        obtain ⟨Sp3, hA3, _⟩ := p3.hA
        tm_at "goo"
        rename_i Hc fc
        have p5 := (p3.frb fc hB).cur2 (fc.at1 hA3 nab) hp fr
        exact k2 rfl H1 rows' cnt' _ (by omega) p5 rend (((pg.rf.subs f3 (fun x m => m)).subs fc (by simp)).subs fr (by simp))
end
end TK
set_option Elab.async false
set_option linter.all false
set_option maxRecDepth 100000
set_option maxHeartbeats 4000000
/-! words as layout writes them; plain -/
namespace TK
open PySem PySem.Spec PyProof.Rows L2 M14 SX K4
/-- a word that may be longer than a drawn one -/
structure WdC (kd : String) (w : T) (sp : List Nat) : Prop where
  ne : sp ≠ []
  lx : ∀ r, NoJoin sp r → lex (sp ++ r) = .ok kd w sp.length
  hd : ∀ c r, sp = c :: r → c ≠ 35 ∧ c ≠ 32
  ch : ∀ c ∈ sp, okc c = true ∧ c ≠ 10
theorem Wd.core {kd : String} {w : T} {sp : List Nat} (h : Wd kd w sp) : WdC kd w sp := ⟨h.ne, h.lx, h.hd, h.ch⟩
theorem Cur.putC {l b : Nat} {stR st st1 st2 : St} {cur bf sp : List Nat} {kd : String} {w : T} (h : Cur l stR cur bf st b) (d : WdC kd w sp) (a : ∀ r, Adm bf (sp ++ r)) (hi : indE st cur.length l = .ok st1) (hk : keep st1 kd w l (cur.length + 1) = .ok st2) : Cur l stR (cur ++ sp) sp st2 (cur ++ sp).length := fun r hr => by
  obtain ⟨c, t, e⟩ := List.exists_cons_of_ne_nil d.ne
  have hc := d.hd c t e
  have hx : lex (sp ++ r) = .ok kd w sp.length := d.lx r (hr.elim (fun z => absurd z d.ne) id)
  rw [List.append_assoc, h _ (a r)]
  have e2 : sp ++ r = c :: (t ++ r) := by rw [e]; rfl
  rw [e2] at hx ⊢
  rw [goR_keep hc.1 hc.2 hi hx hk, ← e2, List.drop_left' rfl, List.length_append]
theorem wdc_text {q : Nat} {d body : List Nat} (hq : q = 34 ∨ q = 39) (h : TxB q d body) (hb : ∀ c ∈ body, okc c = true ∧ c ≠ 10) : WdC "text" (.str (S d)) (q :: body ++ [q]) := by
  have hqc : isNs q = false ∧ isDig q = false ∧ okc q = true ∧ q ≠ 10 ∧ q ≠ 35 ∧ q ≠ 32 := by rcases hq with rfl | rfl <;> decide
  refine ⟨by simp, fun r _ => ?_, fun c u e => ?_, fun c m => ?_⟩
  · have e1 : q :: body ++ [q] ++ r = q :: (body ++ q :: r) := by simp
    have s0 : scan q (q :: r) = .ok [] 0 := by
      cases r with
      | nil => rw [scan, if_pos rfl]
      | cons x t => rw [scan, if_pos rfl]
    rw [e1, lex, if_neg (by rw [hqc.1]; exact Bool.false_ne_true), if_neg (by rw [hqc.2.1]; exact Bool.false_ne_true), if_pos hq]
    unfold lexText
    rw [h _ _ _ s0, List.append_nil]
    show Lx.ok "text" (.str (S d)) (body.length + 0 + 2) = _
    simp
  · rw [List.cons_append] at e
    have : q = c := (List.cons.inj e).1
    rw [← this]
    exact ⟨hqc.2.2.2.2.1, hqc.2.2.2.2.2⟩
  · simp only [List.cons_append, List.mem_cons, List.mem_append, List.not_mem_nil, or_false] at m
    rcases m with rfl | m | rfl
    · exact ⟨hqc.2.2.1, hqc.2.2.2.1⟩
    · exact hb c m
    · exact ⟨hqc.2.2.1, hqc.2.2.2.1⟩
/-- a word as it is written -/
def wrt (k : Str) : T → List Nat
  | .int i => numI i
  | .str s => if k = Str.ofString "text" then 34 :: (enc s.cps.toList ++ [34]) else s.cps.toList
  | _ => []
theorem TxB.cons {q c : Nat} {d sp body : List Nat} (h1 : TxB q [c] sp) (h2 : TxB q d body) : TxB q (c :: d) (sp ++ body) := fun r d' k e => by
  rw [List.append_assoc, h1 _ _ _ (h2 r d' k e), List.length_append, Nat.add_assoc]
  rfl
theorem txb_one (c : Nat) : TxB 34 [c] (esc c) := by
  unfold esc
  split
  · rename_i e
    subst e
    exact TxB.esc (q := 34) (e0 := 110) (by decide) rfl
  · split
    · rename_i h1 h2
      have t := TxB.esc (q := 34) (e0 := c) (by decide) (by rcases h2 with rfl | rfl <;> rfl)
      have e : dcE c = c := by unfold dcE; rw [if_neg (by omega)]
      rw [e] at t
      exact t
    · rename_i h1 h2
      exact TxB.plain (by omega) (by omega)
theorem txb_enc : ∀ {d : List Nat}, TxB 34 d (enc d)
  | [] => TxB.nil
  | c :: r => (txb_one c).cons (txb_enc (d := r))
theorem enc_ok : ∀ {d : List Nat}, (∀ c ∈ d, okc c = true) → ∀ c ∈ enc d, okc c = true ∧ c ≠ 10
  | [], _, _, m => nomatch m
  | c :: r, h, x, m => by
    unfold enc at m
    rcases List.mem_append.mp m with m | m
    · have hc := h c List.mem_cons_self
      unfold esc at m
      split at m
      · simp only [List.mem_cons, List.not_mem_nil, or_false] at m
        rcases m with rfl | rfl <;> decide
      · split at m
        · rename_i h1 h2
          simp only [List.mem_cons, List.not_mem_nil, or_false] at m
          rcases m with rfl | rfl
          · decide
          · exact ⟨hc, h1⟩
        · rename_i h1 _
          rw [List.mem_singleton.mp m]
          exact ⟨hc, h1⟩
    · exact enc_ok (fun y n => h y (List.mem_cons_of_mem _ n)) x m
theorem enc_len : ∀ {d : List Nat}, (enc d).length ≤ 2 * d.length
  | [] => Nat.le_refl _
  | c :: r => by
    have := enc_len (d := r)
    have : (esc c).length ≤ 2 := by unfold esc; split <;> (try split) <;> simp
    unfold enc
    rw [List.length_append, List.length_cons]
    omega
/-- the signs of a text's word -/
theorem scan_okc {q : Nat} : ∀ (n : Nat) {l d : List Nat} {k : Nat}, l.length ≤ n → scan q l = .ok d k → (∀ c ∈ l, okc c = true) → (∀ c ∈ d, okc c = true) ∧ d.length ≤ k := by
  intro n
  induction n with
  | zero =>
    intro l d k hl e _
    have : l = [] := List.length_eq_zero_iff.mp (by omega)
    subst this
    cases e
  | succ n ih =>
    intro l d k hl e o
    match l, hl, e, o with
    | [], _, e, _ => cases e
    | [x], _, e, _ =>
      unfold scan at e
      split at e
      · cases e; exact ⟨fun _ m => (nomatch m), Nat.zero_le _⟩
      · cases e
    | x :: y :: z, hl, e, o =>
      unfold scan at e
      split at e
      · cases e; exact ⟨fun _ m => (nomatch m), Nat.zero_le _⟩
      · split at e
        · split at e
          · rename_i he
            cases e2 : scan q z with
            | ok d2 k2 =>
              rw [e2] at e
              cases e
              have := ih (by simp at hl; omega) e2 fun c m => o c (by simp [m])
              refine ⟨fun c m => ?_, by simp; omega⟩
              rcases List.mem_cons.mp m with rfl | m
              · unfold dcE
                split
                · decide
                · exact o y (by simp)
              · exact this.1 c m
            | end_ => rw [e2] at e; cases e
            | esc k2 => rw [e2] at e; cases e
          · cases e
        · cases e2 : scan q (y :: z) with
          | ok d2 k2 =>
            rw [e2] at e
            cases e
            have := ih (by simp at hl ⊢; omega) e2 fun c m => o c (List.mem_cons_of_mem _ m)
            refine ⟨fun c m => ?_, by simp; omega⟩
            rcases List.mem_cons.mp m with rfl | m
            · exact o _ List.mem_cons_self
            · exact this.1 c m
          | end_ => rw [e2] at e; cases e
          | esc k2 => rw [e2] at e; cases e
def kinds : List String := ["name", "keyword", "number", "text", "sign"]
structure WrOk (kd : String) (w : T) : Prop where
  core : WdC kd w (wrt (Str.ofString kd) w)
  le : (wrt (Str.ofString kd) w).length ≤ 100
  kd : kd ∈ kinds
theorem wrt_str {kd : String} {z : List Nat} (h : Str.ofString kd ≠ Str.ofString "text") : wrt (Str.ofString kd) (.str (S z)) = z := by
  show (if Str.ofString kd = Str.ofString "text" then _ else _) = _
  rw [if_neg h]
theorem tw_mem {p : Nat → Bool} {x : Nat} : ∀ {l : List Nat}, x ∈ l.takeWhile p → p x = true
  | [], m => nomatch m
  | c :: r, m => by
    rw [List.takeWhile_cons] at m
    split at m
    · rename_i h
      rcases List.mem_cons.mp m with rfl | m
      · exact h
      · exact tw_mem m
    · cases m
theorem wr_of {kd : String} {w : T} {sp : List Nat} (h : Wd kd w sp) : WrOk kd w := by
  have e := h.lx [] nj_nil
  rw [List.append_nil] at e
  obtain ⟨c, t, rfl⟩ := List.exists_cons_of_ne_nil h.ne
  have hle := h.le
  have hch := h.ch
  have hj := lex_pos e
  rw [lex] at e
  split at e
  · rename_i hc
    unfold lexName at e
    have etw : (c :: t).takeWhile isNc = c :: t.takeWhile isNc := by
      rw [List.takeWhile_cons, if_pos (by unfold isNc; rw [hc]; rfl)]
    simp only [etw] at e
    split at e
    · cases e
    · rename_i hl
      have wn := wd_name (t := t.takeWhile isNc) hc (fun x m => (tw_mem m)) (by omega)
      split at e
      · rename_i hk
        rw [if_pos hk] at wn
        injection e with e3 e4 e5
        subst e3 e4
        have ew := wrt_str (kd := "keyword") (z := c :: t.takeWhile isNc) (by decide +kernel)
        exact ⟨by rw [ew]; exact wn.core, by rw [ew]; omega, by decide⟩
      · rename_i hk
        rw [if_neg hk] at wn
        injection e with e3 e4 e5
        subst e3 e4
        have ew := wrt_str (kd := "name") (z := c :: t.takeWhile isNc) (by decide +kernel)
        exact ⟨by rw [ew]; exact wn.core, by rw [ew]; omega, by decide⟩
  · split at e
    · rename_i hc
      unfold lexNum at e
      have etw : (c :: t).takeWhile isDig = c :: t.takeWhile isDig := by
        rw [List.takeWhile_cons, if_pos hc]
      simp only [etw] at e
      split at e
      · cases e
      · rename_i h1
        split at e
        · cases e
        · injection e with e3 e4 e5
          subst e3 e4
          have hd : ∀ x ∈ c :: t.takeWhile isDig, isDig x = true := fun x m => by
            rcases List.mem_cons.mp m with rfl | m
            · exact hc
            · exact tw_mem m
          have h0 : c :: t.takeWhile isDig = [48] ∨ (c :: t.takeWhile isDig).head? ≠ some 48 := by
            by_cases h2 : (c :: t.takeWhile isDig).head? = some 48
            · left
              have l1 : ¬ 1 < (c :: t.takeWhile isDig).length := fun z => h1 (.inr ⟨z, h2⟩)
              have : c = 48 := by simpa using h2
              subst this
              cases e3 : t.takeWhile isDig with
              | nil => rfl
              | cons a b => rw [e3] at l1; simp at l1
            · exact .inr h2
          have wn := wd_num hd (by simp) h0 (by omega)
          have ew : wrt (Str.ofString "number") (.int ((NumText.digitsVal (c :: t.takeWhile isDig) : Nat) : Int)) = c :: t.takeWhile isDig := by
            show TL.numL _ = _
            exact numL_of (allDig.mp (by rw [List.all_eq_true]; exact hd)) (by simp) h0.symm
          exact ⟨by rw [ew]; exact wn.core, by rw [ew]; omega, by decide⟩
    · split at e
      · rename_i hq
        unfold lexText at e
        cases e2 : scan c t with
        | ok d k =>
          rw [e2] at e
          injection e with e3 e4 e5
          subst e3 e4
          have sk := scan_okc _ (Nat.le_refl _) e2 fun x m => (hch x (List.mem_cons_of_mem _ m)).1
          have ew : wrt (Str.ofString "text") (.str (S d)) = 34 :: enc d ++ [34] := by
            show (if Str.ofString "text" = Str.ofString "text" then 34 :: (enc d ++ [34]) else d) = _
            rw [if_pos rfl]
            rfl
          have el := enc_len (d := d)
          refine ⟨by rw [ew]; exact wdc_text (.inl rfl) txb_enc (enc_ok sk.1), ?_, by decide⟩
          rw [ew]
          simp only [List.length_append, List.length_cons, List.length_nil]
          simp only [List.length_cons] at hle e5
          omega
        | end_ => rw [e2] at e; cases e
        | esc k => rw [e2] at e; cases e
      · unfold lexSign at e
        cases e2 : sgs.find? (·.isPrefixOf (c :: t)) with
        | none => rw [e2] at e; cases e
        | some s =>
          rw [e2] at e
          injection e with e3 e4 e5
          subst e3 e4
          have m := List.mem_of_find?_eq_some e2
          have wn := wd_sign m
          have ew := wrt_str (kd := "sign") (z := s) (by decide +kernel)
          exact ⟨by rw [ew]; exact wn.core, by rw [ew]; have := wn.le; omega, by decide⟩
end TK
set_option Elab.async false
set_option linter.all false
set_option maxRecDepth 100000
set_option maxHeartbeats 4000000
/-! the widths of the open blocks; plain -/
namespace TK
open PySem PySem.Spec PyProof.Rows L2 M14 SX K4
/-- the widths of the open blocks, the innermost first -/
def IndOk : List Nat → Prop
  | [] => False
  | [x] => x = 0
  | x :: y :: r => y < x ∧ x ≤ y + 4 ∧ IndOk (y :: r)
theorem ind_ne {ind : List Nat} (h : IndOk ind) : ind ≠ [] := by rintro rfl; exact h
theorem ind_hd : ∀ {ind : List Nat}, IndOk ind → ind.headD 0 + 4 ≤ 4 * ind.length
  | [], h => h.elim
  | [x], h => by have : x = 0 := h; subst this; decide
  | x :: y :: r, h => by
    obtain ⟨h1, h2, h3⟩ := h
    have := ind_hd h3
    simp at this ⊢
    omega
theorem indO_last : ∀ {ind : List Nat}, IndOk ind → ind.getLast? = some 0
  | [], h => h.elim
  | [x], h => by have : x = 0 := h; subst this; rfl
  | x :: y :: r, h => by
    obtain ⟨h1, h2, h3⟩ := h
    have := indO_last h3
    simpa using this
theorem ind_drop : ∀ {k : Nat} {ind : List Nat}, IndOk ind → k < ind.length → IndOk (ind.drop k) ∧ (ind.drop k).headD 0 ≤ ind.headD 0
  | 0, ind, h, _ => ⟨h, Nat.le_refl _⟩
  | k + 1, [], h, _ => h.elim
  | k + 1, [x], h, l => by simp at l
  | k + 1, x :: y :: r, h, l => by
    obtain ⟨h1, h2, h3⟩ := h
    have := ind_drop (k := k) h3 (by simp at l ⊢; omega)
    refine ⟨this.1, ?_⟩
    have g := this.2
    simp only [List.drop_succ_cons, List.headD_cons] at g ⊢
    omega
theorem ind_tw : ∀ {k : Nat} {ind : List Nat}, IndOk ind → k < ind.length → (ind.takeWhile fun x => decide ((ind.drop k).headD 0 < x)) = ind.take k ∧ (ind.dropWhile fun x => decide ((ind.drop k).headD 0 < x)) = ind.drop k
  | 0, [], h, _ => h.elim
  | 0, x :: r, h, _ => by simp
  | k + 1, [], h, _ => h.elim
  | k + 1, [x], h, l => by simp at l
  | k + 1, x :: y :: r, h, l => by
    obtain ⟨h1, h2, h3⟩ := h
    have lk : k < (y :: r).length := by simp at l ⊢; omega
    have g := ind_tw (k := k) h3 lk
    have g2 := (ind_drop (k := k) h3 lk).2
    have lt : ((y :: r).drop k).headD 0 < x := by simp only [List.headD_cons] at g2; omega
    rw [List.drop_succ_cons, List.takeWhile_cons, List.dropWhile_cons, decide_eq_true lt]
    simp only [if_true]
    rw [g.1, g.2]
    exact ⟨rfl, rfl⟩
/-- what the margin does: the scanner agrees -/
structure MgR (st : St) (l : Nat) (ind2 : List Nat) (toks2 : List T) : Prop where
  cm : cmpI st (ind2.headD 0) l = .ok { st with ind := ind2, marks := toks2 }
  ok : IndOk ind2
  le : ind2.length ≤ 11
  tw : ∀ {P : T → Prop}, (∀ l k, P (tk "indent" eW l k) ∧ P (tk "dedent" eW l k)) → (∀ t ∈ st.marks, P t) → ∀ t ∈ toks2, P t
  ev : (ind2 = st.ind ∧ toks2 = st.marks) ∨ (st.marks ≠ [] ∧ st.ind.length < 11 ∧ ∃ x, ind2 = x :: st.ind ∧ toks2 = st.marks ++ [tk "indent" eW l (x + 1)]) ∨ (st.marks ≠ [] ∧ ∃ k < st.ind.length, ind2 = st.ind.drop k ∧ toks2 = st.marks ++ List.replicate k (tk "dedent" eW l (ind2.headD 0 + 1)))
theorem mg_same {st : St} {l : Nat} (h : IndOk st.ind) (h1 : st.ind.length ≤ 11) (h2 : st.marks = [] → st.ind = [0]) : MgR st l st.ind st.marks := by
  refine ⟨?_, h, h1, fun _ z => z, .inl ⟨rfl, rfl⟩⟩
  have g := ind_tw (k := 0) h (List.length_pos_iff.mpr (ind_ne h))
  rw [List.drop_zero] at g
  unfold cmpI
  rw [if_neg (fun ⟨z1, z2⟩ => by rw [h2 z1] at z2; exact absurd z2 (by decide)), if_neg (Nat.lt_irrefl _)]
  simp only
  rw [g.1, g.2, if_neg (Nat.lt_irrefl _)]
  simp
theorem mg_in {st : St} {l x : Nat} (h : IndOk st.ind) (h1 : st.ind.length < 11) (h2 : st.marks ≠ []) (h3 : st.ind.headD 0 < x) (h4 : x ≤ st.ind.headD 0 + 4) : MgR st l (x :: st.ind) (st.marks ++ [tk "indent" eW l (x + 1)]) := by
  refine ⟨?_, ?_, by simp; omega, fun q o t m => ?_, .inr (.inl ⟨h2, h1, x, rfl, rfl⟩)⟩
  rotate_left 2
  · rcases List.mem_append.mp m with m | m
    · exact o t m
    · rw [List.mem_singleton.mp m]
      exact (q _ _).1
  · unfold cmpI
    rw [if_neg (fun z => h2 z.1), List.headD_cons, if_pos h3, if_neg (by omega)]
  · cases e : st.ind with
    | nil => exact absurd e (ind_ne h)
    | cons y r => rw [e] at h h3 h4; exact ⟨h3, h4, h⟩
theorem mg_out {st : St} {l k : Nat} (h : IndOk st.ind) (h1 : st.ind.length ≤ 11) (h2 : st.marks ≠ []) (h3 : k < st.ind.length) : MgR st l (st.ind.drop k) (st.marks ++ List.replicate k (tk "dedent" eW l ((st.ind.drop k).headD 0 + 1))) := by
  have g := ind_tw h h3
  have g2 := ind_drop h h3
  refine ⟨?_, g2.1, by rw [List.length_drop]; omega, fun q o t m => (List.mem_append.mp m).elim (o t) fun m => by rw [List.eq_of_mem_replicate m]; exact (q _ _).2, .inr (.inr ⟨h2, k, h3, rfl, rfl⟩)⟩
  unfold cmpI
  rw [if_neg (fun z => h2 z.1), if_neg (Nat.not_lt.mpr g2.2)]
  simp only
  rw [g.1, g.2, if_neg (Nat.lt_irrefl _)]
  have : (st.ind.take k).map (fun _ => tk "dedent" eW l ((st.ind.drop k).headD 0 + 1)) = List.replicate k (tk "dedent" eW l ((st.ind.drop k).headD 0 + 1)) := by
    rw [List.map_const', List.length_take, Nat.min_eq_left (by omega)]
  rw [this]
end TK
set_option Elab.async false
set_option linter.all false
set_option maxRecDepth 100000
set_option maxHeartbeats 4000000
/-! what layout makes of the words, and what the scanner makes of that; plain -/
namespace TK
open PySem PySem.Spec PyProof.Rows L2 M14 SX K4
def knd : T → Str
  | .tup [.str k, _, _, _] => k
  | _ => Str.ofString ""
def wrd : T → T
  | .tup [_, w, _, _] => w
  | _ => eW
def atP (q : Nat × Nat) (t : T) : T := .tup [.str (knd t), wrd t, .int (q.1 : Nat), .int (q.2 : Nat)]
theorem knd_tk {kd : String} {w : T} {l k : Nat} : knd (tk kd w l k) = Str.ofString kd := rfl
theorem wrd_tk {kd : String} {w : T} {l k : Nat} : wrd (tk kd w l k) = w := rfl
theorem atP_tk {kd : String} {w : T} {l k : Nat} {q : Nat × Nat} : atP q (tk kd w l k) = tk kd w q.1 q.2 := rfl
/-- rows that are laid -/
structure Ly where
  rows : List (List Nat)
  row : List Nat
  dep : Int
  spots : List (Option (Nat × Nat))
def rowW (row : List Nat) (dep : Int) : List Nat := if row = [] then List.replicate (4 * dep.toNat) 32 else row ++ [32]
def lyS (s : Ly) (t : T) : Ly :=
  if knd t = Str.ofString "indent" then ⟨s.rows, s.row, s.dep + 1, s.spots ++ [none]⟩
  else if knd t = Str.ofString "dedent" then ⟨s.rows, s.row, s.dep - 1, s.spots ++ [none]⟩
  else if knd t = Str.ofString "newline" then ⟨s.rows ++ [s.row], [], s.dep, s.spots ++ [some (s.rows.length + 1, s.row.length + 1)]⟩
  else if knd t = Str.ofString "end" then ⟨s.rows, s.row, s.dep, s.spots ++ [some (s.rows.length + 1, s.row.length + 1)]⟩
  else ⟨s.rows, rowW s.row s.dep ++ wrt (knd t) (wrd t), s.dep, s.spots ++ [some (s.rows.length + 1, (rowW s.row s.dep).length + 1)]⟩
def lyL (ts : List T) : Ly := ts.foldl lyS ⟨[], [], 0, []⟩
theorem lyL_app (a b : List T) : lyL (a ++ b) = b.foldl lyS (lyL a) := by unfold lyL; rw [List.foldl_append]
theorem lyS_ind {s : Ly} {l k : Nat} : lyS s (tk "indent" eW l k) = ⟨s.rows, s.row, s.dep + 1, s.spots ++ [none]⟩ := by
  unfold lyS
  rw [knd_tk, if_pos rfl]
theorem lyS_ded {s : Ly} {l k : Nat} : lyS s (tk "dedent" eW l k) = ⟨s.rows, s.row, s.dep - 1, s.spots ++ [none]⟩ := by
  unfold lyS
  rw [knd_tk, if_neg (by decide +kernel), if_pos rfl]
theorem lyS_nl {s : Ly} {l k : Nat} : lyS s (tk "newline" eW l k) = ⟨s.rows ++ [s.row], [], s.dep, s.spots ++ [some (s.rows.length + 1, s.row.length + 1)]⟩ := by
  unfold lyS
  rw [knd_tk, if_neg (by decide +kernel), if_neg (by decide +kernel), if_pos rfl]
theorem lyS_end {s : Ly} {l k : Nat} : lyS s (tk "end" eW l k) = ⟨s.rows, s.row, s.dep, s.spots ++ [some (s.rows.length + 1, s.row.length + 1)]⟩ := by
  unfold lyS
  rw [knd_tk, if_neg (by decide +kernel), if_neg (by decide +kernel), if_neg (by decide +kernel), if_pos rfl]
theorem kd_no {kd : String} (h : kd ∈ kinds) : Str.ofString kd ≠ Str.ofString "indent" ∧ Str.ofString kd ≠ Str.ofString "dedent" ∧ Str.ofString kd ≠ Str.ofString "newline" ∧ Str.ofString kd ≠ Str.ofString "end" := by
  unfold kinds at h
  simp only [List.mem_cons, List.not_mem_nil, or_false] at h
  rcases h with rfl | rfl | rfl | rfl | rfl <;> decide +kernel
theorem lyS_wd {s : Ly} {kd : String} {w : T} {l k : Nat} (h : kd ∈ kinds) : lyS s (tk kd w l k) = ⟨s.rows, rowW s.row s.dep ++ wrt (Str.ofString kd) w, s.dep, s.spots ++ [some (s.rows.length + 1, (rowW s.row s.dep).length + 1)]⟩ := by
  obtain ⟨h1, h2, h3, h4⟩ := kd_no h
  unfold lyS
  rw [knd_tk, if_neg h1, if_neg h2, if_neg h3, if_neg h4, wrd_tk]
/-- the words at the spots; a word without one has the spot of the next -/
def rpD (p : Nat × Nat) : List T → List (Option (Nat × Nat)) → List T × (Nat × Nat)
  | t :: ts, s :: ss =>
    let q := rpD p ts ss
    (atP (s.getD q.2) t :: q.1, s.getD q.2)
  | _, _ => ([], p)
theorem rpD_app {p : Nat × Nat} {b : List T} {sb : List (Option (Nat × Nat))} : ∀ {a : List T} {sa : List (Option (Nat × Nat))}, sa.length = a.length → rpD p (a ++ b) (sa ++ sb) = ((rpD (rpD p b sb).2 a sa).1 ++ (rpD p b sb).1, (rpD (rpD p b sb).2 a sa).2)
  | [], [], _ => by rw [List.nil_append, List.nil_append]; rfl
  | [], _ :: _, h => by simp at h
  | _ :: _, [], h => by simp at h
  | t :: a, s :: sa, h => by
    have ih := rpD_app (p := p) (b := b) (sb := sb) (a := a) (sa := sa) (by simpa using h)
    rw [List.cons_append, List.cons_append, rpD, ih, rpD]
    rfl
theorem rpD_pd {p q : Nat × Nat} {t : T} : ∀ {pd : List T}, rpD p (pd ++ [t]) (List.replicate pd.length none ++ [some q]) = (pd.map (atP q) ++ [atP q t], q)
  | [] => rfl
  | x :: pd => by
    have ih := rpD_pd (p := p) (q := q) (t := t) (pd := pd)
    rw [List.length_cons, List.replicate_succ, List.cons_append, List.cons_append, rpD, ih]
    rfl
/-- the widths of layout's blocks -/
def indC : Nat → List Nat
  | 0 => [0]
  | d + 1 => 4 * (d + 1) :: indC d
theorem indC_len : ∀ d, (indC d).length = d + 1
  | 0 => rfl
  | d + 1 => by rw [indC, List.length_cons, indC_len d]
theorem indC_hd (d : Nat) : (indC d).headD 0 = 4 * d := by cases d <;> rfl
theorem indC_ok : ∀ d, IndOk (indC d)
  | 0 => rfl
  | d + 1 => by
    have ih := indC_ok d
    have h := indC_hd d
    rw [indC]
    cases e : indC d with
    | nil => rw [e] at ih; exact ih.elim
    | cons y r =>
      rw [e] at ih h
      have : y = 4 * d := h
      exact ⟨by omega, by omega, ih⟩
theorem indC_drop : ∀ {k d : Nat}, k ≤ d → (indC d).drop k = indC (d - k)
  | 0, d, _ => rfl
  | k + 1, 0, h => by omega
  | k + 1, d + 1, h => by
    rw [indC, List.drop_succ_cons, indC_drop (by omega), Nat.add_sub_add_right]
/-- blocks that begin or end ahead of the next word -/
def PdOk (pd base : List T) (d n : Nat) : Prop := (pd = [] ∧ n = d + 1) ∨ (base ≠ [] ∧ d + 1 < 11 ∧ (∃ l k, pd = [tk "indent" eW l k]) ∧ n = d + 2) ∨ (base ≠ [] ∧ ∃ j l c, j ≤ d ∧ pd = List.replicate j (tk "dedent" eW l c) ∧ n + j = d + 1)
theorem ded_fold {rows : List (List Nat)} {row : List Nat} {l c : Nat} : ∀ (j : Nat) {d : Int} {spots : List (Option (Nat × Nat))}, (List.replicate j (tk "dedent" eW l c)).foldl lyS ⟨rows, row, d, spots⟩ = ⟨rows, row, d - j, spots ++ List.replicate j none⟩
  | 0, d, spots => by simp
  | j + 1, d, spots => by
    rw [List.replicate_succ, List.foldl_cons, lyS_ded, ded_fold j, List.replicate_succ, List.append_assoc]
    congr 1
    show d - 1 - (j : Int) = d - ((j + 1 : Nat) : Int)
    omega
theorem PdOk.fold {pd base : List T} {d n : Nat} (h : PdOk pd base d n) {rows : List (List Nat)} {row : List Nat} {spots : List (Option (Nat × Nat))} : pd.foldl lyS ⟨rows, row, (d : Nat), spots⟩ = ⟨rows, row, ((n - 1 : Nat) : Int), spots ++ List.replicate pd.length none⟩ ∧ 1 ≤ n := by
  rcases h with ⟨rfl, rfl⟩ | ⟨_, _, ⟨l, k, rfl⟩, rfl⟩ | ⟨_, j, l, c, hj, rfl, hn⟩
  · exact ⟨by simp, by omega⟩
  · refine ⟨?_, by omega⟩
    rw [List.foldl_cons, lyS_ind]
    rfl
  · refine ⟨?_, by omega⟩
    rw [ded_fold, List.length_replicate]
    congr 1
    omega
/-- the scanner ahead of a laid line -/
theorem PdOk.cmp {pd base : List T} {d n l : Nat} (h : PdOk pd base d n) {s2 : St} (hi : s2.ind = indC d) (hn : d + 1 ≤ 11) (hb : base ≠ [] → s2.marks ≠ []) (h0 : s2.marks = [] → d = 0) : cmpI s2 (4 * (n - 1)) l = .ok { s2 with ind := indC (n - 1), marks := s2.marks ++ pd.map (atP (l, 4 * (n - 1) + 1)) } := by
  have ok := indC_ok d
  have ln := indC_len d
  rcases h with ⟨rfl, rfl⟩ | ⟨nb, hd, ⟨l2, k, rfl⟩, rfl⟩ | ⟨nb, j, l2, c, hj, rfl, hn2⟩
  · have m := mg_same (st := s2) (l := l) (by rw [hi]; exact ok) (by rw [hi, ln]; exact hn) (fun z => by rw [hi, h0 z]; rfl)
    have := m.cm
    rw [hi, indC_hd] at this
    rw [show d + 1 - 1 = d by omega, List.map_nil, List.append_nil]
    exact this
  · have m := mg_in (st := s2) (l := l) (x := 4 * (d + 1)) (by rw [hi]; exact ok) (by rw [hi, ln]; exact hd) (hb nb) (by rw [hi, indC_hd]; omega) (by rw [hi, indC_hd]; omega)
    have := m.cm
    rw [hi] at this
    exact this
  · have m := mg_out (st := s2) (l := l) (k := j) (by rw [hi]; exact ok) (by rw [hi, ln]; exact hn) (hb nb) (by rw [hi, ln]; omega)
    have := m.cm
    rw [hi, indC_drop hj, indC_hd] at this
    rw [show n - 1 = d - j by omega, List.map_replicate]
    exact this
theorem keep_sim {st st' s : St} {kd : String} {w : T} {l k l2 k2 : Nat} (h : keep st kd w l k = .ok st') (ho : s.op.map (·.1) = st.op.map (·.1)) (hm : s.many = st.many) : ∃ s', keep s kd w l2 k2 = .ok s' ∧ s'.op.map (·.1) = st'.op.map (·.1) ∧ s'.many = st'.many ∧ s'.marks = s.marks ++ [tk kd w l2 k2] ∧ s'.ind = s.ind := by
  unfold keep at h ⊢
  split at h
  · cases h
  · rename_i h120
    rw [if_neg (by rw [hm]; exact h120)]
    simp only at h ⊢
    cases e : opOf (signOf kd w) with
    | none =>
      rw [e] at h
      cases h
      refine ⟨_, rfl, ?_, by show s.many + 1 = st.many + 1; rw [hm], rfl, rfl⟩
      show (if signOf kd w ∈ opens then (signOf kd w, l2, k2) :: s.op else s.op).map (·.1) = (if signOf kd w ∈ opens then (signOf kd w, l, k) :: st.op else st.op).map (·.1)
      split
      · rw [List.map_cons, List.map_cons, ho]
      · exact ho
    | some o =>
      rw [e] at h
      simp only at h ⊢
      cases e1 : st.op with
      | nil => rw [e1] at h; cases h
      | cons t r =>
        rw [e1] at h ho
        cases e2 : s.op with
        | nil => rw [e2] at ho; cases ho
        | cons t2 r2 =>
          rw [e2] at ho
          rw [List.map_cons, List.map_cons] at ho
          injection ho with ho1 ho2
          simp only at h ⊢
          split at h
          · cases h
          · rename_i hne
            cases h
            rw [if_neg (by rw [ho1]; exact hne)]
            exact ⟨_, rfl, ho2, by show s.many + 1 = st.many + 1; rw [hm], rfl, rfl⟩
/-- what is laid so far -/
structure SimE (pd : List T) (st : St) (base : List T) (rows : List (List Nat)) (cur bf : List Nat) (d : Nat) (spots : List (Option (Nat × Nat))) (stR s2 : St) : Prop where
  mks : st.marks = base ++ pd
  ly : lyL base = ⟨rows, cur, (d : Nat), spots⟩
  rs : rowsM 1 rows St0 = .ok stR
  cu : Cur (1 + rows.length) stR cur bf s2 cur.length
  ind : s2.ind = indC d
  rp : ∀ p, (rpD p base spots).1 = s2.marks
  sl : spots.length = base.length
  op : s2.op.map (·.1) = st.op.map (·.1)
  mn : s2.many = st.many
  m0 : st.many = 0 → cur = [] ∧ bf = [] ∧ st.op = [] ∧ (match s2.marks.getLast? with | some t => lineOf t | none => 0) = rows.length
  m1 : 0 < st.many → cur ≠ [] ∧ pd = []
  pd : PdOk pd base d st.ind.length
  n11 : st.ind.length ≤ 11 ∧ d + 1 ≤ 11
  d0 : base = [] → d = 0
  ok : (∀ r ∈ rows, ∀ c ∈ r, okc c = true ∧ c ≠ 10) ∧ ∀ c ∈ cur, okc c = true ∧ c ≠ 10
  sz : totR rows + cur.length ≤ 150 * base.length
def Sim (pd : List T) (st : St) : Prop := ∃ base rows cur bf d spots stR s2, SimE pd st base rows cur bf d spots stR s2
theorem SimE.nil {pd : List T} {st : St} {base : List T} {rows : List (List Nat)} {cur bf : List Nat} {d : Nat} {spots : List (Option (Nat × Nat))} {stR s2 : St} (h : SimE pd st base rows cur bf d spots stR s2) : s2.marks = [] ↔ base = [] := by
  have key : ∀ (p : Nat × Nat) (b : List T) (s : List (Option (Nat × Nat))), s.length = b.length → (rpD p b s).1.length = b.length := by
    intro p b
    induction b with
    | nil => intro s _; cases s <;> rfl
    | cons t b ih =>
      intro s hs
      cases s with
      | nil => cases hs
      | cons x s =>
        rw [rpD]
        simp only [List.length_cons]
        rw [ih s (by simpa using hs)]
  have l := key (0, 0) base spots h.sl
  rw [h.rp] at l
  constructor
  · intro e
    rw [e] at l
    exact List.length_eq_zero_iff.mp l.symm
  · intro e
    rw [e] at l
    exact List.length_eq_zero_iff.mp l
theorem sim0 : Sim [] St0 := ⟨[], [], [], [], 0, [], St0, St0, rfl, rfl, rfl, Cur.new, rfl, fun _ => rfl, rfl, rfl, rfl, fun _ => ⟨rfl, rfl, rfl, rfl⟩, fun z => absurd z (Nat.lt_irrefl _), .inl ⟨rfl, rfl⟩, by decide, fun _ => rfl, ⟨fun _ m => (nomatch m), fun _ m => (nomatch m)⟩, Nat.le_refl _⟩
theorem sim_mg {st : St} {l : Nat} {ind2 : List Nat} {toks2 : List T} (h : Sim [] st) (hm : st.many = 0) (mr : MgR st l ind2 toks2) : ∃ pd, Sim pd { st with ind := ind2, marks := toks2 } := by
  obtain ⟨base, rows, cur, bf, d, spots, stR, s2, e⟩ := h
  have e1 : st.marks = base := by rw [e.mks, List.append_nil]
  have hd : st.ind.length = d + 1 := by
    rcases e.pd with ⟨_, h⟩ | ⟨_, _, ⟨_, _, h⟩, _⟩ | ⟨_, j, l2, c, _, h, hn⟩
    · exact h
    · cases h
    · have : j = 0 := by
        have := congrArg List.length h
        simpa using this.symm
      omega
  have mk : ∀ pd, toks2 = st.marks ++ pd → PdOk pd base d ind2.length → Sim pd { st with ind := ind2, marks := toks2 } := fun pd e2 e3 => ⟨base, rows, cur, bf, d, spots, stR, s2, by rw [← e1]; exact e2, e.ly, e.rs, e.cu, e.ind, e.rp, e.sl, e.op, e.mn, e.m0, fun z => absurd z (by show ¬ 0 < st.many; omega), e3, ⟨mr.le, e.n11.2⟩, e.d0, e.ok, e.sz⟩
  rcases mr.ev with ⟨h1, h2⟩ | ⟨h0, h11, x, h1, h2⟩ | ⟨h0, k, hk, h1, h2⟩
  · exact ⟨[], mk [] (by rw [h2, List.append_nil]) (.inl ⟨rfl, by rw [h1, hd]⟩)⟩
  · exact ⟨_, mk _ h2 (.inr (.inl ⟨by rw [← e1]; exact h0, by omega, ⟨_, _, rfl⟩, by rw [h1, List.length_cons, hd]⟩))⟩
  · exact ⟨_, mk _ h2 (.inr (.inr ⟨by rw [← e1]; exact h0, k, _, _, by omega, rfl, by rw [h1, List.length_drop, hd]; omega⟩))⟩
theorem sps_ok' {n c : Nat} (h : c ∈ List.replicate n 32) : okc c = true ∧ c ≠ 10 := by
  rw [List.eq_of_mem_replicate h]
  decide
/-- a word -/
theorem sim_keep {pd : List T} {st st' : St} {kd : String} {w : T} {l k : Nat} (h : Sim pd st) (hk : keep st kd w l k = .ok st') (wr : WrOk kd w) : Sim [] st' := by
  obtain ⟨base, rows, cur, bf, d, spots, stR, s2, e⟩ := h
  have hmk : st'.marks = st.marks ++ [tk kd w l k] ∧ st'.ind = st.ind ∧ st'.many = st.many + 1 := by
    unfold keep at hk
    split at hk
    · cases hk
    · simp only at hk
      split at hk
      · split at hk
        · cases hk
        · split at hk
          · cases hk
          · cases hk
            exact ⟨rfl, rfl, rfl⟩
      · cases hk
        exact ⟨rfl, rfl, rfl⟩
  obtain ⟨ef, hn1⟩ := e.pd.fold (rows := rows) (row := cur) (spots := spots)
  obtain ⟨row1, er⟩ : ∃ row1, row1 = rowW cur ((st.ind.length - 1 : Nat) : Int) := ⟨_, rfl⟩
  obtain ⟨q, eq⟩ : ∃ q : Nat × Nat, q = (rows.length + 1, row1.length + 1) := ⟨_, rfl⟩
  have hnil := e.nil
  -- the scanner along the laid row
  obtain ⟨s3, bf1, c1, i1, e31, e32, e33, e34⟩ : ∃ s3 bf1, Cur (1 + rows.length) stR row1 bf1 s2 cur.length ∧ indE s2 row1.length (1 + rows.length) = .ok s3 ∧ bf1 = [] ∧ s3.op = s2.op ∧ s3.many = s2.many ∧ (s3.ind = indC (st.ind.length - 1) ∧ s3.marks = s2.marks ++ pd.map (atP q)) := by
    by_cases hm : st.many = 0
    · obtain ⟨ec, eb, _, _⟩ := e.m0 hm
      subst ec eb
      have er1 : row1 = List.replicate (4 * (st.ind.length - 1)) 32 := by
        rw [er]
        unfold rowW
        rw [if_pos rfl, Int.toNat_natCast]
      have hl : row1.length = 4 * (st.ind.length - 1) := by rw [er1, List.length_replicate]
      have hc := e.pd.cmp (l := 1 + rows.length) e.ind e.n11.2 (fun z y => z (hnil.mp y)) (fun z => e.d0 (hnil.mp z))
      have cu := e.cu
      have cg : Cur (1 + rows.length) stR row1 [] s2 0 := by
        intro r hr
        have h1 := cu (row1 ++ r) (.inl rfl)
        rw [List.nil_append] at h1
        rw [h1, er1, goR_sps]
        simp
      refine ⟨{ s2 with ind := indC (st.ind.length - 1), marks := s2.marks ++ pd.map (atP (1 + rows.length, 4 * (st.ind.length - 1) + 1)) }, [], cg, ?_, rfl, rfl, rfl, rfl, ?_⟩
      · unfold indE
        rw [if_pos (by rw [e.mn]; exact hm), hl]
        exact hc
      · rw [eq, hl, Nat.add_comm 1]
    · obtain ⟨ec, ep⟩ := e.m1 (Nat.pos_of_ne_zero hm)
      have er1 : row1 = cur ++ List.replicate 1 32 := by
        rw [er]
        unfold rowW
        rw [if_neg ec]
        rfl
      have hd : st.ind.length = d + 1 := by
        rcases e.pd with ⟨_, h⟩ | ⟨_, _, ⟨_, _, h⟩, _⟩ | ⟨_, j, l2, c, _, h, hn⟩
        · exact h
        · rw [ep] at h; cases h
        · have : j = 0 := by
            rw [ep] at h
            have := congrArg List.length h
            simpa using this.symm
          omega
      refine ⟨s2, [], by rw [er1]; exact e.cu.sps (by decide), ?_, rfl, rfl, rfl, ?_, ?_⟩
      · unfold indE
        rw [if_neg (by rw [e.mn]; exact hm)]
      · rw [e.ind, hd, Nat.add_sub_cancel]
      · rw [ep, List.map_nil, List.append_nil]
  subst e31
  obtain ⟨s4, k1, k2, k3, k4, k5⟩ := keep_sim (s := s3) (l2 := 1 + rows.length) (k2 := row1.length + 1) hk (by rw [e32]; exact e.op) (by rw [e33]; exact e.mn)
  have c2 := c1.putC wr.core (fun _ => .inl rfl) i1 k1
  have hle := wr.le
  have hne := wr.core.ne
  have hch := wr.core.ch
  have hrw : ∀ c ∈ row1, okc c = true ∧ c ≠ 10 := by
    rw [er]
    unfold rowW
    split
    · exact fun c m => sps_ok' m
    · intro c m
      rcases List.mem_append.mp m with m | m
      · exact e.ok.2 c m
      · rw [List.mem_singleton.mp m]; decide
  have hrl : row1.length ≤ cur.length + 40 := by
    have := e.n11.1
    rw [er]
    unfold rowW
    split
    · rw [List.length_replicate, Int.toNat_natCast]; omega
    · simp
  refine ⟨base ++ pd ++ [tk kd w l k], rows, row1 ++ wrt (Str.ofString kd) w, _, st.ind.length - 1, spots ++ List.replicate pd.length none ++ [some q], stR, s4, ?_, ?_, e.rs, c2, ?_, fun p => ?_, ?_, k2, ?_, fun z => ?_, fun _ => ⟨?_, rfl⟩, .inl ⟨rfl, ?_⟩, ⟨?_, ?_⟩, fun z => ?_, ⟨e.ok.1, fun c m => ?_⟩, ?_⟩
  · rw [hmk.1, e.mks, List.append_nil]
  · rw [List.append_assoc, lyL_app, e.ly, List.foldl_append, ef]
    rw [List.foldl_cons, lyS_wd wr.kd, List.foldl_nil, eq, er]
  · rw [k5, e34.1]
  · rw [List.append_assoc, List.append_assoc, rpD_app e.sl, rpD_pd, e.rp, k4, e34.2, atP_tk, eq]
    simp only [Nat.add_comm 1, List.append_assoc]
  · simp [e.sl]
  · rw [k3]
  · omega
  · intro z
    exact hne (List.append_eq_nil_iff.mp z).2
  · rw [hmk.2.1]; omega
  · rw [hmk.2.1]; exact e.n11.1
  · have := e.n11.1; omega
  · simp at z
  · rcases List.mem_append.mp m with m | m
    · exact hrw c m
    · exact hch c m
  · have := e.sz
    simp only [List.length_append, List.length_cons, List.length_nil]
    omega
/-- a logical line ends -/
theorem sim_nl {st : St} {l k : Nat} (h : Sim [] st) (hm : 0 < st.many) (ho : st.op = []) : Sim [] { st with marks := st.marks ++ [tk "newline" eW l k], many := 0 } := by
  obtain ⟨base, rows, cur, bf, d, spots, stR, s2, e⟩ := h
  have e1 : st.marks = base := by rw [e.mks, List.append_nil]
  have o2 : s2.op = [] := by
    have := e.op
    rw [ho] at this
    exact List.map_eq_nil_iff.mp this
  have m2 := e.mn
  obtain ⟨hc, _⟩ := e.m1 hm
  have re : rowM (1 + rows.length) cur stR = .ok { s2 with marks := s2.marks ++ [tk "newline" eW (1 + rows.length) (cur.length + 1)], many := 0 } := by
    have := e.cu.end_ (n := 0) (cm := []) (.inl rfl)
    rw [List.replicate_zero, List.append_nil, List.append_nil] at this
    rw [this]
    unfold endR
    rw [if_pos ⟨by show 0 < s2.many; omega, o2⟩]
  have hd : st.ind.length = d + 1 := by
    rcases e.pd with ⟨_, h⟩ | ⟨_, _, ⟨_, _, h⟩, _⟩ | ⟨_, j, l2, c, _, h, hn⟩
    · exact h
    · cases h
    · have : j = 0 := by
        have := congrArg List.length h
        simpa using this.symm
      omega
  obtain ⟨s3, es3⟩ : ∃ s3 : St, s3 = { s2 with marks := s2.marks ++ [tk "newline" eW (1 + rows.length) (cur.length + 1)], many := 0 } := ⟨_, rfl⟩
  rw [← es3] at re
  refine ⟨base ++ [tk "newline" eW l k], rows ++ [cur], [], [], d, spots ++ [some (rows.length + 1, cur.length + 1)], s3, s3, ?_, ?_, ?_, Cur.new, by rw [es3]; exact e.ind, fun p => ?_, ?_, ?_, by rw [es3], fun _ => ⟨rfl, rfl, ho, ?_⟩, fun z => absurd z (Nat.lt_irrefl _), .inl ⟨rfl, hd⟩, e.n11, fun z => ?_, ⟨fun r m => ?_, fun c m => (nomatch m)⟩, ?_⟩
  · show st.marks ++ _ = _
    rw [e1, List.append_nil]
  · rw [lyL_app, e.ly, List.foldl_cons, lyS_nl]
    rfl
  · rw [rowsM_snoc e.rs, re]
  · rw [rpD_app e.sl]
    show (rpD (rows.length + 1, cur.length + 1) base spots).1 ++ [atP (rows.length + 1, cur.length + 1) (tk "newline" eW l k)] = _
    rw [e.rp, atP_tk, Nat.add_comm rows.length, es3]
  · simp [e.sl]
  · rw [es3]
    show s2.op.map _ = st.op.map _
    rw [o2, ho]
  · rw [es3]
    show (match (s2.marks ++ [tk "newline" eW (1 + rows.length) (cur.length + 1)]).getLast? with
      | some t => lineOf t
      | none => 0) = _
    rw [List.getLast?_concat]
    show 1 + rows.length = _
    simp [Nat.add_comm]
  · simp at z
  · rcases List.mem_append.mp m with m | m
    · exact e.ok.1 r m
    · rw [List.mem_singleton.mp m]; exact e.ok.2
  · have := e.sz
    unfold totR at this ⊢
    simp only [List.map_append, List.map_cons, List.map_nil, List.sum_append, List.sum_cons, List.sum_nil, List.length_append, List.length_cons, List.length_nil] at this ⊢
    omega
/-- the words of a whole page -/
structure LaidOk (ts : List T) (rows : List (List Nat)) (spots : List (Option (Nat × Nat))) (s2 : St) : Prop where
  ly : lyL ts = ⟨rows, [], 0, spots⟩
  rs : rowsM 1 rows St0 = .ok s2
  mn : s2.many = 0
  op : s2.op = []
  la : (match s2.marks.getLast? with | some t => lineOf t | none => 0) = rows.length
  rp : (rpD (0, 0) ts spots).1 = s2.marks ++ s2.ind.dropLast.map (fun _ => tk "dedent" eW (rows.length + 1) 1) ++ [tk "end" eW (rows.length + 1) 1]
  sl : spots.length = ts.length
  sp : spots.getLast? = some (some (rows.length + 1, 1))
  ok : ∀ r ∈ rows, ∀ c ∈ r, okc c = true ∧ c ≠ 10
  sz : totR rows ≤ 150 * ts.length
theorem laid_of {st : St} {L C : Nat} (h : Sim [] st) (hm : st.many = 0) : ∃ rows spots s2, LaidOk (st.marks ++ List.replicate (st.ind.length - 1) (tk "dedent" eW L C) ++ [tk "end" eW L C]) rows spots s2 := by
  obtain ⟨base, rows, cur, bf, d, spots, stR, s2, e⟩ := h
  have e1 : st.marks = base := by rw [e.mks, List.append_nil]
  obtain ⟨hc, hb, ho, la⟩ := e.m0 hm
  subst hc hb
  have o2 : s2.op = [] := by
    have := e.op
    rw [ho] at this
    exact List.map_eq_nil_iff.mp this
  have hd : st.ind.length = d + 1 := by
    rcases e.pd with ⟨_, h⟩ | ⟨_, _, ⟨_, _, h⟩, _⟩ | ⟨_, j, l2, c, _, h, hn⟩
    · exact h
    · cases h
    · have : j = 0 := by
        have := congrArg List.length h
        simpa using this.symm
      omega
  have es : s2 = stR := by
    have h0 := e.cu [] (.inl rfl)
    rw [List.append_nil] at h0
    have h1 : goR (1 + rows.length) 0 0 0 [] stR = .ok (stR, 0) := rfl
    rw [h1] at h0
    have h2 : goR (1 + rows.length) 0 ([] : List Nat).length ([] : List Nat).length [] s2 = .ok (s2, 0) := rfl
    rw [h2] at h0
    injection h0 with h0
    injection h0 with h0
    exact h0.symm
  refine ⟨rows, spots ++ (List.replicate d none ++ [some (rows.length + 1, 1)]), s2, ?_, by rw [es]; exact e.rs, by rw [e.mn]; exact hm, o2, la, ?_, ?_, ?_, e.ok.1, ?_⟩
  · rw [e1, hd, Nat.add_sub_cancel, List.append_assoc, lyL_app, e.ly, List.foldl_append, ded_fold, List.foldl_cons, lyS_end, List.foldl_nil]
    simp
  · rw [e1, hd, Nat.add_sub_cancel, List.append_assoc, rpD_app e.sl]
    have := rpD_pd (p := (0, 0)) (q := (rows.length + 1, 1)) (t := tk "end" eW L C) (pd := List.replicate d (tk "dedent" eW L C))
    rw [List.length_replicate] at this
    rw [this, e.rp, List.map_replicate, atP_tk, atP_tk, e.ind, List.map_const', List.length_dropLast, indC_len, Nat.add_sub_cancel, List.append_assoc]
  · rw [e1, hd]
    simp [e.sl]
    try omega
  · rw [← List.append_assoc]
    exact List.getLast?_concat
  · have := e.sz
    rw [e1]
    simp only [List.length_append, List.length_nil] at this ⊢
    omega
end TK
set_option Elab.async false
set_option linter.all false
set_option maxRecDepth 100000
set_option maxHeartbeats 4000000
/-! a logical line, plain -/
namespace TK
open PySem PySem.Spec PyProof.Rows L2 M14 SX K4
theorem keep_mk {st st' : St} {kd : String} {w : T} {l k : Nat} (e : keep st kd w l k = .ok st') : st'.marks = st.marks ++ [tk kd w l k] ∧ st'.ind = st.ind ∧ st'.many = st.many + 1 := by
  unfold keep at e
  split at e
  · cases e
  · simp only at e
    split at e
    · split at e
      · cases e
      · split at e
        · cases e
        · cases e
          exact ⟨rfl, rfl, rfl⟩
    · cases e
      exact ⟨rfl, rfl, rfl⟩
/-- a word as it can be -/
def PcL (kd : String) (w : T) : Prop := (∃ s, w = .str (S s) ∧ okS s = true ∧ kd ≠ "number") ∨ ∃ n : Nat, w = .int (n : Nat) ∧ kd = "number"
theorem PcL.lf {kd : String} {w : T} (h : PcL kd w) : (∃ s, w = .str s) ∨ ∃ i, w = .int i := h.elim (fun z => .inl (z.elim fun s q => ⟨_, q.1⟩)) (fun z => .inr (z.elim fun s q => ⟨_, q.1⟩))
def TkW (t : T) : Prop := ∃ kd w l k, t = tk kd w l k ∧ PcL kd w
theorem tkw_mk {kd : String} {l k : Nat} (h : kd ≠ "number") : TkW (tk kd eW l k) := ⟨kd, eW, l, k, rfl, .inl ⟨[], rfl, rfl, h⟩⟩
/-- within a logical line: st the scanner's state behind the last word, st1 the one before the next word -/
structure LnI (rows : List (List Nat)) (cur : List Nat) (toks : List T) (cnt sa sb : Nat) (bf : List Nat) (st st1 : St) : Prop where
  sc : ∃ stR b, rowsM 1 rows St0 = .ok stR ∧ Cur (1 + rows.length) stR cur bf st b ∧ (0 < st.many → st.op = [] → sa = rows.length + 1 ∧ sb = b + 1)
  mks : toks = st1.marks
  sim : ∃ pd, Sim pd st1
  st1 : (0 < st.many ∧ st1 = st) ∨ (st.many = 0 ∧ bf = [] ∧ cmpI st cur.length (1 + rows.length) = .ok st1)
  ro : ∀ r ∈ rows, okRow r
  cc : ∀ c ∈ cur, okc c = true ∧ c ≠ 10
  cl : cur.length < 114
  tot : cnt = totR rows
  tw : ∀ t ∈ toks, TkW t
theorem sim_pos {pd : List T} {st : St} (h : Sim pd st) (hm : 0 < st.many) : Sim [] st := by
  obtain ⟨base, rows, cur, bf, d, spots, stR, s2, e⟩ := h
  have := (e.m1 hm).2
  subst this
  exact ⟨base, rows, cur, bf, d, spots, stR, s2, e⟩
theorem LnI.lay {rows : List (List Nat)} {cur : List Nat} {toks : List T} {cnt sa sb : Nat} {bf : List Nat} {st st1 st2 : St} {kd : String} {w : T} {sp : List Nat} {g : Nat} (h : LnI rows cur toks cnt sa sb bf st st1) (wd : Wd kd w sp) (lf : PcL kd w) (g3 : g ≤ 3) (g0 : bf = [] → g = 0) (ga : g = 0 → ∀ rest, Adm bf (sp ++ rest)) (hk : keep st1 kd w (rows.length + 1) ((cur ++ List.replicate g 32).length + 1) = .ok st2) (hl : cur.length + 3 + sp.length < 114) :
    LnI rows (cur ++ List.replicate g 32 ++ sp) (toks ++ [tk kd w (rows.length + 1) ((cur ++ List.replicate g 32).length + 1)]) cnt (rows.length + 1) ((cur ++ List.replicate g 32 ++ sp).length + 1) sp st2 st2 := by
  obtain ⟨stR, b, e1, c1, _⟩ := h.sc
  obtain ⟨k1, k2, k3⟩ := keep_mk hk
  have c2 := c1.gap (n := g)
  have ad : ∀ r, Adm (if g = 0 then bf else []) (sp ++ r) := fun r => by
    split
    · rename_i e
      exact ga e r
    · exact .inl rfl
  have hi : indE st (cur ++ List.replicate g 32).length (1 + rows.length) = .ok st1 := by
    unfold indE
    rcases h.st1 with ⟨z, rfl⟩ | ⟨z1, z2, z3⟩
    · rw [if_neg (by omega)]
    · rw [if_pos z1]
      have := g0 z2
      subst this
      simpa using z3
  have hk2 : keep st1 kd w (1 + rows.length) ((cur ++ List.replicate g 32).length + 1) = .ok st2 := by rw [Nat.add_comm 1]; exact hk
  refine ⟨⟨stR, _, e1, c2.put wd ad hi hk2, fun _ _ => ⟨rfl, rfl⟩⟩, by rw [h.mks, k1], h.sim.elim fun pd z => ⟨[], sim_keep z hk (wr_of wd)⟩, .inl ⟨by omega, rfl⟩, h.ro, fun c m => ?_, ?_, h.tot, fun t m => ?_⟩
  · rcases List.mem_append.mp m with m | m
    · rcases List.mem_append.mp m with m | m
      · exact h.cc c m
      · exact sps_ok m
    · exact wd.ch c m
  · simp
    omega
  · rcases List.mem_append.mp m with m | m
    · exact h.tw t m
    · rw [List.mem_singleton.mp m]
      exact ⟨_, _, _, _, rfl, lf⟩
theorem blank_rows {st : St} (hm : st.many = 0 ∨ st.op ≠ []) : ∀ {bl rows : List (List Nat)}, (∀ r ∈ bl, blk r) → rowsM 1 rows St0 = .ok st → rowsM 1 (rows ++ bl) St0 = .ok st
  | [], rows, _, e => by rw [List.append_nil]; exact e
  | r :: bl, rows, h, e => by
    obtain ⟨⟨n, cm, rfl, hc⟩, _⟩ := h r List.mem_cons_self
    have e2 : rowsM 1 (rows ++ [List.replicate n 32 ++ cm]) St0 = .ok st := by
      rw [rowsM_snoc e, blank_row hm hc]
    have := blank_rows (bl := bl) hm (fun x m => h x (List.mem_cons_of_mem _ m)) e2
    rw [List.append_assoc] at this
    exact this
theorem RowEnd.scan {rows rows' : List (List Nat)} {cur bf : List Nat} {cnt cnt' b : Nat} {stR st : St} (h : RowEnd rows cur cnt rows' cnt') (e : rowsM 1 rows St0 = .ok stR) (c : Cur (1 + rows.length) stR cur bf st b) (hm : (endR (1 + rows.length) (st, b)).many = 0 ∨ (endR (1 + rows.length) (st, b)).op ≠ []) : rowsM 1 rows' St0 = .ok (endR (1 + rows.length) (st, b)) := by
  obtain ⟨n, cm, bl, er, hc, _, hb⟩ := h.rw'
  rw [er]
  have e2 : rowsM 1 (rows ++ [cur ++ List.replicate n 32 ++ cm]) St0 = .ok (endR (1 + rows.length) (st, b)) := by
    rw [rowsM_snoc e, c.end_ hc]
  have := blank_rows hm hb e2
  rw [List.append_assoc] at this
  exact this
theorem RowEnd.ok {rows rows' : List (List Nat)} {cur : List Nat} {cnt cnt' : Nat} (h : RowEnd rows cur cnt rows' cnt') (o : ∀ r ∈ rows, okRow r) : ∀ r ∈ rows', okRow r := by
  obtain ⟨n, cm, bl, er, hc, orow, hb⟩ := h.rw'
  rw [er]
  intro r m
  rcases List.mem_append.mp m with m | m
  · exact o r m
  · rcases List.mem_cons.mp m with rfl | m
    · exact orow
    · exact (hb r m).2
/-- a row ends within brackets -/
theorem LnI.brk {rows rows' : List (List Nat)} {cur : List Nat} {toks : List T} {cnt cnt' sa sb n : Nat} {bf : List Nat} {st st1 : St} (h : LnI rows cur toks cnt sa sb bf st st1) (hm : 0 < st.many) (ho : st.op ≠ []) (r : RowEnd rows cur cnt rows' cnt') (hn : n ≤ 8) : LnI rows' (List.replicate n 32) toks cnt' sa sb [] st st := by
  obtain ⟨stR, b, e1, c1, _⟩ := h.sc
  have ee : endR (1 + rows.length) (st, b) = st := by
    unfold endR
    rw [if_neg fun z => ho z.2]
  have e2 := r.scan e1 c1 (.inr (by rw [ee]; exact ho))
  rw [ee] at e2
  have e3 : st1 = st := by
    rcases h.st1 with ⟨_, z⟩ | ⟨z, _⟩
    · exact z
    · omega
  refine ⟨⟨st, 0, e2, ?_, fun _ z => absurd z ho⟩, by rw [h.mks, e3], by rw [← e3]; exact h.sim, .inl ⟨hm, rfl⟩, r.ok h.ro, fun c m => sps_ok m, by simp; omega, ?_, h.tw⟩
  · have := (Cur.new (l := 1 + rows'.length) (st := st)).gap (n := n)
    rw [List.nil_append] at this
    have e4 : (if n = 0 then ([] : List Nat) else []) = [] := by split <;> rfl
    rw [e4] at this
    exact this
  · have := r.tot
    have := h.tot
    omega
/-- between logical lines -/
structure PgI (rows : List (List Nat)) (toks : List T) (cnt sa : Nat) (st : St) : Prop where
  sc : rowsM 1 rows St0 = .ok st
  mn : st.many = 0
  op : st.op = []
  mks : toks = st.marks
  la : sa = (match st.marks.getLast? with | some t => lineOf t | none => 0)
  ro : ∀ r ∈ rows, okRow r
  tot : cnt = totR rows
  tw : ∀ t ∈ toks, TkW t
  sim : Sim [] st
/-- a logical line ends -/
theorem LnI.end_ {rows rows' : List (List Nat)} {cur : List Nat} {toks : List T} {cnt cnt' sa sb : Nat} {bf : List Nat} {st st1 : St} (h : LnI rows cur toks cnt sa sb bf st st1) (hm : 0 < st.many) (ho : st.op = []) (r : RowEnd rows cur cnt rows' cnt') : ∃ st', PgI rows' (toks ++ [tk "newline" eW sa sb]) cnt' sa st' ∧ st'.ind = st.ind := by
  obtain ⟨stR, b, e1, c1, e2⟩ := h.sc
  obtain ⟨rfl, rfl⟩ := e2 hm ho
  have e3 : st1 = st := by
    rcases h.st1 with ⟨_, z⟩ | ⟨z, _⟩
    · exact z
    · omega
  have ee : endR (1 + rows.length) (st, b) = { st with marks := st.marks ++ [tk "newline" eW (1 + rows.length) (b + 1)], many := 0 } := by
    unfold endR
    rw [if_pos ⟨hm, ho⟩]
  have e4 := r.scan e1 c1 (.inl (by rw [ee]))
  rw [ee] at e4
  refine ⟨_, ⟨e4, rfl, ho, ?_, ?_, r.ok h.ro, ?_, fun t m => ?_, h.sim.elim fun pd z => sim_nl (sim_pos (by rw [← e3]; exact z) hm) hm ho⟩, rfl⟩
  · rw [h.mks, e3, Nat.add_comm 1]
  · show _ = match (st.marks ++ [tk "newline" eW (1 + rows.length) (b + 1)]).getLast? with
      | some t => lineOf t
      | none => 0
    rw [List.getLast?_concat]
    show rows.length + 1 = 1 + rows.length
    omega
  · have := r.tot
    have := h.tot
    omega
  · rcases List.mem_append.mp m with m | m
    · exact h.tw t m
    · rw [List.mem_singleton.mp m]
      exact tkw_mk (by decide)
end TK
set_option Elab.async false
set_option linter.all false
set_option maxRecDepth 100000
set_option maxHeartbeats 4000000
/-! brackets along a line, plain -/
namespace TK
open PySem PySem.Spec PyProof.Rows L2 M14 SX K4
def clo (w : List Nat) : List Nat := if w = [40] then [41] else if w = [91] then [93] else [125]
/-- the law's stack of closing brackets -/
def clsL (op : List (List Nat × Nat × Nat)) : List (List Nat) := op.reverse.map fun x => clo x.1
theorem clsL_cons (x : List Nat × Nat × Nat) (op : List (List Nat × Nat × Nat)) : clsL (x :: op) = clsL op ++ [clo x.1] := by unfold clsL; simp
theorem keep_plain {st : St} {kd : String} {w : T} {l k : Nat} (hm : st.many < 120) (h : signOf kd w ∉ ([[40], [91], [123], [41], [93], [125]] : List (List Nat))) : ∃ st2, keep st kd w l k = .ok st2 ∧ st2.op = st.op := by
  have h1 : opOf (signOf kd w) = none := by
    unfold opOf
    rw [if_neg (fun e => h (by rw [e]; decide)), if_neg (fun e => h (by rw [e]; decide)), if_neg (fun e => h (by rw [e]; decide))]
  have h2 : signOf kd w ∉ opens := fun m => h (by
    have all : ∀ x ∈ opens, x ∈ ([[40], [91], [123], [41], [93], [125]] : List (List Nat)) := by decide
    exact all _ m)
  unfold keep
  rw [if_neg (by omega)]
  simp only
  rw [h1]
  refine ⟨_, rfl, ?_⟩
  show (if signOf kd w ∈ opens then _ else _) = _
  rw [if_neg h2]
theorem keep_open {st : St} {o : List Nat} {l k : Nat} (hm : st.many < 120) (h : o ∈ opens) : ∃ st2, keep st "sign" (.str (S o)) l k = .ok st2 ∧ st2.op = (o, l, k) :: st.op := by
  have e : signOf "sign" (.str (S o)) = o := rfl
  have h1 : opOf o = none := by
    have all : ∀ x ∈ opens, opOf x = none := by decide
    exact all o h
  unfold keep
  rw [if_neg (by omega)]
  simp only
  rw [e, h1]
  refine ⟨_, rfl, ?_⟩
  show (if o ∈ opens then _ else _) = _
  rw [if_pos h]
theorem keep_close {st : St} {t : List Nat × Nat × Nat} {r : List (List Nat × Nat × Nat)} {l k : Nat} (hm : st.many < 120) (ht : t.1 ∈ opens) (ho : st.op = t :: r) : ∃ st2, keep st "sign" (.str (S (clo t.1))) l k = .ok st2 ∧ st2.op = r := by
  have e : signOf "sign" (.str (S (clo t.1))) = clo t.1 := rfl
  have h1 : opOf (clo t.1) = some t.1 := by
    have all : ∀ x ∈ opens, opOf (clo x) = some x := by decide
    exact all _ ht
  unfold keep
  rw [if_neg (by omega)]
  simp only
  rw [e, h1, ho]
  simp only
  rw [if_neg (fun z => z rfl)]
  exact ⟨_, rfl, rfl⟩
theorem pc_open {o : List Nat} (h : o ∈ opens) : Wd "sign" (.str (S o)) o := wd_sign (by
  have all : ∀ x ∈ opens, x ∈ sgs := by decide +kernel
  exact all o h)
theorem pc_close {o : List Nat} (h : o ∈ opens) : Wd "sign" (.str (S (clo o))) (clo o) := wd_sign (by
  have all : ∀ x ∈ opens, clo x ∈ sgs := by decide +kernel
  exact all o h)
end TK
set_option Elab.async false
set_option linter.all false
set_option maxRecDepth 100000
set_option maxHeartbeats 4000000
/-! a logical line, walked -/
namespace TK
open PySem PySem.Spec PyProof.Rows L2 M14 SX K4
@[irreducible] def rIdx : V → List V → Hp → VK → Prop := fun x xs H Q => ∃ a b i rest, x = .str a ∧ xs = [.str b] ∧ Builtin.Str.occurrences a b 0 a.length 1 = i :: rest ∧ Q (.int (i : Nat)) H
theorem mtIdx {X : Cx} : MtR X "str.index" rIdx := by unfold rIdx; exact mt_sindex
theorem idx_step {j : Nat} {b : List Nat} {H : Hp} {Q : VK} (hb : opens[j]? = some b) (h : Q (.int (j : Nat)) H) : rIdx (.str (Str.ofString "([{")) [.str (S b)] H Q := by
  unfold rIdx
  unfold opens at hb
  match j, hb with
  | 0, hb => cases hb; exact ⟨_, _, 0, [], rfl, rfl, by decide +kernel, h⟩
  | 1, hb => cases hb; exact ⟨_, _, 1, [], rfl, rfl, by decide +kernel, h⟩
  | 2, hb => cases hb; exact ⟨_, _, 2, [], rfl, rfl, by decide +kernel, h⟩
@[irreducible] def spLn (K : PySem.W.Frag) : Sp := fun vs H Q _ => ∃ (b A R Tk : Addr) (rows : List (List Nat)) (cur : List Nat) (toks : List T) (cnt sa sb : Nat) (st st1 : St) (many least : Nat), vs = [.ref b, .ref A, .int (many : Nat), .int (least : Nat)] ∧ PgA K H b A R Tk rows cur toks cnt sa sb ∧ LnI rows cur toks cnt sa sb [] st st1 ∧ st.many = 0 ∧ st1.many = 0 ∧ st1.op = [] ∧ cur.length ≤ 44 ∧ cnt ≤ 4500 ∧ toks.length ≤ 6000 ∧ 1 ≤ many ∧ many ≤ 114 ∧ least ≤ 1 ∧
  ∀ H' rows' toks' cnt' sa' sb' st', PgA K H' b A R Tk rows' [] toks' cnt' sa' sb' → PgI rows' toks' cnt' sa' st' → toks' ≠ [] → 1 ≤ sa' → st'.ind = st1.ind → cnt' ≤ 5800 → toks'.length ≤ toks.length + 130 → Fr [b, A, R, Tk] H H' → Q .non H'
/-- within the loops -/
structure LiA (K : PySem.W.Frag) (H0 H : Hp) (b A R Tk C : Addr) (bf : List Nat) (ind0 : List Nat) (t0 : Nat) (st st1 : St) (n lim : Nat) : Prop where
  ex : ∃ rows cur toks cnt sa sb, PgA K H b A R Tk rows cur toks cnt sa sb ∧ LnI rows cur toks cnt sa sb bf st st1 ∧ cnt ≤ lim ∧ toks.length ≤ t0 + st.many ∧ (st.many = 0 → cur.length ≤ 44)
  hC : H C = some (.lst (strsV (clsL st.op)))
  cn : C ≠ b ∧ C ≠ A ∧ C ≠ R ∧ C ≠ Tk
  ow : ∀ x ∈ st.op, x.1 ∈ opens
  o1 : st1.op = st.op ∧ st1.many = st.many ∧ st1.ind = ind0
  mn : st.many ≤ n
  o6 : st.op.length ≤ 6
  o0 : st.many = 0 → st.op = []
  bl : bf ≠ [47] ∧ bf.length ≤ 40
  fr : Fr [b, A, R, Tk] H0 H
@[irreducible] def LI1 (K : PySem.W.Frag) (H0 : Hp) (b A R Tk C : Addr) (many least : Nat) (ind0 : List Nat) (t0 : Nat) (i : Nat) (σ : L2.St) (H : Hp) : Prop := ∃ (bf : List Nat) (st st1 : St) (x6 x7 x8 x9 x10 : Option V), σ = [some (.ref b), some (.ref A), some (.int (many : Nat)), some (.int (least : Nat)), some (.ref C), some (.str (S bf)), x6, x7, x8, x9, x10] ∧ LiA K H0 H b A R Tk C bf ind0 t0 st st1 i 4500 ∧ (0 < i → 0 < st.many)
/-- the piece that was drawn -/
def PkI (kd : String) (w : T) (sp : List Nat) (op : List (List Nat × Nat × Nat)) : Prop :=
  (signOf kd w ∉ ([[40], [91], [123], [41], [93], [125]] : List (List Nat))) ∨ (∃ o, o ∈ opens ∧ kd = "sign" ∧ w = .str (S o) ∧ sp = o ∧ op.length < 6) ∨ ∃ t r, op = t :: r ∧ t.1 ∈ opens ∧ kd = "sign" ∧ w = .str (S (clo t.1)) ∧ sp = clo t.1
/-- past the loop of words -/
@[irreducible] def LIE (K : PySem.W.Frag) (H0 : Hp) (b A R Tk C : Addr) (many least : Nat) (ind0 : List Nat) (t0 : Nat) (σ : L2.St) (H : Hp) : Prop := ∃ (bf : List Nat) (st st1 : St) (x6 x7 x8 x9 x10 : Option V), σ = [some (.ref b), some (.ref A), some (.int (many : Nat)), some (.int (least : Nat)), some (.ref C), some (.str (S bf)), x6, x7, x8, x9, x10] ∧ LiA K H0 H b A R Tk C bf ind0 t0 st st1 many 4657 ∧ 0 < st.many
@[irreducible] def LI2 (K : PySem.W.Frag) (H0 : Hp) (b A R Tk C : Addr) (many least : Nat) (ind0 : List Nat) (t0 : Nat) (i : Nat) (bf : List Nat) (st st1 : St) (x6 x10 : Option V) (σ : L2.St) (H : Hp) : Prop := ∃ (x7 x8 : Option V) (p : Addr) (kd : String) (w : T) (sp : List Nat), σ = [some (.ref b), some (.ref A), some (.int (many : Nat)), some (.int (least : Nat)), some (.ref C), some (.str (S bf)), x6, x7, x8, some (.ref p), x10] ∧ LiA K H0 H b A R Tk C bf ind0 t0 st st1 i 4500 ∧ H p = some (pcV kd w sp) ∧ Wd kd w sp ∧ PcL kd w ∧ PkI kd w sp st.op ∧ C ≠ p
theorem LiA.mv {K : PySem.W.Frag} {H0 H H' : Hp} {b A R Tk C : Addr} {bf ind0 : List Nat} {t0 : Nat} {st st1 : St} {n lim : Nat} (h : LiA K H0 H b A R Tk C bf ind0 t0 st st1 n lim) (f : Fr [b] H H') (hb : Box H' b) : LiA K H0 H' b A R Tk C bf ind0 t0 st st1 n lim :=
  ⟨let ⟨r, c, t, m, x, y, pg, z⟩ := h.ex; ⟨r, c, t, m, x, y, pg.frb f hb, z⟩, f.at1 h.hC h.cn.1, h.cn, h.ow, h.o1, h.mn, h.o6, h.o0, h.bl, h.fr.subs f (by simp)⟩
theorem li2_of {K : PySem.W.Frag} {H0 H H' : Hp} {b A R Tk C p : Addr} {bf ind0 : List Nat} {t0 many least i : Nat} {st st1 : St} {x6 x7 x8 x10 : Option V} {kd : String} {w : T} {sp : List Nat} (h : LiA K H0 H b A R Tk C bf ind0 t0 st st1 i 4500) (f : Fr [b] H H') (hb : Box H' b) (hp : H' p = some (pcV kd w sp)) (wd : Wd kd w sp) (lf : PcL kd w) (pk : PkI kd w sp st.op) : LI2 K H0 b A R Tk C many least ind0 t0 i bf st st1 x6 x10 [some (.ref b), some (.ref A), some (.int (many : Nat)), some (.int (least : Nat)), some (.ref C), some (.str (S bf)), x6, x7, x8, some (.ref p), x10] H' := by
  unfold LI2
  have h' := h.mv f hb
  refine ⟨x7, x8, p, kd, w, sp, rfl, h', hp, wd, lf, pk, fun e => ?_⟩
  have := h'.hC
  rw [e, hp] at this
  cases this
theorem clo_ok (w : List Nat) : okS (clo w) = true := by unfold clo; split <;> (try split) <;> rfl
theorem open_ok {o : List Nat} (h : o ∈ opens) : okS o = true := by
  have all : ∀ x ∈ opens, okS x = true := by decide
  exact all o h
theorem rows_le : ∀ rs : List (List Nat), rs.length ≤ totR rs
  | [] => Nat.zero_le _
  | r :: rs => by have := rows_le rs; unfold totR at *; simp only [List.map_cons, List.sum_cons, List.length_cons]; omega
theorem brkL_step {K : PySem.W.Frag} {b A R Tk : Addr} {rows : List (List Nat)} {cur bf : List Nat} {toks : List T} {cnt sa sb : Nat} {st st1 : St} {ins : Bool} {wide : Nat} {H : Hp} {Q : VK} {E : XK} (pg : PgA K H b A R Tk rows cur toks cnt sa sb) (li : LnI rows cur toks cnt sa sb bf st st1) (hc : cnt ≤ 6000) (hi : ins = true → st.op ≠ [] ∧ 0 < st.many) (h4 : wide ≤ 1000)
    (k : ∀ H' rows' cur' cnt' bf', PgA K H' b A R Tk rows' cur' toks cnt' sa sb → LnI rows' cur' toks cnt' sa sb bf' st st1 → (bf' = bf ∨ bf' = []) → ((rows' = rows ∧ cur' = cur ∧ cnt' = cnt) ∨ (0 < st.many ∧ cnt' ≤ cnt + 157 ∧ cur'.length ≤ 8)) → (ins = false ∨ cur'.length + wide < 114 ∨ cur'.length ≤ 8) → Fr [b, A, R, Tk] H H' → Q (.str (S bf')) H') : spBrk K ([.ref b, .ref A, .str (S bf), .bl ins, .int (wide : Nat)] ++ []) H Q E := by
  have rl : rows.length ≤ 7000 := by have := rows_le rows; have := li.tot; omega
  refine brk_step pg rl li.cl li.cc h4 (fun h H' p f => ?_) fun h H' rows' cnt' n hn p r f => ?_
  · exact k H' rows cur cnt bf p li (.inl rfl) (.inl ⟨rfl, rfl, rfl⟩) (h.elim .inl fun z => .inr (.inl z)) f
  · obtain ⟨ho, hm⟩ := hi h
    have e3 : st1 = st := by
      rcases li.st1 with ⟨_, z⟩ | ⟨z, _⟩
      · exact z
      · omega
    have l2 := li.brk hm ho r hn
    rw [← e3] at l2
    rw [e3] at l2
    exact k H' rows' _ cnt' [] p (by rw [e3]; exact l2) (.inr rfl) (.inr ⟨hm, r.le, by simp; omega⟩) (.inr (.inr (by simp; omega))) f
theorem LiA.up {K : PySem.W.Frag} {H0 H : Hp} {b A R Tk C : Addr} {bf ind0 : List Nat} {t0 : Nat} {st st1 : St} {n n' lim : Nat} (h : LiA K H0 H b A R Tk C bf ind0 t0 st st1 n lim) (l : n ≤ n') : LiA K H0 H b A R Tk C bf ind0 t0 st st1 n' lim :=
  ⟨h.ex, h.hC, h.cn, h.ow, h.o1, Nat.le_trans h.mn l, h.o6, h.o0, h.bl, h.fr⟩
theorem layL_step {K : PySem.W.Frag} {b A R Tk p : Addr} {rows : List (List Nat)} {cur bf : List Nat} {toks : List T} {cnt sa sb : Nat} {st st1 : St} {kd : String} {w : T} {sp : List Nat} {H : Hp} {Q : VK} {E : XK} (pg : PgA K H b A R Tk rows cur toks cnt sa sb) (li : LnI rows cur toks cnt sa sb bf st st1) (hp : H p = some (pcV kd w sp)) (wd : Wd kd w sp) (lf : PcL kd w) (hb : bf ≠ [47] ∧ bf.length ≤ 40) (hc : cnt ≤ 6000) (ht : toks.length ≤ 8000) (hl : cur.length + 3 + sp.length < 114) (hk : ∀ l k, ∃ st2, keep st1 kd w l k = .ok st2)
    (k : ∀ H' cur' toks' sa' sb' st2 l c, PgA K H' b A R Tk rows cur' toks' cnt sa' sb' → keep st1 kd w l c = .ok st2 → LnI rows cur' toks' cnt sa' sb' sp st2 st2 → toks'.length = toks.length + 1 → Fr [b, A, R, Tk] H H' → Q (.str (S sp)) H') : spLay K ([.ref b, .ref A, .ref p, .str (S bf)] ++ []) H Q E := by
  have rl : rows.length ≤ 7000 := by have := rows_le rows; have := li.tot; omega
  refine lay_step pg hp wd lf.lf hb.1 hb.2 (by omega) ht (by omega) fun H' g p' g3 g0 ga f => ?_
  obtain ⟨st2, e⟩ := hk (rows.length + 1) ((cur ++ List.replicate g 32).length + 1)
  exact k H' _ _ _ _ st2 _ _ p' e (li.lay wd lf g3 g0 ga e hl) (by simp) f
def clsg : List (List Nat) := [[41], [93], [125]]
theorem litS' {z : Str} {l : List Nat} (h : z.cps.toList = l) : V.str z = V.str (S l) := by rw [← S_tl z, h]
theorem opLit : (HO.lst [.str (Str.ofString "("), .str (Str.ofString "["), .str (Str.ofString "{")]) = HO.lst (strsV opens) := by
  rw [litS' (z := Str.ofString "(") (l := [40]) (by decide +kernel), litS' (z := Str.ofString "[") (l := [91]) (by decide +kernel), litS' (z := Str.ofString "{") (l := [123]) (by decide +kernel)]
  rfl
theorem six_of {kd : String} {w : T} {sp : List Nat} (wd : Wd kd w sp) (m : sp ∈ ([[40], [91], [123], [41], [93], [125]] : List (List Nat))) : signOf kd w = sp := by
  have all : ∀ x ∈ ([[40], [91], [123], [41], [93], [125]] : List (List Nat)), x ∈ sgs := by decide +kernel
  have e1 := wd.lx [] nj_nil
  have e2 := (wd_sign (all sp m)).lx [] nj_nil
  rw [e1] at e2
  injection e2 with a b
  subst a b
  rfl
theorem li1_next {K : PySem.W.Frag} {H0 H : Hp} {b A R Tk C : Addr} {sp ind0 : List Nat} {t0 many least i : Nat} {st7 : St} {x6 x7 x8 x9 x10 : Option V} {rows : List (List Nat)} {cur : List Nat} {toks : List T} {cnt sa sb : Nat} (pg : PgA K H b A R Tk rows cur toks cnt sa sb) (li : LnI rows cur toks cnt sa sb sp st7 st7) (hc : cnt ≤ 4500) (ht : toks.length ≤ t0 + st7.many) (hC : H C = some (.lst (strsV (clsL st7.op)))) (cn : C ≠ b ∧ C ≠ A ∧ C ≠ R ∧ C ≠ Tk) (ow : ∀ x ∈ st7.op, x.1 ∈ opens) (hi : st7.ind = ind0) (mn : st7.many ≤ i + 1) (mp : 0 < st7.many) (o6 : st7.op.length ≤ 6) (bl : sp ≠ [47] ∧ sp.length ≤ 40) (fr : Fr [b, A, R, Tk] H0 H) : LI1 K H0 b A R Tk C many least ind0 t0 (i + 1) [some (.ref b), some (.ref A), some (.int (many : Nat)), some (.int (least : Nat)), some (.ref C), some (.str (S sp)), x6, x7, x8, x9, x10] H := by
  unfold LI1
  exact ⟨sp, st7, st7, _, _, _, _, _, rfl, ⟨⟨rows, cur, toks, cnt, sa, sb, pg, li, hc, ht, fun z => absurd z (Nat.ne_of_gt mp)⟩, hC, cn, ow, ⟨rfl, rfl, hi⟩, mn, o6, fun z => absurd z (Nat.ne_of_gt mp), bl, fr⟩, fun _ => mp⟩
theorem clo_at {j : Nat} {sp : List Nat} {c : Nat} (hj : opens[j]? = some sp) (hc : (Str.ofString ")]}").cps.toList[((j : Nat) : Int).toNat]? = some c) : [c] = clo sp := by
  rw [show (Str.ofString ")]}").cps.toList = [41, 93, 125] by decide +kernel, Int.toNat_natCast] at hc
  unfold opens at hj
  match j, hj, hc with
  | 0, hj, hc => cases hj; cases hc; decide
  | 1, hj, hc => cases hj; cases hc; decide
  | 2, hj, hc => cases hj; cases hc; decide
theorem clLit : (HO.lst [.str (Str.ofString ")"), .str (Str.ofString "]"), .str (Str.ofString "}")]) = HO.lst (strsV clsg) := by
  rw [litS' (z := Str.ofString ")") (l := [41]) (by decide +kernel), litS' (z := Str.ofString "]") (l := [93]) (by decide +kernel), litS' (z := Str.ofString "}") (l := [125]) (by decide +kernel)]
  rfl
theorem PgA.frC {K : PySem.W.Frag} {H H' : Hp} {b A R Tk C : Addr} {rows : List (List Nat)} {cur : List Nat} {toks : List T} {cnt sa sb : Nat} {l : List (List Nat)} (p : PgA K H b A R Tk rows cur toks cnt sa sb) (hC : H C = some (.lst (strsV l))) (cn : C ≠ b ∧ C ≠ A ∧ C ≠ R ∧ C ≠ Tk) (f : Fr [C] H H') : PgA K H' b A R Tk rows cur toks cnt sa sb :=
  ⟨let ⟨Sp, h1, h2, n⟩ := p.hA; ⟨Sp, f.at1 h1 (Ne.symm cn.2.1), f.at1 h2 (fun e => by
      rw [e, hC] at h2
      injection h2 with h2
      injection h2 with h2
      cases l with
      | nil => cases h2
      | cons x r => unfold strsV at h2; cases h2), n⟩, f.at1 p.hR (Ne.symm cn.2.2.1), let ⟨xs, h, d⟩ := p.hT; ⟨xs, f.at1 h (Ne.symm cn.2.2.2), d.fr f⟩, p.hb.fr1 f (Ne.symm cn.1), p.ab, p.ar, p.at_, p.rb, p.rt, p.tb⟩
theorem pk_op {kd : String} {w : T} {sp : List Nat} {op : List (List Nat × Nat × Nat)} {st3 st7 : St} {l k : Nat} (wd : Wd kd w sp) (pk : PkI kd w sp op) (eo : st3.op = op) (hm : st3.many < 120) (e : keep st3 kd w l k = .ok st7) :
    (sp ∈ opens ∧ st7.op = (sp, l, k) :: op ∧ op.length < 6) ∨ (sp ∉ opens ∧ sp ∈ clsg ∧ ∃ t, op = t :: st7.op ∧ t.1 ∈ opens ∧ sp = clo t.1) ∨ (sp ∉ opens ∧ sp ∉ clsg ∧ st7.op = op) := by
  have n1 : ∀ x ∈ opens, clo x ∈ clsg ∧ clo x ∉ opens := by decide
  have n2 : ∀ x, x ∈ opens ∨ x ∈ clsg → x ∈ ([[40], [91], [123], [41], [93], [125]] : List (List Nat)) := by
    intro x m
    unfold opens clsg at m
    simp only [List.mem_cons, List.not_mem_nil, or_false] at m
    rcases m with (rfl | rfl | rfl) | (rfl | rfl | rfl) <;> decide
  rcases pk with z | ⟨o, mo, rfl, rfl, rfl, l6⟩ | ⟨t, r, et, mt, rfl, rfl, rfl⟩
  · obtain ⟨s2, e2, e3⟩ := keep_plain (l := l) (k := k) hm z
    rw [e2] at e
    cases e
    have h2 : sp ∉ opens ∧ sp ∉ clsg := ⟨fun m => z (by rw [six_of wd (n2 _ (.inl m))]; exact n2 _ (.inl m)), fun m => z (by rw [six_of wd (n2 _ (.inr m))]; exact n2 _ (.inr m))⟩
    exact .inr (.inr ⟨h2.1, h2.2, by rw [e3, eo]⟩)
  · obtain ⟨s2, e2, e3⟩ := keep_open (l := l) (k := k) hm mo
    rw [e2] at e
    cases e
    exact .inl ⟨mo, by rw [e3, eo], l6⟩
  · obtain ⟨s2, e2, e3⟩ := keep_close (l := l) (k := k) hm mt (by rw [eo]; exact et)
    rw [e2] at e
    cases e
    exact .inr (.inl ⟨(n1 _ mt).2, (n1 _ mt).1, t, by rw [e3]; exact et, mt, rfl⟩)
/-- within the loop of closers -/
@[irreducible] def LIR (K : PySem.W.Frag) (H0 : Hp) (b A R Tk C : Addr) (many least : Nat) (ind0 : List Nat) (t0 : Nat) (opE : List (List Nat × Nat × Nat)) (j : Nat) (σ : L2.St) (H : Hp) : Prop := ∃ (bf : List Nat) (st : St) (rows : List (List Nat)) (cur : List Nat) (toks : List T) (cnt sa sb : Nat) (x6 x7 x8 x9 x10 : Option V), σ = [some (.ref b), some (.ref A), some (.int (many : Nat)), some (.int (least : Nat)), some (.ref C), some (.str (S bf)), x6, x7, x8, x9, x10] ∧ PgA K H b A R Tk rows cur toks cnt sa sb ∧ LnI rows cur toks cnt sa sb bf st st ∧ cnt ≤ 4657 + 157 * j ∧ toks.length ≤ t0 + st.many ∧ H C = some (.lst (strsV (clsL opE))) ∧ st.op = opE.drop j ∧ st.many ≤ many + j ∧ 0 < st.many ∧ st.ind = ind0 ∧ bf ≠ [47] ∧ bf.length ≤ 40 ∧ Fr [b, A, R, Tk] H0 H
theorem clsL_len (op : List (List Nat × Nat × Nat)) : (strsV (clsL op)).length = op.length := by unfold strsV clsL; simp
theorem clsL_rev {op : List (List Nat × Nat × Nat)} {j : Nat} {v : V} (hj : j < op.length) (h : (strsV (clsL op))[(strsV (clsL op)).length - 1 - j]? = some v) : ∃ t, op = op.take j ++ t :: op.drop (j + 1) ∧ op.drop j = t :: op.drop (j + 1) ∧ t ∈ op ∧ v = .str (S (clo t.1)) := by
  rw [clsL_len] at h
  have e1 : op.drop j = op[j] :: op.drop (j + 1) := List.drop_eq_getElem_cons hj
  refine ⟨op[j], ?_, e1, List.getElem_mem hj, ?_⟩
  · rw [← e1, List.take_append_drop]
  · unfold strsV clsL at h
    rw [List.getElem?_map, List.getElem?_map, List.getElem?_reverse (by omega)] at h
    have : op.length - 1 - (op.length - 1 - j) = j := by omega
    rw [this, List.getElem?_eq_getElem hj] at h
    exact (Option.some.inj h).symm
theorem PgA.app {K : PySem.W.Frag} {H H' : Hp} {b A R Tk : Addr} {rows : List (List Nat)} {cur : List Nat} {toks : List T} {cnt sa sb : Nat} {xs : List V} {v : V} {t : T} (p : PgA K H b A R Tk rows cur toks cnt sa sb) (hT : H Tk = some (.lst xs)) (d : Den K H v t) (h : H' Tk = some (.lst (xs ++ [v]))) (f : Fr [Tk] H H') : PgA K H' b A R Tk rows cur (toks ++ [t]) cnt sa sb := by
  obtain ⟨ys, hT2, dT⟩ := p.hT
  rw [hT] at hT2
  cases hT2
  exact ⟨let ⟨Sp, h1, h2, n⟩ := p.hA; ⟨Sp, f.at1 h1 p.at_, f.at1 h2 n.2.2.1, n⟩, f.at1 p.hR p.rt, ⟨_, h, (dT.snoc d).fr f⟩, p.hb.fr1 f (Ne.symm p.tb), p.ab, p.ar, p.at_, p.rb, p.rt, p.tb⟩
theorem mem_opens {r : Nat} {ch : Nat} (h : (Str.ofString "([{").cps.toList[r]? = some ch) : [ch] ∈ opens := by
  have all : ∀ x ∈ (Str.ofString "([{").cps.toList, [x] ∈ opens := by decide +kernel
  exact all _ (List.mem_of_getElem? h)
section
variable {P : Program} {w : World} {K : PySem.W.Frag} {mg : Str → Option Value} {base : Heap}
set_option hygiene false
local macro_rules | `(tactic| tm_at "sc") => `(tactic| (first | omega | (simp only [List.length_cons, List.length_nil, List.length_map, List.length_set, List.length_append]; omega) | (simp only [List.length_map] at h1 ⊢; omega) | (simp only [List.length_map] at c ⊢; omega) | with_reducible assumption | exact And.intro (by omega) (by omega) | exact Or.inl (And.intro (by omega) (by omega)) | exact Or.inr (And.intro (by omega) (by omega)) | decide +kernel | exact len1000 (by simp) | rfl | fail "no way"))
local macro_rules | `(tactic| tm_at "sc1") => `(tactic| (focus (simp; done)))
local macro_rules | `(tactic| tm_at "ne") => `(tactic| (first | assumption | exact Ne.symm (by assumption) | (apply Box.ne2; assumption; tm_at "hp") | (apply Ne.symm; apply Box.ne2; assumption; tm_at "hp") | (apply ne_of_none2; assumption; tm_at "hp") | (apply Ne.symm; apply ne_of_none2; assumption; tm_at "hp") | fail "no way"))
local macro_rules | `(tactic| tm_at "f0") => `(tactic| (first | assumption | (apply Fr.new; assumption) | fail "no way"))
local macro_rules | `(tactic| tm_at "hp") => `(tactic| (first | assumption | exact upd_same | (apply SqL.of; first | assumption | exact upd_same) | (apply Fr.at0; tm_at "f0"; tm_at "hp") | (apply Fr.at1n; assumption; tm_at "ne"; tm_at "hp") | (apply sqFr0; tm_at "f0"; tm_at "hp") | (apply sqFr1; assumption; tm_at "ne"; tm_at "hp") | (apply Box.fr0; tm_at "f0"; tm_at "hp") | (apply Box.fr1; assumption; tm_at "ne"; tm_at "hp") | (apply Den.fr; tm_at "f0"; tm_at "hp") | (apply Dens.fr; tm_at "f0"; tm_at "hp") | fail "no way"))
local macro_rules | `(tactic| tm_at "free0") => `(tactic| (first | assumption | (apply updFree; assumption) | (apply updFree; apply updFree; assumption) | (apply updFree; apply updFree; apply updFree; assumption) | (apply updFree; apply updFree; apply updFree; apply updFree; assumption) | fail "no way"))
local macro_rules | `(tactic| tm_at "free") => `(tactic| (first | tm_at "free0" | (apply Fr.free; assumption; tm_at "free0") | (apply Box.free; assumption; tm_at "fr"; tm_at "free0") | (apply Fr.free; assumption; apply Fr.free; assumption; tm_at "free0") | fail "no way"))
local macro_rules | `(tactic| tm_at "fr") => `(tactic| (first | assumption | exact Fr.refl0 _ | exact Fr.refl (Box.nt (by assumption)) | (refine Fr.comp0 ?_ (by tm_at "f0"); tm_at "fr") | (refine Fr.comp ?_ (by assumption); tm_at "fr") | (refine Fr.compN ?_ (by assumption) (by tm_at "free"); tm_at "fr") | fail "no way"))
local macro_rules | `(tactic| tm_at "call") => `(tactic| fail "no call")
local macro_rules | `(tactic| tm_at "call") => `(tactic| (apply take_step; tm_at "hp"; tm_at "sc"; tm_at "sc"; intro r H1 h0 h1 hB fr))
local macro_rules | `(tactic| tm_at "ty") => `(tactic| (first | assumption | exact .base .non | exact .base (.bl _) | exact .base (.int _) | exact .base (.str _) | (apply TyX.base; apply TyOf.lst; tm_at "hp") | (apply TyX.base; apply TyOf.tup; tm_at "hp") | fail "no way"))
local macro_rules | `(tactic| tm_at "pre") => `(tactic| fail "none")
local macro_rules | `(tactic| tm_at "go1") => `(tactic| (first | tm_at "pre" | refine ⟨_, rfl, ?_⟩ | refine ⟨_, _, rfl, rfl, ?_⟩ | (apply set_step; tm_at "hp"; tm_at "sc"; tm_at "sc"; intro H1 hp fr) | (with_reducible refine iteDI ?_ ?_ <;> intro c) | (with_reducible refine iteDS ?_ ?_ <;> intro c) | (with_reducible refine iteD ?_ ?_ <;> intro c) | (with_reducible refine iteEM ?_ ?_ <;> intro c) | (with_reducible refine iteE ?_ ?_ <;> intro c) | with_reducible refine iteN ?_ | with_reducible refine iteF ?_ | with_reducible refine iteT ?_ | (refine fun (p : Addr) (np : _ = (none : Option HO)) => ?_; fail_if_success (refine ⟨fun (_ _ : Nat) (_ : Hp) => True, ?_⟩)) | (apply isi_tt; tm_at "ty"; focus (decide +kernel)) | (apply isi_ff; tm_at "ty"; focus (decide +kernel)) | (apply sl_step; tm_at "hp"; intro qq H1 ms nq hq fr) | (apply sum_step; tm_at "hp"; intro i) | (apply tru_step; tm_at "hp") | (apply len_step; tm_at "hp") | (apply lenq_step; assumption) | (apply ixq_step; assumption; tm_at "sc"; tm_at "sc"; intro v hv) | (apply lst_step; tm_at "hp") | (apply tupl_step; tm_at "hp") | (apply ixr_step; tm_at "hp"; exact rfl) | (apply ix0_step; tm_at "hp") | (apply ix1_step; tm_at "hp") | (apply ix2_step; tm_at "hp") | (apply ixi_step; tm_at "hp"; tm_at "sc"; tm_at "sc"; intro n hn hn') | (apply ixl_step; tm_at "hp"; tm_at "sc"; tm_at "sc"; intro v hv) | (apply ixt_step; tm_at "hp"; tm_at "sc"; tm_at "sc"; intro v hm hv) | (apply in_step; tm_at "hp"; rfl; rfl) | (apply cat_step; tm_at "hp"; tm_at "hp"; tm_at "sc") | (apply catT_step; tm_at "hp"; tm_at "hp"; tm_at "sc1") | (apply tyL_and; tm_at "hp") | (apply app_step; tm_at "hp"; tm_at "sc"; intro H1 hp fr) | tm_at "call" | refine ⟨⟨_, rfl⟩, ?_⟩ | (apply ixs_step; tm_at "sc"; tm_at "sc"; tm_at "sc"; intro ch) | refine .inl ⟨_, rfl, ?_⟩ | refine .inr ⟨_, rfl, ?_⟩ | (apply And.intro; tm_at "sc") | (with_reducible refine wayB ?_ ?_ <;> intro c) | fail "no way"))
local macro_rules | `(tactic| tm_at "go") => `(tactic| (repeat tm_at "go1"))
local macro_rules | `(tactic| tm_at "goo") => `(tactic| (repeat' tm_at "go1"))
local macro_rules | `(tactic| tm_at "den") => `(tactic| (first | assumption | exact Den.str _ | exact Den.int _ | exact Den.bl _ | exact Den.non | (apply Den.tups; tm_at "hp"; tm_at "dens") | (apply Den.fr; tm_at "f0"; tm_at "den") | fail "no way"))
local macro_rules | `(tactic| tm_at "dens") => `(tactic| (first | assumption | exact Dens.nil | (apply Dens.cons; tm_at "den"; tm_at "dens") | (apply Dens.fr; tm_at "f0"; tm_at "dens") | fail "no way"))
local macro_rules | `(tactic| tm_at "ix") => `(tactic| (apply Ix.mk; tm_at "hp"; tm_at "ne"; assumption; assumption))
local macro_rules | `(tactic| tm_at "dep") => `(tactic| (first | assumption | exact Dep.int | exact Dep.str | exact Dep.bl | exact Dep.non | (apply Dep.tup; tm_at "dlen"; tm_at "deps") | (apply Dep.mono; assumption; decide) | fail "no way"))
local macro_rules | `(tactic| tm_at "deps") => `(tactic| (first | assumption | exact memN | (apply memC; tm_at "dep"; tm_at "deps") | fail "no way"))
local macro_rules | `(tactic| tm_at "dlen") => `(tactic| (first | assumption | (focus (simp; done)) | omega | fail "no way"))
local macro_rules | `(tactic| tm_at "pre") => `(tactic| (apply rep_step; tm_at "hp"; tm_at "sc"; tm_at "sc"; intro rp H1 nrp hrp fr))

local macro_rules | `(tactic| tm_at "lits") => `(tactic| (try simp only [l_nl, l_open, l_close, l_sp, l_quo, l_bs, l_minus, l_zero, l_empty, l_n] at c))
local macro_rules | `(tactic| tm_at "pre") => `(tactic| (first | (apply slm_step; tm_at "sc"; tm_at "sc"; tm_at "sc") | (apply slf_step; tm_at "sc"; tm_at "sc") | (apply slt_step; tm_at "sc"; tm_at "sc") | (with_reducible refine iteEqZ ?_ ?_ <;> (intro c; tm_at "lits")) | (apply catS_step; tm_at "sc") | (apply inD_step) | (apply ordS_step) | (apply intS_step; assumption) | (apply sign_step) | (apply lenS_step; tm_at "sc")))
local macro_rules | `(tactic| tm_at "pre") => `(tactic| (apply while_go))
local macro_rules | `(tactic| tm_at "pre") => `(tactic| (apply ixS_step; tm_at "sc"; tm_at "sc"; assumption))
local macro_rules | `(tactic| tm_at "pre") => `(tactic| (apply appB_step; tm_at "hp"; tm_at "sc"; intro H1 hp fr))

local macro_rules | `(tactic| tm_at "ln") => `(tactic| (focus (first | omega | (simp only [List.length_append, List.length_replicate]; omega))))
local macro_rules | `(tactic| tm_at "pre") => `(tactic| (first | (apply catS_step; tm_at "ln") | (apply lenS_step; tm_at "ln") | (apply ixA_step; (focus (omega)); (focus (omega)); (focus (omega)); intro ch hch)))
set_option pp.deepTerms false
set_option pp.deepTerms.threshold 3
abbrev s_line : Stmt := top 56
theorem sc_line : FnScope ["_law_bag_here", "_law_page_here", "_law_many", "_law_least", "_law_closers", "_law_before", "_law_turn", "_law_way", "_law_sign", "_law_piece", "_law_closer"] ["_law_bag_here", "_law_page_here", "_law_many", "_law_least"] (defScope s_line) := ⟨rfl, rfl, rfl, by decide +kernel, rfl, by decide +kernel, by decide +kernel⟩

theorem ok_lin (T : K4.Bl mg) (T2 : Bl2 mg) (G_take : Cal P w K mg base 1 "_law_take" ["_law_bag_here", "_law_size"] spTake) (G_word : Cal P w K mg base 3 "_law_word" ["_law_bag_here", "_law_small"] spPc1) (G_broken : Cal P w K mg base 4 "_law_broken" ["_law_bag_here", "_law_page_here", "_law_before", "_law_inside", "_law_wide"] (spBrk K)) (G_lay : Cal P w K mg base 3 "_law_lay" ["_law_bag_here", "_law_page_here", "_law_piece", "_law_before"] (spLay K)) (G_row_end : Cal P w K mg base 3 "_law_row_end" ["_law_bag_here", "_law_page_here"] (spRe K)) (D : Def1 K mg "_law_line" s_line) : Cal P w K mg base 5 "_law_line" ["_law_bag_here", "_law_page_here", "_law_many", "_law_least"] (spLn K) := by
  refine D.cal sc_line (fun _ _ _ _ _ _ us hl => match us, hl with | [_, _, _, _], _ => rfl) (fun vs H Q E h => ?_) (fun f cdv A outer s H vs Q E hr h => ?_) <;> unfold spLn at h
  · obtain ⟨b, A, R, Tk, rows, cur, toks, cnt, sa, sb, st, st1, many, least, rfl, _⟩ := h
    rfl
  · obtain ⟨b, A, R, Tk, rows, cur, toks, cnt, sa, sb, st, st1, many, least, rfl, pg, li, m0, m1, o1, hc44, hcnt, htk, n1, n114, hle, k⟩ := h
    have hu65 := room_65 hr
    have hB := pg.hb
    have o0 : st.op = [] := by
      rcases li.st1 with ⟨z, _⟩ | ⟨_, _, z⟩
      · omega
      · rw [← o1]
        have := z
        unfold cmpI at this
        split at this
        · cases this
        · split at this
          · split at this
            · cases this
            · cases this; rfl
          · simp only at this
            split at this
            · cases this
            · cases this; rfl
    refine ⟨_, (pss_cons (ps_set (i := 4) sc_line.nd rfl (Or.inl rfl) (pe_lst pa_nil))
    (pss_cons (ps_set (i := 5) sc_line.nd rfl (Or.inl rfl) pe_str)
    (C8.pss_cut (ps_for PassesOwn.never rfl (pi_range1 (by rfl) T.z_range (pa_cons (pv 2) pa_nil)) (pg_name (i := 6) sc_line.nd rfl (Or.inl rfl))
      (pss_cons (ps_set (i := 7) sc_line.nd rfl (Or.inl rfl) (pe_cal G_take (hr.mono (by omega)) (by rfl) (pa_cons (pv 0) (pa_cons pe_int pa_nil))))
      (C8.pss_cut (ps_if (PW.pt (pw_or (PW.pt (pw_and (pt_cmpR op_eq (pv 7) pe_int (nomark _)) (pw_and1 (pt_cmpR op_lt (pe_callB (cLen K) (by rfl) T.z_len (by decide +kernel) (pa_cons (pv 4) pa_nil)) pe_int (nomark _))))) (pw_or1 (pt_cmpR op_lt (pv 6) (pv 3) (nomark _)))))
        (pss_cons (ps_set (i := 8) sc_line.nd rfl (Or.inl rfl) (pe_ix ixS pe_str (pe_cal G_take (hr.mono (by omega)) (by rfl) (pa_cons (pv 0) (pa_cons pe_int pa_nil))) (fun _ _ => rfl)))
        (pss_one (ps_set (i := 9) sc_line.nd rfl (Or.inl rfl) (pe_tup (pa_cons pe_str (pa_cons (pv 8) (pa_cons (pv 8) pa_nil)))))))
        (pss_one (ps_if (PW.pt (pw_and (pt_cmpR op_eq (pv 7) pe_int (nomark _)) (pw_and1 (pt_cmpR op_gt (pe_callB (cLen K) (by rfl) T.z_len (by decide +kernel) (pa_cons (pv 4) pa_nil)) (pv 3) (nomark _)))))
          (pss_one (ps_set (i := 9) sc_line.nd rfl (Or.inl rfl) (pe_tup (pa_cons pe_str (pa_cons (pe_ix (ixL K) (pv 4) (pe_un un_neg pe_int) (fun _ _ => rfl)) (pa_cons (pe_ix (ixL K) (pv 4) (pe_un un_neg pe_int) (fun _ _ => rfl)) pa_nil))))))
          (pss_one (ps_set (i := 9) sc_line.nd rfl (Or.inl rfl) (pe_cal G_word (hr.mono (by omega)) (by rfl) (pa_cons (pv 0) (pa_cons (pe_cmpR op_gt (pv 2) pe_int (nomark _)) pa_nil))))))))
      (pss_cons (ps_set (i := 5) sc_line.nd rfl (Or.inl rfl) (pe_cal G_broken (hr.mono (by omega)) (by rfl) (pa_cons (pv 0) (pa_cons (pv 1) (pa_cons (pv 5) (pa_cons (pe_cmpR (opNeD K hu65) (pv 4) (pe_lst pa_nil) (nomark _)) (pa_cons (pe_op op_add (pe_callB call_lenS (by rfl) T.z_len (by decide +kernel) (pa_cons (pe_ix (ixT K) (pv 9) pe_int (fun _ _ => rfl)) pa_nil)) pe_int) pa_nil)))))))
      (pss_cons (ps_if (PW.pt (pw_or (pt_cmpR op_ge (pe_op op_add (pe_op op_add (pe_callB call_lenS (by rfl) T.z_len (by decide +kernel) (pa_cons (pe_ix (ixL K) (pv 1) pe_int (fun _ _ => rfl)) pa_nil)) (pe_callB call_lenS (by rfl) T.z_len (by decide +kernel) (pa_cons (pe_ix (ixT K) (pv 9) pe_int (fun _ _ => rfl)) pa_nil))) pe_int) pe_int (nomark _)) (pw_or1 (pt_cmpR op_gt (pe_ix (ixL K) (pv 1) pe_int (fun _ _ => rfl)) pe_int (nomark _)))))
        (pss_one ps_break)
        pss_nil)
      (pss_cons (ps_set (i := 5) sc_line.nd rfl (Or.inl rfl) (pe_cal G_lay (hr.mono (by omega)) (by rfl) (pa_cons (pv 0) (pa_cons (pv 1) (pa_cons (pv 9) (pa_cons (pv 5) pa_nil))))))
      (pss_cons (ps_if (pt_cmpR (opIn K) (pe_ix (ixT K) (pv 9) pe_int (fun _ _ => rfl)) (pe_lst (pa_cons pe_str (pa_cons pe_str (pa_cons pe_str pa_nil)))) (by rfl))
        (pss_one (ps_expr (pe_bm PySem.F.plainAttrs_list PySem.F.slot_list_append PySem.F.type_list_append mtApp (pv 4) (pa_cons (pe_ix ixS pe_str (pe_m1 PySem.F.slot_str_index PySem.F.type_str_index mtIdx pe_str (pe_ix (ixT K) (pv 9) pe_int (fun _ _ => rfl))) (fun _ _ => rfl)) pa_nil))))
        pss_nil)
      (pss_one (ps_if (pt_cmpR (opIn K) (pe_ix (ixT K) (pv 9) pe_int (fun _ _ => rfl)) (pe_lst (pa_cons pe_str (pa_cons pe_str (pa_cons pe_str pa_nil)))) (by rfl))
        (pss_one (ps_expr (pe_bm0 PySem.F.plainAttrs_list PySem.F.slot_list_pop PySem.F.type_list_pop mtPopS (pv 4))))
        pss_nil)))))))))
    (pss_cons (ps_for PassesOwn.never rfl (pi_reversed (by rfl) T2.z_reversed (pa_cons (pv 4) pa_nil)) (pg_name (i := 10) sc_line.nd rfl (Or.inl rfl))
      (pss_cons (ps_set (i := 5) sc_line.nd rfl (Or.inl rfl) (pe_cal G_broken (hr.mono (by omega)) (by rfl) (pa_cons (pv 0) (pa_cons (pv 1) (pa_cons (pv 5) (pa_cons pe_bl (pa_cons pe_int pa_nil)))))))
      (pss_one (ps_set (i := 5) sc_line.nd rfl (Or.inl rfl) (pe_cal G_lay (hr.mono (by omega)) (by rfl) (pa_cons (pv 0) (pa_cons (pv 1) (pa_cons (pe_tup (pa_cons pe_str (pa_cons (pv 10) (pa_cons (pv 10) pa_nil)))) (pa_cons (pv 5) pa_nil)))))))))
    (pss_cons (ps_expr (pe_bm PySem.F.plainAttrs_list PySem.F.slot_list_append PySem.F.type_list_append mtApp (pe_ix (ixL K) (pv 1) pe_int (fun _ _ => rfl)) (pa_cons (pe_tup (pa_cons pe_str (pa_cons pe_str (pa_cons (pe_ix (ixL K) (pe_ix (ixL K) (pv 1) pe_int (fun _ _ => rfl)) pe_int (fun _ _ => rfl)) (pa_cons (pe_ix (ixL K) (pe_ix (ixL K) (pv 1) pe_int (fun _ _ => rfl)) pe_int (fun _ _ => rfl)) pa_nil))))) pa_nil)))
    (pss_one (ps_expr (pe_cal G_row_end (hr.mono (by omega)) (by rfl) (pa_cons (pv 0) (pa_cons (pv 1) pa_nil)))))))))), ?_⟩
    tm_at "goo"
    obtain ⟨C, eC⟩ : ∃ q, q = p := ⟨_, rfl⟩
    subst eC
    have np0 : H C = none := np
    have N0 : Fr [] H (upd H C (.lst [])) := Fr.new np
    have nC : C ≠ b ∧ C ≠ A ∧ C ≠ R ∧ C ≠ Tk := by
      obtain ⟨Sp, hA, _⟩ := pg.hA
      obtain ⟨xs, hT, _⟩ := pg.hT
      have hR := pg.hR
      obtain ⟨_, hb⟩ := pg.hb.has
      refine ⟨fun e => ?_, fun e => ?_, fun e => ?_, fun e => ?_⟩ <;> rw [e] at np
      · rw [hb] at np; cases np
      · rw [hA] at np; cases np
      · rw [hR] at np; cases np
      · rw [hT] at np; cases np
    have l0 : LiA K H (upd H C (.lst [])) b A R Tk C [] st1.ind toks.length st st1 0 4500 := by
      refine ⟨⟨rows, cur, toks, cnt, sa, sb, pg.fr0 N0, li, hcnt, by omega, fun _ => hc44⟩, by rw [o0]; exact upd_same, nC, fun x m => (by rw [o0] at m; cases m), ⟨by rw [o0, o1], by omega, rfl⟩, by omega, by rw [o0]; exact Nat.zero_le _, fun _ => o0, ⟨by decide, by decide⟩, pg.rf.comp0 N0⟩
    refine ⟨LIE K H b A R Tk C many least st1.ind toks.length, ?_, fun σ HE hE => ?_⟩
    rotate_left
    · unfold LIE at hE
      obtain ⟨bf, st2, st3, x6, x7, x8, x9, x10, rfl, la, hpos⟩ := hE
      have hCE := la.hC
      obtain ⟨opE, eE⟩ : ∃ q, q = st2.op := ⟨_, rfl⟩
      have oE6 : opE.length ≤ 6 := by rw [eE]; exact la.o6
      have owE : ∀ x ∈ opE, x.1 ∈ opens := by rw [eE]; exact la.ow
      rw [← eE] at hCE
      have lE := clsL_len opE
      obtain ⟨rowsE, curE, toksE, cntE, saE, sbE, pgE, liE, hcE, htE, _⟩ := la.ex
      have e3 : st3 = st2 := by
        rcases liE.st1 with ⟨_, z⟩ | ⟨z, _⟩
        · exact z
        · omega
      rw [e3] at liE
      tm_at "goo"
      refine ⟨C, _, rfl, .of hCE, ?_⟩
      refine for_it walk_rev (LIR K H b A R Tk C many least st1.ind toks.length opE) ?_ (fun j σ H3 hj hq => ?_) (fun j x σ H3 H4 hj hq hy => ?_) (fun σ H3 hq => ?_)
      · unfold LIR
        exact ⟨bf, st2, rowsE, curE, toksE, cntE, saE, sbE, _, _, _, _, _, rfl, pgE, liE, by omega, htE, hCE, by rw [← eE]; rfl, la.mn, hpos, by rw [← e3]; exact la.o1.2.2, la.bl.1, la.bl.2, la.fr⟩
      · unfold LIR at hq
        obtain ⟨_, _, _, _, _, _, _, _, _, _, _, _, _, _, _, _, _, _, h, _⟩ := hq
        exact .of h
      · unfold LIR at hq
        obtain ⟨bf, stj, rows3, cur3, toks3, cnt3, sa3, sb3, x6, x7, x8, x9, x10, rfl, pg3, li3, hc3, ht3, hC3, eo3, mn3, mp3, in3, bl3, bl4, fr3⟩ := hq
        obtain ⟨rfl, hx⟩ := hy
        rw [lE] at hj
        obtain ⟨t, _, ed, mt, rfl⟩ := clsL_rev hj hx
        have hB3 := pg3.hb
        tm_at "goo"
        refine brkL_step (wide := 4) pg3 li3 (by omega) (fun _ => ⟨by rw [eo3, ed]; exact List.cons_ne_nil _ _, mp3⟩) (by omega) fun H6 rows6 cur6 cnt6 bf6 pg6 li6 hbf hch6 hw6 f6 => ?_
        tm_at "goo"
        have N7 := Fr.new (o := pcV "sign" (.str (S (clo t.1))) (clo t.1)) np
        have hC6 := f6.kp C _ hC3 (by simpa using la.cn)
        have mo := owE t mt
        have lc : (clo t.1).length = 1 := by unfold clo; split <;> (try split) <;> rfl
        have hk : ∀ l k, ∃ stX, keep stj "sign" (.str (S (clo t.1))) l k = .ok stX := fun l k => (keep_close (by omega) mo (by rw [eo3]; exact ed)).elim fun x q => ⟨x, q.1⟩
        have bl6 : bf6 ≠ [47] ∧ bf6.length ≤ 40 := by
          rcases hbf with rfl | rfl
          · exact ⟨bl3, bl4⟩
          · exact ⟨by decide, by decide⟩
        refine layL_step (p := p) (pg6.fr0 N7) li6 upd_same (pc_close mo) (.inl ⟨_, rfl, clo_ok _, by decide⟩) bl6 (by omega) (by omega) (by rcases hw6 with z | z | z; cases z; omega; omega) hk fun H8 cur8 toks8 sa8 sb8 st8 l8 c8 pg8 ek li8 ht8 f8 => ?_
        tm_at "goo"
        show LIR K H b A R Tk C many least st1.ind toks.length opE (j + 1) _ _
        unfold LIR
        have e8 := keep_mk ek
        have eo8 : st8.op = opE.drop (j + 1) := by
          obtain ⟨s2, z1, z2⟩ := keep_close (l := l8) (k := c8) (st := stj) (by omega) mo (by rw [eo3]; exact ed)
          rw [z1] at ek
          cases ek
          exact z2
        exact ⟨_, st8, _, _, _, _, _, _, _, _, _, _, _, rfl, pg8, li8, by omega, by omega, f8.kp C _ (N7.at0 hC6) (by simpa using la.cn), eo8, by omega, by omega, by rw [e8.2.1]; exact in3, (pc_close mo).sl, (pc_close mo).le, ((fr3.trans f6).comp0 N7).trans f8⟩
      · unfold LIR at hq
        obtain ⟨bf, stj, rows3, cur3, toks3, cnt3, sa3, sb3, x6, x7, x8, x9, x10, rfl, pg3, li3, hc3, ht3, hC3, eo3, mn3, mp3, in3, bl3, bl4, fr3⟩ := hq
        rw [lE, List.drop_length] at eo3
        rw [lE] at hc3 mn3
        obtain ⟨Sp3, hA3, hS3, _⟩ := pg3.hA
        obtain ⟨xs3, hT3, dT3⟩ := pg3.hT
        have hxl := dT3.1
        tm_at "goo"
        have N4 := Fr.new (o := .tup [.str (Str.ofString "newline"), .str (Str.ofString ""), .int (sa3 : Nat), .int (sb3 : Nat)]) np
        have rl3 : rows3.length ≤ 7000 := by have := rows_le rows3; have := li3.tot; omega
        have pgN := (pg3.fr0 N4).app (N4.at0 hT3) (Den.tups (ts := [.str (Str.ofString "newline"), eW, .int (sa3 : Nat), .int (sb3 : Nat)]) upd_same (.cons (.str _) (.cons (.str _) (.cons (.int _) (.cons (.int _) .nil))))) hp fr
        refine re_step pgN (by omega) li3.cl li3.cc fun H9 rows9 cnt9 pg9 rend f9 => ?_
        tm_at "goo"
        obtain ⟨st9, pi9, in9⟩ := li3.end_ mp3 eo3 rend
        have fA : Fr [b, A, R, Tk] H H1 := (fr3.comp0 N4).subs fr (by simp)
        have rle := rend.le
        have sa1 : 1 ≤ sa3 := by
          obtain ⟨_, _, _, _, e⟩ := li3.sc
          have := e mp3 eo3
          omega
        exact k H9 rows9 _ cnt9 _ _ st9 pg9 pi9 (by simp) sa1 (by rw [in9]; exact in3) (by omega) (by simp; omega) (fA.trans f9)
    all_goals try tm_at "goo"
    refine forR (lo := 0) (LI1 K H b A R Tk C many least st1.ind toks.length) ?_ (fun i σ H3 hi hq => ?_) (fun σ H3 hq => ?_)
    · unfold LI1
      exact ⟨[], st, st1, _, _, _, _, _, rfl, l0, fun z => absurd z (Nat.lt_irrefl _)⟩
    · unfold LI1 at hq
      obtain ⟨bf, st2, st3, x6, x7, x8, x9, x10, rfl, la, hpos⟩ := hq
      obtain ⟨rows2, cur2, toks2, cnt2, sa2, sb2, pg2, li2, hc2, ht2, h44⟩ := la.ex
      have hB2 := pg2.hb
      have hC := la.hC
      have o6 := la.o6
      have l3 : (Str.ofString "([{").length = 3 := by decide +kernel
      have lz : (strsV (clsL st2.op)).length = st2.op.length := by unfold strsV clsL; simp
      tm_at "goo"
      refine ⟨LI2 K H b A R Tk C many least st1.ind toks.length i bf st2 st3 (some (.int (0 + (i : Int)))) x10, ?_, fun σ H4 hw => ?_⟩
      · show tIfS _ _ _ _ _ _
        have o6' : i = 0 → st2.op.length < 6 := fun z => by rw [la.o0 (by have := la.mn; omega)]; decide
        tm_at "goo"
        all_goals try refine pc_step (by assumption) fun p kd w sp H5 np5 hp5 pk5 hB5 f5 => ?_
        all_goals try tm_at "goo"
        all_goals first
          | (exfalso; omega)
          | (refine li2_of la (by tm_at "fr") (Box.fr0 (Fr.new (by assumption)) (by assumption)) upd_same (pc_open (mem_opens hch)) (.inl ⟨_, rfl, open_ok (mem_opens hch), by decide⟩) (.inr (.inl ⟨_, mem_opens hch, rfl, rfl, rfl, ?_⟩)); rw [lz] at *; omega)
          | (refine li2_of la (by tm_at "fr") hB5 hp5 pk5.wd pk5.lf (.inl pk5.nb))
          | (obtain ⟨t, r, eo⟩ : ∃ t r, st2.op = t :: r := by
               cases hh : st2.op with
               | nil => have l0 : st2.op.length = 0 := (by rw [hh]; rfl); rw [lz] at *; exfalso; omega
               | cons t r => exact ⟨t, r, rfl⟩
             have ez : strsV (clsL st2.op) = strsV (clsL r) ++ [.str (S (clo t.1))] := by rw [eo, clsL_cons]; unfold strsV; simp
             have mt : t.1 ∈ opens := la.ow _ (by rw [eo]; exact List.mem_cons_self)
             have hz := fr.at1 hC la.cn.1
             rw [ez] at hz
             refine ixr_step (.of hz) (atI_last _ _) ?_
             tm_at "goo"
             refine ixr_step (.of hz) (atI_last _ _) ?_
             tm_at "goo"
             refine li2_of la (by tm_at "fr") (Box.fr0 (Fr.new (by assumption)) (by assumption)) upd_same (pc_close mt) (.inl ⟨_, rfl, clo_ok _, by decide⟩) (.inr (.inr ⟨t, r, eo, mt, rfl, rfl, rfl⟩)))
      · unfold LI2 at hw
        obtain ⟨x7, x8, q0, kd, w, sp, rfl, la4, hpc, wd, lf, pk, ncp⟩ := hw
        have hC4 := la4.hC
        obtain ⟨rows4, cur4, toks4, cnt4, sa4, sb4, pg4, li4, hc4, ht4, h444⟩ := la4.ex
        have hB4 := pg4.hb
        obtain ⟨Sp4, hA4, _⟩ := pg4.hA
        have hp4 : H4 q0 = some (.tup [.str (Str.ofString kd), vW w, .str (S sp)]) := hpc
        tm_at "goo"
        refine eqNew_step (by assumption) hC4 (cmps_strs (n := 1) fun l m => ?_) (by omega) ?_
        · unfold clsL at m
          obtain ⟨x, _, rfl⟩ := List.mem_map.mp m
          exact clo_ok _
        have N4 := Fr.new (o := .lst []) (by assumption : H4 _ = none)
        have pg5 := pg4.fr0 N4
        have hp5 := N4.at0 hp4
        have hC5 := N4.at0 hC4
        have rl : rows4.length ≤ 5000 := by have := rows_le rows4; have := li4.tot; omega
        have wl := wd.le
        tm_at "goo"
        refine brkL_step (wide := sp.length + 3) pg5 li4 (by omega) (fun z => ?_) (by omega) fun H6 rows6 cur6 cnt6 bf6 pg6 li6 hbf hch6 hw6 f6 => ?_
        · have ho : st2.op ≠ [] := fun e => by rw [e] at z; cases z
          exact ⟨ho, Nat.pos_of_ne_zero fun e => ho (la4.o0 e)⟩
        have hB6 := pg6.hb
        have hC6 := f6.kp C _ hC5 (by simpa using la4.cn)
        have hp6 := f6.kp q0 _ hp5 (fun m => pg5.nt q0 m _ hp5)
        obtain ⟨Sp6, hA6, _⟩ := pg6.hA
        have cl6 := li6.cl
        have hc6 : cnt6 ≤ 4657 := by omega
        have la6 : LiA K H H6 b A R Tk C bf6 st1.ind toks.length st2 st3 i 4657 := by
          refine ⟨⟨rows6, cur6, toks4, cnt6, sa4, sb4, pg6, li6, by omega, ht4, fun z => ?_⟩, hC6, la4.cn, la4.ow, la4.o1, la4.mn, la4.o6, la4.o0, ?_, (la4.fr.comp0 N4).trans f6⟩
          · rcases hch6 with ⟨_, rfl, _⟩ | ⟨z2, _⟩
            · exact h444 z
            · omega
          · rcases hbf with rfl | rfl
            · exact la4.bl
            · exact ⟨by decide, by decide⟩
        have hps : st2.many = 0 → cnt6 ≤ 4500 ∧ cur6.length ≤ 44 := fun z => by
          rcases hch6 with ⟨_, rfl, e⟩ | ⟨z2, _⟩
          · exact ⟨by omega, h444 z⟩
          · omega
        tm_at "goo"
        · show LIE K H b A R Tk C many least st1.ind toks.length _ _
          unfold LIE
          refine ⟨bf6, st2, st3, _, _, _, _, _, rfl, la6.up (by omega), Nat.pos_of_ne_zero fun z => ?_⟩
          have := hps z
          first | omega | (simp only [S_len] at *; omega)
        · show LIE K H b A R Tk C many least st1.ind toks.length _ _
          unfold LIE
          refine ⟨bf6, st2, st3, _, _, _, _, _, rfl, la6.up (by omega), Nat.pos_of_ne_zero fun z => ?_⟩
          have := hps z
          omega
        · have eop : st3.op = st2.op := la6.o1.1
          have em : st3.many = st2.many := la6.o1.2.1
          have mi := la6.mn
          have hbl := la6.bl
          have hk3 : ∀ l k, ∃ stX, keep st3 kd w l k = .ok stX := fun l k => by
            rcases pk with z | ⟨o, mo, rfl, rfl, rfl, _⟩ | ⟨t, r, eo, mt, rfl, rfl, rfl⟩
            · exact (keep_plain (by omega) z).elim fun x q => ⟨x, q.1⟩
            · exact (keep_open (by omega) mo).elim fun x q => ⟨x, q.1⟩
            · exact (keep_close (by omega) mt (by rw [eop]; exact eo)).elim fun x q => ⟨x, q.1⟩
          refine layL_step pg6 li6 hp6 wd lf hbl (by omega) (by omega) (by first | omega | (simp only [S_len] at *; omega)) hk3 fun H7 cur7 toks7 sa7 sb7 st7 l7 c7 pg7 ek li7 ht7 f7 => ?_
          have hp7 := f7.kp q0 _ hp6 (fun m => pg6.nt q0 m _ hp6)
          have hC7 := f7.kp C _ hC6 (by simpa using la4.cn)
          tm_at "goo"
          rw [opLit]
          have N8 := Fr.new (o := .lst (strsV opens)) (by assumption : H7 _ = none)
          refine inLs_step (ls := opens) (.of upd_same) ?_
          tm_at "goo"
          · have mo : sp ∈ opens := by simpa using c
            obtain ⟨j, hj⟩ := List.getElem?_of_mem mo
            have hj3 : j < 3 := (List.getElem?_eq_some_iff.mp hj).1
            have lc : (Str.ofString ")]}").length = 3 := by decide +kernel
            refine idx_step hj ?_
            refine ixA_step (by omega) (by omega) (by omega) fun ch8 hch8 => ?_
            have ech := clo_at hj hch8
            rw [ech]
            tm_at "goo"
            rw [clLit]
            have M8 := Fr.new (o := .lst (strsV clsg)) (by assumption : H1 _ = none)
            refine inLs_step (ls := clsg) (.of upd_same) ?_
            have nc : decide (sp ∈ clsg) = false := decide_eq_false fun m => absurd m (by
              have all : ∀ x ∈ opens, x ∉ clsg := by decide
              exact all _ mo)
            rw [nc]
            tm_at "goo"
            · cases c
            · rcases pk_op wd pk eop (by omega) ek with ⟨_, eo7, l6⟩ | ⟨no, _⟩ | ⟨no, _⟩
              · show LI1 K H b A R Tk C many least st1.ind toks.length (i + 1) _ _
                have e7 := keep_mk ek
                have pg8 := ((pg7.fr0 N8).frC (N8.at0 hC7) la4.cn fr).fr0 M8
                refine li1_next pg8 li7 (by omega) (by omega) ?_ la4.cn (fun x m => ?_) (by rw [e7.2.1]; exact la6.o1.2.2) (by omega) (by omega) (by rw [eo7]; simp; omega) ⟨wd.sl, wd.le⟩ ((((la6.fr.trans f7).comp0 N8).compN fr np0).comp0 M8)
                · rw [eo7, clsL_cons]
                  have := M8.at0 hp
                  unfold strsV at this ⊢
                  rw [List.map_append]
                  exact this
                · rw [eo7] at m
                  rcases List.mem_cons.mp m with rfl | m
                  · exact mo
                  · exact la4.ow x m
              · exact absurd mo no
              · exact absurd mo no
          · have no : sp ∉ opens := by simpa using c
            rw [clLit]
            have M8 := Fr.new (o := .lst (strsV clsg)) (by assumption : upd H7 _ _ _ = none)
            refine inLs_step (ls := clsg) (.of upd_same) ?_
            tm_at "goo"
            · have mc : sp ∈ clsg := by simpa using c
              rcases pk_op wd pk eop (by omega) ek with ⟨z, _⟩ | ⟨_, _, t, eo7, mt, esp⟩ | ⟨_, nc, _⟩
              · exact absurd z no
              · have hC8 := M8.at0 (N8.at0 hC7)
                have ez : strsV (clsL st2.op) = strsV (clsL st7.op) ++ [.str (S (clo t.1))] := by rw [eo7, clsL_cons]; unfold strsV; simp
                rw [ez] at hC8
                refine popL_step hC8 fun H9 h9 f9 => ?_
                tm_at "goo"
                show LI1 K H b A R Tk C many least st1.ind toks.length (i + 1) _ _
                have e7 := keep_mk ek
                have pg9 := ((pg7.fr0 N8).fr0 M8).frC (M8.at0 (N8.at0 hC7)) la4.cn f9
                have l7 : st2.op.length = st7.op.length + 1 := by rw [eo7]; rfl
                have := la4.o6
                exact li1_next pg9 li7 (by omega) (by omega) h9 la4.cn (fun x m => la4.ow x (by rw [eo7]; exact List.mem_cons_of_mem _ m)) (by rw [e7.2.1]; exact la6.o1.2.2) (by omega) (by omega) (by omega) ⟨wd.sl, wd.le⟩ ((((la6.fr.trans f7).comp0 N8).comp0 M8).compN f9 np0)
              · exact absurd mc nc
            · have nm : sp ∉ clsg := by simpa using c
              rcases pk_op wd pk eop (by omega) ek with ⟨z, _⟩ | ⟨_, z, _⟩ | ⟨_, _, eo7⟩
              · exact absurd z no
              · exact absurd z nm
              · show LI1 K H b A R Tk C many least st1.ind toks.length (i + 1) _ _
                have e7 := keep_mk ek
                have := la4.o6
                exact li1_next ((pg7.fr0 N8).fr0 M8) li7 (by omega) (by omega) (by rw [eo7]; exact M8.at0 (N8.at0 hC7)) la4.cn (fun x m => la4.ow x (by rw [← eo7]; exact m)) (by rw [e7.2.1]; exact la6.o1.2.2) (by omega) (by omega) (by rw [eo7]; exact la4.o6) ⟨wd.sl, wd.le⟩ (((la6.fr.trans f7).comp0 N8).comp0 M8)
    · unfold LI1 at hq
      obtain ⟨bf, st2, st3, x6, x7, x8, x9, x10, rfl, la, hpos⟩ := hq
      show LIE K H b A R Tk C many least st1.ind toks.length _ _
      unfold LIE
      refine ⟨bf, st2, st3, _, _, _, _, _, rfl, ?_, hpos (by omega)⟩
      exact ⟨let ⟨r, c, t, m, x, y, pg, z, z1, z2⟩ := la.ex; ⟨r, c, t, m, x, y, pg, z, by omega, z2⟩, la.hC, la.cn, la.ow, la.o1, la.mn, la.o6, la.o0, la.bl, la.fr⟩
end
end TK
set_option Elab.async false
set_option linter.all false
set_option maxRecDepth 100000
set_option maxHeartbeats 4000000
/-! a line's margin -/
namespace TK
open PySem PySem.Spec PyProof.Rows L2 M14 SX K4
def wV (ind : List Nat) : List V := ind.reverse.map fun x => V.int (x : Nat)
theorem wV_len (ind : List Nat) : (wV ind).length = ind.length := by unfold wV; simp
theorem wV_cons (x : Nat) (ind : List Nat) : wV (x :: ind) = wV ind ++ [.int (x : Nat)] := by unfold wV; simp
theorem wV_last {ind : List Nat} (h : ind ≠ []) : atI (wV ind) (-1) = some (.int ((ind.headD 0 : Nat) : Int)) := by
  cases ind with
  | nil => exact absurd rfl h
  | cons x r => rw [wV_cons]; exact atI_last _ _
theorem wV_zero {ind : List Nat} (h : IndOk ind) : ∃ r, wV ind = .int 0 :: r ∧ r.length + 1 = ind.length := by
  have e := indO_last h
  obtain ⟨a, ha⟩ : ∃ a, ind = a ++ [0] := List.getLast?_eq_some_iff.mp e
  refine ⟨a.reverse.map fun x => V.int (x : Nat), ?_, ?_⟩
  · rw [ha]; unfold wV; simp
  · rw [ha]; simp
/-- the page and the widths -/
structure PgW (K : PySem.W.Frag) (H : Hp) (b A R Tk W : Addr) (rows : List (List Nat)) (cur : List Nat) (toks : List T) (cnt sa sb : Nat) (ind : List Nat) : Prop where
  pg : PgA K H b A R Tk rows cur toks cnt sa sb
  hW : H W = some (.lst (wV ind))
  ok : IndOk ind
  le : ind.length ≤ 11
  sa0 : 1 ≤ sa ∨ ind = [0]
  nw : W ≠ b ∧ W ≠ A ∧ W ≠ R ∧ W ≠ Tk
section
variable {K : PySem.W.Frag} {H H' : Hp} {b A R Tk W : Addr} {rows : List (List Nat)} {cur : List Nat} {toks : List T} {cnt sa sb : Nat} {ind : List Nat}
theorem PgW.nsp (p : PgW K H b A R Tk W rows cur toks cnt sa sb ind) {Sp : Addr} (h : H Sp = some (.lst [.int (sa : Nat), .int (sb : Nat)])) : Sp ≠ W := by
  rintro rfl
  rw [p.hW] at h
  obtain ⟨r, e, l⟩ := wV_zero p.ok
  rw [e] at h
  injection h with h
  injection h with h
  injection h with h1 h2
  rcases p.sa0 with z | z
  · injection h1 with h1; omega
  · rw [h2, z] at l; simp at l
theorem PgW.nt (p : PgW K H b A R Tk W rows cur toks cnt sa sb ind) : ∀ a ∈ [b, A, R, Tk, W], ∀ xs, H a ≠ some (.tup xs) := by
  intro a m xs e
  have m : a ∈ [b, A, R, Tk] ∨ a = W := by
    simp only [List.mem_cons, List.not_mem_nil, or_false] at m ⊢
    rcases m with m | m | m | m | m <;> simp [m]
  rcases m with m | rfl
  · exact p.pg.nt a m xs e
  · rw [p.hW] at e; cases e
theorem PgW.rf (p : PgW K H b A R Tk W rows cur toks cnt sa sb ind) : Fr [b, A, R, Tk, W] H H := Fr.refl p.nt
theorem PgA.frW (p : PgW K H b A R Tk W rows cur toks cnt sa sb ind) (f : Fr [W] H H') : PgA K H' b A R Tk rows cur toks cnt sa sb :=
  ⟨let ⟨Sp, h1, h2, n⟩ := p.pg.hA; ⟨Sp, f.at1 h1 (Ne.symm p.nw.2.1), f.at1 h2 (p.nsp h2), n⟩, f.at1 p.pg.hR (Ne.symm p.nw.2.2.1), let ⟨xs, h, d⟩ := p.pg.hT; ⟨xs, f.at1 h (Ne.symm p.nw.2.2.2), d.fr f⟩, p.pg.hb.fr1 f (Ne.symm p.nw.1), p.pg.ab, p.pg.ar, p.pg.at_, p.pg.rb, p.pg.rt, p.pg.tb⟩
theorem PgW.setW {ind' : List Nat} (p : PgW K H b A R Tk W rows cur toks cnt sa sb ind) (f : Fr [W] H H') (h : H' W = some (.lst (wV ind'))) (o : IndOk ind') (l : ind'.length ≤ 11) (s : 1 ≤ sa) : PgW K H' b A R Tk W rows cur toks cnt sa sb ind' := ⟨PgA.frW p f, h, o, l, .inl s, p.nw⟩
theorem PgW.frb (p : PgW K H b A R Tk W rows cur toks cnt sa sb ind) (f : Fr [b] H H') (hb : Box H' b) : PgW K H' b A R Tk W rows cur toks cnt sa sb ind := ⟨p.pg.frb f hb, f.at1 p.hW p.nw.1, p.ok, p.le, p.sa0, p.nw⟩
theorem PgW.fr0 (p : PgW K H b A R Tk W rows cur toks cnt sa sb ind) (f : Fr [] H H') : PgW K H' b A R Tk W rows cur toks cnt sa sb ind := ⟨p.pg.fr0 f, f.at0 p.hW, p.ok, p.le, p.sa0, p.nw⟩
theorem PgW.app {xs : List V} {v : V} {t : T} (p : PgW K H b A R Tk W rows cur toks cnt sa sb ind) (hT : H Tk = some (.lst xs)) (d : Den K H v t) (h : H' Tk = some (.lst (xs ++ [v]))) (f : Fr [Tk] H H') : PgW K H' b A R Tk W rows cur (toks ++ [t]) cnt sa sb ind := ⟨p.pg.app hT d h f, f.at1 p.hW p.nw.2.2.2, p.ok, p.le, p.sa0, p.nw⟩
end
@[irreducible] def spMg (K : PySem.W.Frag) : Sp := fun vs H Q _ => ∃ (b A R Tk W : Addr) (rows : List (List Nat)) (cnt sa sb : Nat) (st : St) (way : Int), vs = [.ref b, .ref A, .ref W, .int way] ∧ PgW K H b A R Tk W rows [] st.marks cnt sa sb st.ind ∧ (way = 0 ∨ (st.marks ≠ [] ∧ 1 ≤ sa)) ∧ (st.marks = [] → st.ind = [0]) ∧ rows.length ≤ 7000 ∧ st.marks.length ≤ 7000 ∧
  ∀ H' ind2 toks2, PgW K H' b A R Tk W rows (List.replicate (ind2.headD 0) 32) toks2 cnt sa sb ind2 → MgR st (rows.length + 1) ind2 toks2 → toks2.length ≤ st.marks.length + 11 → Fr [b, A, R, Tk, W] H H' → Q .non H'
theorem mg_step {K : PySem.W.Frag} {b A R Tk W : Addr} {rows : List (List Nat)} {cnt sa sb : Nat} {st : St} {way : Int} {H : Hp} {Q : VK} {E : XK} (p : PgW K H b A R Tk W rows [] st.marks cnt sa sb st.ind) (h1 : way = 0 ∨ (st.marks ≠ [] ∧ 1 ≤ sa)) (h2 : st.marks = [] → st.ind = [0]) (h3 : rows.length ≤ 7000) (h4 : st.marks.length ≤ 7000) (k : ∀ H' ind2 toks2, PgW K H' b A R Tk W rows (List.replicate (ind2.headD 0) 32) toks2 cnt sa sb ind2 → MgR st (rows.length + 1) ind2 toks2 → toks2.length ≤ st.marks.length + 11 → Fr [b, A, R, Tk, W] H H' → Q .non H') : spMg K ([.ref b, .ref A, .ref W, .int way] ++ []) H Q E := by
  unfold spMg
  exact ⟨b, A, R, Tk, W, rows, cnt, sa, sb, st, way, rfl, p, h1, h2, h3, h4, k⟩
/-- between the branches -/
@[irreducible] def MG1 (K : PySem.W.Frag) (H0 : Hp) (b A R Tk W : Addr) (rows : List (List Nat)) (cnt sa sb : Nat) (st : St) (way : Int) (q : Prop) (σ : L2.St) (H : Hp) : Prop := ∃ (ind2 : List Nat) (toks2 : List T) (x5 x6 : Option V), σ = [some (.ref b), some (.ref A), some (.ref W), some (.int way), some (.int ((rows.length : Int) + 1)), x5, x6] ∧ PgW K H b A R Tk W rows [] toks2 cnt sa sb ind2 ∧ MgR st (rows.length + 1) ind2 toks2 ∧ toks2.length ≤ st.marks.length + 11 ∧ (q → ind2 = st.ind ∧ toks2 = st.marks) ∧ Fr [b, A, R, Tk, W] H0 H
@[irreducible] def MG2 (K : PySem.W.Frag) (H0 : Hp) (b A R Tk W : Addr) (rows : List (List Nat)) (cnt sa sb : Nat) (st : St) (way : Int) (back : Nat) (i : Nat) (σ : L2.St) (H : Hp) : Prop := ∃ (x6 : Option V), σ = [some (.ref b), some (.ref A), some (.ref W), some (.int way), some (.int ((rows.length : Int) + 1)), some (.int (back : Nat)), x6] ∧ PgW K H b A R Tk W rows [] st.marks cnt sa sb (st.ind.drop i) ∧ Fr [b, A, R, Tk, W] H0 H
@[irreducible] def MG3 (K : PySem.W.Frag) (H0 : Hp) (b A R Tk W : Addr) (rows : List (List Nat)) (cnt sa sb : Nat) (st : St) (way : Int) (back : Nat) (i : Nat) (σ : L2.St) (H : Hp) : Prop := ∃ (x6 : Option V), σ = [some (.ref b), some (.ref A), some (.ref W), some (.int way), some (.int ((rows.length : Int) + 1)), some (.int (back : Nat)), x6] ∧ PgW K H b A R Tk W rows [] (st.marks ++ List.replicate i (tk "dedent" eW (rows.length + 1) ((st.ind.drop back).headD 0 + 1))) cnt sa sb (st.ind.drop back) ∧ Fr [b, A, R, Tk, W] H0 H
section
variable {P : Program} {w : World} {K : PySem.W.Frag} {mg : Str → Option Value} {base : Heap}
set_option hygiene false
local macro_rules | `(tactic| tm_at "sc") => `(tactic| (first | omega | (simp only [List.length_cons, List.length_nil, List.length_map, List.length_set, List.length_append]; omega) | (simp only [List.length_map] at h1 ⊢; omega) | (simp only [List.length_map] at c ⊢; omega) | with_reducible assumption | exact And.intro (by omega) (by omega) | exact Or.inl (And.intro (by omega) (by omega)) | exact Or.inr (And.intro (by omega) (by omega)) | decide +kernel | exact len1000 (by simp) | rfl | fail "no way"))
local macro_rules | `(tactic| tm_at "sc1") => `(tactic| (focus (simp; done)))
local macro_rules | `(tactic| tm_at "ne") => `(tactic| (first | assumption | exact Ne.symm (by assumption) | (apply Box.ne2; assumption; tm_at "hp") | (apply Ne.symm; apply Box.ne2; assumption; tm_at "hp") | (apply ne_of_none2; assumption; tm_at "hp") | (apply Ne.symm; apply ne_of_none2; assumption; tm_at "hp") | fail "no way"))
local macro_rules | `(tactic| tm_at "f0") => `(tactic| (first | assumption | (apply Fr.new; assumption) | fail "no way"))
local macro_rules | `(tactic| tm_at "hp") => `(tactic| (first | assumption | exact upd_same | (apply SqL.of; first | assumption | exact upd_same) | (apply Fr.at0; tm_at "f0"; tm_at "hp") | (apply Fr.at1n; assumption; tm_at "ne"; tm_at "hp") | (apply sqFr0; tm_at "f0"; tm_at "hp") | (apply sqFr1; assumption; tm_at "ne"; tm_at "hp") | (apply Box.fr0; tm_at "f0"; tm_at "hp") | (apply Box.fr1; assumption; tm_at "ne"; tm_at "hp") | (apply Den.fr; tm_at "f0"; tm_at "hp") | (apply Dens.fr; tm_at "f0"; tm_at "hp") | fail "no way"))
local macro_rules | `(tactic| tm_at "free0") => `(tactic| (first | assumption | (apply updFree; assumption) | (apply updFree; apply updFree; assumption) | (apply updFree; apply updFree; apply updFree; assumption) | (apply updFree; apply updFree; apply updFree; apply updFree; assumption) | fail "no way"))
local macro_rules | `(tactic| tm_at "free") => `(tactic| (first | tm_at "free0" | (apply Fr.free; assumption; tm_at "free0") | (apply Box.free; assumption; tm_at "fr"; tm_at "free0") | (apply Fr.free; assumption; apply Fr.free; assumption; tm_at "free0") | fail "no way"))
local macro_rules | `(tactic| tm_at "fr") => `(tactic| (first | assumption | exact Fr.refl0 _ | exact Fr.refl (Box.nt (by assumption)) | (refine Fr.comp0 ?_ (by tm_at "f0"); tm_at "fr") | (refine Fr.comp ?_ (by assumption); tm_at "fr") | (refine Fr.compN ?_ (by assumption) (by tm_at "free"); tm_at "fr") | fail "no way"))
local macro_rules | `(tactic| tm_at "call") => `(tactic| fail "no call")
local macro_rules | `(tactic| tm_at "call") => `(tactic| (apply take_step; tm_at "hp"; tm_at "sc"; tm_at "sc"; intro r H1 h0 h1 hB fr))
local macro_rules | `(tactic| tm_at "ty") => `(tactic| (first | assumption | exact .base .non | exact .base (.bl _) | exact .base (.int _) | exact .base (.str _) | (apply TyX.base; apply TyOf.lst; tm_at "hp") | (apply TyX.base; apply TyOf.tup; tm_at "hp") | fail "no way"))
local macro_rules | `(tactic| tm_at "pre") => `(tactic| fail "none")
local macro_rules | `(tactic| tm_at "go1") => `(tactic| (first | tm_at "pre" | refine ⟨_, rfl, ?_⟩ | refine ⟨_, _, rfl, rfl, ?_⟩ | (apply set_step; tm_at "hp"; tm_at "sc"; tm_at "sc"; intro H1 hp fr) | (with_reducible refine iteDI ?_ ?_ <;> intro c) | (with_reducible refine iteDS ?_ ?_ <;> intro c) | (with_reducible refine iteD ?_ ?_ <;> intro c) | (with_reducible refine iteEM ?_ ?_ <;> intro c) | (with_reducible refine iteE ?_ ?_ <;> intro c) | with_reducible refine iteN ?_ | with_reducible refine iteF ?_ | with_reducible refine iteT ?_ | (refine fun (p : Addr) (np : _ = (none : Option HO)) => ?_; fail_if_success (refine ⟨fun (_ _ : Nat) (_ : Hp) => True, ?_⟩)) | (apply isi_tt; tm_at "ty"; focus (decide +kernel)) | (apply isi_ff; tm_at "ty"; focus (decide +kernel)) | (apply sl_step; tm_at "hp"; intro qq H1 ms nq hq fr) | (apply sum_step; tm_at "hp"; intro i) | (apply tru_step; tm_at "hp") | (apply len_step; tm_at "hp") | (apply lenq_step; assumption) | (apply ixq_step; assumption; tm_at "sc"; tm_at "sc"; intro v hv) | (apply lst_step; tm_at "hp") | (apply tupl_step; tm_at "hp") | (apply ixr_step; tm_at "hp"; exact rfl) | (apply ix0_step; tm_at "hp") | (apply ix1_step; tm_at "hp") | (apply ix2_step; tm_at "hp") | (apply ixi_step; tm_at "hp"; tm_at "sc"; tm_at "sc"; intro n hn hn') | (apply ixl_step; tm_at "hp"; tm_at "sc"; tm_at "sc"; intro v hv) | (apply ixt_step; tm_at "hp"; tm_at "sc"; tm_at "sc"; intro v hm hv) | (apply in_step; tm_at "hp"; rfl; rfl) | (apply cat_step; tm_at "hp"; tm_at "hp"; tm_at "sc") | (apply catT_step; tm_at "hp"; tm_at "hp"; tm_at "sc1") | (apply tyL_and; tm_at "hp") | (apply app_step; tm_at "hp"; tm_at "sc"; intro H1 hp fr) | tm_at "call" | refine ⟨⟨_, rfl⟩, ?_⟩ | (apply ixs_step; tm_at "sc"; tm_at "sc"; tm_at "sc"; intro ch) | refine .inl ⟨_, rfl, ?_⟩ | refine .inr ⟨_, rfl, ?_⟩ | (apply And.intro; tm_at "sc") | (with_reducible refine wayB ?_ ?_ <;> intro c) | fail "no way"))
local macro_rules | `(tactic| tm_at "go") => `(tactic| (repeat tm_at "go1"))
local macro_rules | `(tactic| tm_at "goo") => `(tactic| (repeat' tm_at "go1"))
local macro_rules | `(tactic| tm_at "den") => `(tactic| (first | assumption | exact Den.str _ | exact Den.int _ | exact Den.bl _ | exact Den.non | (apply Den.tups; tm_at "hp"; tm_at "dens") | (apply Den.fr; tm_at "f0"; tm_at "den") | fail "no way"))
local macro_rules | `(tactic| tm_at "dens") => `(tactic| (first | assumption | exact Dens.nil | (apply Dens.cons; tm_at "den"; tm_at "dens") | (apply Dens.fr; tm_at "f0"; tm_at "dens") | fail "no way"))
local macro_rules | `(tactic| tm_at "ix") => `(tactic| (apply Ix.mk; tm_at "hp"; tm_at "ne"; assumption; assumption))
local macro_rules | `(tactic| tm_at "dep") => `(tactic| (first | assumption | exact Dep.int | exact Dep.str | exact Dep.bl | exact Dep.non | (apply Dep.tup; tm_at "dlen"; tm_at "deps") | (apply Dep.mono; assumption; decide) | fail "no way"))
local macro_rules | `(tactic| tm_at "deps") => `(tactic| (first | assumption | exact memN | (apply memC; tm_at "dep"; tm_at "deps") | fail "no way"))
local macro_rules | `(tactic| tm_at "dlen") => `(tactic| (first | assumption | (focus (simp; done)) | omega | fail "no way"))
local macro_rules | `(tactic| tm_at "pre") => `(tactic| (apply rep_step; tm_at "hp"; tm_at "sc"; tm_at "sc"; intro rp H1 nrp hrp fr))

local macro_rules | `(tactic| tm_at "lits") => `(tactic| (try simp only [l_nl, l_open, l_close, l_sp, l_quo, l_bs, l_minus, l_zero, l_empty, l_n] at c))
local macro_rules | `(tactic| tm_at "pre") => `(tactic| (first | (apply slm_step; tm_at "sc"; tm_at "sc"; tm_at "sc") | (apply slf_step; tm_at "sc"; tm_at "sc") | (apply slt_step; tm_at "sc"; tm_at "sc") | (with_reducible refine iteEqZ ?_ ?_ <;> (intro c; tm_at "lits")) | (apply catS_step; tm_at "sc") | (apply inD_step) | (apply ordS_step) | (apply intS_step; assumption) | (apply sign_step) | (apply lenS_step; tm_at "sc")))
local macro_rules | `(tactic| tm_at "pre") => `(tactic| (apply while_go))
local macro_rules | `(tactic| tm_at "pre") => `(tactic| (apply ixS_step; tm_at "sc"; tm_at "sc"; assumption))
local macro_rules | `(tactic| tm_at "pre") => `(tactic| (apply appB_step; tm_at "hp"; tm_at "sc"; intro H1 hp fr))

local macro_rules | `(tactic| tm_at "pre") => `(tactic| (first | (apply sps_step; (focus (omega)); (focus (omega)))))
set_option pp.deepTerms false
set_option pp.deepTerms.threshold 3
abbrev s_margin : Stmt := top 57
theorem sc_margin : FnScope ["_law_bag_here", "_law_page_here", "_law_widths", "_law_way", "_law_row", "_law_back", "_law_turn"] ["_law_bag_here", "_law_page_here", "_law_widths", "_law_way"] (defScope s_margin) := ⟨rfl, rfl, rfl, by decide +kernel, rfl, by decide +kernel, by decide +kernel⟩

theorem ok_mgn (T : K4.Bl mg) (G_take : Cal P w K mg base 1 "_law_take" ["_law_bag_here", "_law_size"] spTake) (D : Def1 K mg "_law_margin" s_margin) : Cal P w K mg base 2 "_law_margin" ["_law_bag_here", "_law_page_here", "_law_widths", "_law_way"] (spMg K) := by
  refine D.cal sc_margin (fun _ _ _ _ _ _ us hl => match us, hl with | [_, _, _, _], _ => rfl) (fun vs H Q E h => ?_) (fun f cdv A outer s H vs Q E hr h => ?_) <;> unfold spMg at h
  · obtain ⟨b, A, R, Tk, W, rows, cnt, sa, sb, st, way, rfl, _⟩ := h
    rfl
  · obtain ⟨b, A, R, Tk, W, rows, cnt, sa, sb, st, way, rfl, pg, hway, hm0, hrl, hml, k⟩ := h
    have hB := pg.pg.hb
    obtain ⟨Sp, hA, _⟩ := pg.pg.hA
    obtain ⟨xs, hT, dT⟩ := pg.pg.hT
    have hR := pg.pg.hR
    have hW := pg.hW
    have wl := wV_len st.ind
    have hle := pg.le
    have rl : (strsV rows).length = rows.length := by unfold strsV; simp
    refine ⟨_, (pss_cons (ps_set (i := 4) sc_margin.nd rfl (Or.inl rfl) (pe_op op_add (pe_callB (cLen K) (by rfl) T.z_len (by decide +kernel) (pa_cons (pe_ix (ixL K) (pv 1) pe_int (fun _ _ => rfl)) pa_nil)) pe_int))
    (C8.pss_cut (ps_if (PW.pt (pw_and (pt_cmpR op_eq (pv 3) pe_int (nomark _)) (pw_and1 (pt_cmpR op_lt (pe_callB (cLen K) (by rfl) T.z_len (by decide +kernel) (pa_cons (pv 2) pa_nil)) pe_int (nomark _)))))
      (pss_cons (ps_expr (pe_bm PySem.F.plainAttrs_list PySem.F.slot_list_append PySem.F.type_list_append mtApp (pv 2) (pa_cons (pe_op op_add (pe_op op_add (pe_ix (ixL K) (pv 2) (pe_un un_neg pe_int) (fun _ _ => rfl)) pe_int) (pe_cal G_take (hr.mono (by omega)) (by rfl) (pa_cons (pv 0) (pa_cons pe_int pa_nil)))) pa_nil)))
      (pss_one (ps_expr (pe_bm PySem.F.plainAttrs_list PySem.F.slot_list_append PySem.F.type_list_append mtApp (pe_ix (ixL K) (pv 1) pe_int (fun _ _ => rfl)) (pa_cons (pe_tup (pa_cons pe_str (pa_cons pe_str (pa_cons (pv 4) (pa_cons (pe_op op_add (pe_ix (ixL K) (pv 2) (pe_un un_neg pe_int) (fun _ _ => rfl)) pe_int) pa_nil))))) pa_nil)))))
      pss_nil)
    (C8.pss_cut (ps_if (pt_cmpR op_eq (pv 3) pe_int (nomark _))
      (pss_cons (ps_set (i := 5) sc_margin.nd rfl (Or.inl rfl) (pe_cal G_take (hr.mono (by omega)) (by rfl) (pa_cons (pv 0) (pa_cons (pe_callB (cLen K) (by rfl) T.z_len (by decide +kernel) (pa_cons (pv 2) pa_nil)) pa_nil))))
      (pss_cons (ps_for PassesOwn.never rfl (pi_range1 (by rfl) T.z_range (pa_cons (pv 5) pa_nil)) (pg_name (i := 6) sc_margin.nd rfl (Or.inl rfl))
        (pss_one (ps_expr (pe_bm0 PySem.F.plainAttrs_list PySem.F.slot_list_pop PySem.F.type_list_pop mtPopS (pv 2)))))
      (pss_one (ps_for PassesOwn.never rfl (pi_range1 (by rfl) T.z_range (pa_cons (pv 5) pa_nil)) (pg_name (i := 6) sc_margin.nd rfl (Or.inl rfl))
        (pss_one (ps_expr (pe_bm PySem.F.plainAttrs_list PySem.F.slot_list_append PySem.F.type_list_append mtApp (pe_ix (ixL K) (pv 1) pe_int (fun _ _ => rfl)) (pa_cons (pe_tup (pa_cons pe_str (pa_cons pe_str (pa_cons (pv 4) (pa_cons (pe_op op_add (pe_ix (ixL K) (pv 2) (pe_un un_neg pe_int) (fun _ _ => rfl)) pe_int) pa_nil))))) pa_nil))))))))
      pss_nil)
    (pss_one (ps_asg (pe_op op_repS pe_str (pe_ix (ixL K) (pv 2) (pe_un un_neg pe_int) (fun _ _ => rfl))) (pg_sub (pv 1) pe_int setL)))))), ?_⟩
    tm_at "goo"
    rw [rl]
    refine ⟨MG1 K H b A R Tk W rows cnt sa sb st way (way = 3), ?_, fun σ H2 hw => ?_⟩
    · show tIfS _ _ _ _ _ _
      tm_at "goo"
      · have hms : st.marks ≠ [] ∧ 1 ≤ sa := hway.resolve_left (by omega)
        refine ixr_step (.of hW) (wV_last (ind_ne pg.ok)) ?_
        tm_at "goo"
        have hW1 := fr.at1 hW pg.nw.1
        have f1 := fr
        refine app_step hW1 (by omega) fun H2 hW2 f2 => ?_
        obtain ⟨x, hx⟩ : ∃ x : Nat, (x : Int) = ((st.ind.headD 0 : Nat) : Int) + 1 + r := ⟨(((st.ind.headD 0 : Nat) : Int) + 1 + r).toNat, by omega⟩
        have hW2 : H2 W = some (.lst (wV (x :: st.ind))) := by rw [wV_cons, hx]; exact hW2
        have mr := mg_in (l := rows.length + 1) (x := x) pg.ok (by omega) hms.1 (by omega) (by omega)
        have pg2 := (pg.frb f1 hB).setW f2 hW2 mr.ok mr.le hms.2
        obtain ⟨Sp2, hA2, _⟩ := pg2.pg.hA
        obtain ⟨xs2, hT2, dT2⟩ := pg2.pg.hT
        have tl2 := dT2.1
        tm_at "goo"
        refine ixr_step (.of hW2) (wV_last (by simp)) ?_
        tm_at "goo"
        rename_i f3
        have N3 := Fr.new (o := .tup [.str (Str.ofString "indent"), .str (Str.ofString ""), .int ((rows.length : Int) + 1), .int ((x : Nat) + 1 : Int)]) np
        have pg3 := (pg2.fr0 N3).app (N3.at0 hT2) (Den.tups (ts := [.str (Str.ofString "indent"), eW, .int ((rows.length : Int) + 1), .int ((x : Nat) + 1 : Int)]) upd_same (.cons (.str _) (.cons (.str _) (.cons (.int _) (.cons (.int _) .nil))))) hp fr
        show MG1 K H b A R Tk W rows cnt sa sb st way _ _ _
        unfold MG1
        refine ⟨_, _, _, _, rfl, pg3, mr, by simp, fun z => by omega, ?_⟩
        exact (((pg.rf.subs f1 (by simp)).subs f2 (by simp)).comp0 N3).subs fr (by simp)
      · show MG1 K H b A R Tk W rows cnt sa sb st way _ _ _
        unfold MG1
        exact ⟨_, _, _, _, rfl, pg, mg_same pg.ok pg.le hm0, by omega, fun _ => ⟨rfl, rfl⟩, pg.rf⟩
      · show MG1 K H b A R Tk W rows cnt sa sb st way _ _ _
        unfold MG1
        exact ⟨_, _, _, _, rfl, pg, mg_same pg.ok pg.le hm0, by omega, fun _ => ⟨rfl, rfl⟩, pg.rf⟩
    · unfold MG1 at hw
      obtain ⟨ind2, toks2, x5, x6, rfl, pg2, mr2, tl2, hq2, f2⟩ := hw
      have hB2 := pg2.pg.hb
      obtain ⟨Sp2, hA2, _⟩ := pg2.pg.hA
      obtain ⟨xs2, hT2, dT2⟩ := pg2.pg.hT
      have hW2 := pg2.hW
      have wl2 := wV_len ind2
      have hle2 := pg2.le
      have tl3 := dT2.1
      have il2 := List.length_pos_iff.mpr (ind_ne pg2.ok)
      refine ⟨MG1 K H b A R Tk W rows cnt sa sb st way False, ?_, fun σ H3 hw => ?_⟩
      · show tIfS _ _ _ _ _ _
        tm_at "goo"
        · obtain ⟨ei, et⟩ := hq2 c
          subst ei et
          have hms : st.marks ≠ [] ∧ 1 ≤ sa := hway.resolve_left (by omega)
          obtain ⟨back, rfl⟩ : ∃ back : Nat, r = back := ⟨r.toNat, by omega⟩
          have hbk : back < st.ind.length := by omega
          have pgB := pg2.frb fr hB
          have fB := f2.subs fr (by simp)
          have mrO := mg_out (l := rows.length + 1) pg2.ok hle2 hms.1 hbk
          refine forR (lo := 0) (MG2 K H b A R Tk W rows cnt sa sb st way back) ?_ (fun i σ H3 hi hq => ?_) (fun σ H3 hq => ?_)
          · unfold MG2
            exact ⟨_, rfl, pgB, fB⟩
          · unfold MG2 at hq
            obtain ⟨x6, rfl, pg3, f3⟩ := hq
            have hW3 := pg3.hW
            have ed : st.ind.drop i = st.ind[i] :: st.ind.drop (i + 1) := List.drop_eq_getElem_cons (by omega)
            have nn := ind_drop (k := i + 1) pg2.ok (by omega)
            rw [ed, wV_cons] at hW3
            tm_at "goo"
            refine popL_step hW3 fun H4 hW4 f4 => ?_
            tm_at "goo"
            show MG2 K H b A R Tk W rows cnt sa sb st way back (i + 1) _ _
            unfold MG2
            exact ⟨_, rfl, pg3.setW f4 hW4 nn.1 (by rw [List.length_drop]; omega) hms.2, f3.subs f4 (by simp)⟩
          · unfold MG2 at hq
            obtain ⟨x6, rfl, pg3, f3⟩ := hq
            tm_at "goo"
            refine forR (lo := 0) (MG3 K H b A R Tk W rows cnt sa sb st way back) ?_ (fun i σ H4 hi hq => ?_) (fun σ H4 hq => ?_)
            · unfold MG3
              exact ⟨_, rfl, by rw [List.replicate_zero, List.append_nil]; exact pg3, f3⟩
            · unfold MG3 at hq
              obtain ⟨x6, rfl, pg4, f4⟩ := hq
              obtain ⟨Sp4, hA4, _⟩ := pg4.pg.hA
              obtain ⟨xs4, hT4, dT4⟩ := pg4.pg.hT
              have tl4 := dT4.1
              rw [List.length_append, List.length_replicate] at tl4
              have hW4 := pg4.hW
              tm_at "goo"
              refine ixr_step (.of hW4) (wV_last (ind_ne pg4.ok)) ?_
              tm_at "goo"
              have N5 := Fr.new (o := .tup [.str (Str.ofString "dedent"), .str (Str.ofString ""), .int ((rows.length : Int) + 1), .int ((((st.ind.drop back).headD 0 : Nat) : Int) + 1)]) np
              have pg5 := (pg4.fr0 N5).app (N5.at0 hT4) (Den.tups (ts := [.str (Str.ofString "dedent"), eW, .int ((rows.length : Int) + 1), .int ((((st.ind.drop back).headD 0 : Nat) : Int) + 1)]) upd_same (.cons (.str _) (.cons (.str _) (.cons (.int _) (.cons (.int _) .nil))))) hp fr
              show MG3 K H b A R Tk W rows cnt sa sb st way back (i + 1) _ _
              unfold MG3
              refine ⟨_, rfl, ?_, (f4.comp0 N5).subs fr (by simp)⟩
              rw [List.append_assoc] at pg5
              rw [List.replicate_succ']
              exact pg5
            · unfold MG3 at hq
              obtain ⟨x6, rfl, pg4, f4⟩ := hq
              show MG1 K H b A R Tk W rows cnt sa sb st way _ _ _
              unfold MG1
              exact ⟨_, _, _, _, rfl, pg4, mrO, by simp; omega, fun z => z.elim, f4⟩
        · show MG1 K H b A R Tk W rows cnt sa sb st way _ _ _
          unfold MG1
          exact ⟨_, _, _, _, rfl, pg2, mr2, tl2, fun z => z.elim, f2⟩
      · unfold MG1 at hw
        obtain ⟨ind3, toks3, x5, x6, rfl, pg3, mr3, tl3, _, f3⟩ := hw
        obtain ⟨Sp3, hA3, _⟩ := pg3.pg.hA
        have hb3 := ind_hd pg3.ok
        have hl3 := pg3.le
        tm_at "goo"
        refine ixr_step (.of pg3.hW) (wV_last (ind_ne pg3.ok)) ?_
        tm_at "goo"
        have p5 := pg3.pg.cur2 hA3 hp fr
        simp only [Int.toNat_natCast] at p5
        exact k H1 ind3 toks3 ⟨p5, fr.at1 pg3.hW pg3.nw.2.1, pg3.ok, pg3.le, pg3.sa0, pg3.nw⟩ mr3 tl3 (f3.subs fr (by simp))
end
end TK
set_option Elab.async false
set_option linter.all false
set_option maxRecDepth 100000
set_option maxHeartbeats 4000000
/-! tokens are told apart by their data; is_tokens -/
namespace TK
open PySem PySem.Spec PyProof.Rows L2 M14 SX K4
theorem okS_mem {l : List Nat} : okS l = true ↔ ∀ c ∈ l, c < 0x110000 := by
  unfold okS
  rw [List.all_eq_true]
  exact ⟨fun h c m => of_decide_eq_true (h c m), fun h c m => decide_eq_true (h c m)⟩
theorem okS_str (kd : String) : okS (Str.ofString kd).cps.toList = true := by
  refine okS_mem.mpr fun c m => ?_
  rw [Str.ofString_eq_toList] at m
  obtain ⟨x, _, rfl⟩ := List.mem_map.mp (by simpa using m)
  have := x.valid
  rcases this with h | h
  · exact Nat.lt_trans h (by decide)
  · exact h.2
/-- a token's tuple -/
theorem den_tup4 {K : PySem.W.Frag} {H : Hp} {v : V} {kd : String} {w : T} {l k : Nat} (h : Den K H v (tk kd w l k)) : ∃ p wv, v = .ref p ∧ H p = some (.tup [.str (Str.ofString kd), wv, .int (l : Nat), .int (k : Nat)]) ∧ Den K H wv w := by
  unfold tk at h
  cases h with
  | @tup p xs ts hp hl hc =>
    match xs, hl with
    | [x0, x1, x2, x3], _ =>
      have d0 := hc 0 x0 _ rfl rfl
      have d1 := hc 1 x1 _ rfl rfl
      have d2 := hc 2 x2 _ rfl rfl
      have d3 := hc 3 x3 _ rfl rfl
      cases d0
      cases d2
      cases d3
      exact ⟨p, x1, rfl, hp, d1⟩
/-- the data of a token -/
def dT : T → PyData
  | .str z => .str z
  | .int i => .int i
  | .tup [.str a, .str b, .int i, .int j] => .tuple [.str a, .str b, .int i, .int j]
  | .tup [.str a, .int b, .int i, .int j] => .tuple [.str a, .int b, .int i, .int j]
  | _ => .none
theorem cmp_tkw {K : PySem.W.Frag} {H : Hp} {v : V} {t : T} (h : Den K H v t) (o : TkW t) : Cmp K H v 1 (dT t) := by
  obtain ⟨kd, w, l, k, rfl, ow⟩ := o
  obtain ⟨p, wv, rfl, hp, dw⟩ := den_tup4 h
  rcases ow with ⟨s, rfl, os, _⟩ | ⟨n, rfl, _⟩
  · cases dw
    exact .tup (.of hp) (.cons (.strZ (okS_str kd)) (.cons (.str os) (.cons .int (.cons .int .nil))))
  · cases dw
    exact .tup (.of hp) (.cons (.strZ (okS_str kd)) (.cons .int (.cons .int (.cons .int .nil))))
theorem cmps_tkw {K : PySem.W.Frag} {H : Hp} : ∀ {xs : List V} {ts : List T}, Dens K H xs ts → (∀ t ∈ ts, TkW t) → Cmps K H xs 1 (ts.map dT)
  | [], [], _, _ => .nil
  | _ :: _, [], h, _ => by have := h.1; simp at this
  | [], _ :: _, h, _ => by have := h.1; simp at this
  | x :: xs, t :: ts, h, o => by
    obtain ⟨x', r', e, d, r⟩ := h.uncons
    cases e
    exact .cons (cmp_tkw d (o t List.mem_cons_self)) (cmps_tkw r fun t m => o t (List.mem_cons_of_mem _ m))
theorem eqv_dT {t : T} (o : TkW t) : PyData.eqv (dT t) (dT t) = true := by
  obtain ⟨kd, w, l, k, rfl, ow⟩ := o
  rcases ow with ⟨s, rfl, _⟩ | ⟨n, rfl, _⟩ <;> simp [tk, dT, PyData.eqv, PyData.eqvAll]
theorem eqv_dTs : ∀ {ts : List T}, (∀ t ∈ ts, TkW t) → PyData.eqv (.list (ts.map dT)) (.list (ts.map dT)) = true := by
  intro ts h
  have key : ∀ ts : List T, (∀ t ∈ ts, TkW t) → PyData.eqvAll (ts.map dT) (ts.map dT) = true := by
    intro ts
    induction ts with
    | nil => intro _; simp [PyData.eqvAll]
    | cons t r ih =>
      intro h
      rw [List.map_cons, PyData.eqvAll, eqv_dT (h t List.mem_cons_self), ih fun t m => h t (List.mem_cons_of_mem _ m)]
      rfl
  rw [PyData.eqv]
  exact key ts h
@[irreducible] def spWh : Sp := fun vs H Q _ => ∃ i : Int, vs = [.int i] ∧ Q (.bl true) H
theorem wh_step {i : Int} {H : Hp} {Q : VK} {E : XK} (k : Q (.bl true) H) : spWh ([.int i] ++ []) H Q E := by
  unfold spWh
  exact ⟨i, rfl, k⟩
@[irreducible] def spIt (K : PySem.W.Frag) : Sp := fun vs H Q _ => ∃ (L : Addr) (xs : List V) (ts : List T), vs = [.ref L] ∧ H L = some (.lst xs) ∧ Dens K H xs ts ∧ (∀ t ∈ ts, TkW t) ∧ ∀ H', Fr [] H H' → Q (.bl true) H'
theorem it_step {K : PySem.W.Frag} {L : Addr} {xs : List V} {ts : List T} {H : Hp} {Q : VK} {E : XK} (hL : H L = some (.lst xs)) (d : Dens K H xs ts) (o : ∀ t ∈ ts, TkW t) (k : ∀ H', Fr [] H H' → Q (.bl true) H') : spIt K ([.ref L] ++ []) H Q E := by
  unfold spIt
  exact ⟨L, xs, ts, rfl, hL, d, o, k⟩
@[irreducible] def ITM (L : Addr) (H : Hp) (_ : Nat) (σ : L2.St) (H' : Hp) : Prop := ∃ x1, σ = [some (.ref L), x1] ∧ Fr [] H H'
theorem ix3_step {K : PySem.W.Frag} {H : Hp} {p : Addr} {a b c v : V} {Q : VK} (hp : H p = some (.tup [a, b, c, v])) (h : Q v H) : rxT K (.ref p) (.int 3) H Q := by
  unfold rxT
  exact ⟨p, _, 3, v, rfl, rfl, .of hp, rfl, h⟩
section
variable {P : Program} {w : World} {K : PySem.W.Frag} {mg : Str → Option Value} {base : Heap}
set_option hygiene false
local macro_rules | `(tactic| tm_at "sc") => `(tactic| (first | omega | (simp only [List.length_cons, List.length_nil, List.length_map, List.length_set, List.length_append]; omega) | (simp only [List.length_map] at h1 ⊢; omega) | (simp only [List.length_map] at c ⊢; omega) | with_reducible assumption | exact And.intro (by omega) (by omega) | exact Or.inl (And.intro (by omega) (by omega)) | exact Or.inr (And.intro (by omega) (by omega)) | decide +kernel | exact len1000 (by simp) | rfl | fail "no way"))
local macro_rules | `(tactic| tm_at "sc1") => `(tactic| (focus (simp; done)))
local macro_rules | `(tactic| tm_at "ne") => `(tactic| (first | assumption | exact Ne.symm (by assumption) | (apply Box.ne2; assumption; tm_at "hp") | (apply Ne.symm; apply Box.ne2; assumption; tm_at "hp") | (apply ne_of_none2; assumption; tm_at "hp") | (apply Ne.symm; apply ne_of_none2; assumption; tm_at "hp") | fail "no way"))
local macro_rules | `(tactic| tm_at "f0") => `(tactic| (first | assumption | (apply Fr.new; assumption) | fail "no way"))
local macro_rules | `(tactic| tm_at "hp") => `(tactic| (first | assumption | exact upd_same | (apply SqL.of; first | assumption | exact upd_same) | (apply Fr.at0; tm_at "f0"; tm_at "hp") | (apply Fr.at1n; assumption; tm_at "ne"; tm_at "hp") | (apply sqFr0; tm_at "f0"; tm_at "hp") | (apply sqFr1; assumption; tm_at "ne"; tm_at "hp") | (apply Box.fr0; tm_at "f0"; tm_at "hp") | (apply Box.fr1; assumption; tm_at "ne"; tm_at "hp") | (apply Den.fr; tm_at "f0"; tm_at "hp") | (apply Dens.fr; tm_at "f0"; tm_at "hp") | fail "no way"))
local macro_rules | `(tactic| tm_at "free0") => `(tactic| (first | assumption | (apply updFree; assumption) | (apply updFree; apply updFree; assumption) | (apply updFree; apply updFree; apply updFree; assumption) | (apply updFree; apply updFree; apply updFree; apply updFree; assumption) | fail "no way"))
local macro_rules | `(tactic| tm_at "free") => `(tactic| (first | tm_at "free0" | (apply Fr.free; assumption; tm_at "free0") | (apply Box.free; assumption; tm_at "fr"; tm_at "free0") | (apply Fr.free; assumption; apply Fr.free; assumption; tm_at "free0") | fail "no way"))
local macro_rules | `(tactic| tm_at "fr") => `(tactic| (first | assumption | exact Fr.refl0 _ | exact Fr.refl (Box.nt (by assumption)) | (refine Fr.comp0 ?_ (by tm_at "f0"); tm_at "fr") | (refine Fr.comp ?_ (by assumption); tm_at "fr") | (refine Fr.compN ?_ (by assumption) (by tm_at "free"); tm_at "fr") | fail "no way"))
local macro_rules | `(tactic| tm_at "call") => `(tactic| fail "no call")
local macro_rules | `(tactic| tm_at "call") => `(tactic| (apply take_step; tm_at "hp"; tm_at "sc"; tm_at "sc"; intro r H1 h0 h1 hB fr))
local macro_rules | `(tactic| tm_at "ty") => `(tactic| (first | assumption | exact .base .non | exact .base (.bl _) | exact .base (.int _) | exact .base (.str _) | (apply TyX.base; apply TyOf.lst; tm_at "hp") | (apply TyX.base; apply TyOf.tup; tm_at "hp") | fail "no way"))
local macro_rules | `(tactic| tm_at "pre") => `(tactic| fail "none")
local macro_rules | `(tactic| tm_at "go1") => `(tactic| (first | tm_at "pre" | refine ⟨_, rfl, ?_⟩ | refine ⟨_, _, rfl, rfl, ?_⟩ | (apply set_step; tm_at "hp"; tm_at "sc"; tm_at "sc"; intro H1 hp fr) | (with_reducible refine iteDI ?_ ?_ <;> intro c) | (with_reducible refine iteDS ?_ ?_ <;> intro c) | (with_reducible refine iteD ?_ ?_ <;> intro c) | (with_reducible refine iteEM ?_ ?_ <;> intro c) | (with_reducible refine iteE ?_ ?_ <;> intro c) | with_reducible refine iteN ?_ | with_reducible refine iteF ?_ | with_reducible refine iteT ?_ | (refine fun (p : Addr) (np : _ = (none : Option HO)) => ?_; fail_if_success (refine ⟨fun (_ _ : Nat) (_ : Hp) => True, ?_⟩)) | (apply isi_tt; tm_at "ty"; focus (decide +kernel)) | (apply isi_ff; tm_at "ty"; focus (decide +kernel)) | (apply sl_step; tm_at "hp"; intro qq H1 ms nq hq fr) | (apply sum_step; tm_at "hp"; intro i) | (apply tru_step; tm_at "hp") | (apply len_step; tm_at "hp") | (apply lenq_step; assumption) | (apply ixq_step; assumption; tm_at "sc"; tm_at "sc"; intro v hv) | (apply lst_step; tm_at "hp") | (apply tupl_step; tm_at "hp") | (apply ixr_step; tm_at "hp"; exact rfl) | (apply ix0_step; tm_at "hp") | (apply ix1_step; tm_at "hp") | (apply ix2_step; tm_at "hp") | (apply ixi_step; tm_at "hp"; tm_at "sc"; tm_at "sc"; intro n hn hn') | (apply ixl_step; tm_at "hp"; tm_at "sc"; tm_at "sc"; intro v hv) | (apply ixt_step; tm_at "hp"; tm_at "sc"; tm_at "sc"; intro v hm hv) | (apply in_step; tm_at "hp"; rfl; rfl) | (apply cat_step; tm_at "hp"; tm_at "hp"; tm_at "sc") | (apply catT_step; tm_at "hp"; tm_at "hp"; tm_at "sc1") | (apply tyL_and; tm_at "hp") | (apply app_step; tm_at "hp"; tm_at "sc"; intro H1 hp fr) | tm_at "call" | refine ⟨⟨_, rfl⟩, ?_⟩ | (apply ixs_step; tm_at "sc"; tm_at "sc"; tm_at "sc"; intro ch) | refine .inl ⟨_, rfl, ?_⟩ | refine .inr ⟨_, rfl, ?_⟩ | (apply And.intro; tm_at "sc") | (with_reducible refine wayB ?_ ?_ <;> intro c) | fail "no way"))
local macro_rules | `(tactic| tm_at "go") => `(tactic| (repeat tm_at "go1"))
local macro_rules | `(tactic| tm_at "goo") => `(tactic| (repeat' tm_at "go1"))
local macro_rules | `(tactic| tm_at "den") => `(tactic| (first | assumption | exact Den.str _ | exact Den.int _ | exact Den.bl _ | exact Den.non | (apply Den.tups; tm_at "hp"; tm_at "dens") | (apply Den.fr; tm_at "f0"; tm_at "den") | fail "no way"))
local macro_rules | `(tactic| tm_at "dens") => `(tactic| (first | assumption | exact Dens.nil | (apply Dens.cons; tm_at "den"; tm_at "dens") | (apply Dens.fr; tm_at "f0"; tm_at "dens") | fail "no way"))
local macro_rules | `(tactic| tm_at "ix") => `(tactic| (apply Ix.mk; tm_at "hp"; tm_at "ne"; assumption; assumption))
local macro_rules | `(tactic| tm_at "dep") => `(tactic| (first | assumption | exact Dep.int | exact Dep.str | exact Dep.bl | exact Dep.non | (apply Dep.tup; tm_at "dlen"; tm_at "deps") | (apply Dep.mono; assumption; decide) | fail "no way"))
local macro_rules | `(tactic| tm_at "deps") => `(tactic| (first | assumption | exact memN | (apply memC; tm_at "dep"; tm_at "deps") | fail "no way"))
local macro_rules | `(tactic| tm_at "dlen") => `(tactic| (first | assumption | (focus (simp; done)) | omega | fail "no way"))
local macro_rules | `(tactic| tm_at "pre") => `(tactic| (apply rep_step; tm_at "hp"; tm_at "sc"; tm_at "sc"; intro rp H1 nrp hrp fr))

local macro_rules | `(tactic| tm_at "lits") => `(tactic| (try simp only [l_nl, l_open, l_close, l_sp, l_quo, l_bs, l_minus, l_zero, l_empty, l_n] at c))
local macro_rules | `(tactic| tm_at "pre") => `(tactic| (first | (apply slm_step; tm_at "sc"; tm_at "sc"; tm_at "sc") | (apply slf_step; tm_at "sc"; tm_at "sc") | (apply slt_step; tm_at "sc"; tm_at "sc") | (with_reducible refine iteEqZ ?_ ?_ <;> (intro c; tm_at "lits")) | (apply catS_step; tm_at "sc") | (apply inD_step) | (apply ordS_step) | (apply intS_step; assumption) | (apply sign_step) | (apply lenS_step; tm_at "sc")))
local macro_rules | `(tactic| tm_at "pre") => `(tactic| (apply while_go))
local macro_rules | `(tactic| tm_at "pre") => `(tactic| (apply ixS_step; tm_at "sc"; tm_at "sc"; assumption))
local macro_rules | `(tactic| tm_at "pre") => `(tactic| (apply appB_step; tm_at "hp"; tm_at "sc"; intro H1 hp fr))

local macro_rules | `(tactic| tm_at "call") => `(tactic| (apply wh_step))
local macro_rules | `(tactic| tm_at "pre") => `(tactic| (first | (apply ix3_step; tm_at "hp") | (with_reducible apply iteLT; (focus (decide +kernel))) | (with_reducible apply iteLF; (focus (decide +kernel)))))
set_option pp.deepTerms false
set_option pp.deepTerms.threshold 3
abbrev s_whole : Stmt := top 40
theorem sc_whole : FnScope ["_law_value"] ["_law_value"] (defScope s_whole) := ⟨rfl, rfl, rfl, by decide +kernel, rfl, by decide +kernel, by decide +kernel⟩

theorem ok_whl (T : K4.Bl mg) (D : Def1 K mg "_law_whole" s_whole) : Cal P w K mg base 1 "_law_whole" ["_law_value"] spWh := by
  refine D.cal sc_whole (fun _ _ _ _ _ _ us hl => match us, hl with | [_], _ => rfl) (fun vs H Q E h => ?_) (fun f cdv A outer s H vs Q E hr h => ?_) <;> unfold spWh at h
  · obtain ⟨i, rfl, _⟩ := h
    rfl
  · obtain ⟨i, rfl, k⟩ := h
    refine ⟨_, (pss_one (ps_ret (pe_and (pe_callB (cIsi K) (by rfl) T.z_isinstance (by decide +kernel) (pa_cons (pv 0) (pa_cons (pe_bltn (v := .ty "int") (by rfl) T.z_int (by decide +kernel) rfl) pa_nil))) (pe_one (pe_not (pe_callB (cIsi K) (by rfl) T.z_isinstance (by decide +kernel) (pa_cons (pv 0) (pa_cons (pe_bltn (v := .ty "bool") (by rfl) T.z_bool (by decide +kernel) rfl) pa_nil)))))))), ?_⟩
    tm_at "goo"
    exact k
abbrev s_is_tokens : Stmt := top 59
theorem sc_is_tokens : FnScope ["_law_told", "_law_token"] ["_law_told"] (defScope s_is_tokens) := ⟨rfl, rfl, rfl, by decide +kernel, rfl, by decide +kernel, by decide +kernel⟩

theorem ok_itk (T : K4.Bl mg) (G_whole : Cal P w K mg base 1 "_law_whole" ["_law_value"] spWh) (D : Def1 K mg "_law_is_tokens" s_is_tokens) : Cal P w K mg base 2 "_law_is_tokens" ["_law_told"] (spIt K) := by
  refine D.cal sc_is_tokens (fun _ _ _ _ _ _ us hl => match us, hl with | [_], _ => rfl) (fun vs H Q E h => ?_) (fun f cdv A outer s H vs Q E hr h => ?_) <;> unfold spIt at h
  · obtain ⟨L, xs, ts, rfl, _⟩ := h
    rfl
  · obtain ⟨L, xs, ts, rfl, hL, dx, o, k⟩ := h
    refine ⟨_, (pss_cons (ps_if (pt_not (pt_val (pe_callB (cIsi K) (by rfl) T.z_isinstance (by decide +kernel) (pa_cons (pv 0) (pa_cons (pe_bltn (v := .ty "list") (by rfl) T.z_list (by decide +kernel) rfl) pa_nil)))))
      (pss_one (ps_ret pe_bl))
      pss_nil)
    (pss_cons (ps_for PassesOwn.never rfl (pi_list (pv 0)) (pg_name (i := 1) sc_is_tokens.nd rfl (Or.inl rfl))
      (pss_cons (ps_if (PW.pt (pw_or (pt_not (pt_val (pe_callB (cIsi K) (by rfl) T.z_isinstance (by decide +kernel) (pa_cons (pv 1) (pa_cons (pe_bltn (v := .ty "tuple") (by rfl) T.z_tuple (by decide +kernel) rfl) pa_nil))))) (pw_or (pt_cmpR op_ne (pe_callB (cLen K) (by rfl) T.z_len (by decide +kernel) (pa_cons (pv 1) pa_nil)) pe_int (nomark _)) (pw_or1 (pt_not (pt_val (pe_callB (cIsi K) (by rfl) T.z_isinstance (by decide +kernel) (pa_cons (pe_ix (ixT K) (pv 1) pe_int (fun _ _ => rfl)) (pa_cons (pe_bltn (v := .ty "str") (by rfl) T.z_str (by decide +kernel) rfl) pa_nil)))))))))
        (pss_one (ps_ret pe_bl))
        pss_nil)
      (pss_cons (ps_if (PW.pt (pw_or (pt_not (pt_val (pe_cal G_whole (hr.mono (by omega)) (by rfl) (pa_cons (pe_ix (ixT K) (pv 1) pe_int (fun _ _ => rfl)) pa_nil)))) (pw_or1 (pt_not (pt_val (pe_cal G_whole (hr.mono (by omega)) (by rfl) (pa_cons (pe_ix (ixT K) (pv 1) pe_int (fun _ _ => rfl)) pa_nil)))))))
        (pss_one (ps_ret pe_bl))
        pss_nil)
      (pss_one (ps_if (PW.pt (pw_and (pt_not (pt_val (pe_callB (cIsi K) (by rfl) T.z_isinstance (by decide +kernel) (pa_cons (pe_ix (ixT K) (pv 1) pe_int (fun _ _ => rfl)) (pa_cons (pe_bltn (v := .ty "str") (by rfl) T.z_str (by decide +kernel) rfl) pa_nil))))) (pw_and1 (PW.pt (pw_or (pt_cmpR op_ne (pe_ix (ixT K) (pv 1) pe_int (fun _ _ => rfl)) pe_str (nomark _)) (pw_or1 (pt_not (pt_val (pe_cal G_whole (hr.mono (by omega)) (by rfl) (pa_cons (pe_ix (ixT K) (pv 1) pe_int (fun _ _ => rfl)) pa_nil))))))))))
        (pss_one (ps_ret pe_bl))
        pss_nil)))))
    (pss_one (ps_ret pe_bl)))), ?_⟩
    tm_at "goo"
    refine ⟨⟨_, .of hL⟩, ?_⟩
    refine for_it (walk_list (xs := xs)) (ITM L H) ?_ (fun i σ H3 _ hq => ?_) (fun i x σ H3 H4 hi hq hy => ?_) (fun σ H3 hq => ?_)
    · unfold ITM
      exact ⟨_, rfl, Fr.refl0 _⟩
    · unfold ITM at hq
      obtain ⟨_, _, f⟩ := hq
      exact .of (f.at0 hL)
    · unfold ITM at hq
      obtain ⟨x1, rfl, f3⟩ := hq
      obtain ⟨rfl, hx⟩ := hy
      obtain ⟨t, ht, dt⟩ := (dx.fr f3).get hx
      obtain ⟨kd, wd, l, k2, rfl, ow⟩ := o t (List.mem_of_getElem? ht)
      obtain ⟨p, wv, rfl, hp, dw⟩ := den_tup4 dt
      have hln : SqL K H4 p [.str (Str.ofString kd), wv, .int (l : Nat), .int (k2 : Nat)] ∨ SqT K H4 p [.str (Str.ofString kd), wv, .int (l : Nat), .int (k2 : Nat)] := .inr (.of hp)
      rcases ow with ⟨z, rfl, oz, hk⟩ | ⟨n, rfl, rfl⟩
      · cases dw
        tm_at "goo"
        all_goals (show ITM L H (i + 1) _ _; unfold ITM; exact ⟨_, rfl, f3⟩)
      · cases dw
        tm_at "goo"
        all_goals (show ITM L H (i + 1) _ _; unfold ITM; exact ⟨_, rfl, f3⟩)
    · unfold ITM at hq
      obtain ⟨x1, rfl, f3⟩ := hq
      tm_at "goo"
      exact k _ f3
end
end TK
set_option Elab.async false
set_option linter.all false
set_option maxRecDepth 100000
set_option maxHeartbeats 4000000
/-! a page -/
namespace TK
open PySem PySem.Spec PyProof.Rows L2 M14 SX K4
theorem sum_len {rs : List (List Nat)} : (rs.map (·.length)).sum + rs.length = totR rs := by
  induction rs with
  | nil => rfl
  | cons r rs ih => unfold totR at ih ⊢; simp only [List.map_cons, List.sum_cons, List.length_cons] at ih ⊢; omega
/-- "\n" * n -/
theorem nls_step {n : Int} {H : Hp} {Q : VK} (h0 : 0 ≤ n) (h1 : n ≤ 10000) (q : Q (.str (S (List.replicate n.toNat 10))) H) : rRepS (.str (Str.ofString "\n")) (.int n) H Q := by
  unfold rRepS
  have e : Str.ofString "\n" = (⟨#[10]⟩ : Str) := by
    rw [← S_tl (Str.ofString "\n"), show (Str.ofString "\n").cps.toList = [10] by decide +kernel]
  refine ⟨_, n, rfl, rfl, by omega, by omega, by rw [e]; show 1 * n.toNat ≤ _; omega, ?_⟩
  have e2 : Txt.mul (Str.ofString "\n") n = S (List.replicate n.toNat 10) := by
    rw [e, ← S_tl (Txt.mul _ n), mul_one_list]
  rw [e2]
  exact q
theorem fr_five {b A R Tk W : Addr} {H H1 H2 : Hp} (a : Fr [b] H H1) (f : Fr [b, A, R, Tk, W] H1 H2) (n : H A = none ∧ H R = none ∧ H Tk = none ∧ H W = none) : Fr [b] H H2 := by
  refine ⟨fun x o e m => f.kp x o (a.kp x o e m) fun q => ?_, a.nt⟩
  simp only [List.mem_cons, List.not_mem_nil, or_false] at q m
  rcases q with rfl | rfl | rfl | rfl | rfl
  · exact m rfl
  · rw [n.1] at e; cases e
  · rw [n.2.1] at e; cases e
  · rw [n.2.2.1] at e; cases e
  · rw [n.2.2.2] at e; cases e
theorem fr_four {b A R Tk W : Addr} {H1 H2 : Hp} {K : PySem.W.Frag} {rows : List (List Nat)} {cur : List Nat} {toks : List T} {cnt sa sb : Nat} {ind : List Nat} (p : PgW K H1 b A R Tk W rows cur toks cnt sa sb ind) (f : Fr [b, A, R, Tk] H1 H2) : Fr [b, A, R, Tk, W] H1 H2 := p.rf.subs f (by simp)
theorem ne_none {H : Hp} {a c : Addr} {o : HO} (h : H a = some o) (n : H c = none) : a ≠ c := fun e => by rw [← e, h] at n; cases n
/-- a page and its words -/
@[irreducible] def spPge (K : PySem.W.Frag) : Sp := fun vs H Q _ => ∃ b : Addr, vs = [.ref b] ∧ Box H b ∧ ∀ g Tk z ts xs H', H' g = some (.lst [.str (S z), .ref Tk]) → H' Tk = some (.lst xs) → Dens K H' xs ts → (∀ t ∈ ts, TkW t) → (∃ rows spots s2, LaidOk ts rows spots s2) → ts.length ≤ 4000 → tokM z = .ok ts → z.length ≤ 1000000 → Fr [b] H H' → Q (.ref g) H'
theorem pge_step {K : PySem.W.Frag} {b : Addr} {H : Hp} {Q : VK} {E : XK} (hB : Box H b) (k : ∀ g Tk z ts xs H', H' g = some (.lst [.str (S z), .ref Tk]) → H' Tk = some (.lst xs) → Dens K H' xs ts → (∀ t ∈ ts, TkW t) → (∃ rows spots s2, LaidOk ts rows spots s2) → ts.length ≤ 4000 → tokM z = .ok ts → z.length ≤ 1000000 → Fr [b] H H' → Q (.ref g) H') : spPge K ([.ref b] ++ []) H Q E := by
  unfold spPge
  exact ⟨b, rfl, hB, k⟩
theorem PgW.of4 {K : PySem.W.Frag} {H H' : Hp} {b A R Tk W : Addr} {rows rows' : List (List Nat)} {cur cur' : List Nat} {toks toks' : List T} {cnt sa sb cnt' sa' sb' : Nat} {ind : List Nat} (p : PgW K H b A R Tk W rows cur toks cnt sa sb ind) (f : Fr [b, A, R, Tk] H H') (pg' : PgA K H' b A R Tk rows' cur' toks' cnt' sa' sb') (s : 1 ≤ sa' ∨ ind = [0]) : PgW K H' b A R Tk W rows' cur' toks' cnt' sa' sb' ind := ⟨pg', f.kp W _ p.hW (by simpa using p.nw), p.ok, p.le, s, p.nw⟩
theorem _root_.TK.Box.rf {H : Hp} {b : Addr} (h : Box H b) : Fr [b] H H := Fr.refl h.nt
/-- the page as it begins -/
theorem pgw_new (K : PySem.W.Frag) {H : Hp} {b A R Tk Sp W : Addr} (hB : Box H b) (nR : H R = none) (nTk : upd H R (.lst []) Tk = none) (nSp : upd (upd H R (.lst [])) Tk (.lst []) Sp = none) (nA : upd (upd (upd H R (.lst [])) Tk (.lst [])) Sp (.lst [.int 0, .int 1]) A = none) (nW : upd (upd (upd (upd H R (.lst [])) Tk (.lst [])) Sp (.lst [.int 0, .int 1])) A (.lst [.ref R, .str (Str.ofString ""), .ref Tk, .int 0, .ref Sp]) W = none) :
    PgW K (upd (upd (upd (upd (upd H R (.lst [])) Tk (.lst [])) Sp (.lst [.int 0, .int 1])) A (.lst [.ref R, .str (Str.ofString ""), .ref Tk, .int 0, .ref Sp])) W (.lst [.int 0])) b A R Tk W [] [] [] 0 0 1 [0] := by
  have N1 : Fr [] H (upd H R (.lst [])) := Fr.new nR
  have N2 := Fr.new (o := .lst []) nTk
  have N3 := Fr.new (o := .lst [.int 0, .int 1]) nSp
  have N4 := Fr.new (o := .lst [.ref R, .str (Str.ofString ""), .ref Tk, .int 0, .ref Sp]) nA
  have N5 := Fr.new (o := .lst [.int 0]) nW
  have hR2 := N2.at0 (upd_same (H := H) (a := R) (o := .lst []))
  have hR3 := N3.at0 hR2
  have hR4 := N4.at0 hR3
  have hT3 := N3.at0 (upd_same (H := upd H R (.lst [])) (a := Tk) (o := .lst []))
  have hT4 := N4.at0 hT3
  have hS4 := N4.at0 (upd_same (H := upd (upd H R (.lst [])) Tk (.lst [])) (a := Sp) (o := .lst [.int 0, .int 1]))
  have hA4 := upd_same (H := upd (upd (upd H R (.lst [])) Tk (.lst [])) Sp (.lst [.int 0, .int 1])) (a := A) (o := .lst [.ref R, .str (Str.ofString ""), .ref Tk, .int 0, .ref Sp])
  have b1 := hB.fr0 N1
  have b2 := b1.fr0 N2
  have b3 := b2.fr0 N3
  have b4 := b3.fr0 N4
  refine ⟨⟨⟨Sp, N5.at0 hA4, N5.at0 hS4, ne_none upd_same nA, Ne.symm (ne_none hR2 nSp), Ne.symm (ne_none upd_same nSp), b2.ne nSp⟩, N5.at0 hR4, ⟨[], N5.at0 hT4, .nil⟩, b4.fr0 N5, b3.ne nA, Ne.symm (ne_none hR3 nA), Ne.symm (ne_none hT3 nA), hB.ne nR, ne_none upd_same nTk, b1.ne nTk⟩, upd_same, rfl, by decide, .inr rfl, b4.ne nW, Ne.symm (ne_none hA4 nW), Ne.symm (ne_none hR4 nW), Ne.symm (ne_none hT4 nW)⟩
/-- between the lines -/
structure PgL (K : PySem.W.Frag) (H0 H : Hp) (b A R Tk W : Addr) (sa : Nat) (toks : List T) (ind : List Nat) (lim tl : Nat) (q : Prop) : Prop where
  ex : ∃ rows cnt sb st, PgW K H b A R Tk W rows [] toks cnt sa sb ind ∧ PgI rows toks cnt sa st ∧ ind = st.ind ∧ cnt ≤ lim ∧ toks.length ≤ tl ∧ (q → toks ≠ [] ∧ 1 ≤ sa) ∧ (toks = [] → ind = [0])
  fr : Fr [b] H0 H
  fn : H0 A = none ∧ H0 R = none ∧ H0 Tk = none ∧ H0 W = none
theorem PgL.frb {K : PySem.W.Frag} {H0 H H' : Hp} {b A R Tk W : Addr} {sa : Nat} {toks : List T} {ind : List Nat} {lim tl : Nat} {q : Prop} (p : PgL K H0 H b A R Tk W sa toks ind lim tl q) (f : Fr [b] H H') (hb : Box H' b) : PgL K H0 H' b A R Tk W sa toks ind lim tl q :=
  ⟨let ⟨rows, cnt, sb, st, pg, z⟩ := p.ex; ⟨rows, cnt, sb, st, pg.frb f hb, z⟩, p.fr.comp f, p.fn⟩
theorem PgL.wk {K : PySem.W.Frag} {H0 H : Hp} {b A R Tk W : Addr} {sa : Nat} {toks : List T} {ind : List Nat} {lim tl lim' tl' : Nat} {q q' : Prop} (p : PgL K H0 H b A R Tk W sa toks ind lim tl q) (h1 : lim ≤ lim') (h2 : tl ≤ tl') (h3 : q' → q) : PgL K H0 H b A R Tk W sa toks ind lim' tl' q' :=
  ⟨let ⟨rows, cnt, sb, st, pg, pi, e, l1, l2, l3, l4⟩ := p.ex; ⟨rows, cnt, sb, st, pg, pi, e, Nat.le_trans l1 h1, Nat.le_trans l2 h2, fun z => l3 (h3 z), l4⟩, p.fr, p.fn⟩
@[irreducible] def PL0 (K : PySem.W.Frag) (H0 : Hp) (b A R Tk W : Addr) (lim : Nat) (σ : L2.St) (H : Hp) : Prop := ∃ (sa : Nat) (toks : List T) (ind : List Nat), σ = [some (.ref b), some (.ref A), some (.ref W), none, none, none, none, none] ∧ PgL K H0 H b A R Tk W sa toks ind lim 0 False
@[irreducible] def PL1 (K : PySem.W.Frag) (H0 : Hp) (b A R Tk W : Addr) (lean : Int) (σ : L2.St) (H : Hp) : Prop := ∃ (many : Nat) (sa : Nat) (toks : List T) (ind : List Nat), many ≤ 24 ∧ σ = [some (.ref b), some (.ref A), some (.ref W), some (.int lean), some (.int (many : Nat)), none, none, none] ∧ PgL K H0 H b A R Tk W sa toks ind 157 0 False
@[irreducible] def PL2 (K : PySem.W.Frag) (H0 : Hp) (b A R Tk W : Addr) (lean : Int) (many : Nat) (i : Nat) (σ : L2.St) (H : Hp) : Prop := ∃ (sa : Nat) (toks : List T) (ind : List Nat) (x5 x6 : Option V), σ = [some (.ref b), some (.ref A), some (.ref W), some (.int lean), some (.int (many : Nat)), x5, x6, none] ∧ PgL K H0 H b A R Tk W sa toks ind 4500 (150 * i) (0 < i)
@[irreducible] def PL3 (K : PySem.W.Frag) (H0 : Hp) (b A R Tk W : Addr) (lean : Int) (many : Nat) (i : Nat) (σ : L2.St) (H : Hp) : Prop := ∃ (sa : Nat) (toks : List T) (ind : List Nat) (way : Int), σ = [some (.ref b), some (.ref A), some (.ref W), some (.int lean), some (.int (many : Nat)), some (.int (0 + (i : Int))), some (.int way), none] ∧ PgL K H0 H b A R Tk W sa toks ind 4500 (150 * i) (0 < i)
@[irreducible] def PL4 (K : PySem.W.Frag) (H0 : Hp) (b A R Tk W : Addr) (lean : Int) (many : Nat) (i : Nat) (x6 : Option V) (σ : L2.St) (H : Hp) : Prop := ∃ (sa : Nat) (toks : List T) (ind : List Nat), σ = [some (.ref b), some (.ref A), some (.ref W), some (.int lean), some (.int (many : Nat)), some (.int (0 + (i : Int))), x6, none] ∧ PgL K H0 H b A R Tk W sa toks ind 5800 (150 * (i + 1)) True
@[irreducible] def PL5 (K : PySem.W.Frag) (H0 : Hp) (b A R Tk W : Addr) (lean : Int) (many : Nat) (σ : L2.St) (H : Hp) : Prop := ∃ (sa : Nat) (toks : List T) (ind : List Nat) (x5 x6 : Option V), σ = [some (.ref b), some (.ref A), some (.ref W), some (.int lean), some (.int (many : Nat)), x5, x6, none] ∧ PgL K H0 H b A R Tk W sa toks ind 5800 3600 False
@[irreducible] def PL6 (K : PySem.W.Frag) (H0 : Hp) (b A R Tk W : Addr) (lean : Int) (many : Nat) (rows : List (List Nat)) (cnt sa sb : Nat) (st : St) (j : Nat) (σ : L2.St) (H : Hp) : Prop := ∃ (toks : List T) (x5 x6 : Option V), σ = [some (.ref b), some (.ref A), some (.ref W), some (.int lean), some (.int (many : Nat)), x5, x6, some (.int ((sa : Int) + 1))] ∧ PgW K H b A R Tk W rows [] toks cnt sa sb st.ind ∧ toks = st.marks ++ List.replicate j (tk "dedent" eW (sa + 1) 1) ∧ Fr [b] H0 H
theorem page_tok2 {rs : List (List Nat)} {t : List Nat} {toks : List T} {cnt sa : Nat} {st : St} (pi : PgI rs toks cnt sa st) (hl : totR rs ≤ 5999) (ht : t = [] ∨ t = [10]) : tokM (TL.joinL [10] rs ++ t) = .ok (st.marks ++ st.ind.dropLast.map (fun _ => tk "dedent" eW (sa + 1) 1) ++ [tk "end" eW (sa + 1) 1]) := by
  have := page_tok pi.ro hl ht pi.sc pi.mn pi.op
  have la := pi.la
  rw [this, la]
  cases st.marks.getLast? <;> rfl
theorem ln_of {rows : List (List Nat)} {cnt sa sb : Nat} {st : St} {ind2 : List Nat} {toks2 : List T} (pi : PgI rows st.marks cnt sa st) (mr : MgR st (rows.length + 1) ind2 toks2) : LnI rows (List.replicate (ind2.headD 0) 32) toks2 cnt sa sb [] st { st with ind := ind2, marks := toks2 } := by
  have mn := pi.mn
  have hd := ind_hd mr.ok
  have hl := mr.le
  refine ⟨⟨st, 0, pi.sc, ?_, fun z => absurd z (by omega)⟩, rfl, sim_mg pi.sim mn mr, .inr ⟨mn, rfl, ?_⟩, pi.ro, fun c m => sps_ok m, by rw [List.length_replicate]; omega, pi.tot, mr.tw (fun _ _ => ⟨tkw_mk (by decide), tkw_mk (by decide)⟩) pi.tw⟩
  · have := (Cur.new (l := 1 + rows.length) (st := st)).gap (n := ind2.headD 0)
    rw [List.nil_append] at this
    have e4 : (if ind2.headD 0 = 0 then ([] : List Nat) else []) = [] := by split <;> rfl
    rw [e4] at this
    exact this
  · rw [List.length_replicate, Nat.add_comm 1]
    exact mr.cm
theorem ln_step {K : PySem.W.Frag} {b A R Tk : Addr} {rows : List (List Nat)} {cur : List Nat} {toks : List T} {cnt sa sb many least : Nat} {st st1 : St} {z y : Int} {H : Hp} {Q : VK} {E : XK} (pg : PgA K H b A R Tk rows cur toks cnt sa sb) (li : LnI rows cur toks cnt sa sb [] st st1) (m0 : st.many = 0) (m1 : st1.many = 0) (o1 : st1.op = []) (hz : z = (many : Nat)) (hy : y = (least : Nat)) (h1 : cur.length ≤ 44) (h2 : cnt ≤ 4500) (h3 : toks.length ≤ 6000) (h4 : 1 ≤ many ∧ many ≤ 114) (h5 : least ≤ 1)
    (k : ∀ H' rows' toks' cnt' sa' sb' st', PgA K H' b A R Tk rows' [] toks' cnt' sa' sb' → PgI rows' toks' cnt' sa' st' → toks' ≠ [] → 1 ≤ sa' → st'.ind = st1.ind → cnt' ≤ 5800 → toks'.length ≤ toks.length + 130 → Fr [b, A, R, Tk] H H' → Q .non H') : spLn K ([.ref b, .ref A, .int z, .int y] ++ []) H Q E := by
  subst hz hy
  unfold spLn
  exact ⟨b, A, R, Tk, rows, cur, toks, cnt, sa, sb, st, st1, many, least, rfl, pg, li, m0, m1, o1, h1, h2, h3, h4.1, h4.2, h5, k⟩
section
variable {P : Program} {w : World} {K : PySem.W.Frag} {mg : Str → Option Value} {base : Heap}
set_option hygiene false
local macro_rules | `(tactic| tm_at "sc") => `(tactic| (first | omega | (simp only [List.length_cons, List.length_nil, List.length_map, List.length_set, List.length_append]; omega) | (simp only [List.length_map] at h1 ⊢; omega) | (simp only [List.length_map] at c ⊢; omega) | with_reducible assumption | exact And.intro (by omega) (by omega) | exact Or.inl (And.intro (by omega) (by omega)) | exact Or.inr (And.intro (by omega) (by omega)) | decide +kernel | exact len1000 (by simp) | rfl | fail "no way"))
local macro_rules | `(tactic| tm_at "sc1") => `(tactic| (focus (simp; done)))
local macro_rules | `(tactic| tm_at "ne") => `(tactic| (first | assumption | exact Ne.symm (by assumption) | (apply Box.ne2; assumption; tm_at "hp") | (apply Ne.symm; apply Box.ne2; assumption; tm_at "hp") | (apply ne_of_none2; assumption; tm_at "hp") | (apply Ne.symm; apply ne_of_none2; assumption; tm_at "hp") | fail "no way"))
local macro_rules | `(tactic| tm_at "f0") => `(tactic| (first | assumption | (apply Fr.new; assumption) | fail "no way"))
local macro_rules | `(tactic| tm_at "hp") => `(tactic| (first | assumption | exact upd_same | (apply SqL.of; first | assumption | exact upd_same) | (apply Fr.at0; tm_at "f0"; tm_at "hp") | (apply Fr.at1n; assumption; tm_at "ne"; tm_at "hp") | (apply sqFr0; tm_at "f0"; tm_at "hp") | (apply sqFr1; assumption; tm_at "ne"; tm_at "hp") | (apply Box.fr0; tm_at "f0"; tm_at "hp") | (apply Box.fr1; assumption; tm_at "ne"; tm_at "hp") | (apply Den.fr; tm_at "f0"; tm_at "hp") | (apply Dens.fr; tm_at "f0"; tm_at "hp") | fail "no way"))
local macro_rules | `(tactic| tm_at "free0") => `(tactic| (first | assumption | (apply updFree; assumption) | (apply updFree; apply updFree; assumption) | (apply updFree; apply updFree; apply updFree; assumption) | (apply updFree; apply updFree; apply updFree; apply updFree; assumption) | fail "no way"))
local macro_rules | `(tactic| tm_at "free") => `(tactic| (first | tm_at "free0" | (apply Fr.free; assumption; tm_at "free0") | (apply Box.free; assumption; tm_at "fr"; tm_at "free0") | (apply Fr.free; assumption; apply Fr.free; assumption; tm_at "free0") | fail "no way"))
local macro_rules | `(tactic| tm_at "fr") => `(tactic| (first | assumption | exact Fr.refl0 _ | exact Fr.refl (Box.nt (by assumption)) | (refine Fr.comp0 ?_ (by tm_at "f0"); tm_at "fr") | (refine Fr.comp ?_ (by assumption); tm_at "fr") | (refine Fr.compN ?_ (by assumption) (by tm_at "free"); tm_at "fr") | fail "no way"))
local macro_rules | `(tactic| tm_at "call") => `(tactic| fail "no call")
local macro_rules | `(tactic| tm_at "call") => `(tactic| (apply take_step; tm_at "hp"; tm_at "sc"; tm_at "sc"; intro r H1 h0 h1 hB fr))
local macro_rules | `(tactic| tm_at "ty") => `(tactic| (first | assumption | exact .base .non | exact .base (.bl _) | exact .base (.int _) | exact .base (.str _) | (apply TyX.base; apply TyOf.lst; tm_at "hp") | (apply TyX.base; apply TyOf.tup; tm_at "hp") | fail "no way"))
local macro_rules | `(tactic| tm_at "pre") => `(tactic| fail "none")
local macro_rules | `(tactic| tm_at "go1") => `(tactic| (first | tm_at "pre" | refine ⟨_, rfl, ?_⟩ | refine ⟨_, _, rfl, rfl, ?_⟩ | (apply set_step; tm_at "hp"; tm_at "sc"; tm_at "sc"; intro H1 hp fr) | (with_reducible refine iteDI ?_ ?_ <;> intro c) | (with_reducible refine iteDS ?_ ?_ <;> intro c) | (with_reducible refine iteD ?_ ?_ <;> intro c) | (with_reducible refine iteEM ?_ ?_ <;> intro c) | (with_reducible refine iteE ?_ ?_ <;> intro c) | with_reducible refine iteN ?_ | with_reducible refine iteF ?_ | with_reducible refine iteT ?_ | (refine fun (p : Addr) (np : _ = (none : Option HO)) => ?_; fail_if_success (refine ⟨fun (_ _ : Nat) (_ : Hp) => True, ?_⟩)) | (apply isi_tt; tm_at "ty"; focus (decide +kernel)) | (apply isi_ff; tm_at "ty"; focus (decide +kernel)) | (apply sl_step; tm_at "hp"; intro qq H1 ms nq hq fr) | (apply sum_step; tm_at "hp"; intro i) | (apply tru_step; tm_at "hp") | (apply len_step; tm_at "hp") | (apply lenq_step; assumption) | (apply ixq_step; assumption; tm_at "sc"; tm_at "sc"; intro v hv) | (apply lst_step; tm_at "hp") | (apply tupl_step; tm_at "hp") | (apply ixr_step; tm_at "hp"; exact rfl) | (apply ix0_step; tm_at "hp") | (apply ix1_step; tm_at "hp") | (apply ix2_step; tm_at "hp") | (apply ixi_step; tm_at "hp"; tm_at "sc"; tm_at "sc"; intro n hn hn') | (apply ixl_step; tm_at "hp"; tm_at "sc"; tm_at "sc"; intro v hv) | (apply ixt_step; tm_at "hp"; tm_at "sc"; tm_at "sc"; intro v hm hv) | (apply in_step; tm_at "hp"; rfl; rfl) | (apply cat_step; tm_at "hp"; tm_at "hp"; tm_at "sc") | (apply catT_step; tm_at "hp"; tm_at "hp"; tm_at "sc1") | (apply tyL_and; tm_at "hp") | (apply app_step; tm_at "hp"; tm_at "sc"; intro H1 hp fr) | tm_at "call" | refine ⟨⟨_, rfl⟩, ?_⟩ | (apply ixs_step; tm_at "sc"; tm_at "sc"; tm_at "sc"; intro ch) | refine .inl ⟨_, rfl, ?_⟩ | refine .inr ⟨_, rfl, ?_⟩ | (apply And.intro; tm_at "sc") | (with_reducible refine wayB ?_ ?_ <;> intro c) | fail "no way"))
local macro_rules | `(tactic| tm_at "go") => `(tactic| (repeat tm_at "go1"))
local macro_rules | `(tactic| tm_at "goo") => `(tactic| (repeat' tm_at "go1"))
local macro_rules | `(tactic| tm_at "den") => `(tactic| (first | assumption | exact Den.str _ | exact Den.int _ | exact Den.bl _ | exact Den.non | (apply Den.tups; tm_at "hp"; tm_at "dens") | (apply Den.fr; tm_at "f0"; tm_at "den") | fail "no way"))
local macro_rules | `(tactic| tm_at "dens") => `(tactic| (first | assumption | exact Dens.nil | (apply Dens.cons; tm_at "den"; tm_at "dens") | (apply Dens.fr; tm_at "f0"; tm_at "dens") | fail "no way"))
local macro_rules | `(tactic| tm_at "ix") => `(tactic| (apply Ix.mk; tm_at "hp"; tm_at "ne"; assumption; assumption))
local macro_rules | `(tactic| tm_at "dep") => `(tactic| (first | assumption | exact Dep.int | exact Dep.str | exact Dep.bl | exact Dep.non | (apply Dep.tup; tm_at "dlen"; tm_at "deps") | (apply Dep.mono; assumption; decide) | fail "no way"))
local macro_rules | `(tactic| tm_at "deps") => `(tactic| (first | assumption | exact memN | (apply memC; tm_at "dep"; tm_at "deps") | fail "no way"))
local macro_rules | `(tactic| tm_at "dlen") => `(tactic| (first | assumption | (focus (simp; done)) | omega | fail "no way"))
local macro_rules | `(tactic| tm_at "pre") => `(tactic| (apply rep_step; tm_at "hp"; tm_at "sc"; tm_at "sc"; intro rp H1 nrp hrp fr))

local macro_rules | `(tactic| tm_at "lits") => `(tactic| (try simp only [l_nl, l_open, l_close, l_sp, l_quo, l_bs, l_minus, l_zero, l_empty, l_n] at c))
local macro_rules | `(tactic| tm_at "pre") => `(tactic| (first | (apply slm_step; tm_at "sc"; tm_at "sc"; tm_at "sc") | (apply slf_step; tm_at "sc"; tm_at "sc") | (apply slt_step; tm_at "sc"; tm_at "sc") | (with_reducible refine iteEqZ ?_ ?_ <;> (intro c; tm_at "lits")) | (apply catS_step; tm_at "sc") | (apply inD_step) | (apply ordS_step) | (apply intS_step; assumption) | (apply sign_step) | (apply lenS_step; tm_at "sc")))
local macro_rules | `(tactic| tm_at "pre") => `(tactic| (apply while_go))
local macro_rules | `(tactic| tm_at "pre") => `(tactic| (apply ixS_step; tm_at "sc"; tm_at "sc"; assumption))
local macro_rules | `(tactic| tm_at "pre") => `(tactic| (apply appB_step; tm_at "hp"; tm_at "sc"; intro H1 hp fr))

local macro_rules | `(tactic| tm_at "pre") => `(tactic| (first | (apply nls_step; (focus (omega)); (focus (omega))) | (apply catS_step; (focus (simp only [List.length_replicate]; omega)))))
set_option pp.deepTerms false
set_option pp.deepTerms.threshold 3
abbrev s_page : Stmt := top 58
theorem sc_page : FnScope ["_law_bag_here", "_law_page_here", "_law_widths", "_law_lean", "_law_many", "_law_turn", "_law_way", "_law_behind"] ["_law_bag_here"] (defScope s_page) := ⟨rfl, rfl, rfl, by decide +kernel, rfl, by decide +kernel, by decide +kernel⟩

theorem ok_pge (T : K4.Bl mg) (G_take : Cal P w K mg base 1 "_law_take" ["_law_bag_here", "_law_size"] spTake) (G_row_end : Cal P w K mg base 3 "_law_row_end" ["_law_bag_here", "_law_page_here"] (spRe K)) (G_margin : Cal P w K mg base 2 "_law_margin" ["_law_bag_here", "_law_page_here", "_law_widths", "_law_way"] (spMg K)) (G_line : Cal P w K mg base 5 "_law_line" ["_law_bag_here", "_law_page_here", "_law_many", "_law_least"] (spLn K)) (D : Def1 K mg "_law_page" s_page) : Cal P w K mg base 6 "_law_page" ["_law_bag_here"] (spPge K) := by
  refine D.cal sc_page (fun _ _ _ _ _ _ us hl => match us, hl with | [_], _ => rfl) (fun vs H Q E h => ?_) (fun f cdv A outer s H vs Q E hr h => ?_) <;> unfold spPge at h
  · obtain ⟨b, rfl, _⟩ := h
    rfl
  · obtain ⟨b, rfl, hB, k⟩ := h
    refine ⟨_, (pss_cons (ps_set (i := 1) sc_page.nd rfl (Or.inl rfl) (pe_lst (pa_cons (pe_lst pa_nil) (pa_cons pe_str (pa_cons (pe_lst pa_nil) (pa_cons pe_int (pa_cons (pe_lst (pa_cons pe_int (pa_cons pe_int pa_nil))) pa_nil)))))))
    (pss_cons (ps_set (i := 2) sc_page.nd rfl (Or.inl rfl) (pe_lst (pa_cons pe_int pa_nil)))
    (C8.pss_cut (ps_if (pt_cmpR op_eq (pe_cal G_take (hr.mono (by omega)) (by rfl) (pa_cons (pv 0) (pa_cons pe_int pa_nil))) pe_int (nomark _))
      (pss_one (ps_expr (pe_cal G_row_end (hr.mono (by omega)) (by rfl) (pa_cons (pv 0) (pa_cons (pv 1) pa_nil)))))
      pss_nil)
    (pss_cons (ps_set (i := 3) sc_page.nd rfl (Or.inl rfl) (pe_cal G_take (hr.mono (by omega)) (by rfl) (pa_cons (pv 0) (pa_cons pe_int pa_nil))))
    (pss_cons (ps_set (i := 4) sc_page.nd rfl (Or.inl rfl) (pe_cal G_take (hr.mono (by omega)) (by rfl) (pa_cons (pv 0) (pa_cons pe_int pa_nil))))
    (C8.pss_cut (ps_if (pt_cmpR op_eq (pe_cal G_take (hr.mono (by omega)) (by rfl) (pa_cons (pv 0) (pa_cons pe_int pa_nil))) pe_int (nomark _))
      (pss_one (ps_set (i := 4) sc_page.nd rfl (Or.inl rfl) pe_int))
      pss_nil)
    (C8.pss_cut (ps_for PassesOwn.never rfl (pi_range1 (by rfl) T.z_range (pa_cons (pv 4) pa_nil)) (pg_name (i := 5) sc_page.nd rfl (Or.inl rfl))
      (pss_cons (ps_set (i := 6) sc_page.nd rfl (Or.inl rfl) (pe_cal G_take (hr.mono (by omega)) (by rfl) (pa_cons (pv 0) (pa_cons pe_int pa_nil))))
      (C8.pss_cut (ps_if (PW.pt (pw_and (pt_cmpR op_eq (pv 3) pe_int (nomark _)) (pw_and1 (pt_cmpR op_gt (pe_cal G_take (hr.mono (by omega)) (by rfl) (pa_cons (pv 0) (pa_cons pe_int pa_nil))) pe_int (nomark _)))))
        (pss_one (ps_set (i := 6) sc_page.nd rfl (Or.inl rfl) pe_int))
        pss_nil)
      (pss_cons (ps_expr (pe_cal G_margin (hr.mono (by omega)) (by rfl) (pa_cons (pv 0) (pa_cons (pv 1) (pa_cons (pv 2) (pa_cons (pe_ifExp (pt_cmpR op_gt (pv 5) pe_int (nomark _)) (pv 6) pe_int) pa_nil))))))
      (C8.pss_cut (ps_if (pt_cmpR op_eq (pe_cal G_take (hr.mono (by omega)) (by rfl) (pa_cons (pv 0) (pa_cons pe_int pa_nil))) pe_int (nomark _))
        (pss_one (ps_expr (pe_cal G_line (hr.mono (by omega)) (by rfl) (pa_cons (pv 0) (pa_cons (pv 1) (pa_cons (pe_op op_add pe_int (pe_cal G_take (hr.mono (by omega)) (by rfl) (pa_cons (pv 0) (pa_cons pe_int pa_nil)))) (pa_cons pe_int pa_nil)))))))
        (pss_one (ps_expr (pe_cal G_line (hr.mono (by omega)) (by rfl) (pa_cons (pv 0) (pa_cons (pv 1) (pa_cons (pe_op op_add pe_int (pe_cal G_take (hr.mono (by omega)) (by rfl) (pa_cons (pv 0) (pa_cons pe_int pa_nil)))) (pa_cons pe_int pa_nil))))))))
      (pss_one (ps_if (pt_cmpR op_gt (pe_ix (ixL K) (pv 1) pe_int (fun _ _ => rfl)) pe_int (nomark _))
        (pss_one ps_break)
        pss_nil)))))))
    (pss_cons (ps_set (i := 7) sc_page.nd rfl (Or.inl rfl) (pe_op op_add (pe_ix (ixL K) (pe_ix (ixL K) (pv 1) pe_int (fun _ _ => rfl)) pe_int (fun _ _ => rfl)) pe_int))
    (pss_cons (ps_for PassesOwn.never rfl (pi_range1 (by rfl) T.z_range (pa_cons (pe_op op_sub (pe_callB (cLen K) (by rfl) T.z_len (by decide +kernel) (pa_cons (pv 2) pa_nil)) pe_int) pa_nil)) (pg_name (i := 5) sc_page.nd rfl (Or.inl rfl))
      (pss_one (ps_expr (pe_bm PySem.F.plainAttrs_list PySem.F.slot_list_append PySem.F.type_list_append mtApp (pe_ix (ixL K) (pv 1) pe_int (fun _ _ => rfl)) (pa_cons (pe_tup (pa_cons pe_str (pa_cons pe_str (pa_cons (pv 7) (pa_cons pe_int pa_nil))))) pa_nil)))))
    (pss_cons (ps_expr (pe_bm PySem.F.plainAttrs_list PySem.F.slot_list_append PySem.F.type_list_append mtApp (pe_ix (ixL K) (pv 1) pe_int (fun _ _ => rfl)) (pa_cons (pe_tup (pa_cons pe_str (pa_cons pe_str (pa_cons (pv 7) (pa_cons pe_int pa_nil))))) pa_nil)))
    (pss_one (ps_ret (pe_lst (pa_cons (pe_op op_catS (pe_m1 PySem.F.slot_str_join PySem.F.type_str_join (mtJoin K) pe_str (pe_ix (ixL K) (pv 1) pe_int (fun _ _ => rfl))) (pe_op op_repS pe_str (pe_cal G_take (hr.mono (by omega)) (by rfl) (pa_cons (pv 0) (pa_cons pe_int pa_nil))))) (pa_cons (pe_ix (ixL K) (pv 1) pe_int (fun _ _ => rfl)) pa_nil))))))))))))))), ?_⟩
    tm_at "goo"
    rename_i R nR Tk nTk Sp nSp A nA
    obtain ⟨W, eW'⟩ : ∃ q, q = p := ⟨_, rfl⟩
    subst eW'
    have N1 : Fr [] H (upd H R (.lst [])) := Fr.new nR
    have N2 := Fr.new (o := .lst []) nTk
    have N3 := Fr.new (o := .lst [.int 0, .int 1]) nSp
    have N4 := Fr.new (o := .lst [.ref R, .str (Str.ofString ""), .ref Tk, .int 0, .ref Sp]) nA
    have N5 := Fr.new (o := .lst [.int 0]) np
    have fTk := N1.free nTk
    have fSp := N1.free (N2.free nSp)
    have fA := N1.free (N2.free (N3.free nA))
    have fW := N1.free (N2.free (N3.free (N4.free np)))
    have F5 : Fr [b] H _ := ((((hB.rf.comp0 N1).comp0 N2).comp0 N3).comp0 N4).comp0 N5
    have pg0 := pgw_new K hB nR nTk nSp nA np
    refine ⟨PL0 K H b A R Tk W 157, ?_, fun σ H6 hw => ?_⟩
    · have hB5 := pg0.pg.hb
      show tIfS _ _ _ _ _ _
      tm_at "goo"
      · have pg6 := pg0.frb fr hB
        refine re_step pg6.pg (by decide) (by decide) (fun _ m => nomatch m) fun H7 rows7 cnt7 pg7 rend f7 => ?_
        tm_at "goo"
        show PL0 K H b A R Tk W 157 _ _
        unfold PL0
        refine ⟨0, [], [0], rfl, ⟨rows7, cnt7, 1, St0, pg6.of4 f7 pg7 (.inr rfl), ?_, rfl, by have := rend.le; omega, Nat.le_refl _, False.elim, fun _ => rfl⟩, fr_five (F5.comp fr) (fr_four pg6 f7) ⟨fA, nR, fTk, fW⟩, fA, nR, fTk, fW⟩
        have e0 : rowsM 1 rows7 St0 = .ok St0 := rend.scan (rows := []) (stR := St0) (st := St0) (b := 0) rfl Cur.new (.inl rfl)
        exact ⟨e0, rfl, rfl, rfl, rfl, rend.ok (fun _ m => nomatch m), by have := rend.tot; simp [totR] at this ⊢; omega, (fun _ m => nomatch m), sim0⟩
      · show PL0 K H b A R Tk W 157 _ _
        unfold PL0
        refine ⟨0, [], [0], rfl, ⟨[], 0, 1, St0, pg0.frb fr hB, ⟨rfl, rfl, rfl, rfl, rfl, (fun _ m => nomatch m), rfl, (fun _ m => nomatch m), sim0⟩, rfl, by decide, Nat.le_refl _, False.elim, fun _ => rfl⟩, F5.comp fr, fA, nR, fTk, fW⟩
    · unfold PL0 at hw
      obtain ⟨sa, toks, ind, rfl, pl⟩ := hw
      have hB6 : Box H6 b := let ⟨_, _, _, _, pg, _⟩ := pl.ex; pg.pg.hb
      tm_at "goo"
      rename_i lean H7 hl0 hl1 hB7 f7
      have pl8 := (pl.frb f7 hB7).frb fr hB
      have hB8 := hB
      obtain ⟨mz, rfl⟩ : ∃ m : Nat, r = m := ⟨r.toNat, by omega⟩
      refine ⟨PL1 K H b A R Tk W lean, ?_, fun σ H9 hw => ?_⟩
      · show tIfS _ _ _ _ _ _
        tm_at "goo"
        all_goals show PL1 K H b A R Tk W lean _ _
        all_goals unfold PL1
        · exact ⟨24, sa, toks, ind, by decide, rfl, pl8.frb (by assumption) (by assumption)⟩
        · exact ⟨mz, sa, toks, ind, by omega, rfl, pl8.frb (by assumption) (by assumption)⟩
      · unfold PL1 at hw
        obtain ⟨many, sa, toks, ind, hmany, rfl, pl⟩ := hw
        refine ⟨PL5 K H b A R Tk W lean many, ?_, fun σ H10 hw => ?_⟩
        · show tFor _ _ _ _ _ _
          tm_at "goo"
          refine forR (lo := 0) (PL2 K H b A R Tk W lean many) ?_ (fun i σ H11 hi hq => ?_) (fun σ H11 hq => ?_)
          · unfold PL2
            exact ⟨sa, toks, ind, _, _, rfl, pl.wk (by decide) (Nat.le_refl _) fun z => absurd z (Nat.lt_irrefl _)⟩
          · unfold PL2 at hq
            obtain ⟨sa, toks, ind, x5, x6, rfl, pl⟩ := hq
            have hB11 : Box H11 b := let ⟨_, _, _, _, pg, _⟩ := pl.ex; pg.pg.hb
            tm_at "goo"
            have plA := pl.frb fr hB
            refine ⟨PL3 K H b A R Tk W lean many i, ?_, fun σ H12 hw => ?_⟩
            · show tIfS _ _ _ _ _ _
              have hB12 := hB
              tm_at "goo"
              all_goals show PL3 K H b A R Tk W lean many i _ _
              all_goals unfold PL3
              · exact ⟨sa, toks, ind, 2, rfl, plA.frb fr hB⟩
              · exact ⟨sa, toks, ind, _, rfl, plA.frb fr hB⟩
              · exact ⟨sa, toks, ind, _, rfl, plA⟩
            · unfold PL3 at hw
              obtain ⟨sa, toks, ind, way, rfl, pl⟩ := hw
              have hB12 : Box H12 b := let ⟨_, _, _, _, pg, _⟩ := pl.ex; pg.pg.hb
              obtain ⟨rows, cnt, sb, st, pg, pi, rfl, l1, l2, l3, l4⟩ := pl.ex
              have em := pi.mks
              subst em
              have rl : rows.length ≤ 4500 := by have := rows_le rows; have := pi.tot; omega
              tm_at "goo"
              all_goals (refine mg_step (st := st) pg (by first | exact .inl rfl | exact .inr (l3 (by omega))) l4 (by omega) (by omega) fun H13 ind2 toks2 pg13 mr tl2 f13 => ?_)
              all_goals (refine ⟨PL4 K H b A R Tk W lean many i (some (.int way)), ?_, fun σ H14 hw => ?_⟩)
              rotate_left
              rotate_left 2
              all_goals first
                | (unfold PL4 at hw
                   obtain ⟨sa, toks, ind, rfl, pl⟩ := hw
                   obtain ⟨rows, cnt, sb, st, pg, pi, rfl, l1, l2, l3, l4⟩ := pl.ex
                   obtain ⟨Sp14, hA14, _⟩ := pg.pg.hA
                   tm_at "goo"
                   · show PL5 K H b A R Tk W lean many _ _
                     unfold PL5
                     exact ⟨_, _, _, _, _, rfl, pl.wk (Nat.le_refl _) (by omega) False.elim⟩
                   · show PL2 K H b A R Tk W lean many (i + 1) _ _
                     unfold PL2
                     exact ⟨_, _, _, _, _, rfl, ⟨⟨rows, cnt, sb, st, pg, pi, rfl, by omega, l2, fun _ => l3 trivial, l4⟩, pl.fr, pl.fn⟩⟩)
                | (show tIfS _ _ _ _ _ _
                   have hB13 := pg13.pg.hb
                   have hd13 := ind_hd mr.ok
                   have hl13 := mr.le
                   tm_at "goo"
                   all_goals
                     obtain ⟨nz, rfl⟩ : ∃ m : Nat, r = m := ⟨r.toNat, by omega⟩
                     rename_i HA _ _ hBA fA
                     have pg14 := (pg13.frb fA hBA).frb fr hB
                     have f14 := ((fr_five pl.fr f13 pl.fn).comp fA).comp fr
                     first
                       | (refine ln_step (many := 100 + nz) (least := 1) pg14.pg (ln_of pi mr) pi.mn pi.mn pi.op (by omega) rfl (by rw [List.length_replicate]; omega) (by omega) (by omega) (by omega) (by omega) fun H' rows' toks' cnt' sa' sb' st' pg15 pi15 ne15 sa15 in15 ct15 tl15 f15 => ?_)
                       | (refine ln_step (many := 1 + nz) (least := 0) pg14.pg (ln_of pi mr) pi.mn pi.mn pi.op (by omega) rfl (by rw [List.length_replicate]; omega) (by omega) (by omega) (by omega) (by omega) fun H' rows' toks' cnt' sa' sb' st' pg15 pi15 ne15 sa15 in15 ct15 tl15 f15 => ?_)
                     tm_at "goo"
                     show PL4 K H b A R Tk W lean many i _ _ _
                     unfold PL4
                     exact ⟨sa', toks', ind2, rfl, ⟨rows', cnt', sb', st', pg14.of4 f15 pg15 (.inl sa15), pi15, in15.symm, ct15, by omega, fun _ => ⟨ne15, sa15⟩, fun z => absurd z ne15⟩, fr_five f14 (fr_four pg14 f15) pl.fn, pl.fn⟩)
          · unfold PL2 at hq
            obtain ⟨sa, toks, ind, x5, x6, rfl, pl⟩ := hq
            show PL5 K H b A R Tk W lean many _ _
            unfold PL5
            exact ⟨sa, toks, ind, x5, x6, rfl, pl.wk (by decide) (by omega) False.elim⟩
        · unfold PL5 at hw
          obtain ⟨sa, toks, ind, x5, x6, rfl, pl⟩ := hw
          have hB10 : Box H10 b := let ⟨_, _, _, _, pg, _⟩ := pl.ex; pg.pg.hb
          obtain ⟨rows, cnt, sb, st, pg, pi, rfl, l1, l2, l3, l4⟩ := pl.ex
          obtain ⟨Sp10, hA10, hS10, _⟩ := pg.pg.hA
          have em := pi.mks
          subst em
          have hW10 := pg.hW
          have wl := wV_len st.ind
          have hle := pg.le
          have il := List.length_pos_iff.mpr (ind_ne pg.ok)
          tm_at "goo"
          refine forR (lo := 0) (PL6 K H b A R Tk W lean many rows cnt sa sb st) ?_ (fun j σ H11 hj hq => ?_) (fun σ H11 hq => ?_)
          · unfold PL6
            exact ⟨st.marks, _, _, rfl, pg, by rw [List.replicate_zero, List.append_nil], pl.fr⟩
          · unfold PL6 at hq
            obtain ⟨toks3, x5, x6, rfl, pg3, et, f3⟩ := hq
            obtain ⟨Sp3, hA3, _⟩ := pg3.pg.hA
            obtain ⟨xs3, hT3, dT3⟩ := pg3.pg.hT
            have tl3 := dT3.1
            have tl4 : toks3.length ≤ 3700 := by rw [et]; simp; omega
            tm_at "goo"
            have N4 := Fr.new (o := .tup [.str (Str.ofString "dedent"), .str (Str.ofString ""), .int ((sa : Int) + 1), .int 1]) np
            have pgN := (pg3.fr0 N4).app (N4.at0 hT3) (Den.tups (ts := [.str (Str.ofString "dedent"), eW, .int ((sa : Int) + 1), .int 1]) upd_same (.cons (.str _) (.cons (.str _) (.cons (.int _) (.cons (.int _) .nil))))) hp fr
            show PL6 K H b A R Tk W lean many rows cnt sa sb st (j + 1) _ _
            unfold PL6
            refine ⟨_, _, _, rfl, pgN, ?_, fr_five (f3.comp0 N4) ((pg3.fr0 N4).rf.subs fr (by simp)) pl.fn⟩
            rw [et, List.append_assoc, List.replicate_succ']
            rfl
          · unfold PL6 at hq
            obtain ⟨toks3, x5, x6, rfl, pg3, et, f3⟩ := hq
            obtain ⟨Sp3, hA3, _⟩ := pg3.pg.hA
            obtain ⟨xs3, hT3, dT3⟩ := pg3.pg.hT
            have tl3 := dT3.1
            have tl4 : toks3.length ≤ 3700 := by rw [et]; simp; omega
            have nat3 := pg3.pg.at_
            have nrt3 := pg3.pg.rt
            have ntb3 := Ne.symm pg3.pg.tb
            have hR3 := pg3.pg.hR
            have hB3 := pg3.pg.hb
            tm_at "goo"
            have N4 := Fr.new (o := .tup [.str (Str.ofString "end"), .str (Str.ofString ""), .int ((sa : Int) + 1), .int 1]) np
            have pgN := (pg3.fr0 N4).app (N4.at0 hT3) (Den.tups (ts := [.str (Str.ofString "end"), eW, .int ((sa : Int) + 1), .int 1]) upd_same (.cons (.str _) (.cons (.str _) (.cons (.int _) (.cons (.int _) .nil))))) hp fr
            have hR1 := fr.at1 (N4.at0 hR3) nrt3
            have lnl : (Str.ofString "\n").length = 1 := by decide +kernel
            have enl : (Str.ofString "\n").cps.toList = [10] := by decide +kernel
            have sm := sum_len (rs := rows)
            have tt := pi.tot
            have jl := join_len (rs := rows)
            refine join_stepS (zs := rows) hR1 rfl (by rw [lnl]; omega) ?_
            rw [enl]
            have hB1 := pgN.pg.hb
            obtain ⟨SpN, hAN, _⟩ := pgN.pg.hA
            have nab := pgN.pg.ab
            have fN := fr_five (f3.comp0 N4) ((pg3.fr0 N4).rf.subs fr (by simp)) pl.fn
            tm_at "goo"
            have pgF := pgN.frb fr hB
            obtain ⟨xsF, hTF, dTF⟩ := pgF.pg.hT
            have N5 := Fr.new (o := .lst [.str (S (TL.joinL [10] rows ++ List.replicate r.toNat 10)), .ref Tk]) np
            have ht : List.replicate r.toNat 10 = [] ∨ List.replicate r.toNat 10 = [10] := by
              have : r = 0 ∨ r = 1 := by omega
              rcases this with rfl | rfl
              · exact .inl rfl
              · exact .inr rfl
            have pt := page_tok2 (t := List.replicate r.toNat 10) pi (by omega) ht
            have emp : st.ind.dropLast.map (fun _ => tk "dedent" eW (sa + 1) 1) = List.replicate ((wV st.ind).length - 1 : Int).toNat (tk "dedent" eW (sa + 1) 1) := by
              rw [List.map_const', List.length_dropLast, wl]
              congr 1
              omega
            rw [emp, ← et] at pt
            refine k _ _ _ _ _ _ upd_same (N5.at0 hTF) (dTF.fr N5) (fun t m => ?_) ?_ (by rw [List.length_append]; show _ + 1 ≤ _; omega) pt ?_ ((fN.comp fr).comp0 N5)
            · rcases List.mem_append.mp m with m | m
              · rw [et] at m
                rcases List.mem_append.mp m with m | m
                · exact pi.tw t m
                · rw [List.eq_of_mem_replicate m]
                  exact tkw_mk (by decide)
              · rw [List.mem_singleton.mp m]
                exact tkw_mk (by decide)
            · have := laid_of (L := sa + 1) (C := 1) pi.sim pi.mn
              rw [et, wl, show ((st.ind.length : Int) - 1).toNat = st.ind.length - 1 by omega]
              exact this
            · rw [List.length_append, List.length_replicate]
              omega
end
end TK
set_option Elab.async false
set_option linter.all false
set_option maxRecDepth 100000
set_option maxHeartbeats 4000000
/-! a def that an except suite calls, the exception among its arguments -/
namespace TK
open PySem PySem.Spec PyProof.Rows L2 M14 SX K4
abbrev AO := Addr × Obj
section
variable (P : Program) (w : World) (K : PySem.W.Frag) (mg : Str → Option Value) (base : Heap)
/-- what it promises while the object p stands -/
structure FnPin (k : Nat) (f : Addr) (fd : FuncData) (ps : List Str) (sp : Addr → Value → Option Addr → Sp) : Prop where
  len : ∀ a cls d vs H Q E, sp a cls d vs H Q E → vs.length = ps.length
  go : ∀ (A : Around) (outer : List Env) (s : Shared) (H : Hp) (args : Args) (us : List Value)
    (vs : List V) (Q : VK) (E : XK) (p : AO) (cls : Value) (d : Option Addr), L2H.RoomH k A → L2H.PinOk outer H s p →
    Zc cls d p.2 → (∃ vs : Array Value, p.2.data = .fields vs) →
    Env0 P w K mg base A outer s H → BindsTo s fd args (ps.zip us) → Vals vs us →
    sp p.1 cls d vs H Q E → codeAny (model P w) A (.call (.ref f) args) (CR CX0 outer P w H s Q E) s
def CalPin (k : Nat) (x : Str) (ps : List Str) (sp : Addr → Value → Option Addr → Sp) : Prop :=
  ∃ f fd, FnPin P w K mg base k f fd ps sp ∧ mg x = some (.ref f) ∧
    PySem.W.keepIn K (.ref f) = true ∧ Binds K fd ps []
end
section
variable {P : Program} {w : World} {K : PySem.W.Frag} {mg : Str → Option Value} {base : Heap}
theorem Def1.pin {x : Str} {st : Stmt} {N ps : List Str} {k : Nat} {sp : Addr → Value → Option Addr → Sp} (D : Def1 K mg x st) (S : FnScope N ps (defScope st))
    (hb : ∀ (kV doc pm : Value) (an : Option Addr) (cdv ct : Value) (us : List Value), us.length = ps.length → bindArgs (PySem.W.fnOf x x (defArgs st) (defBody st) (defScope st) .none kV doc pm an cdv ct) ⟨us, []⟩ = pure (ps.zip us))
    (len : ∀ a cls d vs H Q E, sp a cls d vs H Q E → vs.length = ps.length)
    (hbody : ∀ (f : Addr) (cdv : Value) (A : Around) (outer : List Env) (s : Shared) (H : Hp)
      (vs : List V) (Q : VK) (E : XK) (p : AO) (cls : Value) (d : Option Addr),
      Zc cls d p.2 → (∃ vs : Array Value, p.2.data = .fields vs) →
      L2H.RoomH k (A.deeper (envOfC x (defScope st) s.heap.objs.size f cdv)) → sp p.1 cls d vs H Q E →
      ∃ t, PSs (L2H.cxH CX0 P w K mg base N x (defScope st) f cdv A outer s H E p).nox (defBody st) t ∧
        t { nx := fun _ H' => Q .non H', rt := Q } (start N vs) H) :
    CalPin P w K mg base (k + 1) x ps sp := by
  obtain ⟨f, fd, F, g⟩ := D
  refine ⟨f, fd, ⟨len, ?_⟩, g, F.kp, F.bindsN hb⟩
  intro A outer s H args us vs Q E p cls d hr hpin hz hf e0 hbs r hsp
  obtain ⟨oc, od, dV, kV, doc, pm, an, cdv, ct, osl, rfl, lk, hcd, _, _⟩ := F.ex
  have hl := len _ _ _ _ _ _ _ hsp
  have up : ∀ b o, base.get? b = some o → s.heap.get? b = some o := fun b o e => (e0.bs b o e).1
  have KX := e0.mod.kin.keeps up
  have kinds : ∀ y ∈ ps.zip us, (defScope st).names.lookup y.1 = some .local ∨
      ((defScope st).names.lookup y.1 = some .cell ∧
        ((cellsFrom (s.heap.objs.size + 1) (defScope st).names []).lookup y.1).isSome = true) := by
    intro y hy
    obtain ⟨n, v⟩ := y
    have hm := (List.of_mem_zip hy).1
    cases S.par n hm with
    | inl q => exact .inl q
    | inr q => exact .inr ⟨q, PySem.W.cellsFrom_some _ _ _ (.inl q)⟩
  refine codeAny_call_function hr.depth (KX _ _ lk) rfl S.co S.gen rfl
    (PySem.W.codeRec_of KX hcd) (hbs _ _ _ _ ?_)
  refine wpAny_newFunctionEnv_cells S.kind kinds fun env he s1 xc => ?_
  subst he
  refine ⟨(e0.mod.nolimit.keeps up).keeps xc.toInCall.keep, codeAny_func ?_⟩
  obtain ⟨t, ht, hq⟩ := hbody f cdv A outer s H vs Q E p cls d hz hf (hr.deeper _) hsp
  have I := L2H.inv_startH (CX := CX0) (E := E) S hpin e0 hl r xc
  refine wpAny_mono (ht.nox.run [] s1 (start N vs) H _ I hq) (fun fl s' hs => ?_) fun _ _ hs => hs
  cases fl with
  | ret u => exact let ⟨v, _, H', J, rv, q⟩ := hs; ⟨v, H', J.os, J.bare, J.base, J.hok, rv, q⟩
  | next => exact let ⟨_, H', J, q⟩ := hs; ⟨.non, H', J.os, J.bare, J.base, J.hok, rfl, q⟩
  | brk => exact let ⟨_, _, _, q⟩ := hs; q.elim
  | cont => exact let ⟨_, _, _, q⟩ := hs; q.elim
end
section
variable {X : Cx} {x : Str} {q pos : Pos} {e : Expr} {es : List Expr} {k : Nat} {ps : List Str} {sp : Addr → Value → Option Addr → Sp} {t : TA}
theorem pe_calP {a : Addr} {oe : Obj} {cls : Value} {d : Option Addr} (hz : Zc cls d oe) (hf : ∃ vs : Array Value, oe.data = .fields vs) (c : CalPin X.prog X.w X.K X.mg X.base k x ps sp) (hr : L2H.RoomH k X.A) (hp : (a, oe) ∈ X.pn) (hg : Gl X x) (ha : PA X (e :: es) t)
    (hdb : (x == ("__debug__" : Str)) = false := by decide)
    (he : starEach (e :: es) X.env = (false, eval e X.env) :: starEach es X.env := by rfl)
    (hpl : (backTo pos (starEach es X.env)).any (·.1) = false := by rfl) :
    PE X (.Call (.Name x q) (e :: es) [] pos) (tCall (sp a cls d) [] E0 t) := by
  obtain ⟨f, fd, F, hm, hk, hb⟩ := c
  refine ⟨fun pins s σ H Q I h => ?_⟩
  refine wpAny_Call_Name_kw (ld_glob I hg hm ?_ hdb)
  refine PySem.W.callWith_K (h₀ := X.base) I.ok.mod.kin hk
    (thn (ha.run pos pins s σ H _ I h) fun us s1 hu => ?_) he hpl
  obtain ⟨vs, H1, I1, r, q1⟩ := hu
  rw [List.append_nil] at q1
  refine ⟨I1.kIn, ?_⟩
  have hl : us.length = ps.length := by rw [← r.length]; exact F.len _ _ _ _ _ _ _ q1
  have b := hb s1 us I1.kIn (by rw [List.append_nil]; exact hl)
  rw [List.append_nil] at b
  obtain ⟨p1, p2, p3, p4, p5⟩ := I1.pin (a, oe) (List.mem_append_left _ hp)
  have pin : L2H.PinOk X.stack H1 s1 (a, oe) := ⟨p1, p2, fun hm => (List.mem_cons.mp (I1.stkSub a hm)).elim p3 p4, p5⟩
  refine wpAny_call (codeAny_mono (F.go X.A X.stack s1 H1 ⟨us, []⟩ us vs Q E0 (a, oe) cls d hr pin hz hf I1.env0 b r q1) fun rr s' hq => ?_)
  cases rr with
  | error e => exact pass0 pins σ H1 s1 e s' I1 hq
  | ok fl =>
    cases fl with
    | ret u => exact I1.after hq
    | next => exact hq.elim
    | brk => exact hq.elim
    | cont => exact hq.elim
/-- isinstance of the error that stands pinned: its class D, its dict dd -/
def rIsP0 (K : PySem.W.Frag) (p : AO) (D : Addr) : List V → Hp → VK → Prop := fun xs H Q => ∃ (c : V) (cv : Value) (b : Bool) (dd : Addr) (fs : List (Str × V)), xs = [.ref p.1, c] ∧ (∀ u, RelV c u → u = cv) ∧ PySem.W.kitOne K (.ref D) cv = some b ∧ Zc (.ref D) (some dd) p.2 ∧ H dd = some (.xd fs) ∧ Q (.bl b) H
@[irreducible] def rIsP (K : PySem.W.Frag) (p : AO) (D : Addr) : List V → Hp → VK → Prop := rIsP0 K p D
theorem call_isP {p : AO} {D : Addr} (C : ExcC X.K D) (hp : p ∈ X.pn) (hf : ∃ vs, p.2.data = .fields vs) : CallR X (.builtin "isinstance") (rIsP X.K p D) := by
  unfold rIsP
  intro pins s σ H xs us Q I r h
  obtain ⟨c, cv, b, dd, fs, rfl, hcv, e, hz, hdd, q⟩ := h
  match us, r with
  | [_, _], .cons rx (.cons rt .nil) =>
    cases rx
    have ec := hcv _ rt
    subst ec
    obtain ⟨a, oe⟩ := p
    have hget := (I.pin (a, oe) (List.mem_append_left _ hp)).1
    obtain ⟨vs, hv⟩ := hf
    have ok : ObjOk X.prog X.w H s.heap dd (.xd fs) := I.hok dd _ hdd
    obtain ⟨mA, hns, _⟩ := ok
    obtain ⟨od, ho, _⟩ := lookIn_ns hns
    have nc : PySem.W.notCls oe = true := by
      unfold PySem.W.notCls
      rw [show oe.data = .fields vs from hv]
    have dc : match oe.dict, some od with
      | some dx, some o => s.heap.get? dx = some o
      | none, none => True
      | _, _ => False := by rw [hz.2]; exact ho
    have J : PySem.W.InstAt s.heap a oe D (some od) := ⟨hget, hz.1, nc, dc⟩
    have cl : (PySem.W.clsIn X.K D).isSome = true := by
      obtain ⟨cd, hc, _⟩ := PySem.W.any_some C.hd
      rw [hc]
      rfl
    exact PySem.W.kia_one (PySem.W.kitx_exc cl C.hg C.hk C.hs C.ha C.hn C.ht C.hm) I.kIn J e (fun z => nomatch z) fun tk => ⟨.bl b, H, I.kept (t' := tk) fun _ _ z => z, rfl, q⟩
/-- x is an instance of c -/
theorem isP_step {K : PySem.W.Frag} {p : AO} {D dd c : Addr} {fs : List (Str × V)} {b : Bool} {H : Hp} {Q : VK} (h : PySem.W.kitOne K (.ref D) (.ref c) = some b) (hz : Zc (.ref D) (some dd) p.2) (hd : H dd = some (.xd fs)) (q : Q (.bl b) H) : rIsP K p D [.ref p.1, .ref c] H Q := by
  unfold rIsP
  exact ⟨_, _, b, dd, fs, rfl, fun u r => by cases r; rfl, h, hz, hd, q⟩
theorem isPt_step {K : PySem.W.Frag} {p : AO} {D dd : Addr} {c : String} {fs : List (Str × V)} {b : Bool} {H : Hp} {Q : VK} (h : PySem.W.kitOne K (.ref D) (.type c) = some b) (hz : Zc (.ref D) (some dd) p.2) (hd : H dd = some (.xd fs)) (q : Q (.bl b) H) : rIsP K p D [.ref p.1, .ty c] H Q := by
  unfold rIsP
  exact ⟨_, _, b, dd, fs, rfl, fun u r => by cases r; rfl, h, hz, hd, q⟩
end
end TK
set_option Elab.async false
set_option linter.all false
set_option maxRecDepth 100000
set_option maxHeartbeats 4000000
/-! the law -/
namespace TK
open PySem PySem.Spec PyProof.Rows L2 M14 SX K4
theorem fnp_cal {P : Program} {w : World} {K : PySem.W.Frag} {mg : Str → Option Value} {base : Heap} {m qual : Str} {st : Stmt} {N ps : List Str} {k : Nat} {sp : Sp} {f : Addr} {fd : FuncData} (F : FnP K m qual st f fd) (S : FnScope N ps (defScope st))
    (hb : ∀ (kV doc pm : Value) (an : Option Addr) (cdv ct : Value) (us : List Value), us.length = ps.length → bindArgs (PySem.W.fnOf m qual (defArgs st) (defBody st) (defScope st) .none kV doc pm an cdv ct) ⟨us, []⟩ = pure (ps.zip us))
    (len : ∀ vs H Q E, sp vs H Q E → vs.length = ps.length)
    (hbody : ∀ (f : Addr) (cdv : Value) (A : Around) (outer : List Env) (s : Shared) (H : Hp) (vs : List V) (Q : VK) (E : XK), Room k (A.deeper (envOfC qual (defScope st) s.heap.objs.size f cdv)) → sp vs H Q E →
      ∃ t, PSs (cxOf CX0 P w K mg base N qual (defScope st) f cdv A outer s H E).nox (defBody st) t ∧ t { nx := fun _ H' => Q .non H', rt := Q } (start N vs) H) : FnOk P w K mg base CX0 (k + 1) f fd ps sp ∧ Binds K fd ps [] := by
  refine ⟨F.ok S len fun cdv A outer s H vs Q E hr h => ?_, F.bindsN hb⟩
  obtain ⟨t, h1, h2⟩ := hbody f cdv A outer s H vs Q E hr h
  exact ⟨t, h1.nox, h2⟩
def spLaw (K : PySem.W.Frag) : Sp := fun vs H Q _ => ∃ (a : Addr) (ns : List Int), vs = [.ref a] ∧ SqL K H a (ns.map V.int) ∧ ∀ H', Q (.bl true) H'
section
variable {P : Program} {w : World} {K : PySem.W.Frag} {mg : Str → Option Value} {base : Heap}
set_option hygiene false
local macro_rules | `(tactic| tm_at "sc") => `(tactic| (first | omega | (simp only [List.length_cons, List.length_nil, List.length_map, List.length_set, List.length_append]; omega) | (simp only [List.length_map] at h1 ⊢; omega) | (simp only [List.length_map] at c ⊢; omega) | with_reducible assumption | exact And.intro (by omega) (by omega) | exact Or.inl (And.intro (by omega) (by omega)) | exact Or.inr (And.intro (by omega) (by omega)) | decide +kernel | exact len1000 (by simp) | rfl | fail "no way"))
local macro_rules | `(tactic| tm_at "sc1") => `(tactic| (focus (simp; done)))
local macro_rules | `(tactic| tm_at "ne") => `(tactic| (first | assumption | exact Ne.symm (by assumption) | (apply Box.ne2; assumption; tm_at "hp") | (apply Ne.symm; apply Box.ne2; assumption; tm_at "hp") | (apply ne_of_none2; assumption; tm_at "hp") | (apply Ne.symm; apply ne_of_none2; assumption; tm_at "hp") | fail "no way"))
local macro_rules | `(tactic| tm_at "f0") => `(tactic| (first | assumption | (apply Fr.new; assumption) | fail "no way"))
local macro_rules | `(tactic| tm_at "hp") => `(tactic| (first | assumption | exact upd_same | (apply SqL.of; first | assumption | exact upd_same) | (apply Fr.at0; tm_at "f0"; tm_at "hp") | (apply Fr.at1n; assumption; tm_at "ne"; tm_at "hp") | (apply sqFr0; tm_at "f0"; tm_at "hp") | (apply sqFr1; assumption; tm_at "ne"; tm_at "hp") | (apply Box.fr0; tm_at "f0"; tm_at "hp") | (apply Box.fr1; assumption; tm_at "ne"; tm_at "hp") | (apply Den.fr; tm_at "f0"; tm_at "hp") | (apply Dens.fr; tm_at "f0"; tm_at "hp") | fail "no way"))
local macro_rules | `(tactic| tm_at "free0") => `(tactic| (first | assumption | (apply updFree; assumption) | (apply updFree; apply updFree; assumption) | (apply updFree; apply updFree; apply updFree; assumption) | (apply updFree; apply updFree; apply updFree; apply updFree; assumption) | fail "no way"))
local macro_rules | `(tactic| tm_at "free") => `(tactic| (first | tm_at "free0" | (apply Fr.free; assumption; tm_at "free0") | (apply Box.free; assumption; tm_at "fr"; tm_at "free0") | (apply Fr.free; assumption; apply Fr.free; assumption; tm_at "free0") | fail "no way"))
local macro_rules | `(tactic| tm_at "fr") => `(tactic| (first | assumption | exact Fr.refl0 _ | exact Fr.refl (Box.nt (by assumption)) | (refine Fr.comp0 ?_ (by tm_at "f0"); tm_at "fr") | (refine Fr.comp ?_ (by assumption); tm_at "fr") | (refine Fr.compN ?_ (by assumption) (by tm_at "free"); tm_at "fr") | fail "no way"))
local macro_rules | `(tactic| tm_at "call") => `(tactic| fail "no call")
local macro_rules | `(tactic| tm_at "call") => `(tactic| (apply take_step; tm_at "hp"; tm_at "sc"; tm_at "sc"; intro r H1 h0 h1 hB fr))
local macro_rules | `(tactic| tm_at "ty") => `(tactic| (first | assumption | exact .base .non | exact .base (.bl _) | exact .base (.int _) | exact .base (.str _) | (apply TyX.base; apply TyOf.lst; tm_at "hp") | (apply TyX.base; apply TyOf.tup; tm_at "hp") | fail "no way"))
local macro_rules | `(tactic| tm_at "pre") => `(tactic| fail "none")
local macro_rules | `(tactic| tm_at "go1") => `(tactic| (first | tm_at "pre" | refine ⟨_, rfl, ?_⟩ | refine ⟨_, _, rfl, rfl, ?_⟩ | (apply set_step; tm_at "hp"; tm_at "sc"; tm_at "sc"; intro H1 hp fr) | (with_reducible refine iteDI ?_ ?_ <;> intro c) | (with_reducible refine iteDS ?_ ?_ <;> intro c) | (with_reducible refine iteD ?_ ?_ <;> intro c) | (with_reducible refine iteEM ?_ ?_ <;> intro c) | (with_reducible refine iteE ?_ ?_ <;> intro c) | with_reducible refine iteN ?_ | with_reducible refine iteF ?_ | with_reducible refine iteT ?_ | (refine fun (p : Addr) (np : _ = (none : Option HO)) => ?_; fail_if_success (refine ⟨fun (_ _ : Nat) (_ : Hp) => True, ?_⟩)) | (apply isi_tt; tm_at "ty"; focus (decide +kernel)) | (apply isi_ff; tm_at "ty"; focus (decide +kernel)) | (apply sl_step; tm_at "hp"; intro qq H1 ms nq hq fr) | (apply sum_step; tm_at "hp"; intro i) | (apply tru_step; tm_at "hp") | (apply len_step; tm_at "hp") | (apply lenq_step; assumption) | (apply ixq_step; assumption; tm_at "sc"; tm_at "sc"; intro v hv) | (apply lst_step; tm_at "hp") | (apply tupl_step; tm_at "hp") | (apply ixr_step; tm_at "hp"; exact rfl) | (apply ix0_step; tm_at "hp") | (apply ix1_step; tm_at "hp") | (apply ix2_step; tm_at "hp") | (apply ixi_step; tm_at "hp"; tm_at "sc"; tm_at "sc"; intro n hn hn') | (apply ixl_step; tm_at "hp"; tm_at "sc"; tm_at "sc"; intro v hv) | (apply ixt_step; tm_at "hp"; tm_at "sc"; tm_at "sc"; intro v hm hv) | (apply in_step; tm_at "hp"; rfl; rfl) | (apply cat_step; tm_at "hp"; tm_at "hp"; tm_at "sc") | (apply catT_step; tm_at "hp"; tm_at "hp"; tm_at "sc1") | (apply tyL_and; tm_at "hp") | (apply app_step; tm_at "hp"; tm_at "sc"; intro H1 hp fr) | tm_at "call" | refine ⟨⟨_, rfl⟩, ?_⟩ | (apply ixs_step; tm_at "sc"; tm_at "sc"; tm_at "sc"; intro ch) | refine .inl ⟨_, rfl, ?_⟩ | refine .inr ⟨_, rfl, ?_⟩ | (apply And.intro; tm_at "sc") | (with_reducible refine wayB ?_ ?_ <;> intro c) | fail "no way"))
local macro_rules | `(tactic| tm_at "go") => `(tactic| (repeat tm_at "go1"))
local macro_rules | `(tactic| tm_at "goo") => `(tactic| (repeat' tm_at "go1"))
local macro_rules | `(tactic| tm_at "den") => `(tactic| (first | assumption | exact Den.str _ | exact Den.int _ | exact Den.bl _ | exact Den.non | (apply Den.tups; tm_at "hp"; tm_at "dens") | (apply Den.fr; tm_at "f0"; tm_at "den") | fail "no way"))
local macro_rules | `(tactic| tm_at "dens") => `(tactic| (first | assumption | exact Dens.nil | (apply Dens.cons; tm_at "den"; tm_at "dens") | (apply Dens.fr; tm_at "f0"; tm_at "dens") | fail "no way"))
local macro_rules | `(tactic| tm_at "ix") => `(tactic| (apply Ix.mk; tm_at "hp"; tm_at "ne"; assumption; assumption))
local macro_rules | `(tactic| tm_at "dep") => `(tactic| (first | assumption | exact Dep.int | exact Dep.str | exact Dep.bl | exact Dep.non | (apply Dep.tup; tm_at "dlen"; tm_at "deps") | (apply Dep.mono; assumption; decide) | fail "no way"))
local macro_rules | `(tactic| tm_at "deps") => `(tactic| (first | assumption | exact memN | (apply memC; tm_at "dep"; tm_at "deps") | fail "no way"))
local macro_rules | `(tactic| tm_at "dlen") => `(tactic| (first | assumption | (focus (simp; done)) | omega | fail "no way"))
local macro_rules | `(tactic| tm_at "pre") => `(tactic| (apply rep_step; tm_at "hp"; tm_at "sc"; tm_at "sc"; intro rp H1 nrp hrp fr))

local macro_rules | `(tactic| tm_at "lits") => `(tactic| (try simp only [l_nl, l_open, l_close, l_sp, l_quo, l_bs, l_minus, l_zero, l_empty, l_n] at c))
local macro_rules | `(tactic| tm_at "pre") => `(tactic| (first | (apply slm_step; tm_at "sc"; tm_at "sc"; tm_at "sc") | (apply slf_step; tm_at "sc"; tm_at "sc") | (apply slt_step; tm_at "sc"; tm_at "sc") | (with_reducible refine iteEqZ ?_ ?_ <;> (intro c; tm_at "lits")) | (apply catS_step; tm_at "sc") | (apply inD_step) | (apply ordS_step) | (apply intS_step; assumption) | (apply sign_step) | (apply lenS_step; tm_at "sc")))
local macro_rules | `(tactic| tm_at "pre") => `(tactic| (apply while_go))
local macro_rules | `(tactic| tm_at "pre") => `(tactic| (apply ixS_step; tm_at "sc"; tm_at "sc"; assumption))
local macro_rules | `(tactic| tm_at "pre") => `(tactic| (apply appB_step; tm_at "hp"; tm_at "sc"; intro H1 hp fr))

set_option pp.deepTerms false
set_option pp.deepTerms.threshold 3
abbrev s_law : Stmt := top 60
theorem sc_law : FnScope ["_law_script", "_law_page_here", "_law_told"] ["_law_script"] (defScope s_law) := ⟨rfl, rfl, rfl, by decide +kernel, rfl, by decide +kernel, by decide +kernel⟩

theorem fun_law {f : Addr} {fd : FuncData} {CA : Cl → Addr} (T : K4.Bl mg) (G_page : Cal P w K mg base 6 "_law_page" ["_law_bag_here"] (spPge K)) (G_p_tokens : CalX P w K mg base 6 "tokens" ["text"] (spTok K CA)) (G_is_tokens : Cal P w K mg base 2 "_law_is_tokens" ["_law_told"] (spIt K)) (G_bag : Cal P w K mg base 1 "_law_bag" ["_law_script", "_law_at"] (spBag K)) (D : FnP K "law" "law" s_law f fd) : FnOk P w K mg base CX0 9 f fd ["_law_script"] (spLaw K) := by
  refine (fnp_cal D sc_law (fun _ _ _ _ _ _ us hl => match us, hl with | [_], _ => rfl) (fun vs H Q E h => ?_) (fun f cdv A outer s H vs Q E hr h => ?_)).1 <;> unfold spLaw at h
  · obtain ⟨a, ns, rfl, _⟩ := h
    rfl
  · obtain ⟨a, ns, rfl, hs, q⟩ := h
    have hu65 := room_65 hr
    refine ⟨_, (pss_cons (ps_set (i := 1) sc_law.nd rfl (Or.inl rfl) (pe_cal G_page (hr.mono (by omega)) (by rfl) (pa_cons (pe_cal G_bag (hr.mono (by omega)) (by rfl) (pa_cons (pv 0) (pa_cons pe_int pa_nil))) pa_nil)))
    (pss_cons (ps_set (i := 2) sc_law.nd rfl (Or.inl rfl) (pe_calL G_p_tokens (hr.mono (by omega)) (by rfl) (pa_cons (pe_ix (ixL K) (pv 1) pe_int (fun _ _ => rfl)) pa_nil)))
    (pss_one (ps_ret (pe_and (pe_cal G_is_tokens (hr.mono (by omega)) (by rfl) (pa_cons (pv 2) pa_nil)) (pe_one (pe_cmpR (opEqD K hu65) (pv 2) (pe_ix (ixL K) (pv 1) pe_int (fun _ _ => rfl)) (nomark _)))))))), ?_⟩
    tm_at "goo"
    refine bag_step hs (by decide) (by decide) fun b1 H1 nb1 hB1 f1 => ?_
    tm_at "goo"
    refine pge_step hB1 fun g Tk z ts xs H2 hg hT dx tw _ _ tok hz f2 => ?_
    tm_at "goo"
    refine tok_step hz ?_
    rw [tok]
    intro L H4 ys nL hL dy f4
    have hg4 := f4.at0 hg
    have hT4 := f4.at0 hT
    have dx4 := dx.fr f4
    tm_at "goo"
    refine it_step hL dy tw fun H5 f5 => ?_
    have hL5 := f5.at0 hL
    have hg5 := f5.at0 hg4
    have hT5 := f5.at0 hT4
    have dx5 := dx4.fr f5
    have dy5 := dy.fr f5
    tm_at "goo"
    refine eqD_step (n := 2) (.lst (.of hL5) (cmps_tkw dy5 tw)) (.lst (.of hT5) (cmps_tkw dx5 tw)) (by decide) ?_
    rw [eqv_dTs tw]
    exact q _
end
end TK
set_option Elab.async false
set_option linter.all false
set_option maxRecDepth 100000
set_option maxHeartbeats 4000000
/-! The head's facts for errors of two fields, the tables of the signs and the words. -/
namespace TK
open PySem PySem.Spec PyProof.Rows L2 M14 SX K4
theorem oexO_ok {C : Addr} {o : Option Obj} (q : oexO C o = true) : ∃ nm q N bs bm sn sub ab col dd k0 k1 k2 k3 k5, o = some (excClassObj nm q C N bs bm true sn sub ab col dd k0 k1 k2 k3 k5 "ValueError.__new__") ∧ PySem.HandSPX.refsVE bm = true := by
  unfold oexO at q
  split at q
  · rename_i dct cl sl
    split at q
    · rename_i C2 tl s0 s1 s2 s3 nw s5 e1 e2
      obtain ⟨q1, q⟩ := He.ba q
      obtain ⟨q2, q⟩ := He.ba q
      obtain ⟨q3, q⟩ := He.ba q
      obtain ⟨q4, q5⟩ := He.ba q
      have q1 := of_decide_eq_true q1
      have q2 := of_decide_eq_true q2
      obtain ⟨a1, a2, a3, a4, a5, a6, a7, a8, a9, a10, a11⟩ := cl
      dsimp only at e1 q3 q4
      subst e1 q1 q2 q4
      have q3 : a11 = false := by simpa using q3
      subst q3
      obtain ⟨l⟩ := sl
      have e2 : l = [s0, s1, s2, s3, some (.builtin "ValueError.__new__"), s5] := e2
      subst e2
      exact ⟨_, _, _, _, _, _, _, _, _, _, _, _, _, _, _, rfl, q5⟩
    · cases q
  · cases q
theorem oexB_ok {K : PySem.W.Frag} {C I : Addr} (h : oexB K C I = true) : XF K C ∧ PySem.W.findIn K (.ref C) "__init__" = some (some (.ref I)) ∧ PySem.W.typeIn K (.ref I) = some (.type "function") ∧ ExcC K C := by
  unfold oexB at h
  obtain ⟨h1, h⟩ := He.ba h
  obtain ⟨h2, h⟩ := He.ba h
  obtain ⟨h4, h⟩ := He.ba h
  obtain ⟨h5, h⟩ := He.ba h
  obtain ⟨h6, h⟩ := He.ba h
  obtain ⟨h7, h⟩ := He.ba h
  obtain ⟨h8, h⟩ := He.ba h
  obtain ⟨h9, h10⟩ := He.ba h
  have ec := excB_ok h10
  exact ⟨⟨⟨oexO_ok h1, He.eqO_ok h2, ec.hs, of_decide_eq_true h4, h5⟩, He.eqO_ok h6, He.eqO_ok h7⟩, He.eqO_ok h8, of_decide_eq_true h9, ec⟩
theorem xfC_of {K : PySem.W.Frag} {C : Addr} (e : ExcC K C) : XfC K C := ⟨e.hg, e.hk, e.hs, e.hd⟩
/-! ### tables -/
theorem tupS_ok {K : PySem.W.Frag} {x : Str} {ls : List String} (h : He.tupB K x (dvs ls) = true) : TupS K (He.ga K x) (ls.map cd) := fun H => by
  have := He.tupB_ok h H
  have e : (dvs ls).map (He.Dv.v K) = (ls.map cd).map fun l => V.str (S l) := by
    unfold dvs
    rw [List.map_map, List.map_map]
    refine List.map_congr_left fun z _ => ?_
    show V.str (Str.ofString z) = V.str (S (Str.ofString z).cps.toList)
    rw [S_tl]
  rw [← e]
  exact this
theorem lt1 {z : Str} {l : List Nat} (h : z.cps.toList = l) : z = S l := by rw [← h, S_tl]
theorem es_tab {K : PySem.W.Frag} (z : Str) : match fEs z with
    | none => z ∉ kvEs.map (·.1)
    | some v => ∃ q ∈ kvEs, q.1 = z ∧ q.2.v K = v := by
  by_cases h : z ∈ kvEs.map (·.1)
  · simp only [kvEs, List.map_cons, List.map_nil, List.mem_cons, List.not_mem_nil, or_false] at h
    rcases h with rfl | rfl | rfl | rfl
    · rw [show fEs (Str.ofString "n") = some (.str (Str.ofString "\n")) by
        rw [lt1 (z := Str.ofString "n") (l := [110]) (by decide +kernel), lt1 (z := Str.ofString "\n") (l := [10]) (by decide +kernel)]; rfl]
      exact ⟨("n", .str "\n"), by simp, rfl, rfl⟩
    · rw [show fEs (Str.ofString "\\") = some (.str (Str.ofString "\\")) by
        rw [lt1 (z := Str.ofString "\\") (l := [92]) (by decide +kernel)]; rfl]
      exact ⟨("\\", .str "\\"), by simp, rfl, rfl⟩
    · rw [show fEs (Str.ofString "'") = some (.str (Str.ofString "'")) by
        rw [lt1 (z := Str.ofString "'") (l := [39]) (by decide +kernel)]; rfl]
      exact ⟨("'", .str "'"), by simp, rfl, rfl⟩
    · rw [show fEs (Str.ofString "\"") = some (.str (Str.ofString "\"")) by
        rw [lt1 (z := Str.ofString "\"") (l := [34]) (by decide +kernel)]; rfl]
      exact ⟨("\"", .str "\""), by simp, rfl, rfl⟩
  · have e : fEs z = none := by
      cases hf : fEs z with
      | none => rfl
      | some v =>
        exfalso
        apply h
        unfold fEs at hf
        split at hf
        · rename_i c hc
          split at hf
          · rename_i hi
            have ez : z = S [c] := lt1 hc
            unfold isEs at hi
            simp only [Bool.or_eq_true, decide_eq_true_eq] at hi
            rcases hi with ((rfl | rfl) | rfl) | rfl
            · rw [ez, ← lt1 (z := Str.ofString "n") (l := [110]) (by decide +kernel)]; simp
            · rw [ez, ← lt1 (z := Str.ofString "\\") (l := [92]) (by decide +kernel)]; simp
            · rw [ez, ← lt1 (z := Str.ofString "'") (l := [39]) (by decide +kernel)]; simp
            · rw [ez, ← lt1 (z := Str.ofString "\"") (l := [34]) (by decide +kernel)]; simp
          · cases hf
        · cases hf
    rw [e]
    exact h
theorem cl_tab {K : PySem.W.Frag} (z : Str) : match fCl z with
    | none => z ∉ kvCl.map (·.1)
    | some v => ∃ q ∈ kvCl, q.1 = z ∧ q.2.v K = v := by
  by_cases h1 : z.cps.toList = [41]
  · have ez : z = Str.ofString ")" := by rw [lt1 h1, ← lt1 (z := Str.ofString ")") (l := [41]) (by decide +kernel)]
    have e : fCl z = some (.str (Str.ofString "(")) := by
      unfold fCl
      rw [h1, lt1 (z := Str.ofString "(") (l := [40]) (by decide +kernel)]
      rfl
    rw [e]
    exact ⟨(")", .str "("), by simp, ez.symm, rfl⟩
  by_cases h2 : z.cps.toList = [93]
  · have ez : z = Str.ofString "]" := by rw [lt1 h2, ← lt1 (z := Str.ofString "]") (l := [93]) (by decide +kernel)]
    have e : fCl z = some (.str (Str.ofString "[")) := by
      unfold fCl
      rw [h2, lt1 (z := Str.ofString "[") (l := [91]) (by decide +kernel)]
      rfl
    rw [e]
    exact ⟨("]", .str "["), by simp, ez.symm, rfl⟩
  by_cases h3 : z.cps.toList = [125]
  · have ez : z = Str.ofString "}" := by rw [lt1 h3, ← lt1 (z := Str.ofString "}") (l := [125]) (by decide +kernel)]
    have e : fCl z = some (.str (Str.ofString "{")) := by
      unfold fCl
      rw [h3, lt1 (z := Str.ofString "{") (l := [123]) (by decide +kernel)]
      rfl
    rw [e]
    exact ⟨("}", .str "{"), by simp, ez.symm, rfl⟩
  have e : fCl z = none := by
    unfold fCl opOf
    rw [if_neg h1, if_neg h2, if_neg h3]
    rfl
  rw [e]
  intro m
  simp only [kvCl, List.map_cons, List.map_nil, List.mem_cons, List.not_mem_nil, or_false] at m
  rcases m with rfl | rfl | rfl
  · exact h1 (by decide +kernel)
  · exact h2 (by decide +kernel)
  · exact h3 (by decide +kernel)
end TK
set_option Elab.async false
set_option linter.all false
set_option maxRecDepth 100000
set_option maxHeartbeats 0
namespace TK
open PySem PySem.Spec PyProof.Rows L2 M14 SX K4 TK
def CAk (K : PySem.W.Frag) : Cl → Addr
  | .sign => He.ga K "BadSign"
  | .token => He.ga K "BadToken"
  | .indent => He.ga K "BadIndent"
  | .long => He.ga K "TooLong"
  | .deep => He.ga K "TooDeep"
theorem facts {P : Program} {w : World} {K : PySem.W.Frag} {h : Heap} {mg : Str → Option Value} {f : Addr} (X : K.In h) (G : h.Ns mainGlobals mg) (hfa : mg ("law" : Str) = some (.ref f)) (c : SaysP Hd.fa Hd.fn Hd.ts Hd.own w K) :
    ∃ fd : FuncData, (∀ (s : Shared) (v : Value), BindsTo s fd ⟨[v], []⟩ [("_law_script", v)]) ∧ ∀ base : Heap, K.In base → base.Ns mainGlobals mg → FnOk P w K mg base CX0 9 f fd ["_law_script"] (spLaw K) := by
  have D_p_other_index : Def1 K mg "other_index" s_p_other_index := let ⟨fd, F⟩ := c.def_ 0 rfl; ⟨_, fd, F, He.glo_ok X G (c.fact 0 rfl)⟩
  have D_p_tokens : Def1 K mg "tokens" s_p_tokens := let ⟨fd, F⟩ := c.def_ 1 rfl; ⟨_, fd, F, He.glo_ok X G (c.fact 1 rfl)⟩
  have D_p_checked_rows : Def1 K mg "_checked_rows" s_p_checked_rows := let ⟨fd, F⟩ := c.def_ 2 rfl; ⟨_, fd, F, He.glo_ok X G (c.fact 2 rfl)⟩
  have D_p_read_token : Def1 K mg "_read_token" s_p_read_token := let ⟨fd, F⟩ := c.def_ 3 rfl; ⟨_, fd, F, He.glo_ok X G (c.fact 3 rfl)⟩
  have D_p_run_end : Def1 K mg "_run_end" s_p_run_end := let ⟨fd, F⟩ := c.def_ 4 rfl; ⟨_, fd, F, He.glo_ok X G (c.fact 4 rfl)⟩
  have D_p_read_name : Def1 K mg "_read_name" s_p_read_name := let ⟨fd, F⟩ := c.def_ 5 rfl; ⟨_, fd, F, He.glo_ok X G (c.fact 5 rfl)⟩
  have D_p_read_number : Def1 K mg "_read_number" s_p_read_number := let ⟨fd, F⟩ := c.def_ 6 rfl; ⟨_, fd, F, He.glo_ok X G (c.fact 6 rfl)⟩
  have D_p_read_text : Def1 K mg "_read_text" s_p_read_text := let ⟨fd, F⟩ := c.def_ 7 rfl; ⟨_, fd, F, He.glo_ok X G (c.fact 7 rfl)⟩
  have D_bag : Def1 K mg "_law_bag" s_bag := let ⟨fd, F⟩ := c.def_ 8 rfl; ⟨_, fd, F, He.glo_ok X G (c.fact 8 rfl)⟩
  have D_take : Def1 K mg "_law_take" s_take := let ⟨fd, F⟩ := c.def_ 9 rfl; ⟨_, fd, F, He.glo_ok X G (c.fact 9 rfl)⟩
  have D_whole : Def1 K mg "_law_whole" s_whole := let ⟨fd, F⟩ := c.def_ 10 rfl; ⟨_, fd, F, He.glo_ok X G (c.fact 10 rfl)⟩
  have D_signs : Def1 K mg "_law_signs" s_signs := let ⟨fd, F⟩ := c.def_ 11 rfl; ⟨_, fd, F, He.glo_ok X G (c.fact 11 rfl)⟩
  have D_keywords : Def1 K mg "_law_keywords" s_keywords := let ⟨fd, F⟩ := c.def_ 12 rfl; ⟨_, fd, F, He.glo_ok X G (c.fact 12 rfl)⟩
  have D_letters : Def1 K mg "_law_letters" s_letters := let ⟨fd, F⟩ := c.def_ 13 rfl; ⟨_, fd, F, He.glo_ok X G (c.fact 13 rfl)⟩
  have D_allowed : Def1 K mg "_law_allowed" s_allowed := let ⟨fd, F⟩ := c.def_ 14 rfl; ⟨_, fd, F, He.glo_ok X G (c.fact 14 rfl)⟩
  have D_name : Def1 K mg "_law_name" s_name := let ⟨fd, F⟩ := c.def_ 15 rfl; ⟨_, fd, F, He.glo_ok X G (c.fact 15 rfl)⟩
  have D_figures : Def1 K mg "_law_figures" s_figures := let ⟨fd, F⟩ := c.def_ 16 rfl; ⟨_, fd, F, He.glo_ok X G (c.fact 16 rfl)⟩
  have D_quoted : Def1 K mg "_law_quoted" s_quoted := let ⟨fd, F⟩ := c.def_ 17 rfl; ⟨_, fd, F, He.glo_ok X G (c.fact 17 rfl)⟩
  have D_word : Def1 K mg "_law_word" s_word := let ⟨fd, F⟩ := c.def_ 18 rfl; ⟨_, fd, F, He.glo_ok X G (c.fact 18 rfl)⟩
  have D_comment : Def1 K mg "_law_comment" s_comment := let ⟨fd, F⟩ := c.def_ 19 rfl; ⟨_, fd, F, He.glo_ok X G (c.fact 19 rfl)⟩
  have D_must_part : Def1 K mg "_law_must_part" s_must_part := let ⟨fd, F⟩ := c.def_ 20 rfl; ⟨_, fd, F, He.glo_ok X G (c.fact 20 rfl)⟩
  have D_put : Def1 K mg "_law_put" s_put := let ⟨fd, F⟩ := c.def_ 21 rfl; ⟨_, fd, F, He.glo_ok X G (c.fact 21 rfl)⟩
  have D_close_row : Def1 K mg "_law_close_row" s_close_row := let ⟨fd, F⟩ := c.def_ 22 rfl; ⟨_, fd, F, He.glo_ok X G (c.fact 22 rfl)⟩
  have D_row_end : Def1 K mg "_law_row_end" s_row_end := let ⟨fd, F⟩ := c.def_ 23 rfl; ⟨_, fd, F, He.glo_ok X G (c.fact 23 rfl)⟩
  have D_lay : Def1 K mg "_law_lay" s_lay := let ⟨fd, F⟩ := c.def_ 24 rfl; ⟨_, fd, F, He.glo_ok X G (c.fact 24 rfl)⟩
  have D_broken : Def1 K mg "_law_broken" s_broken := let ⟨fd, F⟩ := c.def_ 25 rfl; ⟨_, fd, F, He.glo_ok X G (c.fact 25 rfl)⟩
  have D_line : Def1 K mg "_law_line" s_line := let ⟨fd, F⟩ := c.def_ 26 rfl; ⟨_, fd, F, He.glo_ok X G (c.fact 26 rfl)⟩
  have D_margin : Def1 K mg "_law_margin" s_margin := let ⟨fd, F⟩ := c.def_ 27 rfl; ⟨_, fd, F, He.glo_ok X G (c.fact 27 rfl)⟩
  have D_page : Def1 K mg "_law_page" s_page := let ⟨fd, F⟩ := c.def_ 28 rfl; ⟨_, fd, F, He.glo_ok X G (c.fact 28 rfl)⟩
  have D_is_tokens : Def1 K mg "_law_is_tokens" s_is_tokens := let ⟨fd, F⟩ := c.def_ 29 rfl; ⟨_, fd, F, He.glo_ok X G (c.fact 29 rfl)⟩
  have MS_read_row : Def2 K (He.ga K "Scanner") "read_row" "Scanner.read_row" s_Scanner_read_row := let ⟨fd, F⟩ := c.def_ 32 rfl; ⟨_, fd, F, He.meth_ok (c.fact 80 rfl)⟩
  have MS_compare_indent : Def2 K (He.ga K "Scanner") "compare_indent" "Scanner.compare_indent" s_Scanner_compare_indent := let ⟨fd, F⟩ := c.def_ 33 rfl; ⟨_, fd, F, He.meth_ok (c.fact 81 rfl)⟩
  have MS_keep_token : Def2 K (He.ga K "Scanner") "keep_token" "Scanner.keep_token" s_Scanner_keep_token := let ⟨fd, F⟩ := c.def_ 34 rfl; ⟨_, fd, F, He.meth_ok (c.fact 82 rfl)⟩
  have MS_close_text : Def2 K (He.ga K "Scanner") "close_text" "Scanner.close_text" s_Scanner_close_text := let ⟨fd, F⟩ := c.def_ 35 rfl; ⟨_, fd, F, He.meth_ok (c.fact 83 rfl)⟩
  have T : K4.Bl mg := ⟨⟨He.free_ok X G (c.fact 44 rfl), He.free_ok X G (c.fact 45 rfl), He.free_ok X G (c.fact 46 rfl), He.free_ok X G (c.fact 47 rfl), He.free_ok X G (c.fact 48 rfl), He.free_ok X G (c.fact 49 rfl), He.free_ok X G (c.fact 50 rfl), He.free_ok X G (c.fact 51 rfl), He.free_ok X G (c.fact 52 rfl), He.free_ok X G (c.fact 53 rfl), He.free_ok X G (c.fact 54 rfl), He.free_ok X G (c.fact 55 rfl), He.free_ok X G (c.fact 56 rfl)⟩, He.free_ok X G (c.fact 57 rfl), He.free_ok X G (c.fact 58 rfl)⟩
  have T2 : Bl2 mg := ⟨He.free_ok X G (c.fact 59 rfl), He.free_ok X G (c.fact 60 rfl)⟩
  have g_SPACE_CODE : GV mg "SPACE_CODE" (.int 32) := gv_int X G (c.fact 62 rfl)
  have g_TILDE_CODE : GV mg "TILDE_CODE" (.int 126) := gv_int X G (c.fact 63 rfl)
  have g_PERCENT_CODE : GV mg "PERCENT_CODE" (.int 37) := gv_int X G (c.fact 64 rfl)
  have g_MOST_CHARACTERS : GV mg "MOST_CHARACTERS" (.int 6000) := gv_int X G (c.fact 65 rfl)
  have g_MOST_COLUMNS : GV mg "MOST_COLUMNS" (.int 120) := gv_int X G (c.fact 66 rfl)
  have g_MOST_TOKENS : GV mg "MOST_TOKENS" (.int 120) := gv_int X G (c.fact 67 rfl)
  have g_MOST_INDENTS : GV mg "MOST_INDENTS" (.int 11) := gv_int X G (c.fact 68 rfl)
  have g_LONGEST_NAME : GV mg "LONGEST_NAME" (.int 30) := gv_int X G (c.fact 69 rfl)
  have g_MOST_DIGITS : GV mg "MOST_DIGITS" (.int 40) := gv_int X G (c.fact 70 rfl)
  have g_DIGITS : GV mg "DIGITS" (.str zDig) := gv_str X G (c.fact 71 rfl)
  have g_NAME_STARTS : GV mg "NAME_STARTS" (.str zNs) := gv_str X G (c.fact 72 rfl)
  have g_NAME_SIGNS : GV mg "NAME_SIGNS" (.str zNc) := gv_str X G (c.fact 73 rfl)
  have ow : (Hd.own0 K && (Hd.own1 K)) = true := c.own
  obtain ⟨w0, ow⟩ := He.ba ow
  have w1 := ow
  unfold Hd.own0 at w0
  obtain ⟨o0, w0⟩ := He.ba w0
  obtain ⟨o1, w0⟩ := He.ba w0
  obtain ⟨o2, w0⟩ := He.ba w0
  obtain ⟨o3, w0⟩ := He.ba w0
  obtain ⟨o4, w0⟩ := He.ba w0
  obtain ⟨o5, w0⟩ := He.ba w0
  obtain ⟨o6, w0⟩ := He.ba w0
  have o7 := w0
  unfold Hd.own1 at w1
  obtain ⟨o8, w1⟩ := He.ba w1
  have o9 := w1
  have g_ESCAPES : GV mg "ESCAPES" (.ref (He.ga K "ESCAPES")) := gv_ref X G (c.fact 31 rfl)
  have D_ESCAPES : KD K w (He.ga K "ESCAPES") fEs := kd_of (kvs := kvEs) (c.tab 0 (t := (fun K => He.ga K "ESCAPES", ["n", "\\", "'", "\""])) rfl) o5 es_tab
  have g_CLOSINGS : GV mg "CLOSINGS" (.ref (He.ga K "CLOSINGS")) := gv_ref X G (c.fact 32 rfl)
  have D_CLOSINGS : KD K w (He.ga K "CLOSINGS") fCl := kd_of (kvs := kvCl) (c.tab 1 (t := (fun K => He.ga K "CLOSINGS", [")", "]", "}"])) rfl) o6 cl_tab
  have g_SIGNS : GV mg "SIGNS" (.ref (He.ga K "SIGNS")) := gv_ref X G (c.fact 33 rfl)
  have hS : TupS K (He.ga K "SIGNS") sgs := tupS_ok o7
  have g_KEYWORDS : GV mg "KEYWORDS" (.ref (He.ga K "KEYWORDS")) := gv_ref X G (c.fact 34 rfl)
  have hK : TupS K (He.ga K "KEYWORDS") kws := tupS_ok o8
  have g_OPENINGS : GV mg "OPENINGS" (.ref (He.ga K "OPENINGS")) := gv_ref X G (c.fact 35 rfl)
  have hO : TupS K (He.ga K "OPENINGS") opens := tupS_ok o9
  have FS : ScF K (He.ga K "Scanner") := ⟨He.cls_ok (c.fact 74 rfl), He.noat_ok (c.fact 76 rfl), He.noat_ok (c.fact 77 rfl), He.noat_ok (c.fact 78 rfl), He.noat_ok (c.fact 79 rfl)⟩
  obtain ⟨fd, FL⟩ := c.def_ 30 rfl
  have e := hfa.symm.trans (He.glo_ok X G (c.fact 30 rfl))
  have ef : f = He.ga K "law" := by injection e with e; injection e
  have b := FunD.bindsA (ps := ["_law_script"]) FL fun _ _ _ _ _ _ us hl => match us, hl with | [_], _ => rfl
  refine ⟨fd, fun s v => b s [v] rfl, fun base _ _ => ?_⟩
  obtain ⟨fdI, FI⟩ := c.def_ 36 rfl
  have GI := ok_xi (P := P) (w := w) (K := K) (mg := mg) (base := base) FI
  have bI := FunD.bindsN (ps := ["self", "line", "column"]) FI fun _ _ _ _ _ _ us hl => match us, hl with | [_, _, _], _ => rfl
  have X_BadSign : XE2 P w K mg base "BadSign" (CAk K .sign) := ⟨(oexB_ok o0).1, He.glo_ok X G (c.fact 37 rfl), _, fdI, (oexB_ok o0).2.1, (oexB_ok o0).2.2.1, GI, bI⟩
  have X_BadToken : XE2 P w K mg base "BadToken" (CAk K .token) := ⟨(oexB_ok o1).1, He.glo_ok X G (c.fact 38 rfl), _, fdI, (oexB_ok o1).2.1, (oexB_ok o1).2.2.1, GI, bI⟩
  have X_BadIndent : XE2 P w K mg base "BadIndent" (CAk K .indent) := ⟨(oexB_ok o2).1, He.glo_ok X G (c.fact 39 rfl), _, fdI, (oexB_ok o2).2.1, (oexB_ok o2).2.2.1, GI, bI⟩
  have X_TooLong : XE2 P w K mg base "TooLong" (CAk K .long) := ⟨(oexB_ok o3).1, He.glo_ok X G (c.fact 40 rfl), _, fdI, (oexB_ok o3).2.1, (oexB_ok o3).2.2.1, GI, bI⟩
  have X_TooDeep : XE2 P w K mg base "TooDeep" (CAk K .deep) := ⟨(oexB_ok o4).1, He.glo_ok X G (c.fact 41 rfl), _, fdI, (oexB_ok o4).2.1, (oexB_ok o4).2.2.1, GI, bI⟩
  obtain ⟨fdS, FSI⟩ := c.def_ 31 rfl
  have G_Scanner : CalC P w K mg base 1 (He.ga K "Scanner") "Scanner" ["self"] (spSi (He.ga K "Scanner")) := ⟨_, fdS, ok_si (P := P) (w := w) (K := K) (mg := mg) (base := base) FS T FSI, He.glo_ok X G (c.fact 36 rfl), He.mkr_ok (c.fact 75 rfl), FunD.bindsN FSI fun _ _ _ _ _ _ us hl => match us, hl with | [_], _ => rfl⟩
  have G_p_run_end := ok_run (P := P) (w := w) (K := K) (mg := mg) (base := base) T D_p_run_end
  have G_p_read_name := ok_nam (P := P) (w := w) (K := K) (mg := mg) (base := base) T X_BadToken g_NAME_SIGNS g_LONGEST_NAME g_KEYWORDS hK G_p_run_end D_p_read_name
  have G_p_read_number := ok_num (P := P) (w := w) (K := K) (mg := mg) (base := base) T X_BadToken g_DIGITS g_NAME_STARTS g_MOST_DIGITS G_p_run_end D_p_read_number
  have G_p_read_text := ok_tex (P := P) (w := w) (K := K) (mg := mg) (base := base) T X_BadToken g_ESCAPES D_ESCAPES D_p_read_text
  have G_p_read_token := ok_tkn (P := P) (w := w) (K := K) (mg := mg) (base := base) T X_BadToken g_NAME_STARTS g_DIGITS g_SIGNS hS G_p_read_name G_p_read_number G_p_read_text D_p_read_token
  have M_compare_indent := ok_cmp (P := P) (w := w) (K := K) (mg := mg) (base := base) (CA := CAk K) FS T X_BadIndent X_TooDeep g_MOST_INDENTS MS_compare_indent
  have M_keep_token := ok_keep (P := P) (w := w) (K := K) (mg := mg) (base := base) (CA := CAk K) FS T X_TooLong X_BadToken g_MOST_TOKENS g_CLOSINGS D_CLOSINGS g_OPENINGS hO MS_keep_token
  have M_read_row := ok_row (P := P) (w := w) (K := K) (mg := mg) (base := base) (CA := CAk K) FS T G_p_read_token M_compare_indent M_keep_token MS_read_row
  have M_close_text := ok_clo (P := P) (w := w) (K := K) (mg := mg) (base := base) (CA := CAk K) FS T X_BadToken MS_close_text
  have G_p_other_index := ok_ox (P := P) (w := w) (K := K) (mg := mg) (base := base) T g_SPACE_CODE g_TILDE_CODE g_PERCENT_CODE D_p_other_index
  have G_p_checked_rows := ok_chk (P := P) (w := w) (K := K) (mg := mg) (base := base) (CA := CAk K) T X_TooLong X_BadSign g_MOST_CHARACTERS g_MOST_COLUMNS G_p_other_index D_p_checked_rows
  have G_p_tokens := ok_tok (P := P) (w := w) (K := K) (mg := mg) (base := base) (CA := CAk K) FS T G_Scanner G_p_checked_rows M_read_row M_close_text D_p_tokens
  have G_take := ok_tak (P := P) (w := w) (K := K) (mg := mg) (base := base) T D_take
  have G_bag := ok_bag (P := P) (w := w) (K := K) (mg := mg) (base := base) T D_bag
  have G_letters := ok_let (P := P) (w := w) (K := K) (mg := mg) (base := base) D_letters
  have G_allowed := ok_alw (P := P) (w := w) (K := K) (mg := mg) (base := base) D_allowed
  have G_signs := ok_sgs (P := P) (w := w) (K := K) (mg := mg) (base := base) D_signs
  have G_keywords := ok_kws (P := P) (w := w) (K := K) (mg := mg) (base := base) D_keywords
  have G_name := ok_nme (P := P) (w := w) (K := K) (mg := mg) (base := base) T G_take G_letters D_name
  have G_figures := ok_fig (P := P) (w := w) (K := K) (mg := mg) (base := base) T G_take D_figures
  have G_quoted := ok_qtd (P := P) (w := w) (K := K) (mg := mg) (base := base) T G_take G_allowed D_quoted
  have G_comment := ok_com (P := P) (w := w) (K := K) (mg := mg) (base := base) T G_take G_allowed D_comment
  have G_word := ok_wrd (P := P) (w := w) (K := K) (mg := mg) (base := base) T G_take G_signs G_keywords G_name G_figures G_quoted D_word
  have G_must_part := ok_mus (P := P) (w := w) (K := K) (mg := mg) (base := base) T G_letters G_signs D_must_part
  have G_put := ok_put (P := P) (w := w) (K := K) (mg := mg) (base := base) T D_put
  have G_close_row := ok_clr (P := P) (w := w) (K := K) (mg := mg) (base := base) T D_close_row
  have G_row_end := ok_rwe (P := P) (w := w) (K := K) (mg := mg) (base := base) T G_take G_comment G_close_row D_row_end
  have G_lay := ok_lay (P := P) (w := w) (K := K) (mg := mg) (base := base) T G_take G_must_part G_put D_lay
  have G_broken := ok_brn (P := P) (w := w) (K := K) (mg := mg) (base := base) T G_take G_row_end D_broken
  have G_line := ok_lin (P := P) (w := w) (K := K) (mg := mg) (base := base) T T2 G_take G_word G_broken G_lay G_row_end D_line
  have G_margin := ok_mgn (P := P) (w := w) (K := K) (mg := mg) (base := base) T G_take D_margin
  have G_whole := ok_whl (P := P) (w := w) (K := K) (mg := mg) (base := base) T D_whole
  have G_is_tokens := ok_itk (P := P) (w := w) (K := K) (mg := mg) (base := base) T G_whole D_is_tokens
  have G_page := ok_pge (P := P) (w := w) (K := K) (mg := mg) (base := base) T G_take G_row_end G_margin G_line D_page
  have L := fun_law (P := P) (w := w) (K := K) (mg := mg) (base := base) (CA := CAk K) T G_page G_p_tokens G_is_tokens G_bag FL
  rw [ef]
  exact L
end TK
open PySem PySem.W PySem.Calls PyProof.Rows
theorem PySem.Challenge.cw_likerun_k01_drawn_pages_read_back_holds : PySem.Challenge.rw_likerun_k01_drawn_pages_read_back.Holds := by
  w_on; o_law
  refine HandSHeadRun.head_any (r := OpenLaw.row PySem.Challenge.rw_likerun_k01_drawn_pages_read_back) (q := view (OpenLaw.row PySem.Challenge.rw_likerun_k01_drawn_pages_read_back).prog [60]) (H := TK.Hd.hk) (ob := TK.Hd.ob) (M := 20000) (loose := TK.Hd.loose) (d := HandSHeadRun.topDef (OpenLaw.row PySem.Challenge.rw_likerun_k01_drawn_pages_read_back).prog 60) (kwd := []) TK.Hd.ob_eq
    (by kernel_rfl) (fun s => by kernel_rfl) TK.Hd.run (by kernel_rfl) (by kernel_rfl) (by kernel_rfl) (by rfl) (by first | assumption | decide +kernel) (by decide +kernel) ⟨rfl, rfl, rfl, rfl, rfl, by decide +kernel⟩ ?hw ?hc
  case hw => w_witness2
  case hc =>
    refine L2.walk_ofE (l := PySem.Challenge.rw_likerun_k01_drawn_pages_read_back) (n := 63) (k := 9) (x := "_law_script") (CX := L2.CX0) rfl (by decide) (by kernel_rfl) ⟨rfl, by decide, by decide⟩ ?F (fun _ _ _ _ z => z)
    intro w mg fa h Y G hmg0
    obtain ⟨K, KX, c⟩ := Y
    have hmg : mg ("law" : PySem.Str) = some (.ref fa) := by
      have e : (HandSHeadRun.topDef (OpenLaw.row PySem.Challenge.rw_likerun_k01_drawn_pages_read_back).prog 60).name = ("law" : PySem.Str) := by kernel_rfl
      rw [← e]
      exact hmg0
    obtain ⟨fd, hb, hF⟩ := TK.facts (P := (PySem.Challenge.rw_likerun_k01_drawn_pages_read_back).prog) (w := w) KX G hmg c
    exact ⟨K, fd, TK.spLaw K, KX, hb, fun H a ns hl _ hS => ⟨a, ns, rfl, hS, fun _ => rfl⟩, hF⟩
