import PyProof.Rows.All
import Wide.All
import OpenK.AllK
import Wide.FinOn
import KE.KStateDown
import HandS.ForMost
import HandS.Flow
import HandS.IsInst
import HandS.Head0
import HandS.Head1
import HandS.Head2
import HandS.HeadEnd
import HandS.Defaults
import HandS.HeadHook1
import HandS.HeadHook2
import KE.KSuper
import HandS.Sort
import HandS.Iter
import HandS.Small
import HandS.ReplaceLit
import HandS.ReplaceList
import HandS.ReplaceDef
import HandS.ExcIs
import HandS.WordsExc
import HandS.Codes
import PyProof.Draws
import PyProof.EnumMake
import PyProof.StrBlock2
import HandS.More
import HandS.ExcBuiltin
import HandS.HeadHook3
import HandS.Walk
import HandS.Wide
import PySem.Challenge.RW_likerun_k04_whole_datum_notes
set_option Elab.async false
set_option linter.all false
set_option maxRecDepth 100000
set_option maxHeartbeats 4000000
/-! The ground that the laws of the memory share: callable defs, data trees, frames. -/
namespace M14
open PySem PySem.Spec PyProof.Rows L2

/-! ### defs by name -/
abbrev FnP (K : PySem.W.Frag) (x qual : Str) (st : Stmt) (f : Addr) (fd : FuncData) : Prop := FunD K x qual (defArgs st) (defBody st) (defScope st) [] [] f fd
/-- a module's def as it stands behind the top -/
def Def1 (K : PySem.W.Frag) (mg : Str → Option Value) (x : Str) (st : Stmt) : Prop := ∃ f fd, FnP K x x st f fd ∧ mg x = some (.ref f)
/-- a method of the class at C -/
def Def2 (K : PySem.W.Frag) (C : Addr) (m qual : Str) (st : Stmt) : Prop := ∃ f fd, FnP K m qual st f fd ∧ Meth K C m f
section
variable (P : Program) (w : World) (K : PySem.W.Frag) (mg : Str → Option Value) (base : Heap)
def Cal (k : Nat) (x : Str) (ps : List Str) (sp : Sp) : Prop := ∃ f fd, FnOk P w K mg base CX0 k f fd ps sp ∧ mg x = some (.ref f) ∧ PySem.W.keepIn K (.ref f) = true ∧ Binds K fd ps []
def CalM (k : Nat) (C : Addr) (m : Str) (ps : List Str) (sp : Sp) : Prop := ∃ f fd, FnOk P w K mg base CX0 k f fd ps sp ∧ Cls K C ∧ Meth K C m f ∧ Binds K fd ps []
def CalC (k : Nat) (C : Addr) (x : Str) (ps : List Str) (sp : Sp) : Prop := ∃ f fd, FnOk P w K mg base CX0 k f fd ps sp ∧ mg x = some (.ref C) ∧ Mk K C f ∧ Binds K fd ps []
end
section
variable {X : Cx} {x m : Str} {p pos apos : Pos} {e o : Expr} {es : List Expr} {k : Nat} {ps : List Str} {sp : Sp} {t : TA} {ta : TE} {C : Addr}
theorem pe_cal (c : Cal X.prog X.w X.K X.mg X.base k x ps sp) (hr : Room k X.A) (hg : Gl X x) (ha : PA X (e :: es) t) (hdb : (x == ("__debug__" : Str)) = false := by decide) (he : starEach (e :: es) X.env = (false, eval e X.env) :: starEach es X.env := by rfl) (hpl : (backTo pos (starEach es X.env)).any (·.1) = false := by rfl) :
    PE X (.Call (.Name x p) (e :: es) [] pos) (tCall sp [] E0 t) := by
  obtain ⟨f, fd, F, hm, hk, hb⟩ := c
  exact pe_call F hr hg hm hk hb .nil pass0 ha hdb he hpl
theorem pe_cal0 (c : Cal X.prog X.w X.K X.mg X.base k x ps sp) (hr : Room k X.A) (hg : Gl X x) (hdb : (x == ("__debug__" : Str)) = false := by decide) : PE X (.Call (.Name x p) [] [] pos) (tCall sp [] E0 tNil) := by
  obtain ⟨f, fd, F, hm, hk, hb⟩ := c
  exact pe_call0 F hr hg hm hk hb .nil pass0 hdb
theorem pe_mcal {pl : Sem Bool} (he : PE X o ta) (c : CalM X.prog X.w X.K X.mg X.base k C m ps sp) (hr : Room k X.A) (ha : PA X (e :: es) t)
    (hst : starEach (e :: es) X.env = (false, eval e X.env) :: starEach es X.env := by rfl) (hpl : (backTo pos (starEach es X.env)).any (·.1) = false := by rfl)
    (ht : eval (.Call (.Attribute o m apos) (e :: es) [] pos) X.env = (do
      let ov ← eval o X.env
      standAt apos.atName
      let (f, first) ← holding [ov] (getMethod ov m pl)
      callWith pos f first (backTo pos (starEach (e :: es) X.env)) (backToKw pos (keywordEach [] X.env))) := by rfl) :
    PE X (.Call (.Attribute o m apos) (e :: es) [] pos) (tMeth C m sp [] E0 ta t) := by
  obtain ⟨f, fd, F, cl, hm, hb⟩ := c
  exact pe_meth he cl hm F hr hb .nil pass0 ha hst hpl ht
theorem pe_mcal0 {pl : Sem Bool} (he : PE X o ta) (c : CalM X.prog X.w X.K X.mg X.base k C m ps sp) (hr : Room k X.A)
    (ht : eval (.Call (.Attribute o m apos) [] [] pos) X.env = (do
      let ov ← eval o X.env
      standAt apos.atName
      let (f, first) ← holding [ov] (getMethod ov m pl)
      callWith pos f first (backTo pos (starEach [] X.env)) (backToKw pos (keywordEach [] X.env))) := by rfl) :
    PE X (.Call (.Attribute o m apos) [] [] pos) (tMeth C m sp [] E0 ta tNil) := by
  obtain ⟨f, fd, F, cl, hm, hb⟩ := c
  exact pe_meth0 he cl hm F hr hb .nil pass0 ht
theorem pe_mk (c : CalC X.prog X.w X.K X.mg X.base k C x ps sp) (hr : Room (k + 1) X.A) (hg : Gl X x) (ha : PA X (e :: es) t) (hdb : (x == ("__debug__" : Str)) = false := by decide) (he : starEach (e :: es) X.env = (false, eval e X.env) :: starEach es X.env := by rfl) (hpl : (backTo pos (starEach es X.env)).any (·.1) = false := by rfl) :
    PE X (.Call (.Name x p) (e :: es) [] pos) (tMake C sp [] E0 t) := by
  obtain ⟨f, fd, F, hm, M, hb⟩ := c
  exact pe_make M F hr hg hm hb .nil pass0 ha hdb he hpl
theorem pe_mk0 (c : CalC X.prog X.w X.K X.mg X.base k C x ps sp) (hr : Room (k + 1) X.A) (hg : Gl X x) (hdb : (x == ("__debug__" : Str)) = false := by decide) : PE X (.Call (.Name x p) [] [] pos) (tMake C sp [] E0 tNil) := by
  obtain ⟨f, fd, F, hm, M, hb⟩ := c
  exact pe_make0 M F hr hg hm hb .nil pass0 hdb
end
section
variable {P : Program} {w : World} {K : PySem.W.Frag} {mg : Str → Option Value} {base : Heap}
/-- from the walk of a def's body to the def's promise -/
theorem Def1.cal {x : Str} {st : Stmt} {N ps : List Str} {k : Nat} {sp : Sp} (D : Def1 K mg x st) (S : FnScope N ps (defScope st))
    (hb : ∀ (kV doc pm : Value) (an : Option Addr) (cdv ct : Value) (us : List Value), us.length = ps.length → bindArgs (PySem.W.fnOf x x (defArgs st) (defBody st) (defScope st) .none kV doc pm an cdv ct) ⟨us, []⟩ = pure (ps.zip us))
    (len : ∀ vs H Q E, sp vs H Q E → vs.length = ps.length)
    (hbody : ∀ (f : Addr) (cdv : Value) (A : Around) (outer : List Env) (s : Shared) (H : Hp) (vs : List V) (Q : VK) (E : XK), Room k (A.deeper (envOfC x (defScope st) s.heap.objs.size f cdv)) → sp vs H Q E →
      ∃ t, PSs (cxOf CX0 P w K mg base N x (defScope st) f cdv A outer s H E).nox (defBody st) t ∧ t { nx := fun _ H' => Q .non H', rt := Q } (start N vs) H) : Cal P w K mg base (k + 1) x ps sp := by
  obtain ⟨f, fd, F, g⟩ := D
  refine ⟨f, fd, F.ok S len fun cdv A outer s H vs Q E hr h => ?_, g, F.kp, F.bindsN hb⟩
  obtain ⟨t, h1, h2⟩ := hbody f cdv A outer s H vs Q E hr h
  exact ⟨t, h1.nox, h2⟩
theorem Def2.fn {C : Addr} {m qual : Str} {st : Stmt} {N ps : List Str} {k : Nat} {sp : Sp} (D : Def2 K C m qual st) (S : FnScope N ps (defScope st))
    (hb : ∀ (kV doc pm : Value) (an : Option Addr) (cdv ct : Value) (us : List Value), us.length = ps.length → bindArgs (PySem.W.fnOf m qual (defArgs st) (defBody st) (defScope st) .none kV doc pm an cdv ct) ⟨us, []⟩ = pure (ps.zip us))
    (len : ∀ vs H Q E, sp vs H Q E → vs.length = ps.length)
    (hbody : ∀ (f : Addr) (cdv : Value) (A : Around) (outer : List Env) (s : Shared) (H : Hp) (vs : List V) (Q : VK) (E : XK), Room k (A.deeper (envOfC qual (defScope st) s.heap.objs.size f cdv)) → sp vs H Q E →
      ∃ t, PSs (cxOf CX0 P w K mg base N qual (defScope st) f cdv A outer s H E).nox (defBody st) t ∧ t { nx := fun _ H' => Q .non H', rt := Q } (start N vs) H) : ∃ f fd, FnOk P w K mg base CX0 (k + 1) f fd ps sp ∧ Meth K C m f ∧ Binds K fd ps [] := by
  obtain ⟨f, fd, F, g⟩ := D
  refine ⟨f, fd, F.ok S len fun cdv A outer s H vs Q E hr h => ?_, g, F.bindsN hb⟩
  obtain ⟨t, h1, h2⟩ := hbody f cdv A outer s H vs Q E hr h
  exact ⟨t, h1.nox, h2⟩
theorem Def2.cal {C : Addr} {m qual : Str} {st : Stmt} {N ps : List Str} {k : Nat} {sp : Sp} (D : Def2 K C m qual st) (cl : Cls K C) (S : FnScope N ps (defScope st))
    (hb : ∀ (kV doc pm : Value) (an : Option Addr) (cdv ct : Value) (us : List Value), us.length = ps.length → bindArgs (PySem.W.fnOf m qual (defArgs st) (defBody st) (defScope st) .none kV doc pm an cdv ct) ⟨us, []⟩ = pure (ps.zip us))
    (len : ∀ vs H Q E, sp vs H Q E → vs.length = ps.length)
    (hbody : ∀ (f : Addr) (cdv : Value) (A : Around) (outer : List Env) (s : Shared) (H : Hp) (vs : List V) (Q : VK) (E : XK), Room k (A.deeper (envOfC qual (defScope st) s.heap.objs.size f cdv)) → sp vs H Q E →
      ∃ t, PSs (cxOf CX0 P w K mg base N qual (defScope st) f cdv A outer s H E).nox (defBody st) t ∧ t { nx := fun _ H' => Q .non H', rt := Q } (start N vs) H) : CalM P w K mg base (k + 1) C m ps sp := by
  obtain ⟨f, fd, F, g, b⟩ := D.fn S hb len hbody
  exact ⟨f, fd, F, cl, g, b⟩
end

theorem CalM.mono {P : Program} {w : World} {K : PySem.W.Frag} {mg : Str → Option Value} {base : Heap} {j k : Nat} {C : Addr} {m : Str} {ps : List Str} {sp : Sp} (c : CalM P w K mg base j C m ps sp) (h : j ≤ k) : CalM P w K mg base k C m ps sp :=
  let ⟨f, fd, F, a, b, d⟩ := c; ⟨f, fd, F.mono h, a, b, d⟩
/-! ### frames -/
/-- what stood stands, but for the objects at M; these are no tuples -/
structure Fr (M : List Addr) (H H' : Hp) : Prop where
  kp : ∀ a o, H a = some o → a ∉ M → H' a = some o
  nt : ∀ a ∈ M, ∀ xs, H a ≠ some (.tup xs)
theorem Fr.refl0 (H : Hp) : Fr [] H H := ⟨fun _ _ h _ => h, fun _ h => nomatch h⟩
theorem Fr.refl {M : List Addr} {H : Hp} (n : ∀ a ∈ M, ∀ xs, H a ≠ some (.tup xs)) : Fr M H H := ⟨fun _ _ h _ => h, n⟩
theorem Fr.trans {M : List Addr} {H H1 H2 : Hp} (a : Fr M H H1) (b : Fr M H1 H2) : Fr M H H2 := ⟨fun x o h n => b.kp x o (a.kp x o h n) n, a.nt⟩
/-- a frame within -/
theorem Fr.to {M M' : List Addr} {H H' : Hp} (a : Fr M H H') (s : ∀ x ∈ M, x ∈ M' ∨ H x = none) (n : ∀ a ∈ M', ∀ xs, H a ≠ some (.tup xs)) : Fr M' H H' :=
  ⟨fun x o h m => a.kp x o h fun z => (s x z).elim m fun e => (by rw [e] at h; cases h), n⟩
theorem Fr.tr {M : List Addr} {H H1 H2 : Hp} (a : Fr M H H1) (b : Fr [] H1 H2) : Fr M H H2 := ⟨fun x o h n => b.kp x o (a.kp x o h n) (by simp), a.nt⟩
theorem Fr.new {H : Hp} {p : Addr} {o : HO} (h : H p = none) : Fr [] H (upd H p o) := ⟨fun a u e _ => by rw [upd_ne (ne_of_none e h)]; exact e, fun _ h => nomatch h⟩
theorem Fr.put {H : Hp} {p : Addr} {o u : HO} (h : H p = some u) (n : ∀ xs, u ≠ .tup xs) : Fr [p] H (upd H p o) :=
  ⟨fun a v e m => (upd_ne (fun q => m (by rw [q]; exact List.mem_cons_self))).trans e, fun a m xs e => by
    have q : a = p := by simpa using m
    rw [q, h] at e
    exact n xs (Option.some.inj e)⟩
theorem Fr.free {H H' : Hp} (e : Fr [] H H') {l : Addr} (h : H' l = none) : H l = none := by
  cases q : H l with
  | none => rfl
  | some o => rw [e.kp l o q (by simp)] at h; cases h
theorem Fr.freeM {M : List Addr} {H H' : Hp} (e : Fr M H H') (hm : ∀ a ∈ M, H' a ≠ none) {l : Addr} (h : H' l = none) : H l = none := by
  cases q : H l with
  | none => rfl
  | some o =>
    rw [e.kp l o q fun m => hm l m h] at h; cases h
theorem Fr.tup {M : List Addr} {H H' : Hp} (e : Fr M H H') {a : Addr} {xs : List V} (h : H a = some (.tup xs)) : H' a = some (.tup xs) := e.kp a _ h fun m => e.nt a m xs h
theorem Fr.at1 {b : Addr} {H H' : Hp} (e : Fr [b] H H') {a : Addr} {o : HO} (h : H a = some o) (n : a ≠ b) : H' a = some o := e.kp a o h fun m => n (by simpa using m)

/-! ### data -/
inductive T where
  | non | bl (b : Bool) | int (i : Int) | str (s : Str) | tup (ts : List T)
/-- a tuple that may be read, and whose type is known -/
def TupAt (K : PySem.W.Frag) (H : Hp) (a : Addr) (xs : List V) : Prop := SqT K H a xs ∧ TyX K H (.ref a) (.type "tuple")
theorem TupAt.of {K : PySem.W.Frag} {H : Hp} {a : Addr} {xs : List V} (h : H a = some (.tup xs)) : TupAt K H a xs := ⟨SqT.of h, .base (.tup h)⟩
inductive Den (K : PySem.W.Frag) (H : Hp) : V → T → Prop where
  | non : Den K H .non .non
  | bl (b : Bool) : Den K H (.bl b) (.bl b)
  | int (i : Int) : Den K H (.int i) (.int i)
  | str (s : Str) : Den K H (.str s) (.str s)
  | tup {a : Addr} {xs : List V} {ts : List T} (h : H a = some (.tup xs)) (l : xs.length = ts.length) (c : ∀ (i : Nat) (x : V) (t : T), xs[i]? = some x → ts[i]? = some t → Den K H x t) : Den K H (.ref a) (.tup ts)
inductive Dep : Nat → T → Prop where
  | non {d} : Dep d .non
  | bl {d b} : Dep d (.bl b)
  | int {d i} : Dep d (.int i)
  | str {d s} : Dep d (.str s)
  | tup {d ts} (l : ts.length ≤ 2000) (h : ∀ t ∈ ts, Dep d t) : Dep (d + 1) (.tup ts)
theorem Dep.mono {d e : Nat} {t : T} (h : Dep d t) : d ≤ e → Dep e t := by
  induction h generalizing e with
  | non => intro _; exact .non
  | bl => intro _; exact .bl
  | int => intro _; exact .int
  | str => intro _; exact .str
  | tup l' h ih =>
    intro l
    obtain ⟨e, rfl⟩ : ∃ n, e = n + 1 := ⟨e - 1, by omega⟩
    exact .tup l' fun t m => ih t m (by omega)
theorem Den.fr {K : PySem.W.Frag} {M : List Addr} {H H' : Hp} {v : V} {t : T} (e : Fr M H H') (h : Den K H v t) : Den K H' v t := by
  induction h with
  | non => exact .non
  | bl b => exact .bl b
  | int i => exact .int i
  | str s => exact .str s
  | tup h l _ ih => exact .tup (e.tup h) l ih
/-- the items of a list of data -/
def Dens (K : PySem.W.Frag) (H : Hp) (xs : List V) (ts : List T) : Prop := xs.length = ts.length ∧ ∀ (i : Nat) (x : V) (t : T), xs[i]? = some x → ts[i]? = some t → Den K H x t
theorem Dens.fr {K : PySem.W.Frag} {M : List Addr} {H H' : Hp} {xs : List V} {ts : List T} (e : Fr M H H') (h : Dens K H xs ts) : Dens K H' xs ts := ⟨h.1, fun i x t a b => (h.2 i x t a b).fr e⟩
theorem Dens.nil {K : PySem.W.Frag} {H : Hp} : Dens K H [] [] := ⟨rfl, fun i x t h => by simp at h⟩
theorem Dens.cons {K : PySem.W.Frag} {H : Hp} {x : V} {t : T} {xs : List V} {ts : List T} (h : Den K H x t) (r : Dens K H xs ts) : Dens K H (x :: xs) (t :: ts) :=
  ⟨by simp [r.1], fun i y u a b => by
    cases i with
    | zero => simp at a b; subst a b; exact h
    | succ i => exact r.2 i y u (by simpa using a) (by simpa using b)⟩
theorem Dens.app {K : PySem.W.Frag} {H : Hp} {xs ys : List V} {ts us : List T} (h : Dens K H xs ts) (r : Dens K H ys us) : Dens K H (xs ++ ys) (ts ++ us) := by
  refine ⟨by simp [h.1, r.1], fun i y u a b => ?_⟩
  by_cases hi : i < xs.length
  · rw [List.getElem?_append_left hi] at a
    rw [List.getElem?_append_left (by rw [← h.1]; exact hi)] at b
    exact h.2 i y u a b
  · rw [List.getElem?_append_right (by omega)] at a
    rw [List.getElem?_append_right (by rw [← h.1]; omega), ← h.1] at b
    exact r.2 _ y u a b
theorem Dens.snoc {K : PySem.W.Frag} {H : Hp} {xs : List V} {ts : List T} {x : V} {t : T} (r : Dens K H xs ts) (h : Den K H x t) : Dens K H (xs ++ [x]) (ts ++ [t]) := r.app (.cons h .nil)
theorem Dens.get {K : PySem.W.Frag} {H : Hp} {xs : List V} {ts : List T} (h : Dens K H xs ts) {i : Nat} {x : V} (e : xs[i]? = some x) : ∃ t, ts[i]? = some t ∧ Den K H x t := by
  have hi := (List.getElem?_eq_some_iff.mp e).1
  have hj : i < ts.length := by rw [← h.1]; exact hi
  exact ⟨ts[i], List.getElem?_eq_getElem hj, h.2 i x _ e (List.getElem?_eq_getElem hj)⟩
theorem Dens.uncons {K : PySem.W.Frag} {H : Hp} {xs : List V} {t : T} {ts : List T} (h : Dens K H xs (t :: ts)) : ∃ x r, xs = x :: r ∧ Den K H x t ∧ Dens K H r ts := by
  cases xs with
  | nil => have := h.1; simp at this
  | cons x r => exact ⟨x, r, rfl, h.2 0 x t rfl rfl, by have := h.1; simpa using this, fun i y u a b => h.2 (i + 1) y u (by simpa using a) (by simpa using b)⟩
theorem Dens.unnil {K : PySem.W.Frag} {H : Hp} {xs : List V} (h : Dens K H xs []) : xs = [] := by
  have := h.1
  exact List.eq_nil_of_length_eq_zero (by simpa using this)
theorem Den.unstr {K : PySem.W.Frag} {H : Hp} {v : V} {s : Str} (h : Den K H v (.str s)) : v = .str s := by cases h; rfl
theorem Den.unint {K : PySem.W.Frag} {H : Hp} {v : V} {i : Int} (h : Den K H v (.int i)) : v = .int i := by cases h; rfl
theorem Den.tups {K : PySem.W.Frag} {H : Hp} {p : Addr} {xs : List V} {ts : List T} (h : H p = some (.tup xs)) (d : Dens K H xs ts) : Den K H (.ref p) (.tup ts) := .tup h d.1 d.2
theorem Den.tup_inv {K : PySem.W.Frag} {H : Hp} {v : V} {ts : List T} (h : Den K H v (.tup ts)) : ∃ p xs, v = .ref p ∧ H p = some (.tup xs) ∧ Dens K H xs ts := by
  cases h with
  | tup h l c => exact ⟨_, _, rfl, h, l, c⟩
theorem Den.inj {K : PySem.W.Frag} {H : Hp} {v : V} {t : T} (h : Den K H v t) : ∀ {u : T}, Den K H v u → t = u := by
  induction h with
  | non => intro u h; cases h; rfl
  | bl b => intro u h; cases h; rfl
  | int i => intro u h; cases h; rfl
  | str s => intro u h; cases h; rfl
  | @tup a xs ts h l c ih =>
    intro u h'
    cases h' with
    | @tup _ ys us h2 l2 c2 =>
      rw [h] at h2; cases h2
      congr 1
      refine List.ext_getElem? fun i => ?_
      cases e : xs[i]? with
      | none =>
        have hi := List.getElem?_eq_none_iff.mp e
        rw [List.getElem?_eq_none_iff.mpr (by omega), List.getElem?_eq_none_iff.mpr (by omega)]
      | some x =>
        have hi := (List.getElem?_eq_some_iff.mp e).1
        have h1 : i < ts.length := by omega
        have h3 : i < us.length := by omega
        rw [List.getElem?_eq_getElem h1, List.getElem?_eq_getElem h3]
        exact congrArg some (ih i x _ e (List.getElem?_eq_getElem h1) (c2 i x _ e (List.getElem?_eq_getElem h3)))
/-- lists stand apart from the box -/
theorem atI_in {α : Type} {xs : List α} {z : Int} (h0 : 0 ≤ z) (h1 : z < xs.length) : ∃ v, atI xs z = some v ∧ xs[z.toNat]? = some v := by
  obtain ⟨j, rfl⟩ : ∃ j : Nat, z = (j : Int) := ⟨z.toNat, by omega⟩
  have hj : j < xs.length := by omega
  exact ⟨xs[j], atI_nat (List.getElem?_eq_getElem hj), by rw [Int.toNat_natCast]; exact List.getElem?_eq_getElem hj⟩
theorem ixN_in {n : Nat} {z : Int} (h0 : 0 ≤ z) (h1 : z < n) : ixN n z = some z.toNat := by
  unfold ixN
  rw [if_pos h0, if_pos h1]
end M14
set_option Elab.async false
set_option linter.all false
set_option maxRecDepth 100000
set_option maxHeartbeats 4000000
/-! Steps: what a reading asks, turned into heaps that are known by their facts alone; the tactic words. -/
namespace M14
open PySem PySem.Spec PyProof.Rows L2

structure Bl (mg : Str → Option Value) : Prop where
  z_len : mg "len" = none
  z_int : mg "int" = none
  z_sum : mg "sum" = none
  z_range : mg "range" = none
  z_list : mg "list" = none
  z_tuple : mg "tuple" = none
  z_str : mg "str" = none
  z_isinstance : mg "isinstance" = none
  z_bool : mg "bool" = none
  z_sorted : mg "sorted" = none
  z_enumerate : mg "enumerate" = none
  z_min : mg "min" = none
  z_max : mg "max" = none

/-! ### frames, further -/
theorem Fr.comp {M : List Addr} {H H1 H2 : Hp} (a : Fr M H H1) (b : Fr M H1 H2) : Fr M H H2 := a.trans b
theorem Fr.comp0 {M : List Addr} {H H1 H2 : Hp} (a : Fr M H H1) (b : Fr [] H1 H2) : Fr M H H2 := a.tr b
/-- what is changed was not there at first -/
theorem Fr.compN {M : List Addr} {p : Addr} {H H1 H2 : Hp} (a : Fr M H H1) (b : Fr [p] H1 H2) (n : H p = none) : Fr M H H2 :=
  ⟨fun x o h m => b.kp x o (a.kp x o h m) fun z => (by
    have e : x = p := by simpa using z
    rw [e, n] at h
    cases h), a.nt⟩
theorem Fr.cons {M : List Addr} {p : Addr} {H H1 : Hp} (a : Fr M H H1) (n : ∀ xs, H p ≠ some (.tup xs)) : Fr (p :: M) H H1 :=
  ⟨fun x o h m => a.kp x o h fun z => m (List.mem_cons_of_mem _ z), fun x m => by
    rcases List.mem_cons.mp m with rfl | m
    · exact n
    · exact a.nt x m⟩
theorem Fr.freeb {b : Addr} {H H' : Hp} {o : HO} (e : Fr [b] H H') (hb : H' b = some o) {l : Addr} (h : H' l = none) : H l = none := e.freeM (fun a m q => by
  have z : a = b := by simpa using m
  rw [z, hb] at q; cases q) h
theorem sqFr {K : PySem.W.Frag} {M : List Addr} {H H' : Hp} {a : Addr} {xs : List V} (e : Fr M H H') (m : a ∉ M) (h : SqL K H a xs) : SqL K H' a xs := by
  rcases h with (h | ⟨o, h⟩) | h
  · exact .inl (.inl (e.kp _ _ h m))
  · exact .inl (.inr ⟨o, e.kp _ _ h m⟩)
  · exact .inr h
theorem sqFr0 {K : PySem.W.Frag} {H H' : Hp} {a : Addr} {xs : List V} (e : Fr [] H H') (h : SqL K H a xs) : SqL K H' a xs := sqFr e (by simp) h
theorem sqFr1 {K : PySem.W.Frag} {b : Addr} {H H' : Hp} {a : Addr} {xs : List V} (e : Fr [b] H H') (n : a ≠ b) (h : SqL K H a xs) : SqL K H' a xs := sqFr e (by simpa using n) h
theorem Fr.at0 {H H' : Hp} {a : Addr} {o : HO} (e : Fr [] H H') (h : H a = some o) : H' a = some o := e.kp a o h (by simp)

theorem Fr.at1n {b : Addr} {H H' : Hp} (e : Fr [b] H H') {a : Addr} {o : HO} (n : a ≠ b) (h : H a = some o) : H' a = some o := e.at1 h n

/-! ### the box of draws: a list of five ints -/
def Box (H : Hp) (b : Addr) : Prop := ∃ i0 i1 i2 i3 i4 : Int, H b = some (.lst [.int i0, .int i1, .int i2, .int i3, .int i4])
theorem Box.fr0 {H H' : Hp} {b : Addr} (e : Fr [] H H') (h : Box H b) : Box H' b := let ⟨i0, i1, i2, i3, i4, h⟩ := h; ⟨i0, i1, i2, i3, i4, e.at0 h⟩
theorem Box.fr1 {H H' : Hp} {b p : Addr} (e : Fr [p] H H') (n : b ≠ p) (h : Box H b) : Box H' b := let ⟨i0, i1, i2, i3, i4, h⟩ := h; ⟨i0, i1, i2, i3, i4, e.at1 h n⟩
theorem Box.has {H : Hp} {b : Addr} (h : Box H b) : ∃ o, H b = some o := let ⟨_, _, _, _, _, h⟩ := h; ⟨_, h⟩
theorem Box.nt {H : Hp} {b : Addr} (h : Box H b) : ∀ a ∈ [b], ∀ (xs : List V), H a ≠ some (HO.tup xs) := fun a m xs e => by
  obtain ⟨_, _, _, _, _, h⟩ := h
  have z : a = b := by simpa using m
  rw [z, h] at e; cases e
theorem Box.free {H H' : Hp} {b l : Addr} (B : Box H' b) (e : Fr [b] H H') (h : H' l = none) : H l = none := let ⟨_, q⟩ := B.has; e.freeb q h
theorem Box.ne {H : Hp} {b l : Addr} (B : Box H b) (h : H l = none) : l ≠ b := fun e => by
  obtain ⟨o, q⟩ := B.has
  rw [e, q] at h; cases h

theorem updFree {H : Hp} {q p : Addr} {o : HO} (h : upd H q o p = none) : H p = none := by
  unfold upd at h
  split at h
  · cases h
  · exact h
theorem ne_of_none2 {H : Hp} {a b : Addr} {o : HO} (h' : H b = none) (h : H a = some o) : a ≠ b := ne_of_none h h'
theorem Box.ne2 {H : Hp} {b l : Addr} (h : H l = none) (B : Box H b) : l ≠ b := B.ne h

theorem len1000 {n : Nat} (h : n ≤ 1000) : n ≤ sizeLine := Nat.le_of_lt (small1000 h)

/-! ### relations by name, over a fixed K -/
section
variable {X : Cx}
@[irreducible] def rxL (K : PySem.W.Frag) : R2 := rIxL K
@[irreducible] def rxT (K : PySem.W.Frag) : R2 := rIxT K
@[irreducible] def rxS : R2 := rIxS
@[irreducible] def rxIn (K : PySem.W.Frag) (neg : Bool) : R2 := rIn K neg
@[irreducible] def rxLn (K : PySem.W.Frag) : List V → Hp → VK → Prop := fun xs H Q => ∃ p ys, xs = [.ref p] ∧ (SqL K H p ys ∨ SqT K H p ys) ∧ Q (.int ys.length) H
@[irreducible] def rxCat : R2 := rCat
@[irreducible] def rxCatT (K : PySem.W.Frag) : R2 := rCatT K
@[irreducible] def rxRep : R2 := rRep
theorem opRep : OpR X (binaryOp .Mult) rxRep := by unfold rxRep; exact op_rep
@[irreducible] def rxSortP (K : PySem.W.Frag) : List V → Hp → VK → Prop := rSortedP K
theorem cSortP (K : PySem.W.Frag) (hK : X.K = K := by rfl) : CallR X (.builtin "sorted") (rxSortP K) := by unfold rxSortP; rw [← hK]; exact cr_sortedP
@[irreducible] def rxSet : TSet := rSetL
@[irreducible] def rxLst (K : PySem.W.Frag) : List V → Hp → VK → Prop := fun xs H Q => ∃ p ys, xs = [.ref p] ∧ (SqL K H p ys ∨ SqT K H p ys) ∧ ∀ l, H l = none → Q (.ref l) (upd H l (.lst ys))
@[irreducible] def rxTup (K : PySem.W.Frag) : List V → Hp → VK → Prop := fun xs H Q => ∃ p ys, xs = [.ref p] ∧ ((SqL K H p ys ∧ ∀ l, H l = none → Q (.ref l) (upd H l (.tup ys))) ∨ (SqT K H p ys ∧ Q (.ref p) H))
def tTruK (K : PySem.W.Frag) (ta : TE) : TT := fun σ H Q => ta σ H fun x H' => ∃ k, TruV K x H' k ∧ Q k H'
@[irreducible] def rxTru (K : PySem.W.Frag) (x : V) (H : Hp) (Q : Bool → Hp → Prop) : Prop := ∃ k, TruV K x H k ∧ Q k H
def tTrx (K : PySem.W.Frag) (ta : TE) : TT := fun σ H Q => ta σ H fun x H' => rxTru K x H' Q
@[irreducible] def rxApp : V → List V → Hp → VK → Prop := rAppend
theorem mtApp : MtM X "list.append" rxApp := by unfold rxApp; exact mt_append
@[irreducible] def rxIs (K : PySem.W.Frag) : List V → Hp → VK → Prop := rIsi K
theorem cIsi (K : PySem.W.Frag) (hK : X.K = K := by rfl) : CallR X (.builtin "isinstance") (rxIs K) := by unfold rxIs; rw [← hK]; exact call_isi
@[irreducible] def rxSum (K : PySem.W.Frag) : List V → Hp → VK → Prop := rSum K
theorem cSum (K : PySem.W.Frag) (hc : X.calm = true := by rfl) (hK : X.K = K := by rfl) : CallR X (.builtin "sum") (rxSum K) := by unfold rxSum; rw [← hK]; exact cr_sum hc
@[irreducible] def rxSl (K : PySem.W.Frag) : V → Option Int → Option Int → Hp → VK → Prop := rSlL K
theorem slL (K : PySem.W.Frag) (hK : X.K = K := by rfl) : SlR X (rxSl K) := by unfold rxSl; rw [← hK]; exact sl_list
@[irreducible] def rxQ (K : PySem.W.Frag) : R2 := fun x y H Q => rIxL K x y H Q ∨ rIxT K x y H Q
theorem ixQ (K : PySem.W.Frag) (hK : X.K = K := by rfl) : IxR X (rxQ K) := by
  intro value slice pins s σ H x y v u Q I rx ry h hs
  unfold rxQ at h
  rw [← hK] at h
  rcases h with h | h
  · exact ix_list value slice pins s σ H x y v u Q I rx ry h hs
  · exact ix_tup value slice pins s σ H x y v u Q I rx ry h hs
theorem ixL (K : PySem.W.Frag) (hK : X.K = K := by rfl) : IxR X (rxL K) := by unfold rxL; rw [← hK]; exact ix_list
theorem ixT (K : PySem.W.Frag) (hK : X.K = K := by rfl) : IxR X (rxT K) := by unfold rxT; rw [← hK]; exact ix_tup
theorem ixS : IxR X rxS := by unfold rxS; exact ix_str
theorem opIn (K : PySem.W.Frag) (hK : X.K = K := by rfl) : OpR X (compareOp .In) (rxIn K false) := by unfold rxIn; rw [← hK]; exact op_in_seq
theorem opNotIn (K : PySem.W.Frag) (hK : X.K = K := by rfl) : OpR X (compareOp .NotIn) (rxIn K true) := by unfold rxIn; rw [← hK]; exact op_notIn_seq
theorem cLen (K : PySem.W.Frag) (hK : X.K = K := by rfl) : CallR X (.builtin "len") (rxLn K) := by unfold rxLn; rw [← hK]; exact call_len_seq
theorem opCat : OpR X (binaryOp .Add) rxCat := by unfold rxCat; exact op_cat
theorem opCatT (K : PySem.W.Frag) (hK : X.K = K := by rfl) : OpR X (binaryOp .Add) (rxCatT K) := by unfold rxCatT; rw [← hK]; exact op_catT
theorem setL : PSet X rxSet := by unfold rxSet; exact set_list
theorem cList (K : PySem.W.Frag) (hK : X.K = K := by rfl) : CallR X (.type "list") (rxLst K) := by unfold rxLst; rw [← hK]; exact call_list_of
theorem cTuple (K : PySem.W.Frag) (hK : X.K = K := by rfl) : CallR X (.type "tuple") (rxTup K) := by unfold rxTup; rw [← hK]; exact call_tuple_of
theorem ptTru (K : PySem.W.Frag) {a : Expr} {ta : TE} (h : PE X a ta) (he : ∀ whole, isTrue a X.env whole = (do let v ← whole; standAt a.pos; holding [v] (truthy v)) := by intro _; rfl) (hK : X.K = K := by rfl) : PT X a (tTrx K ta) := by
  have e : tTrx K ta = fun σ H Q => ta σ H fun x H' => ∃ k, TruV X.K x H' k ∧ Q k H' := by
    funext σ H Q
    unfold tTrx rxTru
    rw [hK]
  rw [e]
  exact pt_truth h he
end
/-! ### steps -/
theorem new_step {H : Hp} {o : HO} {Q : VK} (h : ∀ p H', H p = none → H' p = some o → Fr [] H H' → Q (.ref p) H') : ∀ p, H p = none → Q (.ref p) (upd H p o) := fun p hp => h p _ hp upd_same (Fr.new hp)
theorem newl_step {n : Nat} {H : Hp} {o : HO} {Q : VK} (hl : n ≤ 1000) (h : ∀ p H', H p = none → H' p = some o → Fr [] H H' → Q (.ref p) H') : n ≤ sizeLine ∧ ∀ p, H p = none → Q (.ref p) (upd H p o) :=
  ⟨Nat.le_of_lt (small1000 hl), new_step h⟩
theorem set_step {H : Hp} {p : Addr} {xs : List V} {k : Int} {v : V} {Q : Hp → Prop} (hp : H p = some (.lst xs)) (h0 : 0 ≤ k) (h1 : k < xs.length) (h : ∀ H', H' p = some (.lst (xs.set k.toNat v)) → Fr [p] H H' → Q H') : rxSet (.ref p) (.int k) v H Q := by
  unfold rxSet
  exact ⟨p, xs, k, k.toNat, rfl, rfl, hp, ixN_in h0 h1, h _ upd_same (Fr.put hp (by intro _ z; cases z))⟩
theorem app_step {H : Hp} {p : Addr} {xs : List V} {v : V} {Q : VK} (hp : H p = some (.lst xs)) (hz : xs.length < 10000) (h : ∀ H', H' p = some (.lst (xs ++ [v])) → Fr [p] H H' → Q .non H') : rxApp (.ref p) [v] H Q := by
  unfold rxApp
  exact ⟨p, xs, v, rfl, rfl, hp, Nat.lt_of_lt_of_le hz (by decide), h _ upd_same (Fr.put hp (by intro _ z; cases z))⟩
theorem tyL_and {K : PySem.W.Frag} {H : Hp} {p : Addr} {xs : List V} {A : Prop} (hp : SqL K H p xs) (h : A) : tyV K "list" (.ref p) H ∧ A := ⟨.inl ⟨rfl, xs, hp⟩, h⟩
theorem ixl_step {K : PySem.W.Frag} {H : Hp} {p : Addr} {xs : List V} {z : Int} {Q : VK} (hp : SqL K H p xs) (h0 : 0 ≤ z) (h1 : z < xs.length) (h : ∀ v, xs[z.toNat]? = some v → Q v H) : rxL K (.ref p) (.int z) H Q := by
  unfold rxL
  obtain ⟨v, e1, e2⟩ := atI_in h0 h1
  exact ⟨p, xs, z, v, rfl, rfl, hp, e1, h v e2⟩
/-- a place of a written list -/
theorem ixr_step {K : PySem.W.Frag} {H : Hp} {p : Addr} {xs : List V} {z : Int} {v : V} {Q : VK} (hp : SqL K H p xs) (ha : atI xs z = some v) (h : Q v H) : rxL K (.ref p) (.int z) H Q := by
  unfold rxL
  exact ⟨p, xs, z, v, rfl, rfl, hp, ha, h⟩
theorem ixi_step {K : PySem.W.Frag} {H : Hp} {p : Addr} {ns : List Int} {z : Int} {Q : VK} (hp : SqL K H p (ns.map V.int)) (h0 : 0 ≤ z) (h1 : z < ns.length) (h : ∀ n, n ∈ ns → ns[z.toNat]? = some n → Q (.int n) H) : rxL K (.ref p) (.int z) H Q := by
  refine ixl_step hp h0 (by simpa using h1) fun v hv => ?_
  rw [List.getElem?_map] at hv
  cases e : ns[z.toNat]? with
  | none => rw [e] at hv; cases hv
  | some n =>
    rw [e] at hv
    cases hv
    exact h n (List.mem_of_getElem? e) e
theorem ixt_step {K : PySem.W.Frag} {H : Hp} {p : Addr} {xs : List V} {z : Int} {Q : VK} (hp : H p = some (.tup xs)) (h0 : 0 ≤ z) (h1 : z < xs.length) (h : ∀ v, v ∈ xs → xs[z.toNat]? = some v → Q v H) : rxT K (.ref p) (.int z) H Q := by
  unfold rxT
  obtain ⟨v, e1, e2⟩ := atI_in h0 h1
  exact ⟨p, xs, z, v, rfl, rfl, SqT.of hp, e1, h v (List.mem_of_getElem? e2) e2⟩
theorem ixs_step {z : Str} {i : Int} {H : Hp} {Q : VK} (hz : z.length ≤ sizeLine) (h0 : 0 ≤ i) (h1 : i < z.length) (h : ∀ c, Q (.str ⟨#[c]⟩) H) : rxS (.str z) (.int i) H Q := by
  unfold rxS
  obtain ⟨c, e, _⟩ := atI_in (xs := z.cps.toList) h0 (by rw [Array.length_toList]; exact h1)
  exact ⟨z, i, c, rfl, rfl, hz, e, h c⟩
theorem ix0_step {K : PySem.W.Frag} {H : Hp} {p : Addr} {x : V} {r : List V} {Q : VK} (hp : H p = some (.tup (x :: r))) (h : Q x H) : rxT K (.ref p) (.int 0) H Q := by
  unfold rxT
  exact ⟨p, _, 0, x, rfl, rfl, SqT.of hp, atI_nat (j := 0) rfl, h⟩
theorem ix1_step {K : PySem.W.Frag} {H : Hp} {p : Addr} {x y : V} {r : List V} {Q : VK} (hp : H p = some (.tup (x :: y :: r))) (h : Q y H) : rxT K (.ref p) (.int 1) H Q := by
  unfold rxT
  exact ⟨p, _, 1, y, rfl, rfl, SqT.of hp, atI_nat (j := 1) rfl, h⟩
theorem ix2_step {K : PySem.W.Frag} {H : Hp} {p : Addr} {x y z : V} {r : List V} {Q : VK} (hp : H p = some (.tup (x :: y :: z :: r))) (h : Q z H) : rxT K (.ref p) (.int 2) H Q := by
  unfold rxT
  exact ⟨p, _, 2, z, rfl, rfl, SqT.of hp, atI_nat (j := 2) rfl, h⟩
theorem rep_step {H : Hp} {a : Addr} {x : V} {n : Int} {Q : VK} (h : H a = some (.lst [x])) (h0 : 0 ≤ n) (h1 : n ≤ 10000) (k : ∀ p H', H p = none → H' p = some (.lst (List.replicate n.toNat x)) → Fr [] H H' → Q (.ref p) H') : rxRep (.ref a) (.int n) H Q := by
  unfold rxRep
  refine ⟨a, n, [x], rfl, rfl, h, by omega, by omega, ?_, fun p hp => ?_⟩
  · have : ([x] : List V).length * n.toNat ≤ 10000 := by simp; omega
    exact Nat.le_trans this (by decide)
  · have e : (List.replicate n.toNat [x]).flatten = List.replicate n.toNat x := by
      generalize n.toNat = m
      induction m with
      | zero => rfl
      | succ m ih => rw [List.replicate_succ, List.flatten_cons, ih]; rfl
    rw [e]
    exact k p _ hp upd_same (Fr.new hp)
theorem sortP_step {K : PySem.W.Frag} {H : Hp} {a : Addr} {xs : List V} {Q : VK} (h : H a = some (.lst xs)) (hx : ∀ x ∈ xs, ∃ t i j, x = V.ref t ∧ H t = some (.tup [.int i, .int j])) (k : ∀ ys p H', ys.Perm xs → H p = none → H' p = some (.lst ys) → Fr [] H H' → Q (.ref p) H') : rxSortP K [.ref a] H Q := by
  unfold rxSortP
  exact ⟨a, xs, rfl, .of h, hx, fun ys p hp n => k ys p _ hp n upd_same (Fr.new n)⟩
/-! ### ways -/
theorem iteD {c A B : Prop} [Decidable c] (h1 : c → A) (h2 : ¬ c → B) : if decide c = true then A else B := by
  by_cases h : c
  · rw [if_pos (decide_eq_true h)]; exact h1 h
  · rw [if_neg (by simp [h])]; exact h2 h
theorem iteDI {i j : Int} {A B : Prop} (h1 : i = j → A) (h2 : i ≠ j → B) : if decide (V.int i = V.int j) = true then A else B := iteD (fun e => h1 (V.int.inj e)) fun e => h2 fun q => e (by rw [q])
theorem iteDS {i j : Str} {A B : Prop} (h1 : i = j → A) (h2 : i ≠ j → B) : if decide (V.str i = V.str j) = true then A else B := iteD (fun e => h1 (V.str.inj e)) fun e => h2 fun q => e (by rw [q])
theorem iteN {c : Bool} {A B : Prop} (h : if c = true then B else A) : if (!c) = true then A else B := by
  cases c with
  | true => simpa using h
  | false => simpa using h
theorem iteE {α : Type} {xs : List α} {A B : Prop} (h1 : 0 < xs.length → A) (h2 : xs.length = 0 → B) : if (!xs.isEmpty) = true then A else B := by
  cases xs with
  | nil => simpa using h2 rfl
  | cons x r => simpa using h1 (by simp)
theorem iteEM {α β : Type} {f : α → β} {xs : List α} {A B : Prop} (h1 : 0 < xs.length → A) (h2 : xs.length = 0 → B) : if (!(xs.map f).isEmpty) = true then A else B :=
  iteE (fun h => h1 (by simpa using h)) fun h => h2 (by simpa using h)
def isI (v : V) : Prop := ∃ i : Int, v = .int i
def intB : V → Bool
  | .int _ => true
  | _ => false
theorem isI_of {l : List V} {v : V} (h : l.all intB = true) (m : v ∈ l) : isI v := by
  have q := List.all_eq_true.mp h v m
  cases v with
  | int i => exact ⟨i, rfl⟩
  | _ => cases q
theorem wayB {c : Bool} {A B : Prop} (h1 : c = true → A) (h2 : c = false → B) : if c = true then A else B := by
  cases c with
  | true => exact h1 rfl
  | false => exact h2 rfl


/-! ### texts -/
def isS (n : Nat) (v : V) : Prop := ∃ s : Str, v = .str s ∧ s.length ≤ n
def strB (n : Nat) : V → Bool
  | .str s => decide (s.length ≤ n)
  | _ => false
theorem isS_of {n : Nat} {l : List V} {v : V} (h : l.all (strB n) = true) (m : v ∈ l) : isS n v := by
  have q := List.all_eq_true.mp h v m
  cases v with
  | str s => exact ⟨s, rfl, of_decide_eq_true q⟩
  | _ => cases q
theorem strs_of {n : Nat} : ∀ {ys : List V}, (∀ y ∈ ys, isS n y) → ∃ ss : List Str, ys = ss.map V.str ∧ ∀ s ∈ ss, s.length ≤ n
  | [], _ => ⟨[], rfl, fun _ h => nomatch h⟩
  | y :: r, h => by
    obtain ⟨s, e, l⟩ := h y List.mem_cons_self
    obtain ⟨ss, e2, l2⟩ := strs_of (ys := r) fun z m => h z (List.mem_cons_of_mem _ m)
    refine ⟨s :: ss, by rw [e, e2]; rfl, fun z m => ?_⟩
    rcases List.mem_cons.mp m with rfl | m
    · exact l
    · exact l2 z m
theorem sum_le {n : Nat} : ∀ {ss : List Str}, (∀ s ∈ ss, s.length ≤ n) → (ss.map (·.length)).sum ≤ n * ss.length
  | [], _ => Nat.zero_le _
  | s :: r, h => by
    have h1 := h s List.mem_cons_self
    have h2 := sum_le (ss := r) fun z m => h z (List.mem_cons_of_mem _ m)
    simp only [List.map_cons, List.sum_cons, List.length_cons, Nat.mul_add, Nat.mul_one]
    omega
theorem join_le {n : Nat} : ∀ {ss : List Str}, (∀ s ∈ ss, s.length ≤ n) → (Txt.join (Str.ofString "") ss).length ≤ n * ss.length := fun {ss} h => by
  rw [TL.join_eq]
  have e0 : (Str.ofString "").length = 0 := by decide +kernel
  have go : ∀ ss : List Str, (Str.join (Str.ofString "") ss).length ≤ (ss.map (·.length)).sum := fun ss => by
    induction ss with
    | nil => exact Nat.zero_le _
    | cons s r ih =>
      cases r with
      | nil => simp [Str.join]
      | cons u r =>
        rw [Str.join, Str.length_append, Str.length_append, e0, List.map_cons, List.sum_cons]
        · omega
        · simp
  exact Nat.le_trans (go ss) (sum_le h)
/-- sep.join(ys), ys a list of short texts -/
theorem join_step {K : PySem.W.Frag} {H : Hp} {p : Addr} {ys : List V} {n : Nat} {Q : VK} (hp : SqL K H p ys) (hy : ∀ y ∈ ys, isS n y) (hn : n ≤ 100) (hl : ys.length ≤ 1000) (h : ∀ v, isS (n * ys.length) v → Q v H) :
    ∃ a q, ∃ zs : List Str, V.str (Str.ofString "") = .str a ∧ [V.ref p] = [.ref q] ∧ (SqL K H q (zs.map V.str) ∨ SqT K H q (zs.map V.str)) ∧ (zs.map (·.length)).sum + zs.length * a.length ≤ 16777216 ∧ Q (.str (Txt.join a zs)) H := by
  obtain ⟨ss, rfl, l⟩ := strs_of hy
  rw [List.length_map] at hl h
  have s1 := sum_le l
  have s2 : n * ss.length ≤ 100 * 1000 := Nat.mul_le_mul hn hl
  have e0 : (Str.ofString "").length = 0 := by decide +kernel
  exact ⟨_, p, ss, rfl, rfl, .inl hp, by rw [e0]; omega, h _ ⟨_, rfl, join_le l⟩⟩
theorem isS.mono {n m : Nat} {v : V} (h : isS n v) (l : n ≤ m) : isS m v := let ⟨s, e, q⟩ := h; ⟨s, e, Nat.le_trans q l⟩
theorem len1 (c : Nat) : isS 1 (.str ⟨#[c]⟩) := ⟨_, rfl, by show (#[c] : Array Nat).size ≤ 1; simp⟩
/-! ### further steps -/
@[irreducible] def rStrI : List V → Hp → VK → Prop := fun xs H Q => ∃ i : Int, xs = [.int i] ∧ i.natAbs.log2 < 1920 ∧ Q (.str (toString i)) H
theorem call_strI {X : Cx} : CallR X (.type "str") rStrI := by unfold rStrI; exact call_str_int
@[irreducible] def rAddT : R2 := fun x y H Q => ∃ i j : Str, x = .str i ∧ y = .str j ∧ i.length + j.length ≤ sizeLine ∧ Q (.str (i ++ j)) H
theorem op_addT {X : Cx} : OpR X (binaryOp .Add) rAddT := by unfold rAddT; exact op_add_str
theorem strInt_step {k : Int} {H : Hp} {Q : VK} (h : k.natAbs ≤ 1000) (q : ∀ s : Str, s.length ≤ 1921 → Q (.str s) H) : rStrI [V.int k] H Q := by
  unfold rStrI
  have l : k.natAbs.log2 < 1920 := Nat.lt_of_le_of_lt (Nat.log2_le_self _) (by omega)
  exact ⟨k, rfl, l, q _ (PyProof.Rows.int_text_len_1921 l)⟩
theorem addS_step {x y : Str} {H : Hp} {Q : VK} (h : x.length + y.length ≤ 10000) (q : ∀ s : Str, s.length ≤ 10000 → Q (.str s) H) : rAddT (.str x) (.str y) H Q := by
  unfold rAddT
  exact ⟨x, y, rfl, rfl, Nat.le_trans h (by decide), q _ (by rw [Str.length_append]; exact h)⟩
theorem in_step {K : PySem.W.Frag} {H : Hp} {x : V} {p : Addr} {xs : List V} {Q : VK} (hp : H p = some (.tup xs)) (hx : flatV x = true) (hf : xs.all flatV = true) (h : Q (.bl (inV x xs)) H) : rxIn K false x (.ref p) H Q := by
  unfold rxIn
  exact ⟨p, xs, rfl, .inr (SqT.of hp), hx, hf, by rw [if_neg Bool.false_ne_true]; exact h⟩
theorem len_step {K : PySem.W.Frag} {H : Hp} {p : Addr} {xs : List V} {Q : VK} (hp : SqL K H p xs) (h : Q (.int xs.length) H) : rxLn K [.ref p] H Q := by
  unfold rxLn
  exact ⟨p, xs, rfl, .inl hp, h⟩
theorem lst_step {K : PySem.W.Frag} {H : Hp} {p : Addr} {xs : List V} {Q : VK} (hp : SqL K H p xs) (h : ∀ l, H l = none → Q (.ref l) (upd H l (.lst xs))) : rxLst K [.ref p] H Q := by
  unfold rxLst
  exact ⟨p, xs, rfl, .inl hp, h⟩
theorem tupl_step {K : PySem.W.Frag} {H : Hp} {p : Addr} {xs : List V} {Q : VK} (hp : SqL K H p xs) (h : ∀ l, H l = none → Q (.ref l) (upd H l (.tup xs))) : rxTup K [.ref p] H Q := by
  unfold rxTup
  exact ⟨p, xs, rfl, .inl ⟨hp, h⟩⟩
theorem tru_step {K : PySem.W.Frag} {H : Hp} {p : Addr} {xs : List V} {Q : Bool → Hp → Prop} (hp : SqL K H p xs) (h : Q (!xs.isEmpty) H) : rxTru K (.ref p) H Q := by
  unfold rxTru
  exact ⟨_, .inl ⟨xs, hp, rfl⟩, h⟩
theorem catT_step {K : PySem.W.Frag} {H : Hp} {a b : Addr} {x y : V} {xs ys : List V} {Q : VK} (ha : H a = some (.tup (x :: xs))) (hb : H b = some (.tup (y :: ys))) (hl : (x :: xs).length + (y :: ys).length ≤ 1000)
    (h : ∀ p, H p = none → Q (.ref p) (upd H p (.tup (x :: xs ++ y :: ys)))) : rxCatT K (.ref a) (.ref b) H Q := by
  unfold rxCatT
  exact ⟨a, b, _, _, rfl, rfl, SqT.of ha, SqT.of hb, by simp, len1000 hl, fun e => (nomatch e), fun _ => h⟩
theorem cat_step {H : Hp} {a b : Addr} {xs ys : List V} {Q : VK} (ha : H a = some (.lst xs)) (hb : H b = some (.lst ys)) (hl : xs.length + ys.length ≤ 10000) (h : ∀ p, H p = none → Q (.ref p) (upd H p (.lst (xs ++ ys)))) : rxCat (.ref a) (.ref b) H Q := by
  unfold rxCat
  exact ⟨a, b, _, _, rfl, rfl, ha, hb, Nat.le_trans hl (by decide), h⟩
theorem dens_ex {K : PySem.W.Frag} {H : Hp} {p : T → Prop} : ∀ {ys : List V}, (∀ y ∈ ys, ∃ t, Den K H y t ∧ p t) → ∃ ts, Dens K H ys ts ∧ ∀ t ∈ ts, p t
  | [], _ => ⟨[], .nil, fun _ m => nomatch m⟩
  | y :: r, h => by
    obtain ⟨t, d, q⟩ := h y List.mem_cons_self
    obtain ⟨ts, ds, qs⟩ := dens_ex (ys := r) fun z m => h z (List.mem_cons_of_mem _ m)
    refine ⟨t :: ts, .cons d ds, fun u m => ?_⟩
    rcases List.mem_cons.mp m with rfl | m
    · exact q
    · exact qs u m
theorem dens_strs {K : PySem.W.Frag} {H : Hp} {n : Nat} {ys : List V} (h : ∀ y ∈ ys, isS n y) : ∃ ts, Dens K H ys ts ∧ ∀ t ∈ ts, Dep 0 t :=
  dens_ex fun y m => let ⟨s, e, _⟩ := h y m; ⟨.str s, by rw [e]; exact .str s, .str⟩
/-- for x in range(lo, lo + n) -/
theorem forR {lo : Int} {n : Nat} {j : Nat} {tb : TS} {D : Ends} {σ : L2.St} {H : Hp} (Pv : Nat → L2.St → Hp → Prop) (h0 : Pv 0 σ H)
    (hs : ∀ i σ H, i < n → Pv i σ H → tb { D with nx := Pv (i + 1), ct := Pv (i + 1), bk := D.nx } (σ.set j (some (.int (lo + i)))) H) (hd : ∀ σ H, Pv n σ H → D.nx σ H) :
    ∃ W : Nat → Nat → L2.St → Hp → Prop, (∃ m, W 0 m σ H) ∧ ∀ i m σ H, W i m σ H →
      ((Itr lo n).stop i H ∧ D.nx σ H) ∨ ((Itr lo n).go i H ∧ ∃ N : L2.St → Hp → Prop, (∀ σ' H', N σ' H' → ∃ m', m' < m ∧ W (i + 1) m' σ' H') ∧ ∀ x H', (Itr lo n).yld i H x H' → gName j x σ H' fun σ2 H2 => tb { D with nx := N, ct := N, bk := D.nx } σ2 H2) :=
  for_range Pv h0 hs hd
/-! ### isinstance, sums, slices, items of lists and tuples alike -/
theorem isi_tt {K : PySem.W.Frag} {H : Hp} {x : V} {a : String} {Q : VK} (ty : TyX K H x (.type a)) (e : kitB a a = some true) (h : Q (.bl true) H) : rxIs K [x, .ty a] H Q := by
  unfold rxIs
  exact ⟨x, _, _, _, _, rfl, .ty a, ty, kit_ty e, h⟩
theorem isi_ff {K : PySem.W.Frag} {H : Hp} {x : V} {a c : String} {Q : VK} (ty : TyX K H x (.type a)) (e : kitB a c = some false) (h : Q (.bl false) H) : rxIs K [x, .ty c] H Q := by
  unfold rxIs
  exact ⟨x, _, _, _, _, rfl, .ty c, ty, kit_ty e, h⟩
theorem ixq_step {K : PySem.W.Frag} {H : Hp} {p : Addr} {xs : List V} {z : Int} {Q : VK} (hp : SqL K H p xs ∨ SqT K H p xs) (h0 : 0 ≤ z) (h1 : z < xs.length) (h : ∀ v, xs[z.toNat]? = some v → Q v H) : rxQ K (.ref p) (.int z) H Q := by
  unfold rxQ
  obtain ⟨v, e1, e2⟩ := atI_in h0 h1
  rcases hp with hp | hp
  · exact .inl ⟨p, xs, z, v, rfl, rfl, hp, e1, h v e2⟩
  · exact .inr ⟨p, xs, z, v, rfl, rfl, hp, e1, h v e2⟩
theorem lenq_step {K : PySem.W.Frag} {H : Hp} {p : Addr} {xs : List V} {Q : VK} (hp : SqL K H p xs ∨ SqT K H p xs) (h : Q (.int xs.length) H) : rxLn K [.ref p] H Q := by
  unfold rxLn
  exact ⟨p, xs, rfl, hp, h⟩
theorem ints_of : ∀ {ys : List V}, (∀ y ∈ ys, isI y) → ∃ ms : List Int, ys = ms.map V.int
  | [], _ => ⟨[], rfl⟩
  | y :: r, h => by
    obtain ⟨i, e⟩ := h y List.mem_cons_self
    obtain ⟨ms, e2⟩ := ints_of (ys := r) fun z m => h z (List.mem_cons_of_mem _ m)
    exact ⟨i :: ms, by rw [e, e2]; rfl⟩
theorem sl_step {K : PySem.W.Frag} {H : Hp} {p : Addr} {ns : List Int} {lo hi : Option Int} {Q : VK} (hp : SqL K H p (ns.map V.int)) (h : ∀ q H' (ms : List Int), H q = none → H' q = some (.lst (ms.map V.int)) → Fr [] H H' → Q (.ref q) H') : rxSl K (.ref p) lo hi H Q := by
  unfold rxSl
  refine ⟨p, _, rfl, hp, fun q hq => ?_⟩
  obtain ⟨ms, e⟩ := ints_of (ys := cutV (ns.map V.int) lo hi) fun y hy => by
    unfold cutV at hy
    have m := List.mem_of_mem_drop (List.mem_of_mem_take hy)
    obtain ⟨i, _, e⟩ := List.mem_map.mp m
    exact ⟨i, e.symm⟩
  rw [e]
  exact h q _ ms hq upd_same (Fr.new hq)
theorem sum_step {K : PySem.W.Frag} {H : Hp} {p : Addr} {ns : List Int} {Q : VK} (hp : SqL K H p (ns.map V.int)) (h : ∀ i : Int, Q (.int i) H) : rxSum K [.ref p] H Q := by
  unfold rxSum
  exact ⟨p, ns, rfl, hp, h _⟩
theorem fin_bl {Q : VK} {H : Hp} {b : Bool} (e : b = true) (h : Q (.bl true) H) : Q (.bl b) H := by rw [e]; exact h
end M14
set_option Elab.async false
set_option linter.all false
set_option maxRecDepth 100000
set_option maxHeartbeats 4000000
/-! k04: rules that the hand layer does not have: enumerate(text), text * int, X() of an own exception class. -/
namespace K4
open PySem PySem.Spec PyProof.Rows L2 M14
/-! ### for i, c in enumerate(text) -/
def Itse (x : Str) : It := ⟨fun i _ => i < x.cps.size, fun i H v H' => ∃ T c, v = .ref T ∧ H T = none ∧ H' = upd H T (.tup [.int (i : Nat), .str ⟨#[c]⟩]) ∧ x.cps[i]? = some c, fun i _ => i = x.cps.size⟩
theorem turn_enumS {P : Program} {w : World} {K : PySem.W.Frag} {elts : List Expr} {kk : Nat} {tpos : Pos} (x : Str) (t : Tok) (e it : Addr) :
    Turn P w K (.Tuple elts kk tpos) (Itse x) [e, it] e (fun i h => (∃ old, IsEnum h e it ((i : Nat) : Int) old) ∧ h.IsStrIter it (strIterType x) x t i ∧ e ≠ it) where
  mem := by simp
  obj := fun i h st b hb => by
    obtain ⟨⟨old, he⟩, ⟨o, ho, hc, hd⟩, _⟩ := st
    have e' : b = e ∨ b = it := by simpa using hb
    rcases e' with z | z
    · rw [z]; exact ⟨_, he, fun v q => nomatch q⟩
    · rw [z]; exact ⟨o, ho, fun v q => by rw [hd] at q; cases q⟩
  keep := fun i h h' st k => let ⟨⟨old, he⟩, ⟨o, ho, r⟩, hne⟩ := st; ⟨⟨old, k e (by simp) _ he⟩, ⟨o, k it (by simp) o ho, r⟩, hne⟩
  item := by
    intro X hP hw hK hc i pins s σ H E I hf st hg
    subst hP hw hK
    obtain ⟨⟨old, he⟩, hit, hne⟩ := st
    have hel : e < s.heap.objs.size := Heap.lt_size he
    have hil : it < s.heap.objs.size := by obtain ⟨_, q, _⟩ := hit; exact Heap.lt_size q
    have D : Draws X.prog X.w X.A.in1 it [it] x.cps.size (fun i v => ∃ c u, x.cps[i]? = some c ∧ v = .str ⟨#[c]⟩ u) (fun i h => h.IsStrIter it (strIterType x) x t i) := by
      have hh : X.A.in1.handled = none := I.ok.hd hc
      unfold strIterType
      cases ha : x.cps.all (· < 128)
      · exact Draws.strWide hh it x t
      · exact Draws.strAscii hh it x t
    refine wpAny_pyNext_enum_itemD D he hit hg hne (by simpa using hne) fun v h' tk hv ho hit' hT hsz hk => ?_
    obtain ⟨c, u, hcx, rfl⟩ := hv
    refine ⟨_, rfl, wpAny_letOwnedTupleGo_enum (s := { s with heap := h', toks := tk + 1 }) ho fun h'' he' sb => ?_⟩
    have hT2 : h''.get? s.heap.objs.size = some { cls := .type "tuple", data := .seq #[.int i tk, .str ⟨#[c]⟩ u] } := (sb.2 _ (Nat.ne_of_gt hel)).trans hT
    have new : ObjOk X.prog X.w (upd H s.heap.objs.size (.tup [.int (i : Nat), .str ⟨#[c]⟩])) h'' s.heap.objs.size (.tup [.int (i : Nat), .str ⟨#[c]⟩]) :=
      ⟨by show 2 ≤ sizeLine; decide, [.int i tk, .str ⟨#[c]⟩ u], .cons ⟨_, rfl⟩ (.cons ⟨_, rfl⟩ .nil), ⟨_, hT2, rfl, _, rfl⟩⟩
    have I1 : Inv X pins σ (upd H s.heap.objs.size (.tup [.int (i : Nat), .str ⟨#[c]⟩])) { s with heap := h'', toks := tk + 1 } :=
      I.turnedNew (ch := [e, it]) (fun b ob hb q => (sb.2 b (fun z => hb (by simp [z]))).trans (hk b ob (fun z => hb (by simp [z])) (fun z => hb (by simp [z])) q)) hf (Nat.le_refl _) new
    refine ⟨.ref s.heap.objs.size, _, I1, rfl, ⟨_, c, rfl, I.hok.fresh (Nat.le_refl _), rfl, hcx⟩, ⟨⟨.str ⟨#[c]⟩ u, ?_⟩, ?_, hne⟩, fun b hb => ?_⟩
    · have e1 : ((i + 1 : Nat) : Int) = (i : Int) + 1 := by omega
      rw [e1]; exact he'
    · obtain ⟨o, ho2, r⟩ := hit'
      exact ⟨o, (sb.2 it (Ne.symm hne)).trans ho2, r⟩
    · have hb' : b < s.heap.objs.size := by
        have e' : b = e ∨ b = it := by simpa using hb
        rcases e' with z | z
        · rw [z]; exact hel
        · rw [z]; exact hil
      rw [upd_ne (Nat.ne_of_lt hb')]
      exact (hf b hb).1
  done := by
    intro X hP hw hK hc i pins s σ H E I hf st hg
    subst hP hw hK
    obtain ⟨⟨old, he⟩, hit, hne⟩ := st
    obtain ⟨f0, f1, f2, f3, f4, f5⟩ := hf it (by simp)
    have hh : X.A.in1.handled = none := I.ok.hd hc
    have D : Draws X.prog X.w X.A.in1 it [it] x.cps.size (fun i v => ∃ c u, x.cps[i]? = some c ∧ v = .str ⟨#[c]⟩ u) (fun i h => h.IsStrIter it (strIterType x) x t i) := by
      unfold strIterType
      cases ha : x.cps.all (· < 128)
      · exact Draws.strWide hh it x t
      · exact Draws.strAscii hh it x t
    have hg' : i = x.cps.size := hg
    rw [hg'] at hit
    exact wpAny_pyNext_enum_endD D he hit fun h' eb => ⟨rfl, I.turned (t' := s.toks) (fun b o hb q => eb b o hb q) f0 f1 f3 f4 f5⟩
  self := fun A i s Q E st h => let ⟨⟨_, he⟩, _⟩ := st; wpAny_pyIter_enum he h
def iEnumS (ta : TA) : TI := fun σ H R => ta σ H fun vs H1 => ∃ x, vs = [.str x] ∧ R (Itse x) H1
theorem pi_enumS {X : Cx} {e : Expr} {ta : TA} {p pos tpos : Pos} {elts : List Expr} {kk : Nat} (hg : Gl X "enumerate") (hm : X.mg "enumerate" = none) (ha : PA X [e] ta) (hs : starEach [e] X.env = [(false, eval e X.env)] := by rfl) :
    PI X (.Tuple elts kk tpos) (.Call (.Name "enumerate" p) [e] [] pos) (iEnumS ta) := by
  refine ⟨fun pins s σ H R I h => ?_⟩
  refine Call_ (ld_blt I hg hm boot_enumerate (PyProof.Rows.callWith_type1 (thn (ha.run pos pins s σ H _ I h) fun us s1 ⟨vs, H1, I1, r1, q1⟩ => ?_) hs rfl))
  obtain ⟨x, ex, q⟩ := q1
  subst ex
  cases r1 with
  | cons r rr =>
    cases rr
    obtain ⟨t, rfl⟩ := r
    refine call_enumerate_str fun h' he hit hsz hk => wpAny_pyIter_enum he ?_
    have I2 : Inv X pins σ H1 { s1 with heap := h' } := I1.kept (t' := s1.toks) hk
    refine ⟨s1.heap.objs.size + 1, [s1.heap.objs.size + 1, s1.heap.objs.size], _, _, H1, rfl, I2, turn_enumS x t (s1.heap.objs.size + 1) s1.heap.objs.size, ⟨⟨.none, he⟩, hit, Nat.succ_ne_self _⟩, fun b hb => ?_, q⟩
    have e' : b = s1.heap.objs.size + 1 ∨ b = s1.heap.objs.size := by simpa using hb
    have hle : s1.heap.objs.size ≤ b := by
      rcases e' with z | z
      · rw [z]; exact Nat.le_add_right _ _
      · rw [z]; exact Nat.le_refl _
    exact I1.fpOk hle (I1.hok.fresh hle)
/-! ### text * int -/
@[irreducible] def rRepS : R2 := fun x y H Q => ∃ (z : Str) (n : Int), x = .str z ∧ y = .int n ∧ n ≤ 100000 ∧ -(2 ^ 63) ≤ n ∧ z.length * n.toNat ≤ 1000000 ∧ Q (.str (Txt.mul z n)) H
theorem op_repS {X : Cx} : OpR X (binaryOp .Mult) rRepS := by
  unfold rRepS
  intro pins s σ H x y v u Q I rx ry h
  obtain ⟨z, n, rfl, rfl, h1, h2, h3, q⟩ := h
  obtain ⟨t, rfl⟩ := rx
  obtain ⟨t2, rfl⟩ := ry
  refine SB.mul ⟨?_, ?_, ?_⟩ fun t' k => ⟨.str (Txt.mul z n), H, I.tok k, ⟨t', rfl⟩, q⟩
  · simp; omega
  · intro h4 h5 h6
    have h7 : 1 ≤ n := by omega
    have h8 : (z.length : Int) * n ≤ 1000000 := by
      have : ((z.length * n.toNat : Nat) : Int) ≤ 1000000 := by omega
      rw [Int.natCast_mul, Int.toNat_of_nonneg (by omega)] at this
      exact this
    have h9 : ((2 ^ 63 - 1 : Int) / n) * n ≥ 1000000 := by
      have := Int.mul_ediv_add_emod (2 ^ 63 - 1) n
      have h10 := Int.emod_lt_of_pos (2 ^ 63 - 1) (show 0 < n by omega)
      rw [Int.mul_comm] at this
      have e : (2 ^ 63 - 1 : Int) = 9223372036854775807 := by decide
      rw [e] at this h10 ⊢
      generalize (9223372036854775807 : Int) / n * n = a at *
      generalize (9223372036854775807 : Int) % n = b at *
      omega
    have h11 : ((2 ^ 63 - 1 : Int) / n) < (z.length : Int) := h6
    have h12 : ((2 ^ 63 - 1 : Int) / n) * n < (z.length : Int) * n := Int.mul_lt_mul_of_pos_right h11 (by omega)
    omega
  · intro h4 h5
    have : z.length * n.toNat ≤ sizeLine := Nat.le_trans h3 (by decide)
    simp [Builtin.Str.tooLong]; omega
/-! ### X(), X an own exception class -/
theorem pmk_own0 {X : Cx} {C : Addr} {bmB : List Value} {B newId initId : String} {x : Str} {p pos : Pos} (F : ExcBaseFacts B newId initId bmB) (q : PySem.W.excIn X.K C bmB newId = true) (gC : X.mg x = some (.ref C))
    (kC : PySem.W.keepIn X.K (.ref C) = true) (r : Raises X (.ref C)) (hg : Gl X x) (hdb : (x == ("__debug__" : Str)) = false := by decide) :
    PMk X (.Call (.Name x p) [] [] pos) (fun _ H Q => Q (.ref C) none H) := by
  intro pins s σ H Q I h
  refine wpAny_Call_Name_kw (ld_glob I hg gC ?_ hdb)
  refine PySem.W.callWith_K0 I.kIn kC ?_
  show wpAny _ _ (call (.ref C) []) _ _ _
  obtain ⟨bm, N, nm, qn, bs, hdct, sn, sub, ab, col, dd, k0, k1, k2, k3, k5, mN, hC, hN, hni, T⟩ := exc_obj I.kIn q
  refine wpAny_call_exc_subT F T hC hN hni (fun h' e hm => ?_) (by show 0 ≤ sizeLine; omega)
  exact mk_of I hm r h (I.hok.gone hm.new)
end K4
set_option Elab.async false
set_option linter.all false
set_option maxRecDepth 100000
set_option maxHeartbeats 4000000
/-! k04, the plain part: notes of data; no program. -/
namespace K4
open PySem PySem.Spec PyProof.Rows L2 M14 SX
/-! ### numbers -/
def numI : Int → List Nat
  | .ofNat n => TL.numL n
  | .negSucc n => 45 :: TL.numL (n + 1)
theorem num_str (i : Int) : Str.ofString (toString i) = S (numI i) := by
  cases i with
  | ofNat n => exact num_S n
  | negSucc n =>
    have e : toString (Int.negSucc n) = "-" ++ toString (n + 1) := rfl
    have h := num_S (n + 1)
    refine TL.ext_tl ?_
    have h2 : (Str.ofString (toString (n + 1))).cps.toList = TL.numL (n + 1) := TL.tl_num (n + 1)
    show (Str.ofString (toString (Int.negSucc n))).cps.toList = 45 :: TL.numL (n + 1)
    rw [Str.ofString_eq_toList] at h2 ⊢
    rw [e, ← h2, String.toList_append]
    rfl
def isDig (c : Nat) : Bool := decide (48 ≤ c) && decide (c ≤ 57)
def digs (w : List Nat) : List Nat := if w.head? = some 45 then w.tail else w
/-- the law's and the program's whole numbers -/
def isInt (w : List Nat) : Bool := !(digs w).isEmpty && decide ((digs w).length ≤ 80) && (digs w).all isDig && (decide ((digs w).head? ≠ some 48) || decide (w = [48]))
theorem allDig {w : List Nat} : w.all isDig = true ↔ NumText.AllDigits w := by
  unfold NumText.AllDigits isDig
  simp
theorem numL_head {n : Nat} (h : 0 < n) : ∃ c r, TL.numL n = c :: r ∧ c ≠ 48 := by
  induction n using Nat.strongRecOn with
  | _ n ih =>
    by_cases h10 : n < 10
    · exact ⟨48 + n, [], TL.numL_lt h10, by omega⟩
    · obtain ⟨c, r, e, hc⟩ := ih (n / 10) (by omega) (by omega)
      exact ⟨c, r ++ [48 + n % 10], by rw [TL.numL_step (by omega), e]; rfl, hc⟩
theorem numL_zero : TL.numL 0 = [48] := TL.numL_lt (by decide)
theorem ofNat_map (cs : List Nat) (h : NumText.AllDigits cs) : (cs.map Char.ofNat).map Char.toNat = cs := by
  induction cs with
  | nil => rfl
  | cons c r ih =>
    have hc := h.head
    have e : (Char.ofNat c).toNat = c := by
      have : ∀ d : Nat, d < 58 → (Char.ofNat d).toNat = d := by decide
      exact this c (by omega)
    simp only [List.map_cons, e]
    rw [ih h.tail]
/-- digits without a leading nought are those of their number -/
theorem numL_of {cs : List Nat} (h : NumText.AllDigits cs) (ne : cs ≠ []) (h0 : cs.head? ≠ some 48 ∨ cs = [48]) : TL.numL (NumText.digitsVal cs) = cs := by
  rcases h0 with h0 | h0
  · obtain ⟨c, r, rfl⟩ := List.exists_cons_of_ne_nil ne
    have hc := h.head
    have hc0 : c ≠ 48 := fun e => h0 (by rw [e]; rfl)
    unfold TL.numL
    rw [NumText.toDigits_digitsVal r.length (c :: r) rfl h (.inr ⟨c, r, rfl, by omega⟩), ofNat_map _ h]
  · subst h0
    exact numL_zero
theorem dval_lt {k : Nat} : ∀ (cs : List Nat), NumText.AllDigits cs → cs.length ≤ k → NumText.digitsVal cs < 10 ^ k := by
  intro cs h hl
  have g : ∀ (cs : List Nat) (a : Nat), NumText.AllDigits cs → cs.foldl (fun acc c => acc * 10 + (c - 48)) a < (a + 1) * 10 ^ cs.length := by
    intro cs
    induction cs with
    | nil => intro a _; simp
    | cons c r ih =>
      intro a h
      have hc := h.head
      have := ih (a * 10 + (c - 48)) h.tail
      refine Nat.lt_of_lt_of_le this ?_
      rw [List.length_cons, Nat.pow_succ]
      have : (a * 10 + (c - 48) + 1) ≤ (a + 1) * 10 := by omega
      calc _ ≤ ((a + 1) * 10) * 10 ^ r.length := Nat.mul_le_mul_right _ this
        _ = (a + 1) * (10 ^ r.length * 10) := by rw [Nat.mul_assoc, Nat.mul_comm 10]
  have := g cs 0 h
  unfold NumText.digitsVal
  refine Nat.lt_of_lt_of_le this ?_
  rw [Nat.zero_add, Nat.one_mul]
  exact Nat.pow_le_pow_right (by decide) hl
def intOf (w : List Nat) : Int := if w.head? = some 45 then -((NumText.digitsVal w.tail : Nat) : Int) else ((NumText.digitsVal w : Nat) : Int)
theorem isInt_text {w : List Nat} (h : isInt w = true) : intText? (S w) = some (intOf w) ∧ w.length ≤ 640 := by
  unfold isInt at h
  simp only [Bool.and_eq_true, allDig, decide_eq_true_eq, Bool.not_eq_true', List.isEmpty_eq_false_iff] at h
  obtain ⟨⟨⟨h1, h2⟩, h3⟩, h4⟩ := h
  unfold intOf
  unfold digs at h1 h2 h3
  by_cases hm : w.head? = some 45
  · rw [if_pos hm] at h1 h2 h3
    obtain ⟨c, r, rfl⟩ : ∃ c r, w = c :: r := by cases w with | nil => simp at hm | cons c r => exact ⟨c, r, rfl⟩
    have hc : c = 45 := by simpa using hm
    subst hc
    rw [if_pos hm]
    have h2' : r.length ≤ 80 := h2
    exact ⟨intText_neg (x := S (45 :: r)) rfl h3 h1 (by rw [S_len]; simp; omega), by simp; omega⟩
  · rw [if_neg hm] at h1 h2 h3
    rw [if_neg hm]
    exact ⟨intText_digits (x := S w) h3 h1 (by rw [S_len]; omega), by omega⟩
theorem isInt_num {w : List Nat} (h : isInt w = true) : w = numI (intOf w) ∧ (intOf w).natAbs < 10 ^ 80 := by
  unfold isInt at h
  simp only [Bool.and_eq_true, allDig, decide_eq_true_eq, Bool.not_eq_true', List.isEmpty_eq_false_iff, Bool.or_eq_true] at h
  obtain ⟨⟨⟨h1, h2⟩, h3⟩, h4⟩ := h
  unfold intOf
  unfold digs at h1 h2 h3 h4
  by_cases hm : w.head? = some 45
  · rw [if_pos hm] at h1 h2 h3 h4
    obtain ⟨c, r, rfl⟩ : ∃ c r, w = c :: r := by cases w with | nil => simp at hm | cons c r => exact ⟨c, r, rfl⟩
    have hc : c = 45 := by simpa using hm
    subst hc
    rw [if_pos hm]
    have h4' : r.head? ≠ some 48 := by
      rcases h4 with h4 | h4
      · exact h4
      · cases h4
    have h3' : NumText.AllDigits r := h3
    have h1' : r ≠ [] := h1
    have h2' : r.length ≤ 80 := h2
    have e := numL_of h3' h1' (.inl h4')
    have hp : 0 < NumText.digitsVal r := by
      obtain ⟨d, q, rfl⟩ := List.exists_cons_of_ne_nil h1'
      have hd := h3'.head
      have hd0 : d ≠ 48 := fun e => h4' (by rw [e]; rfl)
      exact NumText.digitsVal_pos (by omega)
    show 45 :: r = numI (-((NumText.digitsVal r : Nat) : Int)) ∧ (-((NumText.digitsVal r : Nat) : Int)).natAbs < 10 ^ 80
    have hv := dval_lt (k := 80) r h3' h2'
    generalize NumText.digitsVal r = v at e hp hv ⊢
    obtain ⟨v, rfl⟩ : ∃ u, v = u + 1 := ⟨v - 1, by omega⟩
    have e2 : (-((v + 1 : Nat) : Int)) = Int.negSucc v := rfl
    rw [e2]
    exact ⟨by show 45 :: r = 45 :: TL.numL (v + 1); rw [e], hv⟩
  · rw [if_neg hm] at h1 h2 h3 h4
    rw [if_neg hm]
    have e := numL_of h3 h1 h4
    have hv := dval_lt (k := 80) w h3 h2
    generalize NumText.digitsVal w = v at e hv ⊢
    exact ⟨by show w = TL.numL v; rw [e], hv⟩
theorem num_isInt {i : Int} (h : i.natAbs < 10 ^ 80) : isInt (numI i) = true ∧ intOf (numI i) = i := by
  have key : ∀ n : Nat, n < 10 ^ 80 → (TL.numL n).length ≤ 80 := fun n hn => TL.numL_len (by decide) hn
  cases i with
  | ofNat n =>
    have hd := TL.numL_digits n
    have hh : (TL.numL n).head? ≠ some 45 := fun e => by
      obtain ⟨c, r, e2⟩ := List.exists_cons_of_ne_nil (TL.numL_ne n)
      rw [e2] at hd e
      have := hd.head
      simp at e; omega
    have e1 : digs (TL.numL n) = TL.numL n := by unfold digs; rw [if_neg hh]
    refine ⟨?_, ?_⟩
    · show isInt (TL.numL n) = true
      unfold isInt
      rw [e1]
      simp only [Bool.and_eq_true, allDig, decide_eq_true_eq, Bool.not_eq_true', List.isEmpty_eq_false_iff, Bool.or_eq_true]
      refine ⟨⟨⟨TL.numL_ne n, key n h⟩, hd⟩, ?_⟩
      by_cases h0 : n = 0
      · subst h0; exact .inr numL_zero
      · obtain ⟨c, r, e, hc⟩ := numL_head (Nat.pos_of_ne_zero h0)
        left
        rw [e]
        simpa using hc
    · show intOf (TL.numL n) = _
      unfold intOf
      rw [if_neg hh, TL.numL_val] <;> rfl
  | negSucc n =>
    have hd := TL.numL_digits (n + 1)
    refine ⟨?_, ?_⟩
    · show isInt (45 :: TL.numL (n + 1)) = true
      unfold isInt digs
      simp only [List.head?_cons, if_true, List.tail_cons, Bool.and_eq_true, allDig, decide_eq_true_eq, Bool.not_eq_true', List.isEmpty_eq_false_iff, Bool.or_eq_true]
      refine ⟨⟨⟨TL.numL_ne _, key _ h⟩, hd⟩, .inl ?_⟩
      obtain ⟨c, r, e, hc⟩ := numL_head (Nat.succ_pos n)
      rw [e]
      simpa using hc
    · show intOf (45 :: TL.numL (n + 1)) = _
      unfold intOf
      have e2 : (45 :: TL.numL (n + 1)).head? = some 45 := rfl
      rw [if_pos e2, List.tail_cons, TL.numL_val]
      rfl
/-! ### texts -/
def okc (c : Nat) : Bool := (decide (32 ≤ c) && decide (c ≤ 126) && decide (c ≠ 37)) || decide (c = 10)
def esc (c : Nat) : List Nat := if c = 10 then [92, 110] else if c = 92 ∨ c = 34 then [92, c] else [c]
def enc : List Nat → List Nat
  | [] => []
  | c :: r => esc c ++ enc r
mutual
def wr : T → List Nat
  | .non => [110, 111, 110, 101]
  | .bl true => [116, 114, 117, 101]
  | .bl false => [102, 97, 108, 115, 101]
  | .int i => numI i
  | .str s => 34 :: (enc s.cps.toList ++ [34])
  | .tup ts => 40 :: (TL.joinL [32] (wrl ts) ++ [41])
def wrl : List T → List (List Nat)
  | [] => []
  | t :: r => wr t :: wrl r
end
theorem wrl_map : ∀ ts : List T, wrl ts = ts.map wr
  | [] => rfl
  | t :: r => by rw [wrl, wrl_map r]; rfl
end K4
set_option Elab.async false
set_option linter.all false
set_option maxRecDepth 100000
set_option maxHeartbeats 4000000
namespace K4
open PySem PySem.Spec PyProof.Rows L2 M14 SX
/-! ### texts in quotes -/
def isE (e : Nat) : Bool := decide (e = 92) || decide (e = 34) || decide (e = 110)
def dec (e : Nat) : Nat := if e = 110 then 10 else e
/-- the program's walk over a text behind its first quote: what it means, how many signs -/
def rs : List Nat → Option (List Nat × Nat)
  | [] => some ([], 0)
  | [c] => if c = 34 then some ([], 0) else if c = 92 then none else some ([c], 1)
  | c :: e :: r => if c = 34 then some ([], 0) else if c = 92 then (if isE e then (rs r).map fun x => (dec e :: x.1, x.2 + 2) else none) else (rs (e :: r)).map fun x => (c :: x.1, x.2 + 1)
def strP (r : List Nat) : Option (List Nat × Nat) := match rs r with
  | none => none
  | some (d, k) => if k < r.length ∧ 10 ∉ r.take k ∧ d.all okc = true then some (d, k) else none
/-- the law's walk -/
def se : List Nat → Option Nat
  | [] => none
  | [c] => if c = 34 then some 1 else none
  | c :: e :: r => if c = 34 then some 1 else if c = 10 ∨ okc c = false then none else if c = 92 then (if isE e then (se r).map (· + 2) else none) else (se (e :: r)).map (· + 1)
theorem esc_dec {e : Nat} (h : isE e = true) : esc (dec e) = [92, e] := by
  unfold isE at h
  simp only [Bool.or_eq_true, decide_eq_true_eq] at h
  rcases h with (rfl | rfl) | rfl <;> decide
theorem esc_plain {c : Nat} (h1 : c ≠ 10) (h2 : c ≠ 34) (h3 : c ≠ 92) : esc c = [c] := by
  unfold esc
  rw [if_neg h1, if_neg (by omega)]
theorem esc_cases {c : Nat} (h : okc c = true) : (∃ e, isE e = true ∧ esc c = [92, e] ∧ dec e = c) ∨ (esc c = [c] ∧ c ≠ 10 ∧ c ≠ 34 ∧ c ≠ 92) := by
  unfold esc
  by_cases h1 : c = 10
  · subst h1; exact .inl ⟨110, rfl, rfl, rfl⟩
  · by_cases h2 : c = 92 ∨ c = 34
    · refine .inl ⟨c, ?_, by rw [if_neg h1, if_pos h2], ?_⟩
      · unfold isE; rcases h2 with rfl | rfl <;> rfl
      · unfold dec; rw [if_neg (by omega)]
    · exact .inr ⟨by rw [if_neg h1, if_neg h2], h1, by omega, by omega⟩
theorem rs_sound : ∀ (r : List Nat) (d : List Nat) (k : Nat), rs r = some (d, k) → k < r.length → 10 ∉ r.take k → (∃ q, r = enc d ++ 34 :: q) ∧ k = (enc d).length
  | [], d, k, h, hk, hn => by simp at hk
  | [c], d, k, h, hk, hn => by
    unfold rs at h
    by_cases h1 : c = 34
    · rw [if_pos h1] at h
      cases h
      subst h1
      exact ⟨⟨[], rfl⟩, rfl⟩
    · rw [if_neg h1] at h
      by_cases h2 : c = 92
      · rw [if_pos h2] at h; cases h
      · rw [if_neg h2] at h; cases h; simp at hk
  | c :: e :: r, d, k, h, hk, hn => by
    unfold rs at h
    by_cases h1 : c = 34
    · rw [if_pos h1] at h
      cases h
      subst h1
      exact ⟨⟨_, rfl⟩, rfl⟩
    rw [if_neg h1] at h
    by_cases h2 : c = 92
    · rw [if_pos h2] at h
      subst h2
      by_cases he : isE e = true
      · rw [if_pos he] at h
        cases h1 : rs r with
        | none => rw [h1] at h; cases h
        | some x =>
          obtain ⟨d', k'⟩ := x
          rw [h1] at h
          cases h
          obtain ⟨⟨q, e1⟩, e2⟩ := rs_sound r d' k' h1 (by simp at hk; omega) (fun m => hn (by simp [m]))
          refine ⟨⟨q, ?_⟩, ?_⟩
          · rw [enc, esc_dec he, e1]; rfl
          · rw [enc, esc_dec he, e2]; simp <;> omega
      · rw [if_neg he] at h; cases h
    · rw [if_neg h2] at h
      cases h3 : rs (e :: r) with
      | none => rw [h3] at h; cases h
      | some x =>
        obtain ⟨d', k'⟩ := x
        rw [h3] at h
        cases h
        obtain ⟨⟨q, e1⟩, e2⟩ := rs_sound (e :: r) d' k' h3 (by simp at hk ⊢; omega) (fun m => hn (by rw [List.take_succ_cons]; exact List.mem_cons_of_mem _ m))
        have hc : c ≠ 10 := fun z => hn (by rw [List.take_succ_cons, z]; exact List.mem_cons_self)
        refine ⟨⟨q, ?_⟩, ?_⟩
        · rw [enc, esc_plain hc h1 h2, e1]; rfl
        · rw [enc, esc_plain hc h1 h2, e2]; simp <;> omega
  termination_by r => r.length
theorem rs_complete : ∀ (d q : List Nat), d.all okc = true → rs (enc d ++ 34 :: q) = some (d, (enc d).length)
  | [], q, _ => by
    show rs (34 :: q) = _
    cases q <;> simp [rs, enc]
  | c :: d, q, h => by
    have hc : okc c = true := by simp at h; exact h.1
    have ih := rs_complete d q (by simp at h ⊢; exact h.2)
    rcases esc_cases hc with ⟨e, he, e1, e2⟩ | ⟨e1, n1, n2, n3⟩
    · rw [enc, e1]
      show rs (92 :: e :: (enc d ++ 34 :: q)) = _
      unfold rs
      rw [if_neg (by decide), if_pos rfl, if_pos he, ih]
      simp [e2]
    · rw [enc, e1]
      show rs (c :: (enc d ++ 34 :: q)) = _
      obtain ⟨x, y, exy⟩ : ∃ x y, enc d ++ 34 :: q = x :: y := by cases enc d <;> simp
      rw [exy] at ih ⊢
      unfold rs
      rw [if_neg n2, if_neg n3, ih]
      simp
theorem enc_no10 : ∀ d : List Nat, 10 ∉ enc d
  | [] => by simp [enc]
  | c :: d => by
    rw [enc]
    intro h
    rcases List.mem_append.mp h with h | h
    · unfold esc at h
      by_cases h1 : c = 10
      · rw [if_pos h1] at h; simp at h
      · rw [if_neg h1] at h
        by_cases h2 : c = 92 ∨ c = 34
        · rw [if_pos h2] at h; simp at h; omega
        · rw [if_neg h2] at h; simp at h; omega
    · exact enc_no10 d h
theorem strP_sound {r d : List Nat} {k : Nat} (h : strP r = some (d, k)) : d.all okc = true ∧ (∃ q, r = enc d ++ 34 :: q) ∧ k = (enc d).length := by
  unfold strP at h
  cases h1 : rs r with
  | none => rw [h1] at h; cases h
  | some x =>
    obtain ⟨d', k'⟩ := x
    rw [h1] at h
    simp only at h
    by_cases h2 : k' < r.length ∧ 10 ∉ r.take k' ∧ d'.all okc = true
    · rw [if_pos h2] at h
      cases h
      exact ⟨h2.2.2, rs_sound r d k h1 h2.1 h2.2.1⟩
    · rw [if_neg h2] at h; cases h
theorem strP_complete {d q : List Nat} (h : d.all okc = true) : strP (enc d ++ 34 :: q) = some (d, (enc d).length) := by
  unfold strP
  rw [rs_complete d q h]
  simp only
  rw [if_pos ⟨by simp, by rw [List.take_left]; exact enc_no10 d, h⟩]
theorem se_sound : ∀ (r : List Nat) (n : Nat), se r = some n → ∃ d q, d.all okc = true ∧ r = enc d ++ 34 :: q ∧ n = (enc d).length + 1
  | [], n, h => by simp [se] at h
  | [c], n, h => by
    unfold se at h
    by_cases h1 : c = 34
    · rw [if_pos h1] at h; cases h; subst h1; exact ⟨[], [], rfl, rfl, rfl⟩
    · rw [if_neg h1] at h; cases h
  | c :: e :: r, n, h => by
    unfold se at h
    by_cases h1 : c = 34
    · rw [if_pos h1] at h
      cases h
      subst h1
      exact ⟨[], _, rfl, rfl, rfl⟩
    rw [if_neg h1] at h
    by_cases h2 : c = 10 ∨ okc c = false
    · rw [if_pos h2] at h; cases h
    rw [if_neg h2] at h
    by_cases h3 : c = 92
    · subst h3
      rw [if_pos rfl] at h
      by_cases he : isE e = true
      · rw [if_pos he] at h
        cases h3 : se r with
        | none => rw [h3] at h; cases h
        | some m =>
          rw [h3] at h
          cases h
          obtain ⟨d, q, h4, h5, h6⟩ := se_sound r m h3
          refine ⟨dec e :: d, q, ?_, ?_, ?_⟩
          · have : okc (dec e) = true := by
              unfold isE at he
              simp only [Bool.or_eq_true, decide_eq_true_eq] at he
              rcases he with (rfl | rfl) | rfl <;> rfl
            simp [this]; simpa using h4
          · rw [enc, esc_dec he, h5]; rfl
          · rw [enc, esc_dec he, h6]; simp <;> omega
      · rw [if_neg he] at h; cases h
    rw [if_neg h3] at h
    cases h4 : se (e :: r) with
    | none => rw [h4] at h; cases h
    | some m =>
      rw [h4] at h
      cases h
      obtain ⟨d, q, h5, h6, h7⟩ := se_sound (e :: r) m h4
      have hc : c ≠ 10 := fun z => h2 (.inl z)
      have ho : okc c = true := by cases z : okc c with | true => rfl | false => exact absurd (.inr z) h2
      refine ⟨c :: d, q, by simp [ho]; simpa using h5, ?_, ?_⟩
      · rw [enc, esc_plain hc h1 h3, h6]; rfl
      · rw [enc, esc_plain hc h1 h3, h7]; simp <;> omega
  termination_by r => r.length
theorem se_complete : ∀ (d q : List Nat), d.all okc = true → se (enc d ++ 34 :: q) = some ((enc d).length + 1)
  | [], q, _ => by
    show se (34 :: q) = _
    cases q <;> simp [se, enc]
  | c :: d, q, h => by
    have hc : okc c = true := by simp at h; exact h.1
    have ih := se_complete d q (by simp at h ⊢; exact h.2)
    rcases esc_cases hc with ⟨e, he, e1, e2⟩ | ⟨e1, n1, n2, n3⟩
    · rw [enc, e1]
      show se (92 :: e :: (enc d ++ 34 :: q)) = _
      unfold se
      rw [if_neg (by decide), if_neg (by decide), if_pos rfl, if_pos he, ih]
      simp
    · rw [enc, e1]
      show se (c :: (enc d ++ 34 :: q)) = _
      obtain ⟨x, y, exy⟩ : ∃ x y, enc d ++ 34 :: q = x :: y := by cases enc d <;> simp
      rw [exy] at ih ⊢
      unfold se
      rw [if_neg n2, if_neg (by simp [n1, hc]), if_neg n3, ih]
      simp
end K4
set_option Elab.async false
set_option linter.all false
set_option maxRecDepth 100000
set_option maxHeartbeats 4000000
namespace K4
open PySem PySem.Spec PyProof.Rows L2 M14 SX
/-- the data that have a note, d deep -/
inductive WF : Nat → T → Prop where
  | non {d} : WF d .non
  | bl {d b} : WF d (.bl b)
  | int {d i} (h : i.natAbs < 10 ^ 80) : WF d (.int i)
  | str {d s} (h : s.cps.toList.all okc = true) : WF d (.str s)
  | tup {d ts} (h : ∀ t ∈ ts, WF d t) : WF (d + 1) (.tup ts)
theorem WF.mono {d e : Nat} {t : T} (h : WF d t) : d ≤ e → WF e t := by
  induction h generalizing e with
  | non => intro _; exact .non
  | bl => intro _; exact .bl
  | int h => intro _; exact .int h
  | str h => intro _; exact .str h
  | tup h ih =>
    intro l
    obtain ⟨e, rfl⟩ : ∃ n, e = n + 1 := ⟨e - 1, by omega⟩
    exact .tup fun t m => ih t m (by omega)
def leafT : T → Bool
  | .tup _ => false
  | _ => true
theorem WF.leaf {d e : Nat} {t : T} (h : WF d t) (l : leafT t = true) : WF e t := by
  cases h with
  | non => exact .non
  | bl => exact .bl
  | int h => exact .int h
  | str h => exact .str h
  | tup h => cases l
/-- what may follow an item -/
def Fol (q : List Nat) : Prop := q = [] ∨ ∃ r, q = 32 :: r ∨ q = 41 :: r
def inW (c : Nat) : Bool := decide (c ≠ 32) && decide (c ≠ 41)
def word (r : List Nat) : List Nat := r.takeWhile inW
theorem word_all {w q : List Nat} (h : w.all inW = true) (f : Fol q) : word (w ++ q) = w := by
  unfold word
  induction w with
  | nil =>
    rcases f with rfl | ⟨r, rfl | rfl⟩
    · rfl
    · rfl
    · rfl
  | cons c w ih =>
    simp at h
    rw [List.cons_append, List.takeWhile_cons, if_pos h.1, ih (by simpa using h.2)]
abbrev cNon : List Nat := [110, 111, 110, 101]
abbrev cTru : List Nat := [116, 114, 117, 101]
abbrev cFal : List Nat := [102, 97, 108, 115, 101]
def wordT (w : List Nat) : Option T := if w = cNon then some .non else if w = cTru then some (.bl true) else if w = cFal then some (.bl false) else if isInt w = true then some (.int (intOf w)) else none
/-- the program's leaf -/
def rp (r : List Nat) : Option (T × Nat) := if r.head? = some 34 then (strP r.tail).map fun x => (.str (S x.1), x.2 + 2) else (wordT (word r)).map fun t => (t, (word r).length)
theorem num_chars (i : Int) : ∀ c ∈ numI i, c = 45 ∨ (48 ≤ c ∧ c ≤ 57) := by
  intro c hc
  cases i with
  | ofNat n => exact .inr (TL.numL_digits n c hc)
  | negSucc n =>
    rcases List.mem_cons.mp hc with e | m
    · exact .inl e
    · exact .inr (TL.numL_digits _ c m)
theorem num_ne (i : Int) : numI i ≠ [] := by
  cases i with
  | ofNat n => exact TL.numL_ne n
  | negSucc n => exact List.cons_ne_nil _ _
theorem num_inW (i : Int) : (numI i).all inW = true := by
  rw [List.all_eq_true]
  intro c hc
  have := num_chars i c hc
  unfold inW
  simp
  omega
theorem rp_sound {r : List Nat} {t : T} {n : Nat} (h : rp r = some (t, n)) : WF 0 t ∧ leafT t = true ∧ r = wr t ++ r.drop n ∧ n = (wr t).length := by
  unfold rp at h
  by_cases h1 : r.head? = some 34
  · rw [if_pos h1] at h
    obtain ⟨q, rfl⟩ : ∃ q, r = 34 :: q := by
      cases r with
      | nil => cases h1
      | cons c q => exact ⟨q, by simp at h1; rw [h1]⟩
    cases h2 : strP q with
    | none => rw [List.tail_cons, h2] at h; cases h
    | some x =>
      obtain ⟨d, k⟩ := x
      rw [List.tail_cons, h2] at h
      cases h
      obtain ⟨a, ⟨q', b⟩, c⟩ := strP_sound h2
      subst b
      have e : wr (.str (S d)) = 34 :: (enc d ++ [34]) := rfl
      refine ⟨.str a, rfl, ?_, by rw [e, c]; simp⟩
      rw [e, c]
      have : (34 :: (enc d ++ 34 :: q')).drop ((enc d).length + 2) = q' := by
        rw [show 34 :: (enc d ++ 34 :: q') = (34 :: (enc d ++ [34])) ++ q' by simp]
        rw [show (enc d).length + 2 = (34 :: (enc d ++ [34])).length by simp]
        exact List.drop_left
      show 34 :: (enc d ++ 34 :: q') = _
      rw [this]
      simp
  · rw [if_neg h1] at h
    cases h2 : wordT (word r) with
    | none => rw [h2] at h; cases h
    | some u =>
      rw [h2] at h
      cases h
      have hw : r = word r ++ r.drop (word r).length := by
        unfold word
        have := List.takeWhile_append_dropWhile (p := inW) (l := r)
        generalize r.takeWhile inW = a at this
        generalize r.dropWhile inW = b at this
        subst this
        rw [List.drop_left]
      suffices hu : word r = wr t ∧ WF 0 t ∧ leafT t = true by
        refine ⟨hu.2.1, hu.2.2, ?_, by rw [hu.1]⟩
        rw [← hu.1]; exact hw
      unfold wordT at h2
      by_cases e1 : word r = cNon
      · rw [if_pos e1] at h2; cases h2; exact ⟨e1, .non, rfl⟩
      rw [if_neg e1] at h2
      by_cases e2 : word r = cTru
      · rw [if_pos e2] at h2; cases h2; exact ⟨e2, .bl, rfl⟩
      rw [if_neg e2] at h2
      by_cases e3 : word r = cFal
      · rw [if_pos e3] at h2; cases h2; exact ⟨e3, .bl, rfl⟩
      rw [if_neg e3] at h2
      by_cases e4 : isInt (word r) = true
      · rw [if_pos e4] at h2; cases h2
        obtain ⟨a, b⟩ := isInt_num e4
        exact ⟨a, .int b, rfl⟩
      · rw [if_neg e4] at h2; cases h2
theorem num_word {i : Int} (h : i.natAbs < 10 ^ 80) : wordT (numI i) = some (.int i) := by
  have hh : ∀ c, (numI i).head? = some c → c = 45 ∨ (48 ≤ c ∧ c ≤ 57) := fun c hc => num_chars i c (List.mem_of_mem_head? hc)
  have n1 : numI i ≠ cNon := fun e => by have := hh 110 (by rw [e]; rfl); omega
  have n2 : numI i ≠ cTru := fun e => by have := hh 116 (by rw [e]; rfl); omega
  have n3 : numI i ≠ cFal := fun e => by have := hh 102 (by rw [e]; rfl); omega
  obtain ⟨a, b⟩ := num_isInt h
  unfold wordT
  rw [if_neg n1, if_neg n2, if_neg n3, if_pos a, b]
theorem rp_complete {d : Nat} {t : T} {q : List Nat} (h : WF d t) (l : leafT t = true) (f : Fol q) : rp (wr t ++ q) = some (t, (wr t).length) := by
  have wordly : ∀ w : List Nat, w.all inW = true → w.head? ≠ none → w.head? ≠ some 34 → wordT w = some t → rp (w ++ q) = some (t, w.length) := by
    intro w h1 h2 h3 h4
    unfold rp
    obtain ⟨c, r, rfl⟩ : ∃ c r, w = c :: r := by cases w with | nil => exact absurd rfl h2 | cons c r => exact ⟨c, r, rfl⟩
    rw [if_neg (by simpa using h3), word_all h1 f, h4]
    rfl
  cases h with
  | non => exact wordly cNon (by decide) (by decide) (by decide) rfl
  | @bl _ b =>
    cases b with
    | true => exact wordly cTru (by decide) (by decide) (by decide) rfl
    | false => exact wordly cFal (by decide) (by decide) (by decide) rfl
  | @int _ i h =>
    refine wordly (numI i) (num_inW i) (fun e => num_ne i (by simpa using e)) (fun e => ?_) (num_word h)
    have := num_chars i 34 (List.mem_of_mem_head? e)
    omega
  | @str _ s h =>
    unfold rp
    have e : wr (.str s) = 34 :: (enc s.cps.toList ++ [34]) := rfl
    rw [e]
    have e2 : (34 :: (enc s.cps.toList ++ [34])) ++ q = 34 :: (enc s.cps.toList ++ 34 :: q) := by simp
    rw [e2, if_pos (show (34 :: (enc s.cps.toList ++ 34 :: q)).head? = some 34 from rfl), List.tail_cons, strP_complete h]
    show some (T.str (S s.cps.toList), _) = _
    rw [S_tl]
    simp
  | tup h => cases l
/-! ### the law's leaf -/
def ie (r : List Nat) : Option Nat :=
  let s := if r.head? = some 45 then 1 else 0
  let q := r.drop s
  let k := (q.takeWhile isDig).length
  if k = 0 ∨ 80 < k then none else if q.head? = some 48 ∧ (1 < k ∨ 0 < s) then none else some (s + k)
def le (r : List Nat) : Option Nat := if r.take 4 = cNon then some 4 else if r.take 4 = cTru then some 4 else if r.take 5 = cFal then some 5 else if r.head? = some 34 then (se r.tail).map (· + 1) else ie r
theorem take_pre {r w : List Nat} {n : Nat} (h : r.take n = w) : r = w ++ r.drop n := by rw [← h, List.take_append_drop]
theorem ie_sound {r : List Nat} {n : Nat} (h : ie r = some n) : ∃ i : Int, i.natAbs < 10 ^ 80 ∧ r = numI i ++ r.drop n ∧ n = (numI i).length := by
  unfold ie at h
  simp only at h
  have key : ∀ w q : List Nat, r = w ++ q → isInt w = true → ∃ i : Int, i.natAbs < 10 ^ 80 ∧ r = numI i ++ r.drop w.length ∧ w.length = (numI i).length := by
    intro w q e h
    obtain ⟨a, b⟩ := isInt_num h
    refine ⟨intOf w, b, ?_, by rw [← a]⟩
    rw [← a, e, List.drop_left]
  by_cases hm : r.head? = some 45
  · obtain ⟨q, rfl⟩ : ∃ q, r = 45 :: q := by
      cases r with
      | nil => cases hm
      | cons c q => exact ⟨q, by simp at hm; rw [hm]⟩
    rw [if_pos hm] at h
    simp only [List.drop_succ_cons, List.drop_zero] at h
    have hs := List.takeWhile_append_dropWhile (p := isDig) (l := q)
    have ha : (q.takeWhile isDig).all isDig = true := List.all_takeWhile
    have hh : (q.takeWhile isDig).head? = some 48 → q.head? = some 48 := fun e => by
      cases q with
      | nil => simp at e
      | cons c q =>
        by_cases hc : isDig c = true
        · rw [List.takeWhile_cons, if_pos hc] at e; simpa using e
        · rw [List.takeWhile_cons, if_neg hc] at e; cases e
    generalize q.takeWhile isDig = w at hs ha hh h
    by_cases h1 : w.length = 0 ∨ 80 < w.length
    · rw [if_pos h1] at h; cases h
    rw [if_neg h1] at h
    by_cases h2 : q.head? = some 48 ∧ (1 < w.length ∨ 0 < 1)
    · rw [if_pos h2] at h; cases h
    rw [if_neg h2] at h
    cases h
    have := key (45 :: w) (q.dropWhile isDig) (by rw [List.cons_append, hs]) (by
      unfold isInt digs
      simp only [List.head?_cons, if_true, List.tail_cons, Bool.and_eq_true, decide_eq_true_eq, Bool.not_eq_true', List.isEmpty_eq_false_iff, Bool.or_eq_true]
      refine ⟨⟨⟨fun e => h1 (.inl (by rw [e]; rfl)), by omega⟩, ha⟩, .inl fun e => h2 ⟨hh e, .inr (by decide)⟩⟩)
    rw [List.length_cons] at this
    rw [Nat.add_comm 1]
    exact this
  · rw [if_neg hm] at h
    simp only [List.drop_zero] at h
    have hs := List.takeWhile_append_dropWhile (p := isDig) (l := r)
    have ha : (r.takeWhile isDig).all isDig = true := List.all_takeWhile
    have hh : ∀ x, (r.takeWhile isDig).head? = some x → r.head? = some x := fun x e => by
      cases r with
      | nil => simp at e
      | cons c q =>
        by_cases hc : isDig c = true
        · rw [List.takeWhile_cons, if_pos hc] at e; simpa using e
        · rw [List.takeWhile_cons, if_neg hc] at e; cases e
    generalize r.takeWhile isDig = w at hs ha hh h
    by_cases h1 : w.length = 0 ∨ 80 < w.length
    · rw [if_pos h1] at h; cases h
    rw [if_neg h1] at h
    by_cases h2 : r.head? = some 48 ∧ (1 < w.length ∨ 0 < 0)
    · rw [if_pos h2] at h; cases h
    rw [if_neg h2] at h
    cases h
    rw [Nat.zero_add]
    refine key w (r.dropWhile isDig) hs.symm ?_
    unfold isInt
    have hd : digs w = w := by unfold digs; rw [if_neg fun e => hm (hh _ e)]
    rw [hd]
    simp only [Bool.and_eq_true, decide_eq_true_eq, Bool.not_eq_true', List.isEmpty_eq_false_iff, Bool.or_eq_true]
    refine ⟨⟨⟨fun e => h1 (.inl (by rw [e]; rfl)), by omega⟩, ha⟩, ?_⟩
    by_cases z : w.head? = some 48
    · right
      have : w.length = 1 := by
        have : ¬ 1 < w.length := fun g => h2 ⟨hh _ z, .inl g⟩
        omega
      obtain ⟨c, rfl⟩ := List.length_eq_one_iff.mp this
      simp at z
      rw [z]
    · exact .inl z
theorem le_sound {r : List Nat} {n : Nat} (h : le r = some n) : ∃ t, WF 0 t ∧ leafT t = true ∧ r = wr t ++ r.drop n ∧ n = (wr t).length := by
  unfold le at h
  by_cases h1 : r.take 4 = cNon
  · rw [if_pos h1] at h; cases h; exact ⟨.non, .non, rfl, take_pre h1, rfl⟩
  rw [if_neg h1] at h
  by_cases h2 : r.take 4 = cTru
  · rw [if_pos h2] at h; cases h; exact ⟨.bl true, .bl, rfl, take_pre h2, rfl⟩
  rw [if_neg h2] at h
  by_cases h3 : r.take 5 = cFal
  · rw [if_pos h3] at h; cases h; exact ⟨.bl false, .bl, rfl, take_pre h3, rfl⟩
  rw [if_neg h3] at h
  by_cases h4 : r.head? = some 34
  · rw [if_pos h4] at h
    obtain ⟨q, rfl⟩ : ∃ q, r = 34 :: q := by
      cases r with
      | nil => cases h4
      | cons c q => exact ⟨q, by simp at h4; rw [h4]⟩
    rw [List.tail_cons] at h
    cases h5 : se q with
    | none => rw [h5] at h; cases h
    | some m =>
      rw [h5] at h
      cases h
      obtain ⟨d, q', a, b, c⟩ := se_sound q m h5
      subst b
      refine ⟨.str (S d), .str a, rfl, ?_, ?_⟩
      · show _ = (34 :: (enc d ++ [34])) ++ _
        have e : 34 :: (enc d ++ 34 :: q') = (34 :: (enc d ++ [34])) ++ q' := by simp
        show 34 :: (enc d ++ 34 :: q') = (34 :: (enc d ++ [34])) ++ (34 :: (enc d ++ 34 :: q')).drop (m + 1)
        rw [e, show m + 1 = (34 :: (enc d ++ [34])).length by rw [c]; simp, List.drop_left]
      · show m + 1 = (34 :: (enc d ++ [34])).length
        rw [c]; simp
  · rw [if_neg h4] at h
    obtain ⟨i, a, b, c⟩ := ie_sound h
    exact ⟨.int i, .int a, rfl, b, c⟩
theorem fol_dig {q : List Nat} (f : Fol q) : q.takeWhile isDig = [] := by
  rcases f with rfl | ⟨r, rfl | rfl⟩
  · rfl
  · rfl
  · rfl
theorem tw_all {p : Nat → Bool} : ∀ {w q : List Nat}, w.all p = true → q.takeWhile p = [] → (w ++ q).takeWhile p = w
  | [], q, _, h => h
  | c :: w, q, h, h2 => by
    simp at h
    rw [List.cons_append, List.takeWhile_cons, if_pos h.1, tw_all (by simpa using h.2) h2]
theorem ie_complete {i : Int} {q : List Nat} (h : i.natAbs < 10 ^ 80) (f : Fol q) : ie (numI i ++ q) = some (numI i).length := by
  obtain ⟨a, b⟩ := num_isInt h
  unfold isInt at a
  simp only [Bool.and_eq_true, decide_eq_true_eq, Bool.not_eq_true', List.isEmpty_eq_false_iff, Bool.or_eq_true] at a
  obtain ⟨⟨⟨a1, a2⟩, a3⟩, a4⟩ := a
  unfold ie
  obtain ⟨c, w, e⟩ := List.exists_cons_of_ne_nil (num_ne i)
  by_cases hm : c = 45
  · subst hm
    rw [e] at a1 a2 a3 a4 ⊢
    have hd : digs (45 :: w) = w := rfl
    rw [hd] at a1 a2 a3 a4
    rw [List.cons_append]
    simp only [List.head?_cons, if_true, List.drop_succ_cons, List.drop_zero]
    rw [tw_all a3 (fol_dig f), if_neg (by have := List.length_pos_iff.mpr a1; omega), if_neg ?_, List.length_cons, Nat.add_comm]
    intro z
    have : w.head? = some 48 := by
      obtain ⟨x, y, e3⟩ := List.exists_cons_of_ne_nil a1
      rw [e3] at z ⊢
      exact z.1
    rcases a4 with a4 | a4
    · exact a4 this
    · cases a4
  · have hh : (numI i).head? ≠ some 45 := by rw [e]; simpa using hm
    have hd : digs (numI i) = numI i := by unfold digs; rw [if_neg hh]
    rw [hd] at a1 a2 a3 a4
    have e2 : (numI i ++ q).head? = (numI i).head? := by rw [e]; rfl
    rw [e2, if_neg hh]
    simp only [List.drop_zero]
    rw [tw_all a3 (fol_dig f), if_neg (by have := List.length_pos_iff.mpr a1; omega), if_neg ?_, Nat.zero_add]
    intro z
    rw [e2] at z
    rcases a4 with a4 | a4
    · exact a4 z.1
    · have := z.2
      rw [a4] at this
      simp at this
theorem le_complete {d : Nat} {t : T} {q : List Nat} (h : WF d t) (l : leafT t = true) (f : Fol q) : le (wr t ++ q) = some (wr t).length := by
  cases h with
  | non => rfl
  | @bl _ b => cases b <;> rfl
  | @int _ i h =>
    obtain ⟨c, w, e⟩ := List.exists_cons_of_ne_nil (num_ne i)
    have hc := num_chars i c (by rw [e]; exact List.mem_cons_self)
    show le (numI i ++ q) = some (numI i).length
    unfold le
    have hx : ∀ (n x : Nat) (y : List Nat), (c ≠ x) → (numI i ++ q).take (n + 1) ≠ x :: y := fun n x y g z => by
      rw [e, List.cons_append, List.take_succ_cons] at z
      exact g (List.cons.inj z).1
    rw [if_neg (hx 3 _ _ (by omega)), if_neg (hx 3 _ _ (by omega)), if_neg (hx 4 _ _ (by omega)), if_neg ?_]
    · exact ie_complete h f
    · rw [e, List.cons_append, List.head?_cons]
      intro z
      have := Option.some.inj z
      omega
  | @str _ s h =>
    have e : wr (.str s) ++ q = 34 :: (enc s.cps.toList ++ 34 :: q) := by
      show (34 :: (enc s.cps.toList ++ [34])) ++ q = _
      simp
    have e2 : (wr (.str s)).length = (enc s.cps.toList).length + 2 := by
      show (34 :: (enc s.cps.toList ++ [34])).length = _
      simp
    rw [e, e2]
    unfold le
    have hx : ∀ (n x : Nat) (y : List Nat), (34 ≠ x) → (34 :: (enc s.cps.toList ++ 34 :: q)).take (n + 1) ≠ x :: y := fun n x y g z => by
      rw [List.take_succ_cons] at z
      exact g (List.cons.inj z).1
    rw [if_neg (hx 3 _ _ (by decide)), if_neg (hx 3 _ _ (by decide)), if_neg (hx 4 _ _ (by decide)), if_pos (show (34 :: (enc s.cps.toList ++ 34 :: q)).head? = some 34 from rfl), List.tail_cons, se_complete _ _ h]
    rfl
  | tup h => cases l
end K4
set_option Elab.async false
set_option linter.all false
set_option maxRecDepth 100000
set_option maxHeartbeats 4000000
namespace K4
open PySem PySem.Spec PyProof.Rows L2 M14 SX
/-- the program's reading: true = an item is due; the open tuples, the innermost first; what is left of the text -/
inductive Runs : Bool → List (List T) → List Nat → T → Prop where
  | opn {st q t} : st.length ≤ 60 → q.head? ≠ some 41 → Runs true ([] :: st) q t → Runs true st (40 :: q) t
  | emp {st q t} : st.length ≤ 60 → Runs false ([] :: st) (41 :: q) t → Runs true st (40 :: 41 :: q) t
  | itm {xs st r u n t} : r.head? ≠ some 40 → rp r = some (u, n) → Runs false ((xs ++ [u]) :: st) (r.drop n) t → Runs true (xs :: st) r t
  | cls {xs ys st q t} : Runs false ((ys ++ [.tup xs]) :: st) q t → Runs false (xs :: ys :: st) (41 :: q) t
  | fin {t xs} : Runs false [t :: xs] [] t
  | spc {st q t} : 1 < st.length → Runs true st q t → Runs false st (32 :: q) t
/-! ### what has been read -/
def glue : List T → List Nat
  | [] => []
  | t :: r => wr t ++ 32 :: glue r
def jn (xs : List T) : List Nat := TL.joinL [32] (wrl xs)
theorem jn_nil : jn [] = [] := rfl
theorem jn_one (t : T) : jn [t] = wr t := by
  show TL.joinL [32] [wr t] = wr t
  simp [TL.joinL]
theorem jn_cons (t u : T) (r : List T) : jn (t :: u :: r) = wr t ++ 32 :: jn (u :: r) := by
  show TL.joinL [32] (wr t :: wr u :: wrl r) = wr t ++ 32 :: TL.joinL [32] (wr u :: wrl r)
  simp [TL.joinL]
theorem jn_snoc : ∀ (xs : List T) (t : T), jn (xs ++ [t]) = glue xs ++ wr t
  | [], t => jn_one t
  | [x], t => by
    show jn [x, t] = _
    rw [jn_cons, jn_one]
    simp [glue]
  | x :: y :: r, t => by
    have := jn_snoc (y :: r) t
    show jn (x :: y :: (r ++ [t])) = _
    rw [jn_cons]
    show wr x ++ 32 :: jn ((y :: r) ++ [t]) = _
    rw [this]
    simp [glue]
theorem jn_glue : ∀ (xs : List T), xs ≠ [] → jn xs ++ [32] = glue xs
  | [], h => absurd rfl h
  | [x], _ => by rw [jn_one]; simp [glue]
  | x :: y :: r, _ => by
    have := jn_glue (y :: r) (by simp)
    rw [jn_cons, List.append_assoc, List.cons_append, this]
    rfl
theorem wr_tup (ts : List T) : wr (.tup ts) = 40 :: (jn ts ++ [41]) := rfl
def opnd : List (List T) → List Nat
  | [] => []
  | ys :: st => opnd st ++ glue ys ++ [40]
def pfx : Bool → List (List T) → List Nat
  | _, [] => []
  | true, xs :: st => opnd st ++ glue xs
  | false, xs :: st => opnd st ++ jn xs
/-- the open tuples are in order: a level's items have their depth, the lowest has at most one -/
def StOk : List (List T) → Prop
  | [] => True
  | xs :: st => (∀ t ∈ xs, WF (60 - st.length) t) ∧ st.length ≤ 60 ∧ (st = [] ∨ StOk st)
theorem StOk.tl {xs : List T} {st : List (List T)} (h : StOk (xs :: st)) : st = [] ∨ StOk st := h.2.2
/-- the lowest list is empty, unless it is the innermost and an item has just been read -/
def Low : Bool → List (List T) → Prop
  | true, st => st.getLast? = some []
  | false, st => st.getLast? = some [] ∧ 1 < st.length ∨ ∃ t, st = [[t]]
/-- behind an item or at once behind a bracket that is closed -/
def NeB (b : Bool) (st : List (List T)) (r : List Nat) : Prop := b = false → st.head? ≠ some [] ∨ r.head? = some 41
theorem runs_sound {b : Bool} {st : List (List T)} {r : List Nat} {t : T} (h : Runs b st r t) : StOk st → Low b st → NeB b st r → pfx b st ++ r = wr t ∧ WF 60 t := by
  induction h with
  | @opn st q t hl hq _ ih =>
    intro ok lo nb
    have lo' : st.getLast? = some [] := lo
    have ne : st ≠ [] := fun e => by rw [e] at lo'; cases lo'
    obtain ⟨a, b⟩ := ih ⟨(fun _ m => nomatch m), hl, .inr ok⟩ (by
      show ([] :: st).getLast? = some []
      rw [List.getLast?_cons_of_ne_nil ne]; exact lo') (fun z => nomatch z)
    refine ⟨?_, b⟩
    rw [← a]
    obtain ⟨ys, st, rfl⟩ := List.exists_cons_of_ne_nil ne
    show opnd st ++ glue ys ++ 40 :: q = opnd (ys :: st) ++ glue [] ++ q
    simp [opnd, glue]
  | @emp st q t hl _ ih =>
    intro ok lo nb
    have lo' : st.getLast? = some [] := lo
    have ne : st ≠ [] := fun e => by rw [e] at lo'; cases lo'
    obtain ⟨a, b⟩ := ih ⟨(fun _ m => nomatch m), hl, .inr ok⟩ (.inl ⟨by rw [List.getLast?_cons_of_ne_nil ne]; exact lo', by
      have := List.length_pos_iff.mpr ne
      simp; omega⟩) (fun _ => .inr rfl)
    refine ⟨?_, b⟩
    rw [← a]
    obtain ⟨ys, st, rfl⟩ := List.exists_cons_of_ne_nil ne
    show opnd st ++ glue ys ++ 40 :: 41 :: q = opnd (ys :: st) ++ jn [] ++ 41 :: q
    simp [opnd, jn_nil]
  | @itm xs st r u n t hr hp _ ih =>
    intro ok lo nb
    obtain ⟨w, l, e1, e2⟩ := rp_sound hp
    have lo' : (xs :: st).getLast? = some [] := lo
    obtain ⟨a, b⟩ := ih ⟨fun t m => (List.mem_append.mp m).elim (ok.1 t) fun m => by rw [List.mem_singleton.mp m]; exact w.leaf l, ok.2.1, ok.2.2⟩ (by
      cases st with
      | nil =>
        simp at lo'
        subst lo'
        exact .inr ⟨u, rfl⟩
      | cons ys st =>
        refine .inl ⟨?_, by simp⟩
        rw [List.getLast?_cons_cons] at lo' ⊢
        exact lo') (fun _ => .inl (by simp))
    refine ⟨?_, b⟩
    rw [← a]
    show opnd st ++ glue xs ++ r = opnd st ++ jn (xs ++ [u]) ++ r.drop n
    rw [jn_snoc]
    conv => lhs; rw [e1]
    simp
  | @cls xs ys st q t _ ih =>
    intro ok lo nb
    have lo' : (xs :: ys :: st).getLast? = some [] := by
      rcases lo with lo | ⟨t, lo⟩
      · exact lo.1
      · cases lo
    have ok2 : StOk (ys :: st) := by
      rcases ok.2.2 with e | e
      · cases e
      · exact e
    have hl : (ys :: st).length ≤ 60 := ok.2.1
    have hl' : st.length + 1 ≤ 60 := by simpa using hl
    have wf : WF (60 - st.length) (.tup xs) := by
      have e : 60 - st.length = (60 - (ys :: st).length) + 1 := by simp; omega
      rw [e]
      exact .tup ok.1
    obtain ⟨a, b⟩ := ih ⟨fun t m => (List.mem_append.mp m).elim (ok2.1 t) fun m => by rw [List.mem_singleton.mp m]; exact wf, ok2.2.1, ok2.2.2⟩ (by
      rw [List.getLast?_cons_cons] at lo'
      cases st with
      | nil =>
        simp at lo'
        subst lo'
        exact .inr ⟨_, rfl⟩
      | cons zs st =>
        refine .inl ⟨?_, by simp⟩
        rw [List.getLast?_cons_cons] at lo' ⊢
        exact lo') (fun _ => .inl (by simp))
    refine ⟨?_, b⟩
    rw [← a]
    show opnd (ys :: st) ++ jn xs ++ 41 :: q = opnd st ++ jn (ys ++ [.tup xs]) ++ q
    rw [jn_snoc, wr_tup]
    simp [opnd]
  | @fin t xs =>
    intro ok lo nb
    rcases lo with ⟨_, lo⟩ | ⟨u, lo⟩
    · simp at lo
    · cases lo
      refine ⟨?_, ok.1 t (by simp)⟩
      show opnd [] ++ jn [t] ++ [] = wr t
      rw [jn_one]
      simp [opnd]
  | @spc st q t hl _ ih =>
    intro ok lo nb
    have lo' : st.getLast? = some [] := by
      rcases lo with lo | ⟨t, lo⟩
      · exact lo.1
      · rw [lo] at hl; simp at hl
    obtain ⟨a, b⟩ := ih ok lo' (fun z => nomatch z)
    refine ⟨?_, b⟩
    rw [← a]
    obtain ⟨xs, st, rfl⟩ : ∃ xs st', st = xs :: st' := by cases st with | nil => simp at hl | cons x y => exact ⟨x, y, rfl⟩
    show opnd st ++ jn xs ++ 32 :: q = opnd st ++ glue xs ++ q
    have ne : xs ≠ [] := by
      rcases nb rfl with h | h
      · intro e; exact h (by rw [e]; rfl)
      · simp at h
    rw [← jn_glue xs ne]
    simp
/-! ### a note is read -/
theorem wr_head {d : Nat} {t : T} (h : WF d t) : ∃ c r, wr t = c :: r ∧ c ≠ 41 ∧ c ≠ 32 ∧ (leafT t = true → c ≠ 40) := by
  cases h with
  | non => exact ⟨_, _, rfl, by decide, by decide, fun _ => by decide⟩
  | @bl _ b => cases b <;> exact ⟨_, _, rfl, by decide, by decide, fun _ => by decide⟩
  | @int _ i h =>
    obtain ⟨c, w, e⟩ := List.exists_cons_of_ne_nil (num_ne i)
    have hc := num_chars i c (by rw [e]; exact List.mem_cons_self)
    exact ⟨c, w, e, by omega, by omega, fun _ => by omega⟩
  | str h => exact ⟨_, _, rfl, by decide, by decide, fun _ => by decide⟩
  | tup h => exact ⟨_, _, rfl, by decide, by decide, fun l => by cases l⟩
theorem runs_complete {d : Nat} {t : T} (h : WF d t) : ∀ (xs : List T) (st : List (List T)) (q : List Nat) (z : T), st.length + d ≤ 60 → Fol q → Runs false ((xs ++ [t]) :: st) q z → Runs true (xs :: st) (wr t ++ q) z := by
  have leafly : ∀ {d : Nat} {t : T}, WF d t → leafT t = true → ∀ (xs : List T) (st : List (List T)) (q : List Nat) (z : T), Fol q → Runs false ((xs ++ [t]) :: st) q z → Runs true (xs :: st) (wr t ++ q) z := by
    intro d t h l xs st q z f g
    obtain ⟨c, r, e, _, _, n⟩ := wr_head h
    refine .itm (by rw [e]; simpa using n l) (rp_complete h l f) ?_
    rw [List.drop_left]
    exact g
  induction h with
  | non => intro xs st q z _ f g; exact leafly (d := 0) .non rfl xs st q z f g
  | bl => intro xs st q z _ f g; exact leafly (d := 0) .bl rfl xs st q z f g
  | int h => intro xs st q z _ f g; exact leafly (d := 0) (.int h) rfl xs st q z f g
  | str h => intro xs st q z _ f g; exact leafly (d := 0) (.str h) rfl xs st q z f g
  | @tup d ts h ih =>
    intro xs st q z hd f g
    rw [wr_tup]
    have inner : ∀ (us : List T) (ys : List T), us ≠ [] → (∀ t ∈ us, t ∈ ts) → Runs false ((ys ++ us) :: xs :: st) (41 :: q) z → Runs true (ys :: xs :: st) (jn us ++ 41 :: q) z := by
      intro us
      induction us with
      | nil => intro ys ne; exact absurd rfl ne
      | cons u us ihu =>
        intro ys _ hm g
        cases us with
        | nil =>
          rw [jn_one]
          exact ih u (hm u (by simp)) ys (xs :: st) (41 :: q) z (by simp; omega) (.inr ⟨q, .inr rfl⟩) g
        | cons v us =>
          rw [jn_cons, List.append_assoc, List.cons_append]
          refine ih u (hm u (by simp)) ys (xs :: st) _ z (by simp; omega) (.inr ⟨_, .inl rfl⟩) (.spc (by simp) ?_)
          exact ihu (ys ++ [u]) (by simp) (fun t m => hm t (List.mem_cons_of_mem _ m)) (by rw [List.append_assoc]; exact g)
    have hl : (xs :: st).length ≤ 60 := by simp; omega
    cases ts with
    | nil => exact .emp hl (.cls g)
    | cons t ts =>
      show Runs true (xs :: st) (40 :: (jn (t :: ts) ++ [41] ++ q)) z
      rw [List.append_assoc]
      refine .opn hl ?_ (inner (t :: ts) [] (by simp) (fun _ m => m) (.cls g))
      obtain ⟨c, r, e, n, _⟩ := wr_head (h t (by simp))
      have : (jn (t :: ts) ++ ([41] ++ q)).head? = some c := by
        cases ts with
        | nil => rw [jn_one, e]; rfl
        | cons u ts => rw [jn_cons, e]; rfl
      rw [this]
      simpa using n
/-- the text is the note of a datum -/
def Note (l : List Nat) (t : T) : Prop := l = wr t ∧ WF 60 t
theorem runs_iff {l : List Nat} {t : T} : Runs true [[]] l t ↔ Note l t := by
  constructor
  · intro h
    obtain ⟨a, b⟩ := runs_sound h ⟨(fun _ m => nomatch m), by simp, .inl rfl⟩ rfl (fun z => nomatch z)
    exact ⟨by simpa [pfx, opnd, glue] using a, b⟩
  · intro ⟨e, h⟩
    have := runs_complete h [] [] [] t (by simp) (.inl rfl) .fin
    rw [e]
    simpa using this
/-! ### the law's reading -/
inductive Due where | item | first | behind
/-- the law's reading of a text: what is due, how deep -/
inductive Acc : Due → Nat → List Nat → Prop where
  | fin : Acc .behind 0 []
  | spc {d q} : Acc .item (d + 1) q → Acc .behind (d + 1) (32 :: q)
  | clsB {d q} : Acc .behind d q → Acc .behind (d + 1) (41 :: q)
  | clsF {d q} : Acc .behind d q → Acc .first (d + 1) (41 :: q)
  | opnI {d q} : d + 1 ≤ 60 → Acc .first (d + 1) q → Acc .item d (40 :: q)
  | opnF {d q} : d + 1 ≤ 60 → Acc .first (d + 1) q → Acc .first d (40 :: q)
  | leafI {d r n} : r.head? ≠ some 40 → le r = some n → Acc .behind d (r.drop n) → Acc .item d r
  | leafF {d r n} : r.head? ≠ some 40 → r.head? ≠ some 41 → le r = some n → Acc .behind d (r.drop n) → Acc .first d r
theorem Acc.fol {d : Nat} {r : List Nat} (h : Acc .behind d r) : Fol r := by
  cases h with
  | fin => exact .inl rfl
  | spc _ => exact .inr ⟨_, .inl rfl⟩
  | clsB _ => exact .inr ⟨_, .inr rfl⟩
/-- the state of the program's reading that goes with the law's -/
def Goes (due : Due) (st : List (List T)) (r : List Nat) (t : T) : Prop := match due with
  | .item => Runs true st r t
  | .behind => st.head? ≠ some [] → Runs false st r t
  | .first => st.head? = some [] → if r.head? = some 41 then Runs false st r t else Runs true st r t
theorem acc_runs {due : Due} {d : Nat} {r : List Nat} (h : Acc due d r) : ∀ st : List (List T), st.length = d + 1 → (due = .behind → st.head? ≠ some []) → (due = .first → st.head? = some []) → ∃ t, Goes due st r t := by
  have leaf : ∀ {d n : Nat} {r : List Nat} (st : List (List T)), st.length = d + 1 → r.head? ≠ some 40 → le r = some n → Acc .behind d (r.drop n) →
      (∀ st : List (List T), st.length = d + 1 → (Due.behind = .behind → st.head? ≠ some []) → (Due.behind = .first → st.head? = some []) → ∃ t, Goes .behind st (r.drop n) t) → ∃ t, Runs true st r t := by
    intro d n r st hl h1 h2 h3 ih
    obtain ⟨u, w, l, e1, e2⟩ := le_sound h2
    obtain ⟨xs, st', rfl⟩ : ∃ xs st', st = xs :: st' := by cases st with | nil => simp at hl | cons x y => exact ⟨x, y, rfl⟩
    obtain ⟨t, ht⟩ := ih ((xs ++ [u]) :: st') (by simpa using hl) (fun _ => by simp) (fun z => nomatch z)
    have hp : rp r = some (u, n) := by
      rw [e2]
      have := rp_complete w l h3.fol
      rw [← e1] at this
      exact this
    exact ⟨t, .itm h1 hp (ht (by simp))⟩
  induction h with
  | fin =>
    intro st hl hb _
    obtain ⟨xs, rfl⟩ := List.length_eq_one_iff.mp hl
    cases xs with
    | nil => exact absurd rfl (hb rfl)
    | cons t xs => exact ⟨t, fun _ => .fin⟩
  | spc _ ih =>
    intro st hl hb _
    obtain ⟨t, ht⟩ := ih st hl (fun z => nomatch z) (fun z => nomatch z)
    exact ⟨t, fun _ => .spc (by omega) ht⟩
  | clsB _ ih =>
    intro st hl hb _
    obtain ⟨xs, ys, st, rfl⟩ : ∃ xs ys st', st = xs :: ys :: st' := by
      match st, hl with
      | xs :: ys :: st, _ => exact ⟨xs, ys, st, rfl⟩
    obtain ⟨t, ht⟩ := ih ((ys ++ [.tup xs]) :: st) (by simpa using hl) (fun _ => by simp) (fun z => nomatch z)
    exact ⟨t, fun _ => .cls (ht (by simp))⟩
  | clsF _ ih =>
    intro st hl _ hf
    obtain ⟨xs, ys, st, rfl⟩ : ∃ xs ys st', st = xs :: ys :: st' := by
      match st, hl with
      | xs :: ys :: st, _ => exact ⟨xs, ys, st, rfl⟩
    obtain ⟨t, ht⟩ := ih ((ys ++ [.tup xs]) :: st) (by simpa using hl) (fun _ => by simp) (fun z => nomatch z)
    refine ⟨t, fun _ => ?_⟩
    show if (41 :: _).head? = some 41 then _ else _
    rw [if_pos (show (41 :: _).head? = some 41 from rfl)]
    exact .cls (ht (by simp))
  | @opnI d q h60 _ ih =>
    intro st hl _ _
    obtain ⟨t, ht⟩ := ih ([] :: st) (by simpa using hl) (fun z => nomatch z) (fun _ => rfl)
    refine ⟨t, ?_⟩
    have ht := ht rfl
    by_cases hq : q.head? = some 41
    · rw [if_pos hq] at ht
      obtain ⟨q', rfl⟩ : ∃ q', q = 41 :: q' := by
        cases q with
        | nil => cases hq
        | cons c q => exact ⟨q, by simp at hq; rw [hq]⟩
      exact .emp (by omega) ht
    · rw [if_neg hq] at ht
      exact .opn (by omega) hq ht
  | @opnF d q h60 _ ih =>
    intro st hl _ _
    obtain ⟨t, ht⟩ := ih ([] :: st) (by simpa using hl) (fun z => nomatch z) (fun _ => rfl)
    refine ⟨t, fun _ => ?_⟩
    rw [if_neg (show (40 :: q).head? ≠ some 41 by simp)]
    have ht := ht rfl
    by_cases hq : q.head? = some 41
    · rw [if_pos hq] at ht
      obtain ⟨q', rfl⟩ : ∃ q', q = 41 :: q' := by
        cases q with
        | nil => cases hq
        | cons c q => exact ⟨q, by simp at hq; rw [hq]⟩
      exact .emp (by omega) ht
    · rw [if_neg hq] at ht
      exact .opn (by omega) hq ht
  | leafI h1 h2 h3 ih =>
    intro st hl _ _
    exact leaf st hl h1 h2 h3 ih
  | leafF h1 h4 h2 h3 ih =>
    intro st hl _ _
    obtain ⟨t, ht⟩ := leaf st hl h1 h2 h3 ih
    refine ⟨t, fun _ => ?_⟩
    rw [if_neg h4]
    exact ht
theorem acc_complete {d : Nat} {t : T} (h : WF d t) : ∀ (dp : Nat) (q : List Nat), dp + d ≤ 60 → Acc .behind dp q → Acc .item dp (wr t ++ q) ∧ Acc .first dp (wr t ++ q) := by
  have leafly : ∀ {d : Nat} {t : T}, WF d t → leafT t = true → ∀ (dp : Nat) (q : List Nat), Acc .behind dp q → Acc .item dp (wr t ++ q) ∧ Acc .first dp (wr t ++ q) := by
    intro d t h l dp q g
    obtain ⟨c, r, e, n1, _, n⟩ := wr_head h
    have g' : Acc .behind dp ((wr t ++ q).drop (wr t).length) := by rw [List.drop_left]; exact g
    have h1 : (wr t ++ q).head? ≠ some 40 := by rw [e]; simpa using n l
    exact ⟨.leafI h1 (le_complete h l g.fol) g', .leafF h1 (by rw [e]; simpa using n1) (le_complete h l g.fol) g'⟩
  induction h with
  | non => intro dp q _ g; exact leafly (d := 0) .non rfl dp q g
  | bl => intro dp q _ g; exact leafly (d := 0) .bl rfl dp q g
  | int h => intro dp q _ g; exact leafly (d := 0) (.int h) rfl dp q g
  | str h => intro dp q _ g; exact leafly (d := 0) (.str h) rfl dp q g
  | @tup d ts h ih =>
    intro dp q hd g
    rw [wr_tup]
    have inner : ∀ (us : List T), us ≠ [] → (∀ t ∈ us, t ∈ ts) → Acc .item (dp + 1) (jn us ++ 41 :: q) ∧ Acc .first (dp + 1) (jn us ++ 41 :: q) := by
      intro us
      induction us with
      | nil => intro ne; exact absurd rfl ne
      | cons u us ihu =>
        intro _ hm
        cases us with
        | nil =>
          rw [jn_one]
          exact ih u (hm u (by simp)) (dp + 1) (41 :: q) (by omega) (.clsB g)
        | cons v us =>
          rw [jn_cons, List.append_assoc, List.cons_append]
          exact ih u (hm u (by simp)) (dp + 1) _ (by omega) (.spc (ihu (by simp) (fun t m => hm t (List.mem_cons_of_mem _ m))).1)
    have hf : Acc .first (dp + 1) (jn ts ++ [41] ++ q) := by
      rw [List.append_assoc]
      cases ts with
      | nil => exact .clsF g
      | cons t ts => exact (inner (t :: ts) (by simp) (fun _ m => m)).2
    exact ⟨.opnI (by omega) hf, .opnF (by omega) hf⟩
theorem acc_iff {l : List Nat} : Acc .item 0 l ↔ ∃ t, Note l t := by
  constructor
  · intro h
    obtain ⟨t, ht⟩ := acc_runs h [[]] rfl (fun z => nomatch z) (fun z => nomatch z)
    exact ⟨t, runs_iff.mp ht⟩
  · intro ⟨t, e, h⟩
    have := (acc_complete h 0 [] (by omega) .fin).1
    rw [e]
    simpa using this
theorem runs_det {b : Bool} {st : List (List T)} {r : List Nat} {t u : T} (a : Runs b st r t) (b : Runs b st r u) : t = u := by
  induction a with
  | opn h1 h2 _ ih =>
    cases b with
    | opn _ _ b => exact ih b
    | emp _ _ => exact absurd rfl h2
    | itm h _ _ => exact absurd rfl h
  | emp h1 _ ih =>
    cases b with
    | opn _ h _ => exact absurd rfl h
    | emp _ b => exact ih b
    | itm h _ _ => exact absurd rfl h
  | itm h1 h2 _ ih =>
    cases b with
    | opn _ _ _ => exact absurd rfl h1
    | emp _ _ => exact absurd rfl h1
    | itm _ h b =>
      rw [h2] at h
      cases h
      exact ih b
  | cls _ ih =>
    cases b with
    | cls b => exact ih b
  | fin => cases b with | fin => rfl
  | spc _ _ ih =>
    cases b with
    | spc _ b => exact ih b
theorem Note.inj {l : List Nat} {t u : T} (h : Note l t) (g : Note l u) : t = u := by
  have a := runs_iff.mpr h
  have b := runs_iff.mpr g
  clear h g
  exact runs_det a b
end K4
set_option Elab.async false
set_option linter.all false
set_option maxRecDepth 100000
set_option maxHeartbeats 4000000
/-! k04: the ground of the walks. -/
namespace K4
open PySem PySem.Spec PyProof.Rows L2 M14 SX
def top (i : Nat) : Stmt := PySem.Challenge.pw_likerun_k04_whole_datum_notes.main.body.getD i (.Pass ⟨0, 0, 0, 0⟩)
structure Bl (mg : Str → Option Value) extends M14.Bl mg where
  z_ord : mg "ord" = none
  z_abs : mg "abs" = none
/-- a constant of the module -/
def GV (mg : Str → Option Value) (x : Str) (v : V) : Prop := ∃ u, mg x = some u ∧ RelV v u
theorem pe_gv {X : Cx} {x : Str} {v : V} {pos : Pos} (h : GV X.mg x v) (hg : Gl X x) (hd : (x == ("__debug__" : Str)) = false := by decide) : PE X (.Name x pos) (tC v) := C8.pe_gc hg h hd
/-! ### a dict of the module -/
structure KD (K : PySem.W.Frag) (w : World) (d : Addr) (f : Str → Option V) : Prop where
  kd : ∃ es n, KDict K w d es n
  ns : ∀ z, ∃ r : Option Value, PySem.W.nsIn K d z = some r ∧ match f z with
    | none => r = none
    | some v => ∃ u, r = some u ∧ RelV v u
@[irreducible] def rInD (neg : Bool) (d : Addr) (f : Str → Option V) : R2 := fun x y H Q => ∃ z : Str, x = .str z ∧ y = .ref d ∧ Q (.bl (neg != (f z).isSome)) H
theorem kd_some {f : Str → Option V} {r : Option Value} {z : Str} (h : match f z with
    | none => r = none
    | some v => ∃ u, r = some u ∧ RelV v u) : r.isSome = (f z).isSome := by
  cases e : f z with
  | none => rw [e] at h; simp only at h; rw [h]; rfl
  | some v => rw [e] at h; obtain ⟨u, h, _⟩ := h; rw [h]; rfl
theorem opInD {X : Cx} {d : Addr} {f : Str → Option V} (D : KD X.K X.w d f) : OpR X (compareOp .In) (rInD false d f) := by
  obtain ⟨⟨es, n, kd⟩, ns⟩ := D
  unfold rInD
  intro pins s σ H x y v u Q I rx ry h
  obtain ⟨z, rfl, rfl, q⟩ := h
  obtain ⟨r, e, h⟩ := ns z
  refine op_in_kd kd pins s σ H _ _ v u Q I rx ry ⟨z, r, rfl, rfl, e, ?_⟩
  rw [kd_some h]
  simpa using q
theorem opNotInD {X : Cx} {d : Addr} {f : Str → Option V} (D : KD X.K X.w d f) : OpR X (compareOp .NotIn) (rInD true d f) := by
  obtain ⟨⟨es, n, kd⟩, ns⟩ := D
  unfold rInD
  intro pins s σ H x y v u Q I rx ry h
  obtain ⟨z, rfl, rfl, q⟩ := h
  obtain ⟨r, e, h⟩ := ns z
  refine op_notIn_kd kd pins s σ H _ _ v u Q I rx ry ⟨z, r, rfl, rfl, e, ?_⟩
  rw [kd_some h]
  simpa using q
@[irreducible] def rIxK (d : Addr) (f : Str → Option V) : R2 := fun x y H Q => ∃ (z : Str) (v : V), x = .ref d ∧ y = .str z ∧ f z = some v ∧ Q v H
theorem ixK {X : Cx} {d : Addr} {f : Str → Option V} (D : KD X.K X.w d f) : IxR X (rIxK d f) := by
  obtain ⟨⟨es, n, kd⟩, ns⟩ := D
  unfold rIxK
  intro value slice pins s σ H x y v u Q I rx ry h hs
  obtain ⟨z, w, rfl, rfl, e, q⟩ := h
  obtain ⟨r, e2, h⟩ := ns z
  rw [e] at h
  obtain ⟨u0, rfl, ru⟩ := h
  exact ix_kdict value slice pins s σ H _ _ v u Q I rx ry ⟨d, z, w, rfl, rfl, ⟨es, n, u0, kd.at_, kd.lit, e2, ru⟩, q⟩ hs
theorem inD_step {d : Addr} {f : Str → Option V} {z : Str} {neg : Bool} {H : Hp} {Q : VK} (h : Q (.bl (neg != (f z).isSome)) H) : rInD neg d f (.str z) (.ref d) H Q := by
  unfold rInD
  exact ⟨z, rfl, rfl, h⟩
theorem ixK_step {d : Addr} {f : Str → Option V} {z : Str} {v : V} {H : Hp} {Q : VK} (e : f z = some v) (h : Q v H) : rIxK d f (.ref d) (.str z) H Q := by
  unfold rIxK
  exact ⟨z, v, rfl, rfl, e, h⟩
/-! ### texts -/
theorem slice_mid {a : List Nat} {i j : Int} (h0 : 0 ≤ i) (h1 : i ≤ j) : Txt.slice (S a) (some i) (some j) = S ((a.drop i.toNat).take (j - i).toNat) := by
  have hl : ((S a).length : Int) = (a.length : Int) := by rw [S_len]
  by_cases hj : j ≤ (a.length : Int)
  · exact beq_iff_eq.mp (PyProof.Rows.slice_closesL (x := S a) h0 h1 (by omega))
  · have e2 : Txt.slice (S a) (some i) (some j) = Txt.slice (S a) (some i) none := by
      have e1 : Txt.slice (S a) (some i) (some j) = Txt.slice (S a) (some i) (some (a.length : Int)) := by
        unfold Txt.slice
        rw [S_len, SX.idx_hi (by omega)]
      rw [e1]
      unfold Txt.slice
      rw [S_len]
      have h3 : ¬ ((a.length : Int) < 0) := by omega
      simp [Builtin.Str.strSliceIndices, h3]
    rw [e2, slice_from h0]
    congr 1
    rw [List.take_of_length_le]
    rw [List.length_drop]
    omega
@[irreducible] def rSlS : V → Option Int → Option Int → Hp → VK → Prop := C8.rSlX
theorem slS {X : Cx} : SlR X rSlS := by unfold rSlS; exact C8.sl_txt
theorem big_size {a : List Nat} (h : a.length ≤ 1000000) : (S a).length ≤ sizeLine := by rw [S_len]; exact Nat.le_trans h (by decide)
theorem slm_step {a : List Nat} {i j : Int} {H : Hp} {Q : VK} (hz : a.length ≤ 1000000) (h0 : 0 ≤ i) (h1 : i ≤ j) (h : Q (.str (S ((a.drop i.toNat).take (j - i).toNat))) H) : rSlS (.str (S a)) (some i) (some j) H Q := by
  unfold rSlS
  exact ⟨_, rfl, big_size hz, by rw [slice_mid h0 h1]; exact h⟩
theorem slf_step {a : List Nat} {i : Int} {H : Hp} {Q : VK} (hz : a.length ≤ 1000000) (h0 : 0 ≤ i) (h : Q (.str (S (a.drop i.toNat))) H) : rSlS (.str (S a)) (some i) none H Q := by
  unfold rSlS
  exact ⟨_, rfl, big_size hz, by rw [slice_from h0]; exact h⟩
theorem slt_step {a : List Nat} {i : Int} {H : Hp} {Q : VK} (hz : a.length ≤ 1000000) (h0 : 0 ≤ i) (h : Q (.str (S (a.take i.toNat))) H) : rSlS (.str (S a)) none (some i) H Q := by
  unfold rSlS
  exact ⟨_, rfl, big_size hz, by rw [slice_to h0]; exact h⟩
theorem ixS_step {a : List Nat} {i : Int} {c : Nat} {H : Hp} {Q : VK} (hz : a.length ≤ 1000000) (h0 : 0 ≤ i) (e : a[i.toNat]? = some c) (h : Q (.str (S [c])) H) : rxS (.str (S a)) (.int i) H Q := by
  unfold rxS
  obtain ⟨j, rfl⟩ : ∃ j : Nat, i = (j : Int) := ⟨i.toNat, by omega⟩
  exact ⟨_, _, c, rfl, rfl, big_size hz, atI_nat (by simpa using e), h⟩
@[irreducible] def rCatS : R2 := fun x y H Q => ∃ i j : Str, x = .str i ∧ y = .str j ∧ i.length + j.length ≤ sizeLine ∧ Q (.str (i ++ j)) H
theorem op_catS {X : Cx} : OpR X (binaryOp .Add) rCatS := by unfold rCatS; exact op_add_str
theorem catS_step {a b : List Nat} {H : Hp} {Q : VK} (h : a.length + b.length ≤ 1000000) (q : Q (.str (S (a ++ b))) H) : rCatS (.str (S a)) (.str (S b)) H Q := by
  unfold rCatS
  exact ⟨_, _, rfl, rfl, by rw [S_len, S_len]; exact Nat.le_trans h (by decide), by rw [S_cat]; exact q⟩
theorem strEq {a b : List Nat} : (V.str (S a) = V.str (S b)) ↔ a = b := ⟨fun h => S_inj (V.str.inj h), fun h => by rw [h]⟩
theorem iteEqS {a b : List Nat} {A B : Prop} (h1 : a = b → A) (h2 : a ≠ b → B) : if decide (V.str (S a) = V.str (S b)) = true then A else B := iteD (fun e => h1 (strEq.mp e)) fun e => h2 fun q => e (strEq.mpr q)
/-! ### defs that may raise -/
section
variable (P : Program) (w : World) (K : PySem.W.Frag) (mg : Str → Option Value) (base : Heap)
def CalX (k : Nat) (x : Str) (ps : List Str) (sp : Sp) : Prop := ∃ f fd, FnOk P w K mg base (L2.CX P w) k f fd ps sp ∧ mg x = some (.ref f) ∧ PySem.W.keepIn K (.ref f) = true ∧ Binds K fd ps []
end
theorem CalX.mono {P : Program} {w : World} {K : PySem.W.Frag} {mg : Str → Option Value} {base : Heap} {j k : Nat} {x : Str} {ps : List Str} {sp : Sp} (c : CalX P w K mg base j x ps sp) (h : j ≤ k) : CalX P w K mg base k x ps sp :=
  let ⟨f, fd, F, a, b, d⟩ := c; ⟨f, fd, F.mono h, a, b, d⟩
theorem _root_.M14.Def1.calX {P : Program} {w : World} {K : PySem.W.Frag} {mg : Str → Option Value} {base : Heap} {x : Str} {st : Stmt} {N ps : List Str} {k : Nat} {sp : Sp} (D : Def1 K mg x st) (S : FnScope N ps (defScope st))
    (hb : ∀ (kV doc pm : Value) (an : Option Addr) (cdv ct : Value) (us : List Value), us.length = ps.length → bindArgs (PySem.W.fnOf x x (defArgs st) (defBody st) (defScope st) .none kV doc pm an cdv ct) ⟨us, []⟩ = pure (ps.zip us))
    (len : ∀ vs H Q E, sp vs H Q E → vs.length = ps.length)
    (hbody : ∀ (f : Addr) (cdv : Value) (A : Around) (outer : List Env) (s : Shared) (H : Hp) (vs : List V) (Q : VK) (E : XK), Room k (A.deeper (envOfC x (defScope st) s.heap.objs.size f cdv)) → sp vs H Q E →
      ∃ t, PSs (cxOf (L2.CX P w) P w K mg base N x (defScope st) f cdv A outer s H E) (defBody st) t ∧ t { nx := fun _ H' => Q .non H', rt := Q } (start N vs) H) : CalX P w K mg base (k + 1) x ps sp := by
  obtain ⟨f, fd, F, g⟩ := D
  refine ⟨f, fd, F.ok (CX := L2.CX P w) S len fun cdv A outer s H vs Q E hr h => hbody f cdv A outer s H vs Q E hr h, g, F.kp, F.bindsN hb⟩
section
variable {X : Cx} {x : Str} {p pos : Pos} {e : Expr} {es : List Expr} {k : Nat} {ps : List Str} {sp : Sp} {t : TA}
/-- a call within a def that may raise, or within a try -/
theorem pe_calX {W : WX} (c : CalX X.prog X.w X.K X.mg X.base k x ps sp) (tk : Takes X W) (hr : Room k X.A) (hg : Gl X x) (ha : PA X (e :: es) t) (hdb : (x == ("__debug__" : Str)) = false := by decide) (he : starEach (e :: es) X.env = (false, eval e X.env) :: starEach es X.env := by rfl) (hpl : (backTo pos (starEach es X.env)).any (·.1) = false := by rfl) :
    PE X (.Call (.Name x p) (e :: es) [] pos) (tCallS sp (WE W) t) := by
  obtain ⟨f, fd, F, hm, hk, hb⟩ := c
  exact pe_callS F hr hg hm hk hb (fun σ => passAt tk σ) ha hdb he hpl
/-- a call that does not raise this time -/
theorem pe_calL (c : CalX X.prog X.w X.K X.mg X.base k x ps sp) (hr : Room k X.A) (hg : Gl X x) (ha : PA X (e :: es) t) (hdb : (x == ("__debug__" : Str)) = false := by decide) (he : starEach (e :: es) X.env = (false, eval e X.env) :: starEach es X.env := by rfl) (hpl : (backTo pos (starEach es X.env)).any (·.1) = false := by rfl) :
    PE X (.Call (.Name x p) (e :: es) [] pos) (tCall sp [] E0 t) := by
  obtain ⟨f, fd, F, hm, hk, hb⟩ := c
  exact pe_call F hr hg hm hk hb .nil passL ha hdb he hpl
/-- what a def that raises wishes of its frame -/
theorem takesE {P : Program} {w : World} {K : PySem.W.Frag} {mg : Str → Option Value} {base : Heap} {N : List Str} {q : Str} {sc : Scope} {f : Addr} {cdv : Value} {A : Around} {outer : List Env} {s : Shared} {H : Hp} {E : XK} :
    Takes (cxOf (L2.CX P w) P w K mg base N q sc f cdv A outer s H E) (fun cls d _ H => E cls d H) := takes_of rfl rfl rfl rfl
/-- facts of an exception class without own __init__ -/
structure XC (K : PySem.W.Frag) (mg : Str → Option Value) (x : Str) (C : Addr) : Prop where
  q : PySem.W.excIn K C [.type "ValueError", .type "Exception", .type "BaseException", .type "object"] "ValueError.__new__" = true
  g : mg x = some (.ref C)
  k : PySem.W.keepIn K (.ref C) = true
  b : PySem.W.subIn K (.ref C) (.type "BaseException") = some true
  t : PySem.W.typeIn K (.ref C) = some (.type "type")
theorem ps_raise0 {W : WX} {C : Addr} {pos' : Pos} (c : XC X.K X.mg x C) (hc : X.calm = true) (tk : Takes X W) (hg : Gl X x) (hdb : (x == ("__debug__" : Str)) = false := by decide) :
    PS X (.Raise (some (.Call (.Name x p) [] [] pos)) none pos') (fun _ σ H => W (.ref C) none σ H) :=
  ps_raise hc tk (pmk_own0 PySem.F.excBase_ValueError c.q c.g c.k (raises_own c.b c.t) hg hdb)
end
end K4
set_option Elab.async false
set_option linter.all false
set_option maxRecDepth 100000
set_option maxHeartbeats 4000000
/-! The head's facts for a program of defs, tables of texts and error classes. -/
namespace K4
open PySem PySem.Spec PyProof.Rows L2 M14
theorem dicW_at {K : PySem.W.Frag} {a : Addr} {L : List (Option (Str × Int))} (h : He.dicW K a = some L) : ∃ es n, K.lookup a = some ⟨.type "dict", none, .dict es n, #[]⟩ ∧ es.toList.map He.keyOf = L := by
  unfold He.dicW at h
  cases q : K.lookup a with
  | none => rw [q] at h; cases h
  | some o =>
    obtain ⟨oc, od, dt, osl⟩ := o
    rw [q] at h
    cases oc with
    | type c =>
      cases od with
      | none =>
        cases dt with
        | dict es n =>
          have h1 : (match decide (c = "dict") && (osl.isEmpty && !(a == sysModules)) with
            | true => some (es.toList.map He.keyOf)
            | false => none) = some L := h
          cases z : decide (c = "dict") && (osl.isEmpty && !(a == sysModules)) with
          | false => rw [z] at h1; cases h1
          | true =>
            rw [z] at h1
            obtain ⟨z1, z2⟩ := He.ba z
            obtain ⟨z3, z4⟩ := He.ba z2
            have e1 : c = "dict" := of_decide_eq_true z1
            have e2 : osl = #[] := Array.isEmpty_iff.mp z3
            subst e1 e2
            exact ⟨es, n, rfl, Option.some.inj h1⟩
        | _ => cases h
      | some b => cases dt <;> cases h
    | _ => cases od <;> cases dt <;> cases h
theorem keyOf_mem {P : Params} {ks : List Str} : ∀ {l : List DictEntry}, l.map He.keyOf = He.keysIn P ks → ∀ e ∈ l, ∃ k t, k ∈ ks ∧ e.key = .str k t := by
  intro l h e m
  have m2 : He.keyOf e ∈ He.keysIn P ks := by rw [← h]; exact List.mem_map_of_mem m
  obtain ⟨k, mk, ek⟩ := List.mem_map.mp m2
  unfold He.keyOf at ek
  split at ek
  · rename_i x t q
    have := Option.some.inj ek
    obtain ⟨h5, _⟩ := Prod.mk.inj this
    exact ⟨x, t, by rw [← h5]; exact mk, q⟩
  · cases ek
theorem nsIn_no {K : PySem.W.Frag} {P : Params} {a : Addr} {ks : List Str} {z : Str} (h : He.dicW K a = some (He.keysIn P ks)) (hz : z ∉ ks) : PySem.W.nsIn K a z = some none := by
  obtain ⟨es, n, e, hk⟩ := dicW_at h
  have key := keyOf_mem hk
  unfold PySem.W.nsIn
  rw [e]
  have h1 : es.toList.find? (·.key.isStr z) = none := by
    rw [List.find?_eq_none]
    intro x mx
    obtain ⟨k, t, mk, ek⟩ := key x mx
    rw [ek]
    intro hs
    have : k = z := by
      have h2 : (k == z) = true := hs
      exact eq_of_beq h2
    exact hz (this ▸ mk)
  have h2 : es.toList.any (·.refKey) = false := by
    rw [List.any_eq_false]
    intro x mx
    obtain ⟨k, t, mk, ek⟩ := key x mx
    unfold DictEntry.refKey
    rw [ek]
    exact Bool.false_ne_true
  simp only [h1, h2]
  rfl
theorem kd_of {K : PySem.W.Frag} {w : World} {a : Addr} {kvs : List (Str × He.Dv)} {f : Str → Option V} (h1 : He.dicW K a = some (He.keysIn w.params (kvs.map (·.1)))) (h2 : He.valsB K a kvs = true)
    (hf : ∀ z, match f z with
      | none => z ∉ kvs.map (·.1)
      | some v => ∃ q ∈ kvs, q.1 = z ∧ q.2.v K = v) : KD K w a f := by
  refine ⟨He.dicW_ok h1, fun z => ?_⟩
  have := hf z
  cases e : f z with
  | none =>
    rw [e] at this
    exact ⟨none, nsIn_no h1 this, rfl⟩
  | some v =>
    rw [e] at this
    obtain ⟨q, mq, rfl, rfl⟩ := this
    obtain ⟨u, hu, hr⟩ := He.valsB_ok h2 mq
    exact ⟨some u, hu, u, rfl, hr⟩
theorem gv_int {K : PySem.W.Frag} {h : Heap} {mg : Str → Option Value} (X : K.In h) (G : h.Ns mainGlobals mg) {x : Str} {i : Int} (c : (He.Fa.int x i).ok K = true) : GV mg x (.int i) :=
  let ⟨t, e⟩ := He.int_ok X G c; ⟨_, e, t, rfl⟩
theorem gv_str {K : PySem.W.Frag} {h : Heap} {mg : Str → Option Value} (X : K.In h) (G : h.Ns mainGlobals mg) {x z : Str} (c : (He.Fa.str x z).ok K = true) : GV mg x (.str z) :=
  let ⟨t, e⟩ := He.str_ok X G c; ⟨_, e, t, rfl⟩
theorem gv_ref {K : PySem.W.Frag} {h : Heap} {mg : Str → Option Value} (X : K.In h) (G : h.Ns mainGlobals mg) {x : Str} (c : (He.Fa.glo x).ok K = true) : GV mg x (.ref (He.ga K x)) := ⟨_, He.glo_ok X G c, rfl⟩
theorem xc_of {K : PySem.W.Frag} {h : Heap} {mg : Str → Option Value} (X : K.In h) (G : h.Ns mainGlobals mg) {x : Str} (g : (He.Fa.glo x).ok K = true) (c : (He.Fa.exc x).ok K = true) : XC K mg x (He.ga K x) :=
  let ⟨a, b, d, e⟩ := He.exc_ok c; ⟨a, He.glo_ok X G g, b, d, e⟩
/-! ### the hook -/
abbrev AlP : Type := Bool × List He.FnW × List (Option (List (Option (Str × Int))))
section
variable (fa : List He.Fa) (fn : List He.DefD) (ts : List He.Tab) (ow : PySem.W.Frag → Bool)
def obsP (K : PySem.W.Frag) : AlP := (((fa.all fun f => f.ok K) && fn.all fun d => d.ok K) && ow K, fn.map fun d => He.fnW K d.at_, ts.map fun t => He.dicW K (t.1 K))
def valP (w : World) : AlP := (true, fn.map He.DefD.val, ts.map fun t => some (He.keysIn w.params t.2))
def SaysP (w : World) (K : PySem.W.Frag) : Prop := obsP fa fn ts ow K = valP fn ts w
def obsPG (n : Nat) (g : Addr → Option Obj) : AlP := obsP fa fn ts ow (He.frG g (He.asD g n))
def hookP (n : Nat) : PySem.W.Hook where
  α := AlP
  obs := fun s => obsPG fa fn ts ow n s.heap.get?
  val := fun w => valP fn ts w
  says := fun w h => ∃ K : PySem.W.Frag, K.In h ∧ SaysP fa fn ts ow w K
  of := fun _ _ e => ⟨_, He.frG_in, e⟩
  keeps := fun _ _ _ ⟨K, hK, c⟩ k => ⟨K, PySem.W.Frag.In.keeps hK k, c⟩
theorem obsPG_eq {n : Nat} {g : Addr → Option Obj} {s : Shared} (h : ∀ a, g a = s.heap.get? a) : obsPG fa fn ts ow n g = (hookP fa fn ts ow n).obs s := by
  have e : g = s.heap.get? := funext h
  rw [e] <;> rfl
end
section
variable {fa : List He.Fa} {fn : List He.DefD} {ts : List He.Tab} {ow : PySem.W.Frag → Bool} {w : World} {K : PySem.W.Frag}
theorem SaysP.all (c : SaysP fa fn ts ow w K) : ((fa.all fun f => f.ok K) && fn.all fun d => d.ok K) = true ∧ ow K = true := He.ba (congrArg (fun z : AlP => z.1) c)
theorem SaysP.fact (c : SaysP fa fn ts ow w K) (i : Nat) {f : He.Fa} (h : fa[i]? = some f := by rfl) : f.ok K = true := List.all_eq_true.mp (He.ba c.all.1).1 f (List.mem_of_getElem? h)
theorem SaysP.own (c : SaysP fa fn ts ow w K) : ow K = true := c.all.2
theorem SaysP.def_ (c : SaysP fa fn ts ow w K) (i : Nat) {d : He.DefD} (h : fn[i]? = some d := by rfl) : ∃ fd, FunD K d.name d.qual d.params d.body d.scope (d.dvs K) (d.kws K) (He.fAd K d.at_) fd := by
  have e : fn.map (fun d => He.fnW K d.at_) = fn.map He.DefD.val := congrArg (fun z : AlP => z.2.1) c
  have e2 : (fn.map fun d => He.fnW K d.at_)[i]? = (fn.map He.DefD.val)[i]? := by rw [e]
  rw [List.getElem?_map, List.getElem?_map, h] at e2
  exact He.DefD.funD (Option.some.inj e2) (List.all_eq_true.mp (He.ba c.all.1).2 d (List.mem_of_getElem? h))
theorem SaysP.tab (c : SaysP fa fn ts ow w K) (i : Nat) {t : He.Tab} (h : ts[i]? = some t := by rfl) : He.dicW K (t.1 K) = some (He.keysIn w.params t.2) := by
  have e : ts.map (fun t => He.dicW K (t.1 K)) = ts.map fun t => some (He.keysIn w.params t.2) := congrArg (fun z : AlP => z.2.2) c
  have e2 : (ts.map fun t => He.dicW K (t.1 K))[i]? = (ts.map fun t => some (He.keysIn w.params t.2))[i]? := by rw [e]
  rw [List.getElem?_map, List.getElem?_map, h] at e2
  exact Option.some.inj e2
end
/-! ### error classes -/
def isVal (a : Option (Option Value)) (v : Value) : Bool := He.eqO a (some (some v))
def excB (K : PySem.W.Frag) (D : Addr) : Bool := isVal (PySem.W.findIn K (.ref D) "__getattribute__") (.builtin "BaseException.__getattribute__") && (He.eqO (PySem.W.findIn K (.ref D) "__getattr__") (some none) && (decide (PySem.W.subIn K (.ref D) (.type "BaseException") = some true) && (PySem.W.hasDictIn K D &&
  (isVal (PySem.W.findIn K (.ref D) "__class__") (.builtin "object.__class__") && (isVal (PySem.W.specialIn K (.builtin "object.__class__") "__get__") (.builtin "getset_descriptor.__get__") && (decide (PySem.W.takesIn K (.builtin "object.__class__") = some true) && decide (PySem.W.mroIn K D (.type "object") = some true)))))))
theorem excB_ok {K : PySem.W.Frag} {D : Addr} (h : excB K D = true) : ExcC K D := by
  obtain ⟨h1, h⟩ := He.ba h
  obtain ⟨h2, h⟩ := He.ba h
  obtain ⟨h3, h⟩ := He.ba h
  obtain ⟨h4, h⟩ := He.ba h
  obtain ⟨h5, h⟩ := He.ba h
  obtain ⟨h6, h⟩ := He.ba h
  obtain ⟨h7, h8⟩ := He.ba h
  exact ⟨He.eqO_ok h1, He.eqO_ok h2, of_decide_eq_true h3, h4, He.eqO_ok h5, He.eqO_ok h6, of_decide_eq_true h7, of_decide_eq_true h8⟩
def kitOB (K : PySem.W.Frag) (a b : Value) (r : Bool) : Bool := decide (PySem.W.kitOne K a b = some r)
theorem kitOB_ok {K : PySem.W.Frag} {a b : Value} {r : Bool} (h : kitOB K a b r = true) : PySem.W.kitOne K a b = some r := of_decide_eq_true h
end K4
set_option Elab.async false
set_option linter.all false
set_option maxRecDepth 100000
set_option maxHeartbeats 0
namespace K4.Hd
open PySem PySem.Spec PyProof.Rows L2 M14 K4
abbrev R : PySem.W.OpenRow := PySem.W.OpenLaw.row PySem.Challenge.rw_likerun_k04_whole_datum_notes
def fa : List He.Fa := [.glo "other_index", .glo "is_allowed", .glo "quoted", .glo "write_datum", .glo "read_datum", .glo "_read_plain", .glo "_is_integer", .glo "_read_string", .glo "_law_bag", .glo "_law_take", .glo "_law_whole", .glo "_law_allowed", .glo "_law_integer", .glo "_law_string", .glo "_law_leaf", .glo "_law_grouped", .glo "_law_datum", .glo "_law_quoted", .glo "_law_note", .glo "_law_same", .glo "_law_is_datum", .glo "_law_string_end", .glo "_law_leaf_end", .glo "_law_is_note", .glo "_law_odd_note", .glo "_law_around", .glo "_law_spoiled", .glo "_law_is_refused", .glo "_law_is_read", .glo "law", .glo "CONSTANTS", .glo "ESCAPES", .glo "BadDatum", .glo "LikerunError", .glo "BadSave", .glo "SourceError", .free "len", .free "int", .free "sum", .free "range", .free "list", .free "tuple", .free "str", .free "isinstance", .free "bool", .free "sorted", .free "enumerate", .free "min", .free "max", .free "ord", .free "abs", .int "SPACE_CODE" 32, .int "TILDE_CODE" 126, .int "PERCENT_CODE" 37, .int "DEEPEST" 60, .int "MOST_DIGITS" 80, .str "DIGITS" "0123456789", .free "ValueError", .exc "BadDatum", .exm "BadDatum" "LikerunError" true]
def fn : List He.DefD := [⟨("other_index", none), "other_index", "other_index", defArgs (top 5), defBody (top 5), defScope (top 5), [], []⟩,
  ⟨("is_allowed", none), "is_allowed", "is_allowed", defArgs (top 6), defBody (top 6), defScope (top 6), [], []⟩,
  ⟨("quoted", none), "quoted", "quoted", defArgs (top 7), defBody (top 7), defScope (top 7), [], []⟩,
  ⟨("write_datum", none), "write_datum", "write_datum", defArgs (top 18), defBody (top 18), defScope (top 18), [], []⟩,
  ⟨("read_datum", none), "read_datum", "read_datum", defArgs (top 19), defBody (top 19), defScope (top 19), [], []⟩,
  ⟨("_read_plain", none), "_read_plain", "_read_plain", defArgs (top 20), defBody (top 20), defScope (top 20), [], []⟩,
  ⟨("_is_integer", none), "_is_integer", "_is_integer", defArgs (top 21), defBody (top 21), defScope (top 21), [], []⟩,
  ⟨("_read_string", none), "_read_string", "_read_string", defArgs (top 22), defBody (top 22), defScope (top 22), [], []⟩,
  ⟨("_law_bag", none), "_law_bag", "_law_bag", defArgs (top 24), defBody (top 24), defScope (top 24), [], []⟩,
  ⟨("_law_take", none), "_law_take", "_law_take", defArgs (top 25), defBody (top 25), defScope (top 25), [], []⟩,
  ⟨("_law_whole", none), "_law_whole", "_law_whole", defArgs (top 26), defBody (top 26), defScope (top 26), [], []⟩,
  ⟨("_law_allowed", none), "_law_allowed", "_law_allowed", defArgs (top 27), defBody (top 27), defScope (top 27), [], []⟩,
  ⟨("_law_integer", none), "_law_integer", "_law_integer", defArgs (top 28), defBody (top 28), defScope (top 28), [], []⟩,
  ⟨("_law_string", none), "_law_string", "_law_string", defArgs (top 29), defBody (top 29), defScope (top 29), [], []⟩,
  ⟨("_law_leaf", none), "_law_leaf", "_law_leaf", defArgs (top 30), defBody (top 30), defScope (top 30), [], []⟩,
  ⟨("_law_grouped", none), "_law_grouped", "_law_grouped", defArgs (top 31), defBody (top 31), defScope (top 31), [], []⟩,
  ⟨("_law_datum", none), "_law_datum", "_law_datum", defArgs (top 32), defBody (top 32), defScope (top 32), [], []⟩,
  ⟨("_law_quoted", none), "_law_quoted", "_law_quoted", defArgs (top 33), defBody (top 33), defScope (top 33), [], []⟩,
  ⟨("_law_note", none), "_law_note", "_law_note", defArgs (top 34), defBody (top 34), defScope (top 34), [], []⟩,
  ⟨("_law_same", none), "_law_same", "_law_same", defArgs (top 35), defBody (top 35), defScope (top 35), [], []⟩,
  ⟨("_law_is_datum", none), "_law_is_datum", "_law_is_datum", defArgs (top 36), defBody (top 36), defScope (top 36), [], []⟩,
  ⟨("_law_string_end", none), "_law_string_end", "_law_string_end", defArgs (top 37), defBody (top 37), defScope (top 37), [], []⟩,
  ⟨("_law_leaf_end", none), "_law_leaf_end", "_law_leaf_end", defArgs (top 38), defBody (top 38), defScope (top 38), [], []⟩,
  ⟨("_law_is_note", none), "_law_is_note", "_law_is_note", defArgs (top 39), defBody (top 39), defScope (top 39), [], []⟩,
  ⟨("_law_odd_note", none), "_law_odd_note", "_law_odd_note", defArgs (top 40), defBody (top 40), defScope (top 40), [], []⟩,
  ⟨("_law_around", none), "_law_around", "_law_around", defArgs (top 41), defBody (top 41), defScope (top 41), [], []⟩,
  ⟨("_law_spoiled", none), "_law_spoiled", "_law_spoiled", defArgs (top 42), defBody (top 42), defScope (top 42), [], []⟩,
  ⟨("_law_is_refused", none), "_law_is_refused", "_law_is_refused", defArgs (top 43), defBody (top 43), defScope (top 43), [], []⟩,
  ⟨("_law_is_read", none), "_law_is_read", "_law_is_read", defArgs (top 44), defBody (top 44), defScope (top 44), [], []⟩,
  ⟨("law", none), "law", "law", defArgs (top 45), defBody (top 45), defScope (top 45), [], []⟩]
def ts : List He.Tab := [(fun K => He.ga K "CONSTANTS", ["none", "true", "false"]), (fun K => He.ga K "ESCAPES", ["\\", "\"", "n"])]
def own (K : PySem.W.Frag) : Bool := excB K (He.ga K "BadDatum") && (kitOB K (.ref (He.ga K "BadDatum")) (.ref (He.ga K "BadDatum")) true && (kitOB K (.ref (He.ga K "BadDatum")) (.type "ValueError") true && (kitOB K (.ref (He.ga K "BadDatum")) (.ref (He.ga K "BadSave")) false && (kitOB K (.ref (He.ga K "BadDatum")) (.ref (He.ga K "SourceError")) false && (He.valsB K (He.ga K "CONSTANTS") [("none", .non), ("true", .bl true), ("false", .bl false)] && (He.valsB K (He.ga K "ESCAPES") [("\\", .str "\\"), ("\"", .str "\""), ("n", .str "\n")]))))))
abbrev hk : PySem.W.Hook := hookP fa fn ts own 5
def ob (s : PySem.W.SharedT) : AlP := obsPG fa fn ts own 5 (HandSHeadRun.getT s)
theorem ob_eq (s : PySem.W.SharedT) : ob s = hk.obs s.abs := obsPG_eq _ _ _ _ (HandSHeadRun.getT_eq s)
abbrev loose : List Str := ([("DIGITS" : Str), ("SPACE_CODE" : Str), ("TILDE_CODE" : Str), ("PERCENT_CODE" : Str), ("other_index" : Str), ("is_allowed" : Str), ("quoted" : Str), ("LikerunError" : Str), ("SourceError" : Str), ("BadDatum" : Str)] : List Str) ++ ([("BadSave" : Str), ("DEEPEST" : Str), ("MOST_DIGITS" : Str), ("CONSTANTS" : Str), ("ESCAPES" : Str), ("write_datum" : Str), ("read_datum" : Str), ("_read_plain" : Str), ("_is_integer" : Str), ("_read_string" : Str)] : List Str) ++ ([("_law_bag" : Str), ("_law_take" : Str), ("_law_whole" : Str), ("_law_allowed" : Str), ("_law_integer" : Str), ("_law_string" : Str), ("_law_leaf" : Str), ("_law_grouped" : Str), ("_law_datum" : Str), ("_law_quoted" : Str)] : List Str) ++ ([("_law_note" : Str), ("_law_same" : Str), ("_law_is_datum" : Str), ("_law_string_end" : Str), ("_law_leaf_end" : Str), ("_law_is_note" : Str), ("_law_odd_note" : Str), ("_law_around" : Str), ("_law_spoiled" : Str), ("_law_is_refused" : Str)] : List Str) ++ ([("_law_is_read" : Str)] : List Str)
theorem run_false (w : World) : HandSHeadRun.RunEq R (PySem.W.view R.prog [45]) hk ob 20000 loose (w.withFollow "special-get-raises" false) := by
  intro os
  kernel_rfl
theorem run_true (w : World) : HandSHeadRun.RunEq R (PySem.W.view R.prog [45]) hk ob 20000 loose (w.withFollow "special-get-raises" true) := by
  intro os
  kernel_rfl
theorem run (w : World) : HandSHeadRun.RunEq R (PySem.W.view R.prog [45]) hk ob 20000 loose w := PySem.W.byRow2 "special-get-raises" (P := fun w => HandSHeadRun.RunEq R (PySem.W.view R.prog [45]) hk ob 20000 loose w) run_false run_true w
end K4.Hd
set_option Elab.async false
set_option linter.all false
set_option maxRecDepth 100000
set_option maxHeartbeats 4000000
namespace K4
open PySem PySem.Spec PyProof.Rows L2 M14 SX
theorem l_nl : (Str.ofString "\n").cps.toList = [10] := by decide +kernel
theorem l_open : (Str.ofString "(").cps.toList = [40] := by decide +kernel
theorem l_close : (Str.ofString ")").cps.toList = [41] := by decide +kernel
theorem l_sp : (Str.ofString " ").cps.toList = [32] := by decide +kernel
theorem l_quo : (Str.ofString "\"").cps.toList = [34] := by decide +kernel
theorem l_bs : (Str.ofString "\\").cps.toList = [92] := by decide +kernel
theorem l_minus : (Str.ofString "-").cps.toList = [45] := by decide +kernel
theorem l_zero : (Str.ofString "0").cps.toList = [48] := by decide +kernel
theorem l_empty : (Str.ofString "").cps.toList = [] := by decide +kernel
theorem l_n : (Str.ofString "n").cps.toList = [110] := by decide +kernel
theorem iteEqZ {a : List Nat} {z : Str} {A B : Prop} (h1 : a = z.cps.toList → A) (h2 : a ≠ z.cps.toList → B) : if decide (V.str (S a) = V.str z) = true then A else B :=
  iteD (fun e => h1 (by have := V.str.inj e; rw [← this])) fun e => h2 fun q => e (by rw [q, S_tl])
theorem iteNZ {a : List Nat} {z : Str} {A B : Prop} (h1 : a ≠ z.cps.toList → A) (h2 : a = z.cps.toList → B) : if (!decide (V.str (S a) = V.str z)) = true then A else B := iteN (iteEqZ h2 h1)
@[irreducible] def rLenS : List V → Hp → VK → Prop := fun xs H Q => ∃ z, xs = [.str z] ∧ z.length ≤ sizeLine ∧ Q (.int z.length) H
theorem lenS_step {a : List Nat} {H : Hp} {Q : VK} (hz : a.length ≤ 1000000) (h : Q (.int a.length) H) : rLenS [.str (S a)] H Q := by
  unfold rLenS
  exact ⟨_, rfl, big_size hz, by rw [S_len]; exact h⟩
theorem call_lenS {X : Cx} : CallR X (.builtin "len") rLenS := by unfold rLenS; exact call_len_str
@[irreducible] def rOrd : List V → Hp → VK → Prop := fun xs H Q => ∃ x, xs = [V.str x] ∧ x.length = 1 ∧ Q (V.int ↑(x.cps.getD 0 0)) H
theorem call_ordS {X : Cx} : CallR X (.builtin "ord") rOrd := by unfold rOrd; exact call_ord
theorem ordS_step {c : Nat} {H : Hp} {Q : VK} (h : Q (.int c) H) : rOrd [V.str (S [c])] H Q := by
  unfold rOrd
  exact ⟨_, rfl, rfl, h⟩
theorem all_snoc {a : List Nat} {i c : Nat} {p : Nat → Bool} (e : a[i]? = some c) (h : (a.take i).all p = true) (hc : p c = true) : (a.take (i + 1)).all p = true := by
  rw [List.take_succ, e]
  simp [hc]
  simpa using h
theorem all_no {a : List Nat} {i c : Nat} {p : Nat → Bool} (e : a[i]? = some c) (hc : p c = false) : a.all p = false := by
  rw [Bool.eq_false_iff]
  intro h
  rw [List.all_eq_true] at h
  have := h c (List.mem_of_getElem? e)
  rw [hc] at this
  cases this
theorem getS {a : List Nat} {i c : Nat} (h : (S a).cps[i]? = some c) : a[i]? = some c := by simpa using h
theorem appB_step {H : Hp} {p : Addr} {xs : List V} {v : V} {Q : VK} (hp : H p = some (.lst xs)) (hz : xs.length < 10000000) (h : ∀ H', H' p = some (.lst (xs ++ [v])) → Fr [p] H H' → Q .non H') : rxApp (.ref p) [v] H Q := by
  unfold rxApp
  exact ⟨p, xs, v, rfl, rfl, hp, Nat.lt_of_lt_of_le hz (by decide), h _ upd_same (Fr.put hp (by intro _ z; cases z))⟩
/-- the next turn of a while -/
@[irreducible] def Nx (W : Nat → L2.St → Hp → Prop) (m : Nat) (σ : L2.St) (H : Hp) : Prop := ∃ m', m' < m ∧ W m' σ H
theorem Nx.of {W : Nat → L2.St → Hp → Prop} {m : Nat} {σ : L2.St} {H : Hp} (m' : Nat) (h : m' < m) (w : W m' σ H) : Nx W m σ H := by unfold Nx; exact ⟨m', h, w⟩
theorem while_go {W : Nat → L2.St → Hp → Prop} {m : Nat} {X : (L2.St → Hp → Prop) → Prop} (h : X (Nx W m)) : ∃ N : L2.St → Hp → Prop, (∀ σ' H', N σ' H' → ∃ m', m' < m ∧ W m' σ' H') ∧ X N :=
  ⟨Nx W m, fun σ' H' n => by unfold Nx at n; exact n, h⟩
@[irreducible] def rJoinS (K : PySem.W.Frag) : V → List V → Hp → VK → Prop := fun x xs H Q => ∃ a p, ∃ ys : List Str, x = .str a ∧ xs = [.ref p] ∧ (SqL K H p (ys.map V.str) ∨ SqT K H p (ys.map V.str)) ∧ (ys.map (·.length)).sum + ys.length * a.length ≤ 16777216 ∧ Q (.str (Txt.join a ys)) H
theorem mtJoin {X : Cx} (K : PySem.W.Frag) (hK : X.K = K := by rfl) : MtR X "str.join" (rJoinS K) := by unfold rJoinS; rw [← hK]; exact mt_join
theorem join_stepS {K : PySem.W.Frag} {H : Hp} {p : Addr} {xs : List V} {sep : Str} {zs : List (List Nat)} {Q : VK} (hp : H p = some (.lst xs)) (e : xs = zs.map fun z => V.str (S z)) (hl : (zs.map (·.length)).sum + zs.length * sep.length ≤ 16777216) (h : Q (.str (S (TL.joinL sep.cps.toList zs))) H) :
    rJoinS K (.str sep) [.ref p] H Q := by
  unfold rJoinS
  refine ⟨sep, p, zs.map S, rfl, rfl, .inl (SqL.of ?_), ?_, ?_⟩
  · rw [hp, e, List.map_map]; rfl
  · rw [lens, List.length_map]; exact hl
  · have := join_S sep.cps.toList zs
    rw [S_tl] at this
    rw [this]
    exact h
@[irreducible] def rIntS : List V → Hp → VK → Prop := fun xs H Q => ∃ a n, xs = [.str a] ∧ PySem.intText? a = some n ∧ a.length ≤ 640 ∧ Q (.int n) H
theorem call_intS {X : Cx} : CallR X (.type "int") rIntS := by unfold rIntS; exact call_int_str
theorem intS_step {w : List Nat} {H : Hp} {Q : VK} (h : isInt w = true) (q : Q (.int (intOf w)) H) : rIntS [.str (S w)] H Q := by
  unfold rIntS
  obtain ⟨a, b⟩ := isInt_text h
  exact ⟨_, _, rfl, a, by rw [S_len]; exact b, q⟩
theorem okc_no {c : Nat} (h : ¬ ((32 : Int) ≤ c ∧ (c : Int) ≤ 126 ∧ (c : Int) ≠ 37)) (n : [c] ≠ [10]) : okc c = false := by
  have n' : c ≠ 10 := fun e => n (by rw [e])
  unfold okc
  simp
  omega
theorem okc_yes {c : Nat} (h : ((32 : Int) ≤ c ∧ (c : Int) ≤ 126 ∧ (c : Int) ≠ 37) ∨ [c] = [10]) : okc c = true := by
  unfold okc
  simp
  rcases h with h | h
  · omega
  · have := (List.cons.inj h).1
    omega
end K4
set_option Elab.async false
set_option linter.all false
set_option maxRecDepth 100000
set_option maxHeartbeats 4000000
namespace K4
open PySem PySem.Spec PyProof.Rows L2 M14 SX PySem.StrLaws
section
variable {P : Program} {w : World} {K : PySem.W.Frag} {mg : Str → Option Value} {base : Heap}
set_option hygiene false
local macro_rules | `(tactic| tm_at "sc") => `(tactic| (first | omega | (simp only [List.length_cons, List.length_nil, List.length_map, List.length_set, List.length_append]; omega) | (simp only [List.length_map] at h1 ⊢; omega) | (simp only [List.length_map] at c ⊢; omega) | with_reducible assumption | exact And.intro (by omega) (by omega) | exact Or.inl (And.intro (by omega) (by omega)) | exact Or.inr (And.intro (by omega) (by omega)) | decide +kernel | exact len1000 (by simp) | rfl | fail "no way"))
local macro_rules | `(tactic| tm_at "sc1") => `(tactic| (focus (simp; done)))
local macro_rules | `(tactic| tm_at "ne") => `(tactic| (first | assumption | exact Ne.symm (by assumption) | (apply Box.ne2; assumption; tm_at "hp") | (apply Ne.symm; apply Box.ne2; assumption; tm_at "hp") | (apply ne_of_none2; assumption; tm_at "hp") | (apply Ne.symm; apply ne_of_none2; assumption; tm_at "hp") | fail "no way"))
local macro_rules | `(tactic| tm_at "f0") => `(tactic| (first | assumption | (apply Fr.new; assumption) | fail "no way"))
local macro_rules | `(tactic| tm_at "hp") => `(tactic| (first | assumption | exact upd_same | (apply SqL.of; first | assumption | exact upd_same) | (apply Fr.at0; tm_at "f0"; tm_at "hp") | (apply Fr.at1n; assumption; tm_at "ne"; tm_at "hp") | (apply sqFr0; tm_at "f0"; tm_at "hp") | (apply sqFr1; assumption; tm_at "ne"; tm_at "hp") | (apply Box.fr0; tm_at "f0"; tm_at "hp") | (apply Box.fr1; assumption; tm_at "ne"; tm_at "hp") | (apply Den.fr; tm_at "f0"; tm_at "hp") | (apply Dens.fr; tm_at "f0"; tm_at "hp") | fail "no way"))
local macro_rules | `(tactic| tm_at "free0") => `(tactic| (first | assumption | (apply updFree; assumption) | (apply updFree; apply updFree; assumption) | (apply updFree; apply updFree; apply updFree; assumption) | (apply updFree; apply updFree; apply updFree; apply updFree; assumption) | fail "no way"))
local macro_rules | `(tactic| tm_at "free") => `(tactic| (first | tm_at "free0" | (apply Fr.free; assumption; tm_at "free0") | (apply Box.free; assumption; tm_at "fr"; tm_at "free0") | (apply Fr.free; assumption; apply Fr.free; assumption; tm_at "free0") | fail "no way"))
local macro_rules | `(tactic| tm_at "fr") => `(tactic| (first | assumption | exact Fr.refl0 _ | exact Fr.refl (Box.nt (by assumption)) | (refine Fr.comp0 ?_ (by tm_at "f0"); tm_at "fr") | (refine Fr.comp ?_ (by assumption); tm_at "fr") | (refine Fr.compN ?_ (by assumption) (by tm_at "free"); tm_at "fr") | fail "no way"))
local macro_rules | `(tactic| tm_at "call") => `(tactic| fail "no call")
local macro_rules | `(tactic| tm_at "call") => `(tactic| (apply take_step; tm_at "hp"; tm_at "sc"; tm_at "sc"; intro r H1 h0 h1 hB fr))
local macro_rules | `(tactic| tm_at "ty") => `(tactic| (first | assumption | exact .base .non | exact .base (.bl _) | exact .base (.int _) | exact .base (.str _) | (apply TyX.base; apply TyOf.lst; tm_at "hp") | (apply TyX.base; apply TyOf.tup; tm_at "hp") | fail "no way"))
local macro_rules | `(tactic| tm_at "pre") => `(tactic| fail "none")
local macro_rules | `(tactic| tm_at "go1") => `(tactic| (first | tm_at "pre" | refine ⟨_, rfl, ?_⟩ | refine ⟨_, _, rfl, rfl, ?_⟩ | (apply set_step; tm_at "hp"; tm_at "sc"; tm_at "sc"; intro H1 hp fr) | (with_reducible refine iteDI ?_ ?_ <;> intro c) | (with_reducible refine iteDS ?_ ?_ <;> intro c) | (with_reducible refine iteD ?_ ?_ <;> intro c) | (with_reducible refine iteEM ?_ ?_ <;> intro c) | (with_reducible refine iteE ?_ ?_ <;> intro c) | with_reducible refine iteN ?_ | with_reducible refine iteF ?_ | with_reducible refine iteT ?_ | (refine fun (p : Addr) (np : _ = (none : Option HO)) => ?_; fail_if_success (refine ⟨fun (_ _ : Nat) (_ : Hp) => True, ?_⟩)) | (apply isi_tt; tm_at "ty"; focus (decide +kernel)) | (apply isi_ff; tm_at "ty"; focus (decide +kernel)) | (apply sl_step; tm_at "hp"; intro qq H1 ms nq hq fr) | (apply sum_step; tm_at "hp"; intro i) | (apply tru_step; tm_at "hp") | (apply len_step; tm_at "hp") | (apply lenq_step; assumption) | (apply ixq_step; assumption; tm_at "sc"; tm_at "sc"; intro v hv) | (apply lst_step; tm_at "hp") | (apply tupl_step; tm_at "hp") | (apply ixr_step; tm_at "hp"; exact rfl) | (apply ix0_step; tm_at "hp") | (apply ix1_step; tm_at "hp") | (apply ix2_step; tm_at "hp") | (apply ixi_step; tm_at "hp"; tm_at "sc"; tm_at "sc"; intro n hn hn') | (apply ixl_step; tm_at "hp"; tm_at "sc"; tm_at "sc"; intro v hv) | (apply ixt_step; tm_at "hp"; tm_at "sc"; tm_at "sc"; intro v hm hv) | (apply in_step; tm_at "hp"; rfl; rfl) | (apply cat_step; tm_at "hp"; tm_at "hp"; tm_at "sc") | (apply catT_step; tm_at "hp"; tm_at "hp"; tm_at "sc1") | (apply tyL_and; tm_at "hp") | (apply app_step; tm_at "hp"; tm_at "sc"; intro H1 hp fr) | tm_at "call" | refine ⟨⟨_, rfl⟩, ?_⟩ | (apply ixs_step; tm_at "sc"; tm_at "sc"; tm_at "sc"; intro ch) | refine .inl ⟨_, rfl, ?_⟩ | refine .inr ⟨_, rfl, ?_⟩ | (apply And.intro; tm_at "sc") | (with_reducible refine wayB ?_ ?_ <;> intro c) | fail "no way"))
local macro_rules | `(tactic| tm_at "go") => `(tactic| (repeat tm_at "go1"))
local macro_rules | `(tactic| tm_at "goo") => `(tactic| (repeat' tm_at "go1"))
local macro_rules | `(tactic| tm_at "den") => `(tactic| (first | assumption | exact Den.str _ | exact Den.int _ | exact Den.bl _ | exact Den.non | (apply Den.tups; tm_at "hp"; tm_at "dens") | (apply Den.fr; tm_at "f0"; tm_at "den") | fail "no way"))
local macro_rules | `(tactic| tm_at "dens") => `(tactic| (first | assumption | exact Dens.nil | (apply Dens.cons; tm_at "den"; tm_at "dens") | (apply Dens.fr; tm_at "f0"; tm_at "dens") | fail "no way"))
local macro_rules | `(tactic| tm_at "ix") => `(tactic| (apply Ix.mk; tm_at "hp"; tm_at "ne"; assumption; assumption))
local macro_rules | `(tactic| tm_at "dep") => `(tactic| (first | assumption | exact Dep.int | exact Dep.str | exact Dep.bl | exact Dep.non | (apply Dep.tup; tm_at "dlen"; tm_at "deps") | (apply Dep.mono; assumption; decide) | fail "no way"))
local macro_rules | `(tactic| tm_at "deps") => `(tactic| (first | assumption | exact memN | (apply memC; tm_at "dep"; tm_at "deps") | fail "no way"))
local macro_rules | `(tactic| tm_at "dlen") => `(tactic| (first | assumption | (focus (simp; done)) | omega | fail "no way"))
local macro_rules | `(tactic| tm_at "pre") => `(tactic| (apply rep_step; tm_at "hp"; tm_at "sc"; tm_at "sc"; intro rp H1 nrp hrp fr))

local macro_rules | `(tactic| tm_at "lits") => `(tactic| (try simp only [l_nl, l_open, l_close, l_sp, l_quo, l_bs, l_minus, l_zero, l_empty, l_n] at c))
local macro_rules | `(tactic| tm_at "pre") => `(tactic| (first | (apply slm_step; tm_at "sc"; tm_at "sc"; tm_at "sc") | (apply slf_step; tm_at "sc"; tm_at "sc") | (apply slt_step; tm_at "sc"; tm_at "sc") | (with_reducible refine iteEqZ ?_ ?_ <;> (intro c; tm_at "lits")) | (apply catS_step; tm_at "sc") | (apply inD_step) | (apply ordS_step) | (apply intS_step; assumption) | (apply sign_step) | (apply lenS_step; tm_at "sc")))
local macro_rules | `(tactic| tm_at "pre") => `(tactic| (apply while_go))
local macro_rules | `(tactic| tm_at "pre") => `(tactic| (apply ixS_step; tm_at "sc"; tm_at "sc"; assumption))
local macro_rules | `(tactic| tm_at "pre") => `(tactic| (apply appB_step; tm_at "hp"; tm_at "sc"; intro H1 hp fr))

theorem walk_enumS {x : Str} : Walk (Itse x) x.cps.size (fun _ => True) (fun i H v H' => ∃ T c, v = .ref T ∧ H T = none ∧ H' = upd H T (.tup [.int (i : Nat), .str (S [c])]) ∧ x.cps[i]? = some c) :=
  ⟨fun _ _ hi _ => hi, fun _ _ => rfl, fun _ _ _ _ _ _ y => y⟩
@[irreducible] def OMid (a : List Nat) (H : Hp) (i : Nat) (σ : L2.St) (H' : Hp) : Prop := (∃ x1 x2 x3 x4, σ = [some (.str (S a)), x1, x2, x3, x4]) ∧ Fr [] H H' ∧ (a.take i).all okc = true
theorem OMid.of {a : List Nat} {H : Hp} {i : Nat} {x1 x2 x3 x4 : Option V} {σ : L2.St} {H' : Hp} (e : σ = [some (.str (S a)), x1, x2, x3, x4]) (f : Fr [] H H') (h : (a.take i).all okc = true) : OMid a H i σ H' := by
  unfold OMid
  exact ⟨⟨x1, x2, x3, x4, e⟩, f, h⟩
@[irreducible] def spOth : Sp := fun vs H Q _ => ∃ a : List Nat, vs = [.str (S a)] ∧ a.length ≤ 1000000 ∧ ∀ (r : Int) H', decide (r < 0) = a.all okc → Fr [] H H' → Q (.int r) H'
abbrev s_p_other_index : Stmt := top 5
theorem sc_p_other_index : FnScope ["text", "at", "sign", "code", "printed"] ["text"] (defScope s_p_other_index) := ⟨rfl, rfl, rfl, by decide +kernel, rfl, by decide +kernel, by decide +kernel⟩

theorem ok_other (T : Bl mg) (g_SPACE_CODE : GV mg "SPACE_CODE" (.int 32)) (g_TILDE_CODE : GV mg "TILDE_CODE" (.int 126)) (g_PERCENT_CODE : GV mg "PERCENT_CODE" (.int 37)) (D : Def1 K mg "other_index" s_p_other_index) : Cal P w K mg base 1 "other_index" ["text"] spOth := by
  refine D.cal sc_p_other_index (fun _ _ _ _ _ _ us hl => match us, hl with | [_], _ => rfl) (fun vs H Q E h => ?_) (fun f cdv A outer s H vs Q E hr h => ?_) <;> unfold spOth at h
  · obtain ⟨a, rfl, _⟩ := h
    rfl
  · obtain ⟨a, rfl, hz, k⟩ := h
    refine ⟨_, (pss_cons (ps_for PassesOwn.never rfl (pi_enumS (by rfl) T.z_enumerate (pa_cons (pv 0) pa_nil)) (pg_tup (by rfl) (pgs_cons (pg_name (i := 1) sc_p_other_index.nd rfl (Or.inl rfl)) (pgs_cons (pg_name (i := 2) sc_p_other_index.nd rfl (Or.inl rfl)) pgs_nil)))
      (pss_cons (ps_set (i := 3) sc_p_other_index.nd rfl (Or.inl rfl) (pe_callB call_ordS (by rfl) T.z_ord (by decide +kernel) (pa_cons (pv 2) pa_nil)))
      (pss_cons (ps_set (i := 4) sc_p_other_index.nd rfl (Or.inl rfl) (pe_and (pe_chain op_le op_le (pe_gv g_SPACE_CODE (by rfl)) (pv 3) (pe_gv g_TILDE_CODE (by rfl))) (pe_one (pe_cmpR op_ne (pv 3) (pe_gv g_PERCENT_CODE (by rfl)) (nomark _)))))
      (pss_one (ps_if (PW.pt (pw_and (pt_not (pt_val (pv 4))) (pw_and1 (pt_cmpR op_ne (pv 2) pe_str (nomark _)))))
        (pss_one (ps_ret (pv 1)))
        pss_nil)))))
    (pss_one (ps_ret (pe_un un_neg pe_int)))), ?_⟩
    refine ⟨_, rfl, _, rfl, ?_⟩
    refine for_it walk_enumS (OMid a H) (OMid.of rfl (Fr.refl0 _) rfl) (fun _ _ _ _ _ => trivial) (fun i x σ H1 H2 hi hp hy => ?_) (fun σ H1 hp => ?_)
    · unfold OMid at hp
      obtain ⟨⟨x1, x2, x3, x4, rfl⟩, f0, ha⟩ := hp
      obtain ⟨T, ch, rfl, hT, rfl, hc⟩ := hy
      have hc := getS hc
      refine ⟨T, _, rfl, SqT.of upd_same, rfl, ?_⟩
      have f1 : Fr [] H (upd H1 T (.tup [.int (i : Nat),   .str (S [ch])])) := f0.comp0 (Fr.new hT)
      refine ⟨_, _, rfl, _, _, rfl, rfl, ?_⟩
      tm_at "goo"
      all_goals first
        | exact OMid.of rfl f1 (all_snoc hc ha (okc_yes (.inl (by omega))))
        | exact OMid.of rfl f1 (all_snoc hc ha (okc_yes (.inr c)))
        | (refine k _ _ ?_ f1; rw [all_no hc (okc_no (by omega) c)]; exact decide_eq_false (by omega))
    · unfold OMid at hp
      obtain ⟨⟨x1, x2, x3, x4, rfl⟩, f0, ha⟩ := hp
      tm_at "goo"
      refine k _ _ ?_ f0
      rw [List.take_of_length_le (by simp)] at ha
      rw [ha]
      rfl
@[irreducible] def spAll : Sp := fun vs H Q _ => ∃ a : List Nat, vs = [.str (S a)] ∧ a.length ≤ 1000000 ∧ ∀ H', Fr [] H H' → Q (.bl (a.all okc)) H'
theorem oth_step {a : List Nat} {H : Hp} {Q : VK} {E : XK} (hz : a.length ≤ 1000000) (k : ∀ (r : Int) H', decide (r < 0) = a.all okc → Fr [] H H' → Q (.int r) H') : spOth ([.str (S a)] ++ []) H Q E := by
  unfold spOth
  exact ⟨a, rfl, hz, k⟩
theorem all_step {a : List Nat} {H : Hp} {Q : VK} {E : XK} (hz : a.length ≤ 1000000) (k : ∀ H', Fr [] H H' → Q (.bl (a.all okc)) H') : spAll ([.str (S a)] ++ []) H Q E := by
  unfold spAll
  exact ⟨a, rfl, hz, k⟩
local macro_rules | `(tactic| tm_at "call") => `(tactic| (apply oth_step; tm_at "sc"; intro r H1 hr2 fr))
abbrev s_p_is_allowed : Stmt := top 6
theorem sc_p_is_allowed : FnScope ["text"] ["text"] (defScope s_p_is_allowed) := ⟨rfl, rfl, rfl, by decide +kernel, rfl, by decide +kernel, by decide +kernel⟩

theorem ok_all (T : Bl mg) (G_p_other_index : Cal P w K mg base 1 "other_index" ["text"] spOth) (D : Def1 K mg "is_allowed" s_p_is_allowed) : Cal P w K mg base 2 "is_allowed" ["text"] spAll := by
  refine D.cal sc_p_is_allowed (fun _ _ _ _ _ _ us hl => match us, hl with | [_], _ => rfl) (fun vs H Q E h => ?_) (fun f cdv A outer s H vs Q E hr h => ?_) <;> unfold spAll at h
  · obtain ⟨a, rfl, _⟩ := h
    rfl
  · obtain ⟨a, rfl, hz, k⟩ := h
    refine ⟨_, (pss_one (ps_ret (pe_cmpR op_lt (pe_cal G_p_other_index (hr.mono (by omega)) (by rfl) (pa_cons (pv 0) pa_nil)) pe_int (nomark _)))), ?_⟩
    tm_at "goo"
    show Q (.bl (decide _)) _
    rw [hr2]
    exact k _ (by tm_at "fr")
/-! ### quoted -/
@[irreducible] def spQuo : Sp := fun vs H Q _ => ∃ a : List Nat, vs = [.str (S a)] ∧ a.length ≤ 100000 ∧ ∀ H', Fr [] H H' → Q (.str (S (34 :: (enc a ++ [34])))) H'
theorem quo_step {a : List Nat} {H : Hp} {Q : VK} {E : XK} (hz : a.length ≤ 100000) (k : ∀ H', Fr [] H H' → Q (.str (S (34 :: (enc a ++ [34])))) H') : spQuo ([.str (S a)] ++ []) H Q E := by
  unfold spQuo
  exact ⟨a, rfl, hz, k⟩
theorem pst_set {X : Cx} {i : Nat} {x : Str} {e : Expr} {te : TE} {pos pos' : Pos} (hN : X.N.Nodup) (hi : X.N[i]? = some x) (hx : Loc X.env.scope x) (he : PET X e te)
    (hs : swapsWith e (some (.Name x pos')) pos.line X.env = pure false := by rfl) (hf : X.fn x = true ∨ X.env.scope.names.lookup x = some .local := by first | exact .inl rfl | exact .inr rfl | assumption) :
    PST X (.Assign [.Name x pos'] e pos) (tAsg te (gName i)) := by
  intro pins s σ H D h0 I h
  refine wpAny_Assign_Name (thn (he pins s σ H _ h0 I h) fun v s1 ⟨y, H1, I1, r1, q1⟩ => ?_) hs
  exact store_ok I1 hN hi hx r1 (fun s2 I2 => ⟨_, H1, I2, q1⟩) hf
/-- one sign replaced -/
def rp1 (c : Nat) (z : List Nat) : List Nat → List Nat
  | [] => []
  | d :: r => (if d = c then z else [d]) ++ rp1 c z r
theorem replL_one (c : Nat) (z : List Nat) : ∀ l : List Nat, replL [c] z l = rp1 c z l
  | [] => replL_nil
  | d :: r => by
    have ih := replL_one c z r
    by_cases h : d = c
    · subst h
      rw [replL_hit (by simp) (by simp)]
      show z ++ replL [d] z r = _
      rw [ih, rp1, if_pos rfl]
    · rw [replL_miss (by simpa using h), ih, rp1, if_neg h]
      rfl
theorem rp1_len (c : Nat) (x y : Nat) : ∀ l : List Nat, (rp1 c [x, y] l).length ≤ 2 * l.length
  | [] => by simp [rp1]
  | d :: r => by
    have := rp1_len c x y r
    rw [rp1]
    by_cases h : d = c
    · rw [if_pos h]; simp; omega
    · rw [if_neg h]; simp; omega
theorem rp1_app (c : Nat) (z : List Nat) : ∀ a b : List Nat, rp1 c z (a ++ b) = rp1 c z a ++ rp1 c z b
  | [], b => rfl
  | d :: r, b => by rw [List.cons_append, rp1, rp1_app c z r b, rp1, List.append_assoc]
theorem enc_rp : ∀ a : List Nat, rp1 10 [92, 110] (rp1 34 [92, 34] (rp1 92 [92, 92] a)) = enc a
  | [] => rfl
  | c :: r => by
    have ih := enc_rp r
    rw [rp1, rp1_app, rp1_app, ih, enc]
    congr 1
    unfold esc
    by_cases h1 : c = 92
    · subst h1; rfl
    · rw [if_neg h1]
      by_cases h2 : c = 34
      · subst h2; rfl
      · by_cases h3 : c = 10
        · subst h3; rfl
        · rw [if_neg h3, if_neg (by omega)]
          simp [rp1, h2, h3]
theorem repl_S {a : List Nat} {y z : Str} {c : Nat} {zs : List Nat} (hy : y.cps.toList = [c]) (hz : z.cps.toList = zs) : Txt.replace (S a) y z = S (rp1 c zs a) := by
  refine TL.ext_tl ?_
  show (Txt.replace (S a) y z).cps.toList = rp1 c zs a
  rw [replace_list (by rw [← S_tl y, S_len, hy]; exact Nat.le_refl _), hy, hz]
  exact replL_one c zs a
theorem len_of {z : Str} {zs : List Nat} (h : z.cps.toList = zs) : z.length = zs.length := by rw [← S_tl z, S_len, h]
abbrev s_p_quoted : Stmt := top 7
theorem sc_p_quoted : FnScope ["text", "escaped"] ["text"] (defScope s_p_quoted) := ⟨rfl, rfl, rfl, by decide +kernel, rfl, by decide +kernel, by decide +kernel⟩

theorem ok_quo (D : Def1 K mg "quoted" s_p_quoted) : Cal P w K mg base 1 "quoted" ["text"] spQuo := by
  obtain ⟨f, fd, F, g⟩ := D
  refine ⟨f, fd, ?_, g, F.kp, F.bindsN (fun _ _ _ _ _ _ us hl => match us, hl with | [_], _ => rfl)⟩
  obtain ⟨oc, od, dV, kV, doc, pm, an, cdv, ct, osl, rfl, lk, hcd, _, _⟩ := F.ex
  refine fn_ofT lk hcd sc_p_quoted (by decide +kernel) (by decide) (fun vs H Q E h => ?_) (fun A outer s H vs Q E hr h => ?_) <;> unfold spQuo at h
  · obtain ⟨a, rfl, _⟩ := h
    rfl
  · obtain ⟨a, rfl, hz, k⟩ := h
    refine ⟨_, psst_cons (pst_set (i := 1) sc_p_quoted.nd rfl (Or.inl rfl) (CwR.pet_replT (CwR.pet_replT (CwR.pet_replC (pv 0))))) (CwR.psst_one (CwR.pst_ret (CwR.PET.of (pe_op op_catS (pe_op op_catS pe_str (pv 1)) pe_str)))), ?_⟩
    have b2 : (Str.ofString "\\\\").cps.toList = [92, 92] := by decide +kernel
    have q2 : (Str.ofString "\\\"").cps.toList = [92, 34] := by decide +kernel
    have n2 : (Str.ofString "\\n").cps.toList = [92, 110] := by decide +kernel
    have s1 := rp1_len 92 92 92 a
    have s2 := rp1_len 34 92 34 (rp1 92 [92, 92] a)
    have s3 := rp1_len 10 92 110 (rp1 34 [92, 34] (rp1 92 [92, 92] a))
    have lz : ∀ {n m z : Nat}, n ≤ m → m ≤ 400000 → z = 2 → n + (n + 1) * z ≤ 16777216 := by intro n m z h1 h2 h3; subst h3; omega
    refine ⟨_, rfl, _, rfl, by rw [S_len, len_of b2]; exact lz hz (by decide) rfl, ?_⟩
    rw [repl_S l_bs b2]
    refine ⟨_, rfl, by rw [S_len, len_of q2]; exact lz s1 (by omega) rfl, ?_⟩
    rw [repl_S l_quo q2]
    refine ⟨_, rfl, by rw [S_len, len_of n2]; exact lz s2 (by omega) rfl, ?_⟩
    rw [repl_S l_nl n2, enc_rp]
    rw [enc_rp] at s3
    have l34 : Str.ofString "\"" = S [34] := by rw [← S_tl (Str.ofString "\""), l_quo]
    refine ⟨_, rfl, ?_⟩
    rw [l34]
    tm_at "goo"
    show Q (.str (S ([34] ++ enc a ++ [34]))) _
    rw [show [34] ++ enc a ++ [34] = 34 :: (enc a ++ [34]) by simp]
    exact k _ (by tm_at "fr")
end
end K4
set_option Elab.async false
set_option linter.all false
set_option maxRecDepth 100000
set_option maxHeartbeats 4000000
namespace K4
open PySem PySem.Spec PyProof.Rows L2 M14 SX
section
variable {P : Program} {w : World} {K : PySem.W.Frag} {mg : Str → Option Value} {base : Heap}
set_option hygiene false
local macro_rules | `(tactic| tm_at "sc") => `(tactic| (first | omega | (simp only [List.length_cons, List.length_nil, List.length_map, List.length_set, List.length_append]; omega) | (simp only [List.length_map] at h1 ⊢; omega) | (simp only [List.length_map] at c ⊢; omega) | with_reducible assumption | exact And.intro (by omega) (by omega) | exact Or.inl (And.intro (by omega) (by omega)) | exact Or.inr (And.intro (by omega) (by omega)) | decide +kernel | exact len1000 (by simp) | rfl | fail "no way"))
local macro_rules | `(tactic| tm_at "sc1") => `(tactic| (focus (simp; done)))
local macro_rules | `(tactic| tm_at "ne") => `(tactic| (first | assumption | exact Ne.symm (by assumption) | (apply Box.ne2; assumption; tm_at "hp") | (apply Ne.symm; apply Box.ne2; assumption; tm_at "hp") | (apply ne_of_none2; assumption; tm_at "hp") | (apply Ne.symm; apply ne_of_none2; assumption; tm_at "hp") | fail "no way"))
local macro_rules | `(tactic| tm_at "f0") => `(tactic| (first | assumption | (apply Fr.new; assumption) | fail "no way"))
local macro_rules | `(tactic| tm_at "hp") => `(tactic| (first | assumption | exact upd_same | (apply SqL.of; first | assumption | exact upd_same) | (apply Fr.at0; tm_at "f0"; tm_at "hp") | (apply Fr.at1n; assumption; tm_at "ne"; tm_at "hp") | (apply sqFr0; tm_at "f0"; tm_at "hp") | (apply sqFr1; assumption; tm_at "ne"; tm_at "hp") | (apply Box.fr0; tm_at "f0"; tm_at "hp") | (apply Box.fr1; assumption; tm_at "ne"; tm_at "hp") | (apply Den.fr; tm_at "f0"; tm_at "hp") | (apply Dens.fr; tm_at "f0"; tm_at "hp") | fail "no way"))
local macro_rules | `(tactic| tm_at "free0") => `(tactic| (first | assumption | (apply updFree; assumption) | (apply updFree; apply updFree; assumption) | (apply updFree; apply updFree; apply updFree; assumption) | (apply updFree; apply updFree; apply updFree; apply updFree; assumption) | fail "no way"))
local macro_rules | `(tactic| tm_at "free") => `(tactic| (first | tm_at "free0" | (apply Fr.free; assumption; tm_at "free0") | (apply Box.free; assumption; tm_at "fr"; tm_at "free0") | (apply Fr.free; assumption; apply Fr.free; assumption; tm_at "free0") | fail "no way"))
local macro_rules | `(tactic| tm_at "fr") => `(tactic| (first | assumption | exact Fr.refl0 _ | exact Fr.refl (Box.nt (by assumption)) | (refine Fr.comp0 ?_ (by tm_at "f0"); tm_at "fr") | (refine Fr.comp ?_ (by assumption); tm_at "fr") | (refine Fr.compN ?_ (by assumption) (by tm_at "free"); tm_at "fr") | fail "no way"))
local macro_rules | `(tactic| tm_at "call") => `(tactic| fail "no call")
local macro_rules | `(tactic| tm_at "call") => `(tactic| (apply take_step; tm_at "hp"; tm_at "sc"; tm_at "sc"; intro r H1 h0 h1 hB fr))
local macro_rules | `(tactic| tm_at "ty") => `(tactic| (first | assumption | exact .base .non | exact .base (.bl _) | exact .base (.int _) | exact .base (.str _) | (apply TyX.base; apply TyOf.lst; tm_at "hp") | (apply TyX.base; apply TyOf.tup; tm_at "hp") | fail "no way"))
local macro_rules | `(tactic| tm_at "pre") => `(tactic| fail "none")
local macro_rules | `(tactic| tm_at "go1") => `(tactic| (first | tm_at "pre" | refine ⟨_, rfl, ?_⟩ | refine ⟨_, _, rfl, rfl, ?_⟩ | (apply set_step; tm_at "hp"; tm_at "sc"; tm_at "sc"; intro H1 hp fr) | (with_reducible refine iteDI ?_ ?_ <;> intro c) | (with_reducible refine iteDS ?_ ?_ <;> intro c) | (with_reducible refine iteD ?_ ?_ <;> intro c) | (with_reducible refine iteEM ?_ ?_ <;> intro c) | (with_reducible refine iteE ?_ ?_ <;> intro c) | with_reducible refine iteN ?_ | with_reducible refine iteF ?_ | with_reducible refine iteT ?_ | (refine fun (p : Addr) (np : _ = (none : Option HO)) => ?_; fail_if_success (refine ⟨fun (_ _ : Nat) (_ : Hp) => True, ?_⟩)) | (apply isi_tt; tm_at "ty"; focus (decide +kernel)) | (apply isi_ff; tm_at "ty"; focus (decide +kernel)) | (apply sl_step; tm_at "hp"; intro qq H1 ms nq hq fr) | (apply sum_step; tm_at "hp"; intro i) | (apply tru_step; tm_at "hp") | (apply len_step; tm_at "hp") | (apply lenq_step; assumption) | (apply ixq_step; assumption; tm_at "sc"; tm_at "sc"; intro v hv) | (apply lst_step; tm_at "hp") | (apply tupl_step; tm_at "hp") | (apply ixr_step; tm_at "hp"; exact rfl) | (apply ix0_step; tm_at "hp") | (apply ix1_step; tm_at "hp") | (apply ix2_step; tm_at "hp") | (apply ixi_step; tm_at "hp"; tm_at "sc"; tm_at "sc"; intro n hn hn') | (apply ixl_step; tm_at "hp"; tm_at "sc"; tm_at "sc"; intro v hv) | (apply ixt_step; tm_at "hp"; tm_at "sc"; tm_at "sc"; intro v hm hv) | (apply in_step; tm_at "hp"; rfl; rfl) | (apply cat_step; tm_at "hp"; tm_at "hp"; tm_at "sc") | (apply catT_step; tm_at "hp"; tm_at "hp"; tm_at "sc1") | (apply tyL_and; tm_at "hp") | (apply app_step; tm_at "hp"; tm_at "sc"; intro H1 hp fr) | tm_at "call" | refine ⟨⟨_, rfl⟩, ?_⟩ | (apply ixs_step; tm_at "sc"; tm_at "sc"; tm_at "sc"; intro ch) | refine .inl ⟨_, rfl, ?_⟩ | refine .inr ⟨_, rfl, ?_⟩ | (apply And.intro; tm_at "sc") | (with_reducible refine wayB ?_ ?_ <;> intro c) | fail "no way"))
local macro_rules | `(tactic| tm_at "go") => `(tactic| (repeat tm_at "go1"))
local macro_rules | `(tactic| tm_at "goo") => `(tactic| (repeat' tm_at "go1"))
local macro_rules | `(tactic| tm_at "den") => `(tactic| (first | assumption | exact Den.str _ | exact Den.int _ | exact Den.bl _ | exact Den.non | (apply Den.tups; tm_at "hp"; tm_at "dens") | (apply Den.fr; tm_at "f0"; tm_at "den") | fail "no way"))
local macro_rules | `(tactic| tm_at "dens") => `(tactic| (first | assumption | exact Dens.nil | (apply Dens.cons; tm_at "den"; tm_at "dens") | (apply Dens.fr; tm_at "f0"; tm_at "dens") | fail "no way"))
local macro_rules | `(tactic| tm_at "ix") => `(tactic| (apply Ix.mk; tm_at "hp"; tm_at "ne"; assumption; assumption))
local macro_rules | `(tactic| tm_at "dep") => `(tactic| (first | assumption | exact Dep.int | exact Dep.str | exact Dep.bl | exact Dep.non | (apply Dep.tup; tm_at "dlen"; tm_at "deps") | (apply Dep.mono; assumption; decide) | fail "no way"))
local macro_rules | `(tactic| tm_at "deps") => `(tactic| (first | assumption | exact memN | (apply memC; tm_at "dep"; tm_at "deps") | fail "no way"))
local macro_rules | `(tactic| tm_at "dlen") => `(tactic| (first | assumption | (focus (simp; done)) | omega | fail "no way"))
local macro_rules | `(tactic| tm_at "pre") => `(tactic| (apply rep_step; tm_at "hp"; tm_at "sc"; tm_at "sc"; intro rp H1 nrp hrp fr))

local macro_rules | `(tactic| tm_at "lits") => `(tactic| (try simp only [l_nl, l_open, l_close, l_sp, l_quo, l_bs, l_minus, l_zero, l_empty, l_n] at c))
local macro_rules | `(tactic| tm_at "pre") => `(tactic| (first | (apply slm_step; tm_at "sc"; tm_at "sc"; tm_at "sc") | (apply slf_step; tm_at "sc"; tm_at "sc") | (apply slt_step; tm_at "sc"; tm_at "sc") | (with_reducible refine iteEqZ ?_ ?_ <;> (intro c; tm_at "lits")) | (apply catS_step; tm_at "sc") | (apply inD_step) | (apply ordS_step) | (apply intS_step; assumption) | (apply sign_step) | (apply lenS_step; tm_at "sc")))
local macro_rules | `(tactic| tm_at "pre") => `(tactic| (apply while_go))
local macro_rules | `(tactic| tm_at "pre") => `(tactic| (apply ixS_step; tm_at "sc"; tm_at "sc"; assumption))
local macro_rules | `(tactic| tm_at "pre") => `(tactic| (apply appB_step; tm_at "hp"; tm_at "sc"; intro H1 hp fr))

theorem fin_of {b c : Bool} {Q : VK} {H : Hp} (e : b = c) (h : Q (.bl b) H) : Q (.bl c) H := by rw [← e]; exact h
@[irreducible] def rSign (neg : Bool) : R2 := fun x y H Q => ∃ (c : Nat) (z : Str), x = .str (S [c]) ∧ y = .str z ∧ Q (.bl (neg != decide (c ∈ z.cps.toList))) H
theorem op_inG {X : Cx} : OpR X (compareOp .In) (rSign false) := by
  unfold rSign
  intro pins s σ H x y v u Q I rx ry h
  obtain ⟨c, z, rfl, rfl, q⟩ := h
  exact op_in_sign pins s σ H _ _ v u Q I rx ry ⟨c, z, rfl, rfl, by simpa using q⟩
theorem op_notInG {X : Cx} : OpR X (compareOp .NotIn) (rSign true) := by
  unfold rSign
  intro pins s σ H x y v u Q I rx ry h
  obtain ⟨c, z, rfl, rfl, q⟩ := h
  exact op_notIn_sign pins s σ H _ _ v u Q I rx ry ⟨c, z, rfl, rfl, by simpa using q⟩
theorem sign_step {neg : Bool} {c : Nat} {z : Str} {H : Hp} {Q : VK} (h : Q (.bl (neg != decide (c ∈ z.cps.toList))) H) : rSign neg (.str (S [c])) (.str z) H Q := by
  unfold rSign
  exact ⟨c, z, rfl, rfl, h⟩
abbrev zDig : Str := Str.ofString "0123456789"
theorem dig_in {c : Nat} : decide (c ∈ zDig.cps.toList) = isDig c := by
  have e : zDig.cps.toList = [48, 49, 50, 51, 52, 53, 54, 55, 56, 57] := by decide +kernel
  rw [e]
  unfold isDig
  rw [Bool.eq_iff_iff]
  simp
  omega
@[irreducible] def IMid (a : List Nat) (H : Hp) (σ : L2.St) (H' : Hp) : Prop := (∃ x, σ = [some (.str (S a)), some (.str (S (digs a))), x]) ∧ Fr [] H H'
theorem IMid.of {a d : List Nat} {H : Hp} {x : Option V} {σ : L2.St} {H' : Hp} (e : σ = [some (.str (S a)), some (.str (S d)), x]) (ed : d = digs a) (f : Fr [] H H') : IMid a H σ H' := by
  unfold IMid
  subst ed
  exact ⟨⟨x, e⟩, f⟩
@[irreducible] def ILp (a : List Nat) (H : Hp) (i : Nat) (σ : L2.St) (H' : Hp) : Prop := IMid a H σ H' ∧ ((digs a).take i).all isDig = true
@[irreducible] def spIsi : Sp := fun vs H Q _ => ∃ a : List Nat, vs = [.str (S a)] ∧ a.length ≤ 1000000 ∧ ∀ H', Fr [] H H' → Q (.bl (isInt a)) H'
theorem isint_step {a : List Nat} {H : Hp} {Q : VK} {E : XK} (hz : a.length ≤ 1000000) (k : ∀ H', Fr [] H H' → Q (.bl (isInt a)) H') : spIsi ([.str (S a)] ++ []) H Q E := by
  unfold spIsi
  exact ⟨a, rfl, hz, k⟩
theorem digs_len (a : List Nat) : (digs a).length ≤ a.length := by
  unfold digs
  split
  · simp
  · exact Nat.le_refl _
theorem digs_yes {a : List Nat} (h : a.take 1 = [45]) : digs a = a.drop 1 := by
  unfold digs
  cases a with
  | nil => cases h
  | cons c r =>
    simp at h
    subst h
    rfl
theorem digs_no {a : List Nat} (h : a.take 1 ≠ [45]) : digs a = a := by
  unfold digs
  cases a with
  | nil => rfl
  | cons c r =>
    simp at h
    rw [if_neg (by simpa using h)]
theorem isInt_len0 {a : List Nat} (h : ((digs a).length : Int) = 0) : isInt a = false := by
  have : digs a = [] := List.eq_nil_of_length_eq_zero (by omega)
  unfold isInt
  rw [this]
  rfl
theorem isInt_len80 {a : List Nat} (h : (80 : Int) < ((digs a).length : Int)) : isInt a = false := by
  unfold isInt
  have : decide ((digs a).length ≤ 80) = false := decide_eq_false (by omega)
  rw [this]
  simp
theorem isInt_bad {a : List Nat} (h : (digs a).all isDig = false) : isInt a = false := by
  unfold isInt
  rw [h]
  simp
theorem isInt_end {a : List Nat} {c : Nat} {r : List Nat} (e : digs a = c :: r) (h1 : (digs a).length ≤ 80) (h2 : (digs a).all isDig = true) : isInt a = (decide ([c] ≠ [48]) || decide (a = [48])) := by
  unfold isInt
  rw [h2, decide_eq_true h1, e]
  simp
theorem drop_get {a : List Nat} {i c : Nat} (h : a[i]? = some c) : a.drop i = c :: a.drop (i + 1) := by
  obtain ⟨hi, e⟩ := List.getElem?_eq_some_iff.mp h
  rw [List.drop_eq_getElem_cons hi, e]
abbrev s_p_is_integer : Stmt := top 21
theorem sc_p_is_integer : FnScope ["word", "digits", "digit"] ["word"] (defScope s_p_is_integer) := ⟨rfl, rfl, rfl, by decide +kernel, rfl, by decide +kernel, by decide +kernel⟩

theorem ok_isint (T : Bl mg) (g_DIGITS : GV mg "DIGITS" (.str zDig)) (g_MOST_DIGITS : GV mg "MOST_DIGITS" (.int 80)) (D : Def1 K mg "_is_integer" s_p_is_integer) : Cal P w K mg base 1 "_is_integer" ["word"] spIsi := by
  refine D.cal sc_p_is_integer (fun _ _ _ _ _ _ us hl => match us, hl with | [_], _ => rfl) (fun vs H Q E h => ?_) (fun f cdv A outer s H vs Q E hr h => ?_) <;> unfold spIsi at h
  · obtain ⟨a, rfl, _⟩ := h
    rfl
  · obtain ⟨a, rfl, hz, k⟩ := h
    refine ⟨_, (C8.pss_cut (ps_set (i := 1) sc_p_is_integer.nd rfl (Or.inl rfl) (pe_ifExp (pt_cmpR op_eq (pe_slice slS (pv 0) po_none (po_some pe_int)) pe_str (nomark _)) (pe_slice slS (pv 0) (po_some pe_int) po_none) (pv 0)))
    (pss_cons (ps_if (PW.pt (pw_or (pt_cmpR op_eq (pe_callB call_lenS (by rfl) T.z_len (by decide +kernel) (pa_cons (pv 1) pa_nil)) pe_int (nomark _)) (pw_or1 (pt_cmpR op_gt (pe_callB call_lenS (by rfl) T.z_len (by decide +kernel) (pa_cons (pv 1) pa_nil)) (pe_gv g_MOST_DIGITS (by rfl)) (nomark _)))))
      (pss_one (ps_ret pe_bl))
      pss_nil)
    (pss_cons (ps_for PassesOwn.never rfl (pi_str (pv 1)) (pg_name (i := 2) sc_p_is_integer.nd rfl (Or.inl rfl))
      (pss_one (ps_if (pt_cmpR op_notInG (pv 2) (pe_gv g_DIGITS (by rfl)) (by rfl))
        (pss_one (ps_ret pe_bl))
        pss_nil)))
    (pss_one (ps_ret (pe_or (pe_cmpR op_ne (pe_ix ixS (pv 1) pe_int (fun _ _ => rfl)) pe_str (nomark _)) (pe_one (pe_cmpR op_eq (pv 0) pe_str (nomark _))))))))), ?_⟩
    refine ⟨IMid a H, ?_, fun σ' H' hm => ?_⟩
    · tm_at "goo"
      · exact IMid.of rfl (digs_yes c).symm (Fr.refl0 _)
      · exact IMid.of rfl (digs_no c).symm (Fr.refl0 _)
    · unfold IMid at hm
      obtain ⟨⟨x, rfl⟩, f0⟩ := hm
      have dl := digs_len a
      tm_at "goo"
      · exact fin_of (isInt_len0 c) (k _ f0)
      · exact fin_of (isInt_len80 c) (k _ f0)
      · rename_i c0
        have dn : digs a ≠ [] := fun e => c0 (by rw [e]; rfl)
        refine for_it walk_str (ILp a H) (by unfold ILp; exact ⟨IMid.of rfl rfl f0, rfl⟩) (fun _ _ _ _ _ => trivial) (fun i x σ H1 H2 hi hp hy => ?_) (fun σ H1 hp => ?_)
        · unfold ILp IMid at hp
          obtain ⟨⟨⟨x2, rfl⟩, f1⟩, ha⟩ := hp
          obtain ⟨rfl, ch, hc, rfl⟩ := hy
          have hc := getS hc
          show tIfS _ _ _ _ _ _
          tm_at "goo"
          · rw [dig_in] at c
            exact fin_of (isInt_bad (all_no hc (by simpa using c))) (k _ f1)
          · rw [dig_in] at c
            show ILp a H (i + 1) _ _
            unfold ILp
            exact ⟨IMid.of rfl rfl f1, all_snoc hc ha (by simpa using c)⟩
        · unfold ILp IMid at hp
          obtain ⟨⟨⟨x2, rfl⟩, f1⟩, ha⟩ := hp
          rw [List.take_of_length_le (by simp)] at ha
          obtain ⟨d0, r0, ed⟩ := List.exists_cons_of_ne_nil dn
          have h0 : (digs a)[(0 : Int).toNat]? = some d0 := by rw [ed]; rfl
          refine ⟨_, rfl, ?_⟩
          refine ixS_step (by omega) (by omega) h0 ?_
          have e := isInt_end ed (by omega) ha
          tm_at "goo"
          · refine fin_of ?_ (k _ f1)
            rw [e, decide_eq_false (by simpa using c), Bool.false_or]
            exact decide_eq_decide.mpr ⟨fun h => by rw [h, ← S_tl (Str.ofString "0"), l_zero], fun h => by rw [← S_tl (Str.ofString "0"), l_zero, strEq] at h; exact h⟩
          · refine fin_of ?_ (k _ f1)
            rw [e, decide_eq_true c]
            rfl
end
end K4
set_option Elab.async false
set_option linter.all false
set_option maxRecDepth 100000
set_option maxHeartbeats 4000000
namespace K4
open PySem PySem.Spec PyProof.Rows L2 M14 SX
section
variable {P : Program} {w : World} {K : PySem.W.Frag} {mg : Str → Option Value} {base : Heap}
set_option hygiene false
local macro_rules | `(tactic| tm_at "sc") => `(tactic| (first | omega | (simp only [List.length_cons, List.length_nil, List.length_map, List.length_set, List.length_append]; omega) | (simp only [List.length_map] at h1 ⊢; omega) | (simp only [List.length_map] at c ⊢; omega) | with_reducible assumption | exact And.intro (by omega) (by omega) | exact Or.inl (And.intro (by omega) (by omega)) | exact Or.inr (And.intro (by omega) (by omega)) | decide +kernel | exact len1000 (by simp) | rfl | fail "no way"))
local macro_rules | `(tactic| tm_at "sc1") => `(tactic| (focus (simp; done)))
local macro_rules | `(tactic| tm_at "ne") => `(tactic| (first | assumption | exact Ne.symm (by assumption) | (apply Box.ne2; assumption; tm_at "hp") | (apply Ne.symm; apply Box.ne2; assumption; tm_at "hp") | (apply ne_of_none2; assumption; tm_at "hp") | (apply Ne.symm; apply ne_of_none2; assumption; tm_at "hp") | fail "no way"))
local macro_rules | `(tactic| tm_at "f0") => `(tactic| (first | assumption | (apply Fr.new; assumption) | fail "no way"))
local macro_rules | `(tactic| tm_at "hp") => `(tactic| (first | assumption | exact upd_same | (apply SqL.of; first | assumption | exact upd_same) | (apply Fr.at0; tm_at "f0"; tm_at "hp") | (apply Fr.at1n; assumption; tm_at "ne"; tm_at "hp") | (apply sqFr0; tm_at "f0"; tm_at "hp") | (apply sqFr1; assumption; tm_at "ne"; tm_at "hp") | (apply Box.fr0; tm_at "f0"; tm_at "hp") | (apply Box.fr1; assumption; tm_at "ne"; tm_at "hp") | (apply Den.fr; tm_at "f0"; tm_at "hp") | (apply Dens.fr; tm_at "f0"; tm_at "hp") | fail "no way"))
local macro_rules | `(tactic| tm_at "free0") => `(tactic| (first | assumption | (apply updFree; assumption) | (apply updFree; apply updFree; assumption) | (apply updFree; apply updFree; apply updFree; assumption) | (apply updFree; apply updFree; apply updFree; apply updFree; assumption) | fail "no way"))
local macro_rules | `(tactic| tm_at "free") => `(tactic| (first | tm_at "free0" | (apply Fr.free; assumption; tm_at "free0") | (apply Box.free; assumption; tm_at "fr"; tm_at "free0") | (apply Fr.free; assumption; apply Fr.free; assumption; tm_at "free0") | fail "no way"))
local macro_rules | `(tactic| tm_at "fr") => `(tactic| (first | assumption | exact Fr.refl0 _ | exact Fr.refl (Box.nt (by assumption)) | (refine Fr.comp0 ?_ (by tm_at "f0"); tm_at "fr") | (refine Fr.comp ?_ (by assumption); tm_at "fr") | (refine Fr.compN ?_ (by assumption) (by tm_at "free"); tm_at "fr") | fail "no way"))
local macro_rules | `(tactic| tm_at "call") => `(tactic| fail "no call")
local macro_rules | `(tactic| tm_at "call") => `(tactic| (apply take_step; tm_at "hp"; tm_at "sc"; tm_at "sc"; intro r H1 h0 h1 hB fr))
local macro_rules | `(tactic| tm_at "ty") => `(tactic| (first | assumption | exact .base .non | exact .base (.bl _) | exact .base (.int _) | exact .base (.str _) | (apply TyX.base; apply TyOf.lst; tm_at "hp") | (apply TyX.base; apply TyOf.tup; tm_at "hp") | fail "no way"))
local macro_rules | `(tactic| tm_at "pre") => `(tactic| fail "none")
local macro_rules | `(tactic| tm_at "go1") => `(tactic| (first | tm_at "pre" | refine ⟨_, rfl, ?_⟩ | refine ⟨_, _, rfl, rfl, ?_⟩ | (apply set_step; tm_at "hp"; tm_at "sc"; tm_at "sc"; intro H1 hp fr) | (with_reducible refine iteDI ?_ ?_ <;> intro c) | (with_reducible refine iteDS ?_ ?_ <;> intro c) | (with_reducible refine iteD ?_ ?_ <;> intro c) | (with_reducible refine iteEM ?_ ?_ <;> intro c) | (with_reducible refine iteE ?_ ?_ <;> intro c) | with_reducible refine iteN ?_ | with_reducible refine iteF ?_ | with_reducible refine iteT ?_ | (refine fun (p : Addr) (np : _ = (none : Option HO)) => ?_; fail_if_success (refine ⟨fun (_ _ : Nat) (_ : Hp) => True, ?_⟩)) | (apply isi_tt; tm_at "ty"; focus (decide +kernel)) | (apply isi_ff; tm_at "ty"; focus (decide +kernel)) | (apply sl_step; tm_at "hp"; intro qq H1 ms nq hq fr) | (apply sum_step; tm_at "hp"; intro i) | (apply tru_step; tm_at "hp") | (apply len_step; tm_at "hp") | (apply lenq_step; assumption) | (apply ixq_step; assumption; tm_at "sc"; tm_at "sc"; intro v hv) | (apply lst_step; tm_at "hp") | (apply tupl_step; tm_at "hp") | (apply ixr_step; tm_at "hp"; exact rfl) | (apply ix0_step; tm_at "hp") | (apply ix1_step; tm_at "hp") | (apply ix2_step; tm_at "hp") | (apply ixi_step; tm_at "hp"; tm_at "sc"; tm_at "sc"; intro n hn hn') | (apply ixl_step; tm_at "hp"; tm_at "sc"; tm_at "sc"; intro v hv) | (apply ixt_step; tm_at "hp"; tm_at "sc"; tm_at "sc"; intro v hm hv) | (apply in_step; tm_at "hp"; rfl; rfl) | (apply cat_step; tm_at "hp"; tm_at "hp"; tm_at "sc") | (apply catT_step; tm_at "hp"; tm_at "hp"; tm_at "sc1") | (apply tyL_and; tm_at "hp") | (apply app_step; tm_at "hp"; tm_at "sc"; intro H1 hp fr) | tm_at "call" | refine ⟨⟨_, rfl⟩, ?_⟩ | (apply ixs_step; tm_at "sc"; tm_at "sc"; tm_at "sc"; intro ch) | refine .inl ⟨_, rfl, ?_⟩ | refine .inr ⟨_, rfl, ?_⟩ | (apply And.intro; tm_at "sc") | (with_reducible refine wayB ?_ ?_ <;> intro c) | fail "no way"))
local macro_rules | `(tactic| tm_at "go") => `(tactic| (repeat tm_at "go1"))
local macro_rules | `(tactic| tm_at "goo") => `(tactic| (repeat' tm_at "go1"))
local macro_rules | `(tactic| tm_at "den") => `(tactic| (first | assumption | exact Den.str _ | exact Den.int _ | exact Den.bl _ | exact Den.non | (apply Den.tups; tm_at "hp"; tm_at "dens") | (apply Den.fr; tm_at "f0"; tm_at "den") | fail "no way"))
local macro_rules | `(tactic| tm_at "dens") => `(tactic| (first | assumption | exact Dens.nil | (apply Dens.cons; tm_at "den"; tm_at "dens") | (apply Dens.fr; tm_at "f0"; tm_at "dens") | fail "no way"))
local macro_rules | `(tactic| tm_at "ix") => `(tactic| (apply Ix.mk; tm_at "hp"; tm_at "ne"; assumption; assumption))
local macro_rules | `(tactic| tm_at "dep") => `(tactic| (first | assumption | exact Dep.int | exact Dep.str | exact Dep.bl | exact Dep.non | (apply Dep.tup; tm_at "dlen"; tm_at "deps") | (apply Dep.mono; assumption; decide) | fail "no way"))
local macro_rules | `(tactic| tm_at "deps") => `(tactic| (first | assumption | exact memN | (apply memC; tm_at "dep"; tm_at "deps") | fail "no way"))
local macro_rules | `(tactic| tm_at "dlen") => `(tactic| (first | assumption | (focus (simp; done)) | omega | fail "no way"))
local macro_rules | `(tactic| tm_at "pre") => `(tactic| (apply rep_step; tm_at "hp"; tm_at "sc"; tm_at "sc"; intro rp H1 nrp hrp fr))

local macro_rules | `(tactic| tm_at "lits") => `(tactic| (try simp only [l_nl, l_open, l_close, l_sp, l_quo, l_bs, l_minus, l_zero, l_empty, l_n] at c))
local macro_rules | `(tactic| tm_at "pre") => `(tactic| (first | (apply slm_step; tm_at "sc"; tm_at "sc"; tm_at "sc") | (apply slf_step; tm_at "sc"; tm_at "sc") | (apply slt_step; tm_at "sc"; tm_at "sc") | (with_reducible refine iteEqZ ?_ ?_ <;> (intro c; tm_at "lits")) | (apply catS_step; tm_at "sc") | (apply inD_step) | (apply ordS_step) | (apply intS_step; assumption) | (apply sign_step) | (apply lenS_step; tm_at "sc")))
local macro_rules | `(tactic| tm_at "pre") => `(tactic| (apply while_go))
local macro_rules | `(tactic| tm_at "pre") => `(tactic| (apply ixS_step; tm_at "sc"; tm_at "sc"; assumption))
local macro_rules | `(tactic| tm_at "pre") => `(tactic| (apply appB_step; tm_at "hp"; tm_at "sc"; intro H1 hp fr))

local macro_rules | `(tactic| tm_at "call") => `(tactic| (apply all_step; tm_at "sc"; intro H1 fr))
def fEsc (z : Str) : Option V := match z.cps.toList with
  | [e] => if isE e = true then some (.str (S [dec e])) else none
  | _ => none
theorem fEsc_no {q : List Nat} (h : (fEsc (S (q.take 1))).isSome = false) : ∀ e, q.take 1 = [e] → isE e = false := by
  intro e he
  rw [he] at h
  cases hh : isE e with
  | false => rfl
  | true => simp [fEsc, hh] at h
theorem fEsc_yes {q : List Nat} (h : (fEsc (S (q.take 1))).isSome = true) : ∃ e r, q = e :: r ∧ isE e = true ∧ fEsc (S [e]) = some (.str (S [dec e])) := by
  cases q with
  | nil => simp [fEsc] at h
  | cons e r =>
    have hh : isE e = true := by
      cases hh : isE e with
      | true => rfl
      | false => simp [fEsc, hh] at h
    exact ⟨e, r, rfl, hh, by simp [fEsc, hh]⟩
/-- the signs of a list of texts of one sign -/
def chs (ds : List Nat) : List V := ds.map fun c => V.str (S [c])
theorem chs_snoc (ds : List Nat) (c : Nat) : chs ds ++ [V.str (S [c])] = chs (ds ++ [c]) := by simp [chs]
theorem chs_len (ds : List Nat) : (chs ds).length = ds.length := by simp [chs]
theorem joinL_ones : ∀ ds : List Nat, TL.joinL [] (ds.map fun c => [c]) = ds
  | [] => rfl
  | [c] => rfl
  | c :: d :: r => by
    have := joinL_ones (d :: r)
    show [c] ++ ([] ++ TL.joinL [] ((d :: r).map fun c => [c])) = _
    rw [this]
    rfl
theorem ones_sum : ∀ ds : List Nat, ((ds.map fun c => [c]).map (·.length)).sum = ds.length
  | [] => rfl
  | c :: r => by
    rw [List.map_cons, List.map_cons, List.sum_cons, ones_sum r, List.length_cons]
    exact Nat.add_comm _ _
theorem join_chs {K : PySem.W.Frag} {H : Hp} {p : Addr} {ds : List Nat} {Q : VK} (hp : H p = some (.lst (chs ds))) (hl : ds.length ≤ 1000000) (h : Q (.str (S ds)) H) : rJoinS K (.str (Str.ofString "")) [.ref p] H Q := by
  refine join_stepS (zs := ds.map fun c => [c]) hp (by rw [List.map_map]; rfl) ?_ ?_
  · have e0 : (Str.ofString "").length = 0 := by decide +kernel
    rw [ones_sum, e0]; omega
  · rw [l_empty, joinL_ones]
    exact h
theorem rs_plain {c : Nat} {r : List Nat} (h1 : c ≠ 34) (h2 : c ≠ 92) : rs (c :: r) = (rs r).map fun x => (c :: x.1, x.2 + 1) := by
  cases r with
  | nil => unfold rs; rw [if_neg h1, if_neg h2]; rfl
  | cons e r => conv => lhs; unfold rs
                rw [if_neg h1, if_neg h2]
theorem rs_esc {e : Nat} {r : List Nat} (h : isE e = true) : rs (92 :: e :: r) = (rs r).map fun x => (dec e :: x.1, x.2 + 2) := by
  conv => lhs; unfold rs
  rw [if_neg (by decide), if_pos rfl, if_pos h]
theorem rs_bad {r : List Nat} (h : ∀ e, r.take 1 = [e] → isE e = false) : rs (92 :: r) = none := by
  cases r with
  | nil => rfl
  | cons e r =>
    conv => lhs; unfold rs
    have := h e rfl
    rw [if_neg (by decide), if_pos rfl, if_neg (by rw [this]; decide)]
theorem rs_end {r : List Nat} (h : r = [] ∨ r.head? = some 34) : rs r = some ([], 0) := by
  rcases h with rfl | h
  · rfl
  · obtain ⟨q, rfl⟩ : ∃ q, r = 34 :: q := by
      cases r with
      | nil => cases h
      | cons c q => exact ⟨q, by simp at h; rw [h]⟩
    cases q <;> rfl
theorem raw_eq {a : List Nat} {n k : Nat} {z : Int} (hn : a[n]? = some 34) (hk : n + 1 + k ≤ a.length) (ez : z = ((n + 1 + k : Nat) : Int)) : List.take (z - n).toNat (List.drop (n : Int).toNat a) = 34 :: (a.drop (n + 1)).take k := by
  rw [show (z - n).toNat = k + 1 by omega, show (n : Int).toNat = n from rfl, drop_get hn]
  rfl
theorem raw10 {a : List Nat} {n k : Nat} {z : Int} (hn : a[n]? = some 34) (hk : n + 1 + k ≤ a.length) (ez : z = ((n + 1 + k : Nat) : Int)) (h : 10 ∈ List.take (z - n).toNat (List.drop (n : Int).toNat a)) : 10 ∈ (a.drop (n + 1)).take k := by
  rw [raw_eq hn hk ez] at h
  rcases List.mem_cons.mp h with h | h
  · cases h
  · exact h
theorem raw10' {a : List Nat} {n k : Nat} {z : Int} (hn : a[n]? = some 34) (hk : n + 1 + k ≤ a.length) (ez : z = ((n + 1 + k : Nat) : Int)) (h : 10 ∈ (a.drop (n + 1)).take k) : 10 ∈ List.take (z - n).toNat (List.drop (n : Int).toNat a) := by
  rw [raw_eq hn hk ez]
  exact List.mem_cons_of_mem _ h
/-- the state of the walk over a text -/
@[irreducible] def RW (a : List Nat) (n : Nat) (H : Hp) (p : Addr) (m : Nat) (σ : L2.St) (H' : Hp) : Prop :=
  ∃ (ds : List Nat) (k : Nat) (z : Int) (x : Option V), σ = [some (.str (S a)), some (.int (n : Nat)), some (.ref p), some (.int z), x] ∧ z = ((n + 1 + k : Nat) : Int) ∧ n + 1 + k ≤ a.length ∧ m = a.length - (n + 1 + k) ∧
    Fr [] H H' ∧ H' p = some (.lst (chs ds)) ∧ ds.length ≤ k ∧ rs (a.drop (n + 1)) = (rs (a.drop (n + 1 + k))).map fun x => (ds ++ x.1, k + x.2)
@[irreducible] def RE (a : List Nat) (n : Nat) (H : Hp) (p : Addr) (σ : L2.St) (H' : Hp) : Prop :=
  ∃ (ds : List Nat) (k : Nat) (z : Int) (x : Option V), σ = [some (.str (S a)), some (.int (n : Nat)), some (.ref p), some (.int z), x] ∧ z = ((n + 1 + k : Nat) : Int) ∧ n + 1 + k ≤ a.length ∧
    Fr [] H H' ∧ H' p = some (.lst (chs ds)) ∧ ds.length ≤ k ∧ rs (a.drop (n + 1)) = some (ds, k)
@[irreducible] def spRst (C : Addr) : Sp := fun vs H Q E => ∃ (a : List Nat) (n : Nat), vs = [.str (S a), .int n] ∧ a.length ≤ 1000000 ∧ a[n]? = some 34 ∧
  (∀ d k, strP (a.drop (n + 1)) = some (d, k) → ∀ p H', H p = none → H' p = some (.tup [.str (S d), .int ((n + k + 2 : Nat) : Int)]) → Fr [] H H' → Q (.ref p) H') ∧
  (strP (a.drop (n + 1)) = none → ∀ H', Fr [] H H' → E (.ref C) none H')
set_option pp.deepTerms false
set_option pp.deepTerms.threshold 3
abbrev s_p_read_string : Stmt := top 22
theorem sc_p_read_string : FnScope ["text", "at", "parts", "stop", "string"] ["text", "at"] (defScope s_p_read_string) := ⟨rfl, rfl, rfl, by decide +kernel, rfl, by decide +kernel, by decide +kernel⟩

theorem ok_rst {C dE : Addr} (T : Bl mg) (X_BadDatum : XC K mg "BadDatum" C) (g_ESCAPES : GV mg "ESCAPES" (.ref dE)) (D_ESCAPES : KD K w dE fEsc) (G_p_is_allowed : Cal P w K mg base 2 "is_allowed" ["text"] spAll) (D : Def1 K mg "_read_string" s_p_read_string) : CalX P w K mg base 3 "_read_string" ["text", "at"] (spRst C) := by
  refine D.calX sc_p_read_string (fun _ _ _ _ _ _ us hl => match us, hl with | [_, _], _ => rfl) (fun vs H Q E h => ?_) (fun f cdv A outer s H vs Q E hr h => ?_) <;> unfold spRst at h
  · obtain ⟨a, n, rfl, _⟩ := h
    rfl
  · obtain ⟨a, n, rfl, hz, hn, kq, ke⟩ := h
    have hn1 : n < a.length := (List.getElem?_eq_some_iff.mp hn).1
    refine ⟨_, (pss_cons (ps_set (i := 2) sc_p_read_string.nd rfl (Or.inl rfl) (pe_lst pa_nil))
    (pss_cons (ps_set (i := 3) sc_p_read_string.nd rfl (Or.inl rfl) (pe_op op_add (pv 1) pe_int))
    (C8.pss_cut (ps_while (passes_of rfl) (PW.pt (pw_and (pt_cmpR op_lt (pv 3) (pe_callB call_lenS (by rfl) T.z_len (by decide +kernel) (pa_cons (pv 0) pa_nil)) (nomark _)) (pw_and1 (pt_cmpR op_ne (pe_ix ixS (pv 0) (pv 3) (fun _ _ => rfl)) pe_str (nomark _)))))
      (pss_one (ps_if (pt_cmpR op_ne (pe_ix ixS (pv 0) (pv 3) (fun _ _ => rfl)) pe_str (nomark _))
        (pss_cons (ps_expr (pe_bm PySem.F.plainAttrs_list PySem.F.slot_list_append PySem.F.type_list_append mtApp (pv 2) (pa_cons (pe_ix ixS (pv 0) (pv 3) (fun _ _ => rfl)) pa_nil)))
        (pss_one (ps_aug (i := 3) sc_p_read_string.nd rfl (Or.inl rfl) pe_int ip_add)))
        (pss_one (ps_if (pt_cmpR (opNotInD D_ESCAPES) (pe_slice slS (pv 0) (po_some (pe_op op_add (pv 3) pe_int)) (po_some (pe_op op_add (pv 3) pe_int))) (pe_gv g_ESCAPES (by rfl)) (by rfl))
          (pss_one (ps_raise0 X_BadDatum rfl takesE (by rfl)))
          (pss_cons (ps_expr (pe_bm PySem.F.plainAttrs_list PySem.F.slot_list_append PySem.F.type_list_append mtApp (pv 2) (pa_cons (pe_ix (ixK D_ESCAPES) (pe_gv g_ESCAPES (by rfl)) (pe_ix ixS (pv 0) (pe_op op_add (pv 3) pe_int) (fun _ _ => rfl)) (fun _ _ => rfl)) pa_nil)))
          (pss_one (ps_aug (i := 3) sc_p_read_string.nd rfl (Or.inl rfl) pe_int ip_add))))))))
    (pss_cons (ps_set (i := 4) sc_p_read_string.nd rfl (Or.inl rfl) (pe_m1 PySem.F.slot_str_join PySem.F.type_str_join (mtJoin K) pe_str (pv 2)))
    (pss_cons (ps_if (PW.pt (pw_or (pt_cmpR op_ge (pv 3) (pe_callB call_lenS (by rfl) T.z_len (by decide +kernel) (pa_cons (pv 0) pa_nil)) (nomark _)) (pw_or (pt_cmpR op_inG pe_str (pe_slice slS (pv 0) (po_some (pv 1)) (po_some (pv 3))) (by rfl)) (pw_or1 (pt_not (pt_val (pe_cal G_p_is_allowed (hr.mono (by omega)) (by rfl) (pa_cons (pv 4) pa_nil))))))))
      (pss_one (ps_raise0 X_BadDatum rfl takesE (by rfl)))
      pss_nil)
    (pss_one (ps_ret (pe_tup (pa_cons (pv 4) (pa_cons (pe_op op_add (pv 3) pe_int) pa_nil)))))))))), ?_⟩
    tm_at "goo"
    have f1 : Fr [] H (upd H p (.lst [])) := Fr.new np
    refine ⟨RE a n H p, ⟨RW a n H p, ⟨a.length - (n + 1), ?_⟩, fun m σ H2 hw => ?_⟩, fun σ H2 hw => ?_⟩
    · unfold RW
      refine ⟨[], 0, _, none, rfl, rfl, by omega, rfl, f1, upd_same, by simp, ?_⟩
      simp
    · unfold RW at hw
      obtain ⟨ds, k, z, x, rfl, ez, hk, em, f2, hp, hd, hr⟩ := hw
      have hcl := chs_len ds
      tm_at "goo"
      · have hlt : n + 1 + k < a.length := by omega
        have hc : a[z.toNat]? = some a[n + 1 + k] := by
          rw [show z.toNat = n + 1 + k by omega]
          exact List.getElem?_eq_getElem hlt
        have hdr : a.drop (n + 1 + k) = a[n + 1 + k] :: a.drop (n + 1 + k + 1) := List.drop_eq_getElem_cons hlt
        generalize a[n + 1 + k] = ch at hc hdr
        tm_at "goo"
        · show RE a n H p _ _
          unfold RE
          refine ⟨ds, k, z, x, rfl, ez, hk, f2, hp, hd, ?_⟩
          rw [hr, rs_end (.inr (by rw [hdr]; rw [(List.cons.inj c).1]; rfl))]
          simp
        · rename_i c1 c2
          refine ke ?_ _ f2
          rw [show (List.drop (z + 1).toNat a).take (z + 2 - (z + 1)).toNat = (a.drop (n + 1 + k + 1)).take 1 by rw [show (z + 1).toNat = n + 1 + k + 1 by omega, show (z + 2 - (z + 1)).toNat = 1 by omega]] at c
          unfold strP
          rw [hr, hdr, (List.cons.inj c2).1, rs_bad (fEsc_no (by simpa using c))]
          rfl
        · rename_i c1 c2
          rw [show (List.drop (z + 1).toNat a).take (z + 2 - (z + 1)).toNat = (a.drop (n + 1 + k + 1)).take 1 by rw [show (z + 1).toNat = n + 1 + k + 1 by omega, show (z + 2 - (z + 1)).toNat = 1 by omega]] at c
          obtain ⟨e, r, eq, he, hf⟩ := fEsc_yes (by simpa using c)
          have hlt2 : n + 1 + k + 1 < a.length := by
            have := congrArg List.length eq
            simp at this
            omega
          have hc2 : a[(z + 1).toNat]? = some e := by
            rw [show (z + 1).toNat = n + 1 + k + 1 by omega]
            have := congrArg (·[0]?) eq
            simpa using this
          have hr3 : r = a.drop (n + 1 + (k + 2)) := by
            have := congrArg (List.drop 1) eq
            rw [List.drop_drop] at this
            rw [show n + 1 + (k + 2) = n + 1 + k + 1 + 1 by omega, this]
            rfl
          show rxS _ (.int (z + 1)) _ _
          refine ixS_step (by omega) (by omega) hc2 ?_
          refine ixK_step hf ?_
          tm_at "goo"
          show Nx (RW a n H p) m _ _
          refine Nx.of (a.length - (n + 1 + (k + 2))) (by omega) ?_
          unfold RW
          refine ⟨ds ++ [dec e], k + 2, z + 2, x, rfl, by omega, by omega, rfl, f2.compN fr np, by rw [hp, chs_snoc], by simp; omega, ?_⟩
          rw [hr, hdr, (List.cons.inj c2).1, eq, rs_esc he, ← hr3]
          cases rs r with
          | none => rfl
          | some x => simp; omega
        · rename_i c1
          show Nx (RW a n H p) m _ _
          refine Nx.of (a.length - (n + 1 + (k + 1))) (by omega) ?_
          unfold RW
          refine ⟨ds ++ [ch], k + 1, z + 1, x, rfl, by omega, by omega, rfl, f2.compN fr np, by rw [hp, chs_snoc], by simp; omega, ?_⟩
          rw [hr, hdr, rs_plain (by simpa using c1) (by simpa using c), show n + 1 + (k + 1) = n + 1 + k + 1 by omega]
          cases rs (a.drop (n + 1 + k + 1)) with
          | none => rfl
          | some x => simp; omega
      · show RE a n H p _ _
        unfold RE
        refine ⟨ds, k, z, x, rfl, ez, hk, f2, hp, hd, ?_⟩
        rw [hr, rs_end (.inl (by rw [List.drop_eq_nil_iff]; omega))]
        simp
    · unfold RE at hw
      obtain ⟨ds, k, z, x, rfl, ez, hk, f2, hp, hd, hr⟩ := hw
      have hl : ds.length ≤ 1000000 := by omega
      refine ⟨⟨_, rfl⟩, _, rfl, ?_⟩
      refine join_chs hp hl ?_
      tm_at "goo"
      · refine ke ?_ _ f2
        unfold strP
        rw [hr]
        simp only
        rw [if_neg]
        intro h
        have := h.1
        rw [List.length_drop] at this
        omega
      · refine ke ?_ _ f2
        have hm := raw10 hn hk ez (by simpa using c)
        unfold strP
        rw [hr]
        simp only
        rw [if_neg]
        exact fun h => h.2.1 hm
      · rename_i q H3 c1 c0
        have hm : 10 ∉ (a.drop (n + 1)).take k := fun m => by
          exact absurd (raw10' hn hk ez m) (by simpa using c0)
        refine kq ds k ?_ _ _ (f2.free (fr.free (by assumption))) ?_ ((f2.comp0 fr).comp0 (Fr.new (by assumption)))
        · unfold strP
          rw [hr]
          simp only
          rw [if_pos ⟨by rw [List.length_drop]; omega, hm, c⟩]
        · rw [show ((n + k + 2 : Nat) : Int) = z + 1 by omega]
          exact upd_same
      · refine ke ?_ _ (f2.comp0 fr)
        unfold strP
        rw [hr]
        simp only
        rw [if_neg]
        intro h
        rw [c] at h
        cases h.2.2
end
end K4
set_option Elab.async false
set_option linter.all false
set_option maxRecDepth 100000
set_option maxHeartbeats 4000000
namespace K4
open PySem PySem.Spec PyProof.Rows L2 M14 SX
section
variable {P : Program} {w : World} {K : PySem.W.Frag} {mg : Str → Option Value} {base : Heap}
set_option hygiene false
local macro_rules | `(tactic| tm_at "sc") => `(tactic| (first | omega | (simp only [List.length_cons, List.length_nil, List.length_map, List.length_set, List.length_append]; omega) | (simp only [List.length_map] at h1 ⊢; omega) | (simp only [List.length_map] at c ⊢; omega) | with_reducible assumption | exact And.intro (by omega) (by omega) | exact Or.inl (And.intro (by omega) (by omega)) | exact Or.inr (And.intro (by omega) (by omega)) | decide +kernel | exact len1000 (by simp) | rfl | fail "no way"))
local macro_rules | `(tactic| tm_at "sc1") => `(tactic| (focus (simp; done)))
local macro_rules | `(tactic| tm_at "ne") => `(tactic| (first | assumption | exact Ne.symm (by assumption) | (apply Box.ne2; assumption; tm_at "hp") | (apply Ne.symm; apply Box.ne2; assumption; tm_at "hp") | (apply ne_of_none2; assumption; tm_at "hp") | (apply Ne.symm; apply ne_of_none2; assumption; tm_at "hp") | fail "no way"))
local macro_rules | `(tactic| tm_at "f0") => `(tactic| (first | assumption | (apply Fr.new; assumption) | fail "no way"))
local macro_rules | `(tactic| tm_at "hp") => `(tactic| (first | assumption | exact upd_same | (apply SqL.of; first | assumption | exact upd_same) | (apply Fr.at0; tm_at "f0"; tm_at "hp") | (apply Fr.at1n; assumption; tm_at "ne"; tm_at "hp") | (apply sqFr0; tm_at "f0"; tm_at "hp") | (apply sqFr1; assumption; tm_at "ne"; tm_at "hp") | (apply Box.fr0; tm_at "f0"; tm_at "hp") | (apply Box.fr1; assumption; tm_at "ne"; tm_at "hp") | (apply Den.fr; tm_at "f0"; tm_at "hp") | (apply Dens.fr; tm_at "f0"; tm_at "hp") | fail "no way"))
local macro_rules | `(tactic| tm_at "free0") => `(tactic| (first | assumption | (apply updFree; assumption) | (apply updFree; apply updFree; assumption) | (apply updFree; apply updFree; apply updFree; assumption) | (apply updFree; apply updFree; apply updFree; apply updFree; assumption) | fail "no way"))
local macro_rules | `(tactic| tm_at "free") => `(tactic| (first | tm_at "free0" | (apply Fr.free; assumption; tm_at "free0") | (apply Box.free; assumption; tm_at "fr"; tm_at "free0") | (apply Fr.free; assumption; apply Fr.free; assumption; tm_at "free0") | fail "no way"))
local macro_rules | `(tactic| tm_at "fr") => `(tactic| (first | assumption | exact Fr.refl0 _ | exact Fr.refl (Box.nt (by assumption)) | (refine Fr.comp0 ?_ (by tm_at "f0"); tm_at "fr") | (refine Fr.comp ?_ (by assumption); tm_at "fr") | (refine Fr.compN ?_ (by assumption) (by tm_at "free"); tm_at "fr") | fail "no way"))
local macro_rules | `(tactic| tm_at "call") => `(tactic| fail "no call")
local macro_rules | `(tactic| tm_at "call") => `(tactic| (apply take_step; tm_at "hp"; tm_at "sc"; tm_at "sc"; intro r H1 h0 h1 hB fr))
local macro_rules | `(tactic| tm_at "ty") => `(tactic| (first | assumption | exact .base .non | exact .base (.bl _) | exact .base (.int _) | exact .base (.str _) | (apply TyX.base; apply TyOf.lst; tm_at "hp") | (apply TyX.base; apply TyOf.tup; tm_at "hp") | fail "no way"))
local macro_rules | `(tactic| tm_at "pre") => `(tactic| fail "none")
local macro_rules | `(tactic| tm_at "go1") => `(tactic| (first | tm_at "pre" | refine ⟨_, rfl, ?_⟩ | refine ⟨_, _, rfl, rfl, ?_⟩ | (apply set_step; tm_at "hp"; tm_at "sc"; tm_at "sc"; intro H1 hp fr) | (with_reducible refine iteDI ?_ ?_ <;> intro c) | (with_reducible refine iteDS ?_ ?_ <;> intro c) | (with_reducible refine iteD ?_ ?_ <;> intro c) | (with_reducible refine iteEM ?_ ?_ <;> intro c) | (with_reducible refine iteE ?_ ?_ <;> intro c) | with_reducible refine iteN ?_ | with_reducible refine iteF ?_ | with_reducible refine iteT ?_ | (refine fun (p : Addr) (np : _ = (none : Option HO)) => ?_; fail_if_success (refine ⟨fun (_ _ : Nat) (_ : Hp) => True, ?_⟩)) | (apply isi_tt; tm_at "ty"; focus (decide +kernel)) | (apply isi_ff; tm_at "ty"; focus (decide +kernel)) | (apply sl_step; tm_at "hp"; intro qq H1 ms nq hq fr) | (apply sum_step; tm_at "hp"; intro i) | (apply tru_step; tm_at "hp") | (apply len_step; tm_at "hp") | (apply lenq_step; assumption) | (apply ixq_step; assumption; tm_at "sc"; tm_at "sc"; intro v hv) | (apply lst_step; tm_at "hp") | (apply tupl_step; tm_at "hp") | (apply ixr_step; tm_at "hp"; exact rfl) | (apply ix0_step; tm_at "hp") | (apply ix1_step; tm_at "hp") | (apply ix2_step; tm_at "hp") | (apply ixi_step; tm_at "hp"; tm_at "sc"; tm_at "sc"; intro n hn hn') | (apply ixl_step; tm_at "hp"; tm_at "sc"; tm_at "sc"; intro v hv) | (apply ixt_step; tm_at "hp"; tm_at "sc"; tm_at "sc"; intro v hm hv) | (apply in_step; tm_at "hp"; rfl; rfl) | (apply cat_step; tm_at "hp"; tm_at "hp"; tm_at "sc") | (apply catT_step; tm_at "hp"; tm_at "hp"; tm_at "sc1") | (apply tyL_and; tm_at "hp") | (apply app_step; tm_at "hp"; tm_at "sc"; intro H1 hp fr) | tm_at "call" | refine ⟨⟨_, rfl⟩, ?_⟩ | (apply ixs_step; tm_at "sc"; tm_at "sc"; tm_at "sc"; intro ch) | refine .inl ⟨_, rfl, ?_⟩ | refine .inr ⟨_, rfl, ?_⟩ | (apply And.intro; tm_at "sc") | (with_reducible refine wayB ?_ ?_ <;> intro c) | fail "no way"))
local macro_rules | `(tactic| tm_at "go") => `(tactic| (repeat tm_at "go1"))
local macro_rules | `(tactic| tm_at "goo") => `(tactic| (repeat' tm_at "go1"))
local macro_rules | `(tactic| tm_at "den") => `(tactic| (first | assumption | exact Den.str _ | exact Den.int _ | exact Den.bl _ | exact Den.non | (apply Den.tups; tm_at "hp"; tm_at "dens") | (apply Den.fr; tm_at "f0"; tm_at "den") | fail "no way"))
local macro_rules | `(tactic| tm_at "dens") => `(tactic| (first | assumption | exact Dens.nil | (apply Dens.cons; tm_at "den"; tm_at "dens") | (apply Dens.fr; tm_at "f0"; tm_at "dens") | fail "no way"))
local macro_rules | `(tactic| tm_at "ix") => `(tactic| (apply Ix.mk; tm_at "hp"; tm_at "ne"; assumption; assumption))
local macro_rules | `(tactic| tm_at "dep") => `(tactic| (first | assumption | exact Dep.int | exact Dep.str | exact Dep.bl | exact Dep.non | (apply Dep.tup; tm_at "dlen"; tm_at "deps") | (apply Dep.mono; assumption; decide) | fail "no way"))
local macro_rules | `(tactic| tm_at "deps") => `(tactic| (first | assumption | exact memN | (apply memC; tm_at "dep"; tm_at "deps") | fail "no way"))
local macro_rules | `(tactic| tm_at "dlen") => `(tactic| (first | assumption | (focus (simp; done)) | omega | fail "no way"))
local macro_rules | `(tactic| tm_at "pre") => `(tactic| (apply rep_step; tm_at "hp"; tm_at "sc"; tm_at "sc"; intro rp H1 nrp hrp fr))

local macro_rules | `(tactic| tm_at "lits") => `(tactic| (try simp only [l_nl, l_open, l_close, l_sp, l_quo, l_bs, l_minus, l_zero, l_empty, l_n] at c))
local macro_rules | `(tactic| tm_at "pre") => `(tactic| (first | (apply slm_step; tm_at "sc"; tm_at "sc"; tm_at "sc") | (apply slf_step; tm_at "sc"; tm_at "sc") | (apply slt_step; tm_at "sc"; tm_at "sc") | (with_reducible refine iteEqZ ?_ ?_ <;> (intro c; tm_at "lits")) | (apply catS_step; tm_at "sc") | (apply inD_step) | (apply ordS_step) | (apply intS_step; assumption) | (apply sign_step) | (apply lenS_step; tm_at "sc")))
local macro_rules | `(tactic| tm_at "pre") => `(tactic| (apply while_go))
local macro_rules | `(tactic| tm_at "pre") => `(tactic| (apply ixS_step; tm_at "sc"; tm_at "sc"; assumption))
local macro_rules | `(tactic| tm_at "pre") => `(tactic| (apply appB_step; tm_at "hp"; tm_at "sc"; intro H1 hp fr))

theorem rst_step {C : Addr} {a : List Nat} {n : Nat} {H : Hp} {Q : VK} {E : XK} (hz : a.length ≤ 1000000) (hn : a[n]? = some 34)
    (h1 : ∀ d k, strP (a.drop (n + 1)) = some (d, k) → ∀ p H', H p = none → H' p = some (.tup [.str (S d), .int ((n + k + 2 : Nat) : Int)]) → Fr [] H H' → Q (.ref p) H')
    (h2 : strP (a.drop (n + 1)) = none → ∀ H', Fr [] H H' → E (.ref C) none H') : spRst C ([.str (S a), .int n] ++ []) H Q E := by
  unfold spRst
  exact ⟨a, n, rfl, hz, hn, h1, h2⟩
local macro_rules | `(tactic| tm_at "call") => `(tactic| (apply isint_step; tm_at "sc"; intro H1 fr))
def fCon (z : Str) : Option V := if z.cps.toList = cNon then some .non else if z.cps.toList = cTru then some (.bl true) else if z.cps.toList = cFal then some (.bl false) else none
theorem fCon_word {K : PySem.W.Frag} {H : Hp} {w : List Nat} {v : V} (h : fCon (S w) = some v) : ∃ t, wordT w = some t ∧ Den K H v t := by
  unfold fCon at h
  unfold wordT
  by_cases h1 : w = cNon
  · rw [if_pos h1] at h ⊢; cases h; exact ⟨_, rfl, .non⟩
  rw [if_neg h1] at h ⊢
  by_cases h2 : w = cTru
  · rw [if_pos h2] at h ⊢; cases h; exact ⟨_, rfl, .bl true⟩
  rw [if_neg h2] at h ⊢
  by_cases h3 : w = cFal
  · rw [if_pos h3] at h ⊢; cases h; exact ⟨_, rfl, .bl false⟩
  rw [if_neg h3] at h
  cases h
theorem fCon_none {w : List Nat} (h : fCon (S w) = none) : wordT w = if isInt w = true then some (.int (intOf w)) else none := by
  unfold fCon at h
  unfold wordT
  by_cases h1 : w = cNon
  · rw [if_pos h1] at h; cases h
  rw [if_neg h1] at h ⊢
  by_cases h2 : w = cTru
  · rw [if_pos h2] at h; cases h
  rw [if_neg h2] at h ⊢
  by_cases h3 : w = cFal
  · rw [if_pos h3] at h; cases h
  rw [if_neg h3] at h ⊢
theorem head_get {a : List Nat} {n c : Nat} : (a.drop n).take 1 = [c] ↔ a[n]? = some c := by
  rw [← List.head?_drop]
  cases a.drop n with
  | nil => simp
  | cons x r => simp
theorem head_int {a : List Nat} {n c : Nat} : List.take ((n : Int) + 1 - n).toNat (List.drop (n : Int).toNat a) = [c] ↔ a[n]? = some c := by
  rw [show ((n : Int) + 1 - n).toNat = 1 by omega]
  exact head_get
theorem rp_quo {a : List Nat} {n : Nat} (h : a[n]? = some 34) : rp (a.drop n) = (strP (a.drop (n + 1))).map fun x => (T.str (S x.1), x.2 + 2) := by
  unfold rp
  rw [if_pos (by rw [List.head?_drop]; exact h), List.tail_drop]
theorem rp_word {a : List Nat} {n : Nat} (h : a[n]? ≠ some 34) : rp (a.drop n) = (wordT (word (a.drop n))).map fun t => (t, (word (a.drop n)).length) := by
  unfold rp
  rw [if_neg (by rw [List.head?_drop]; exact h)]
theorem word_at {a : List Nat} {n k : Nat} (h : ((a.drop n).take k).all inW = true) (e : a[n + k]? = none ∨ ∃ c, a[n + k]? = some c ∧ inW c = false) : word (a.drop n) = (a.drop n).take k := by
  unfold word
  conv => lhs; rw [← List.take_append_drop k (a.drop n)]
  refine tw_all h ?_
  rw [List.drop_drop]
  rcases e with e | ⟨c, e, hc⟩
  · rw [List.drop_eq_nil_iff.mpr (List.getElem?_eq_none_iff.mp e)]; rfl
  · rw [drop_get e, List.takeWhile_cons, if_neg (by rw [hc]; decide)]
theorem all_take {a : List Nat} {n k c : Nat} {p : Nat → Bool} (e : a[n + k]? = some c) (h : ((a.drop n).take k).all p = true) (hc : p c = true) : ((a.drop n).take (k + 1)).all p = true :=
  all_snoc (by rw [List.getElem?_drop]; exact e) h hc
@[irreducible] def PW (a : List Nat) (n : Nat) (H : Hp) (m : Nat) (σ : L2.St) (H' : Hp) : Prop :=
  ∃ (k : Nat) (z : Int) (x : Option V), σ = [some (.str (S a)), some (.int (n : Nat)), some (.int z), x] ∧ z = ((n + k : Nat) : Int) ∧ n + k ≤ a.length ∧ m = a.length - (n + k) ∧ Fr [] H H' ∧ ((a.drop n).take k).all inW = true
@[irreducible] def PE2 (a : List Nat) (n : Nat) (H : Hp) (σ : L2.St) (H' : Hp) : Prop :=
  ∃ (k : Nat) (z : Int) (x : Option V), σ = [some (.str (S a)), some (.int (n : Nat)), some (.int z), x] ∧ z = ((n + k : Nat) : Int) ∧ n + k ≤ a.length ∧ Fr [] H H' ∧ word (a.drop n) = (a.drop n).take k
@[irreducible] def spRpl (K : PySem.W.Frag) (C : Addr) : Sp := fun vs H Q E => ∃ (a : List Nat) (n : Nat), vs = [.str (S a), .int n] ∧ a.length ≤ 1000000 ∧ n ≤ a.length ∧
  (∀ t m, rp (a.drop n) = some (t, m) → ∀ v p H', Den K H' v t → H p = none → H' p = some (.tup [v, .int ((n + m : Nat) : Int)]) → Fr [] H H' → Q (.ref p) H') ∧
  (rp (a.drop n) = none → ∀ H', Fr [] H H' → E (.ref C) none H')
set_option pp.deepTerms false
set_option pp.deepTerms.threshold 3
abbrev s_p_read_plain : Stmt := top 20
theorem sc_p_read_plain : FnScope ["text", "at", "stop", "word"] ["text", "at"] (defScope s_p_read_plain) := ⟨rfl, rfl, rfl, by decide +kernel, rfl, by decide +kernel, by decide +kernel⟩

theorem ok_rpl {C dC : Addr} (T : Bl mg) (X_BadDatum : XC K mg "BadDatum" C) (g_CONSTANTS : GV mg "CONSTANTS" (.ref dC)) (D_CONSTANTS : KD K w dC fCon) (G_p_is_integer : Cal P w K mg base 1 "_is_integer" ["word"] spIsi)
    (G_p_read_string : CalX P w K mg base 3 "_read_string" ["text", "at"] (spRst C)) (D : Def1 K mg "_read_plain" s_p_read_plain) : CalX P w K mg base 4 "_read_plain" ["text", "at"] (spRpl K C) := by
  refine D.calX sc_p_read_plain (fun _ _ _ _ _ _ us hl => match us, hl with | [_, _], _ => rfl) (fun vs H Q E h => ?_) (fun f cdv A outer s H vs Q E hr h => ?_) <;> unfold spRpl at h
  · obtain ⟨a, n, rfl, _⟩ := h
    rfl
  · obtain ⟨a, n, rfl, hz, hn, kq, ke⟩ := h
    refine ⟨_, (pss_cons (ps_if (pt_cmpR op_eq (pe_slice slS (pv 0) (po_some (pv 1)) (po_some (pe_op op_add (pv 1) pe_int))) pe_str (nomark _))
      (pss_one (ps_ret (pe_calX G_p_read_string takesE (hr.mono (by omega)) (by rfl) (pa_cons (pv 0) (pa_cons (pv 1) pa_nil)))))
      pss_nil)
    (pss_cons (ps_set (i := 2) sc_p_read_plain.nd rfl (Or.inl rfl) (pv 1))
    (C8.pss_cut (ps_while (passes_of rfl) (PW.pt (pw_and (pt_cmpR op_lt (pv 2) (pe_callB call_lenS (by rfl) T.z_len (by decide +kernel) (pa_cons (pv 0) pa_nil)) (nomark _)) (pw_and (pt_cmpR op_ne (pe_ix ixS (pv 0) (pv 2) (fun _ _ => rfl)) pe_str (nomark _)) (pw_and1 (pt_cmpR op_ne (pe_ix ixS (pv 0) (pv 2) (fun _ _ => rfl)) pe_str (nomark _))))))
      (pss_one (ps_aug (i := 2) sc_p_read_plain.nd rfl (Or.inl rfl) pe_int ip_add)))
    (pss_cons (ps_set (i := 3) sc_p_read_plain.nd rfl (Or.inl rfl) (pe_slice slS (pv 0) (po_some (pv 1)) (po_some (pv 2))))
    (pss_cons (ps_if (pt_cmpR (opInD D_CONSTANTS) (pv 3) (pe_gv g_CONSTANTS (by rfl)) (by rfl))
      (pss_one (ps_ret (pe_tup (pa_cons (pe_ix (ixK D_CONSTANTS) (pe_gv g_CONSTANTS (by rfl)) (pv 3) (fun _ _ => rfl)) (pa_cons (pv 2) pa_nil)))))
      pss_nil)
    (pss_cons (ps_if (pt_not (pt_val (pe_cal G_p_is_integer (hr.mono (by omega)) (by rfl) (pa_cons (pv 3) pa_nil))))
      (pss_one (ps_raise0 X_BadDatum rfl takesE (by rfl)))
      pss_nil)
    (pss_one (ps_ret (pe_tup (pa_cons (pe_callTy call_intS (by rfl) T.z_int (by decide +kernel) (pa_cons (pv 3) pa_nil)) (pa_cons (pv 2) pa_nil))))))))))), ?_⟩
    tm_at "goo"
    · have hq := head_int.mp c
      refine rst_step hz hq (fun d k e p H' np hp f => ?_) (fun e H' f => ?_)
      · refine kq (.str (S d)) (k + 2) ?_ (.str (S d)) p H' (.str _) np ?_ f
        · rw [rp_quo hq, e]; rfl
        · rw [hp]; rfl
      · refine ke ?_ H' f
        rw [rp_quo hq, e]; rfl
    · have hq : a[n]? ≠ some 34 := fun h => c (head_int.mpr h)
      have hrw := rp_word hq
      refine ⟨PE2 a n H, ⟨PW a n H, ⟨a.length - n, ?_⟩, fun m σ H2 hw => ?_⟩, fun σ H2 hw => ?_⟩
      · unfold PW
        exact ⟨0, n, none, rfl, rfl, hn, rfl, Fr.refl0 _, rfl⟩
      · unfold PW at hw
        obtain ⟨k, z, x, rfl, ez, hk, em, f2, ha⟩ := hw
        tm_at "goo"
        · have hlt : n + k < a.length := by omega
          have hc' : a[n + k]? = some a[n + k] := List.getElem?_eq_getElem hlt
          have hc : a[z.toNat]? = some a[n + k] := by
            rw [show z.toNat = n + k by omega]
            exact hc'
          generalize a[n + k] = ch at hc hc'
          tm_at "goo"
          · show PE2 a n H _ _
            unfold PE2
            exact ⟨k, z, x, rfl, ez, hk, f2, word_at ha (.inr ⟨ch, hc', by rw [(List.cons.inj c).1]; rfl⟩)⟩
          · show PE2 a n H _ _
            unfold PE2
            exact ⟨k, z, x, rfl, ez, hk, f2, word_at ha (.inr ⟨ch, hc', by rw [(List.cons.inj c).1]; rfl⟩)⟩
          · rename_i c1
            show Nx (PW a n H) m _ _
            refine Nx.of (a.length - (n + (k + 1))) (by omega) ?_
            unfold PW
            refine ⟨k + 1, z + 1, x, rfl, by omega, by omega, rfl, f2, all_take hc' ha ?_⟩
            unfold inW
            simp at c1 c
            simp [c1, c]
        · show PE2 a n H _ _
          unfold PE2
          exact ⟨k, z, x, rfl, ez, hk, f2, word_at ha (.inl (List.getElem?_eq_none_iff.mpr (by omega)))⟩
      · unfold PE2 at hw
        obtain ⟨k, z, x, rfl, ez, hk, f2, hw⟩ := hw
        have hsl : List.take (z - n).toNat (List.drop (n : Int).toNat a) = word (a.drop n) := by
          rw [hw, show (z - n).toNat = k by omega]
          rfl
        have hwl : (word (a.drop n)).length = k := by
          rw [hw, List.length_take, List.length_drop]
          omega
        tm_at "goo"
        · rw [hsl] at c
          show rIxK _ _ _ (.str (S (List.take (z - n).toNat (List.drop (n : Int).toNat a)))) _ _
          rw [hsl]
          obtain ⟨v, hv⟩ := Option.isSome_iff_exists.mp (show (fCon (S (word (a.drop n)))).isSome = true by simpa using c)
          obtain ⟨t, ht, _⟩ := fCon_word (K := K) (H := H) hv
          refine ixK_step hv ?_
          tm_at "goo"
          rename_i p np
          refine kq t (word (a.drop n)).length (by rw [hrw, ht]; rfl) v p _ ?_ (f2.free np) ?_ (f2.comp0 (Fr.new np))
          · obtain ⟨t', ht', d'⟩ := fCon_word (K := K) (H := upd H2 p (HO.tup [v, .int z])) hv
            rw [ht] at ht'
            cases ht'
            exact d'
          · rw [hwl, ← ez]
            exact upd_same
        · rw [hsl] at c
          show spIsi ([.str (S (List.take (z - n).toNat (List.drop (n : Int).toNat a)))] ++ []) _ _ _
          rw [hsl]
          have hnn : fCon (S (word (a.drop n))) = none := by simpa using c
          have hwt := fCon_none hnn
          refine isint_step (by omega) fun H3 f3 => ?_
          tm_at "goo"
          · rename_i p np
            rw [if_pos (by assumption)] at hwt
            refine kq _ (word (a.drop n)).length (by rw [hrw, hwt]; rfl) _ p _ (.int _) (f2.free (f3.free np)) ?_ ((f2.comp0 f3).comp0 (Fr.new np))
            rw [hwl, ← ez]
            exact upd_same
          · refine ke ?_ _ (f2.comp0 f3)
            rw [hrw, hwt, if_neg (by rw [c]; decide)]
            rfl
end
end K4
set_option Elab.async false
set_option linter.all false
set_option maxRecDepth 100000
set_option maxHeartbeats 4000000
namespace K4
open PySem PySem.Spec PyProof.Rows L2 M14 SX
/-! ### the open tuples on the heap -/
structure OS (K : PySem.W.Frag) (H H' : Hp) (o : Addr) (qs : List Addr) (st : List (List T)) (n : Nat) : Prop where
  fr : Fr [] H H'
  fo : H o = none
  ho : H' o = some (.lst (qs.reverse.map V.ref))
  len : qs.length = st.length
  nd : qs.Nodup
  no : o ∉ qs
  fq : ∀ q ∈ qs, H q = none
  it : ∀ (i : Nat) (q : Addr) (ts : List T), qs[i]? = some q → st[i]? = some ts → ∃ xs, H' q = some (.lst xs) ∧ Dens K H' xs ts ∧ xs.length ≤ n
section
variable {K : PySem.W.Frag} {H H1 H2 : Hp} {o : Addr} {qs : List Addr} {st : List (List T)} {n : Nat}
theorem OS.frm (s : OS K H H1 o qs st n) (f : Fr [] H1 H2) : OS K H H2 o qs st n :=
  ⟨s.fr.comp0 f, s.fo, f.at0 s.ho, s.len, s.nd, s.no, s.fq, fun i q ts h1 h2 => let ⟨xs, a, b, c⟩ := s.it i q ts h1 h2; ⟨xs, f.at0 a, b.fr f, c⟩⟩
theorem OS.le {m : Nat} (s : OS K H H1 o qs st n) (h : n ≤ m) : OS K H H1 o qs st m :=
  ⟨s.fr, s.fo, s.ho, s.len, s.nd, s.no, s.fq, fun i q ts h1 h2 => let ⟨xs, a, b, c⟩ := s.it i q ts h1 h2; ⟨xs, a, b, Nat.le_trans c h⟩⟩
theorem OS.new (fo : H o = none) {q : Addr} (hq : H1 q = some (.lst [])) (ho : H1 o = some (.lst [.ref q])) (nq : H q = none) (f : Fr [] H H1) (ne : o ≠ q) : OS K H H1 o [q] [[]] 0 :=
  ⟨f, fo, ho, rfl, by simp, by simpa using ne, fun x m => by rw [List.mem_singleton.mp m]; exact nq, fun i x ts h1 h2 => by
    cases i with
    | zero => simp at h1 h2; subst h1 h2; exact ⟨[], hq, .nil, Nat.le_refl _⟩
    | succ i => simp at h1⟩
theorem OS.push (s : OS K H H1 o qs st n) {q : Addr} {H3 : Hp} (nq : H1 q = none) (hq : H2 q = some (.lst [])) (f : Fr [] H1 H2) (ho : H3 o = some (.lst (qs.reverse.map V.ref ++ [.ref q]))) (g : Fr [o] H2 H3) : OS K H H3 o (q :: qs) ([] :: st) n := by
  have noq : o ≠ q := fun e => by rw [← e, s.ho] at nq; cases nq
  have nin : q ∉ qs := fun m => by
    obtain ⟨i, hi⟩ := List.getElem?_of_mem m
    have hl := (List.getElem?_eq_some_iff.mp hi).1
    have hl2 : i < st.length := by rw [← s.len]; exact hl
    obtain ⟨xs, a, _⟩ := s.it i q st[i] hi (List.getElem?_eq_getElem hl2)
    rw [a] at nq; cases nq
  refine ⟨(s.fr.comp0 f).compN g s.fo, s.fo, by rw [ho]; simp, by simp [s.len], List.nodup_cons.mpr ⟨nin, s.nd⟩, ?_, ?_, fun i x ts h1 h2 => ?_⟩
  · intro m
    rcases List.mem_cons.mp m with e | m
    · exact noq e
    · exact s.no m
  · intro x m
    rcases List.mem_cons.mp m with e | m
    · rw [e]; exact s.fr.free nq
    · exact s.fq x m
  · cases i with
    | zero =>
      simp at h1 h2
      subst h1 h2
      exact ⟨[], g.at1 hq (Ne.symm noq), .nil, Nat.zero_le _⟩
    | succ i =>
      obtain ⟨xs, a, b, c⟩ := s.it i x ts (by simpa using h1) (by simpa using h2)
      have hx : x ≠ o := fun e => s.no (by rw [← e]; exact List.mem_of_getElem? (by simpa using h1))
      exact ⟨xs, g.at1 (f.at0 a) hx, (b.fr f).fr g, c⟩
theorem OS.top {q : Addr} {r : List Addr} {ts : List T} {rest : List (List T)} (s : OS K H H1 o (q :: r) (ts :: rest) n) : ∃ xs, H1 q = some (.lst xs) ∧ Dens K H1 xs ts ∧ xs.length ≤ n := s.it 0 q ts rfl rfl
theorem OS.app {q : Addr} {r : List Addr} {ts : List T} {rest : List (List T)} (s : OS K H H1 o (q :: r) (ts :: rest) n) {xs : List V} {v : V} {t : T} {m : Nat} (dx : Dens K H1 xs ts) (dv : Den K H1 v t) (hl : xs.length < m) (hn : n ≤ m) (hq : H2 q = some (.lst (xs ++ [v]))) (g : Fr [q] H1 H2) :
    OS K H H2 o (q :: r) ((ts ++ [t]) :: rest) m := by
  have noq : o ≠ q := fun e => s.no (by rw [e]; exact List.mem_cons_self)
  refine ⟨s.fr.compN g (s.fq q List.mem_cons_self), s.fo, g.at1 s.ho noq, by simpa using s.len, s.nd, s.no, s.fq, fun i x us h1 h2 => ?_⟩
  cases i with
  | zero =>
    simp at h1 h2
    subst h1 h2
    exact ⟨_, hq, (dx.fr g).snoc (dv.fr g), by simp; omega⟩
  | succ i =>
    obtain ⟨ys, a, b, c⟩ := s.it (i + 1) x us h1 (by simpa using h2)
    have hx : x ≠ q := fun e => (List.nodup_cons.mp s.nd).1 (by rw [← e]; exact List.mem_of_getElem? (by simpa using h1))
    exact ⟨ys, g.at1 a hx, b.fr g, by omega⟩
theorem OS.pop {q : Addr} {r : List Addr} {ts : List T} {rest : List (List T)} (s : OS K H H1 o (q :: r) (ts :: rest) n) (ho : H2 o = some (.lst (r.reverse.map V.ref))) (g : Fr [o] H1 H2) : OS K H H2 o r rest n := by
  refine ⟨s.fr.compN g s.fo, s.fo, ho, by simpa using s.len, (List.nodup_cons.mp s.nd).2, fun m => s.no (List.mem_cons_of_mem _ m), fun x m => s.fq x (List.mem_cons_of_mem _ m), fun i x us h1 h2 => ?_⟩
  obtain ⟨ys, a, b, c⟩ := s.it (i + 1) x us (by simpa using h1) (by simpa using h2)
  have hx : x ≠ o := fun e => s.no (by rw [← e]; exact List.mem_cons_of_mem _ (List.mem_of_getElem? h1))
  exact ⟨ys, g.at1 a hx, b.fr g, c⟩
theorem OS.olen (s : OS K H H1 o qs st n) : (qs.reverse.map V.ref).length = st.length := by simp [s.len]
theorem OS.uncons (s : OS K H H1 o qs st n) (ne : st ≠ []) : ∃ q r ts rest, qs = q :: r ∧ st = ts :: rest := by
  have l := s.len
  cases qs with
  | nil => cases st with
    | nil => exact absurd rfl ne
    | cons => simp at l
  | cons q r => cases st with
    | nil => simp at l
    | cons ts rest => exact ⟨q, r, ts, rest, rfl, rfl⟩
end
theorem last_ref (q : Addr) (r : List Addr) : atI ((q :: r).reverse.map V.ref) (-1) = some (.ref q) := by
  rw [List.reverse_cons, List.map_append]
  show atI (r.reverse.map V.ref ++ [V.ref q]) (-1) = _
  exact atI_last _ _
@[irreducible] def rPopS : V → List V → Hp → VK → Prop := rPop
theorem mtPopS {X : Cx} : MtM X "list.pop" rPopS := by unfold rPopS; exact mt_pop
theorem pop_step {o q : Addr} {r : List Addr} {H : Hp} {Q : VK} (h : H o = some (.lst ((q :: r).reverse.map V.ref))) (k : ∀ H', H' o = some (.lst (r.reverse.map V.ref)) → Fr [o] H H' → Q (.ref q) H') : rPopS (.ref o) [] H Q := by
  unfold rPopS rPop
  have e : (q :: r).reverse.map V.ref = r.reverse.map V.ref ++ [V.ref q] := by simp
  rw [e] at h
  refine ⟨o, _, .ref q, rfl, rfl, h, by simp, k _ ?_ (Fr.put h (by intro _ z; cases z))⟩
  rw [List.dropLast_concat]
  exact upd_same
end K4
set_option Elab.async false
set_option linter.all false
set_option maxRecDepth 100000
set_option maxHeartbeats 4000000
namespace K4
open PySem PySem.Spec PyProof.Rows L2 M14 SX
section
variable {P : Program} {w : World} {K : PySem.W.Frag} {mg : Str → Option Value} {base : Heap}
set_option hygiene false
local macro_rules | `(tactic| tm_at "sc") => `(tactic| (first | omega | (simp only [List.length_cons, List.length_nil, List.length_map, List.length_set, List.length_append]; omega) | (simp only [List.length_map] at h1 ⊢; omega) | (simp only [List.length_map] at c ⊢; omega) | with_reducible assumption | exact And.intro (by omega) (by omega) | exact Or.inl (And.intro (by omega) (by omega)) | exact Or.inr (And.intro (by omega) (by omega)) | decide +kernel | exact len1000 (by simp) | rfl | fail "no way"))
local macro_rules | `(tactic| tm_at "sc1") => `(tactic| (focus (simp; done)))
local macro_rules | `(tactic| tm_at "ne") => `(tactic| (first | assumption | exact Ne.symm (by assumption) | (apply Box.ne2; assumption; tm_at "hp") | (apply Ne.symm; apply Box.ne2; assumption; tm_at "hp") | (apply ne_of_none2; assumption; tm_at "hp") | (apply Ne.symm; apply ne_of_none2; assumption; tm_at "hp") | fail "no way"))
local macro_rules | `(tactic| tm_at "f0") => `(tactic| (first | assumption | (apply Fr.new; assumption) | fail "no way"))
local macro_rules | `(tactic| tm_at "hp") => `(tactic| (first | assumption | exact upd_same | (apply SqL.of; first | assumption | exact upd_same) | (apply Fr.at0; tm_at "f0"; tm_at "hp") | (apply Fr.at1n; assumption; tm_at "ne"; tm_at "hp") | (apply sqFr0; tm_at "f0"; tm_at "hp") | (apply sqFr1; assumption; tm_at "ne"; tm_at "hp") | (apply Box.fr0; tm_at "f0"; tm_at "hp") | (apply Box.fr1; assumption; tm_at "ne"; tm_at "hp") | (apply Den.fr; tm_at "f0"; tm_at "hp") | (apply Dens.fr; tm_at "f0"; tm_at "hp") | fail "no way"))
local macro_rules | `(tactic| tm_at "free0") => `(tactic| (first | assumption | (apply updFree; assumption) | (apply updFree; apply updFree; assumption) | (apply updFree; apply updFree; apply updFree; assumption) | (apply updFree; apply updFree; apply updFree; apply updFree; assumption) | fail "no way"))
local macro_rules | `(tactic| tm_at "free") => `(tactic| (first | tm_at "free0" | (apply Fr.free; assumption; tm_at "free0") | (apply Box.free; assumption; tm_at "fr"; tm_at "free0") | (apply Fr.free; assumption; apply Fr.free; assumption; tm_at "free0") | fail "no way"))
local macro_rules | `(tactic| tm_at "fr") => `(tactic| (first | assumption | exact Fr.refl0 _ | exact Fr.refl (Box.nt (by assumption)) | (refine Fr.comp0 ?_ (by tm_at "f0"); tm_at "fr") | (refine Fr.comp ?_ (by assumption); tm_at "fr") | (refine Fr.compN ?_ (by assumption) (by tm_at "free"); tm_at "fr") | fail "no way"))
local macro_rules | `(tactic| tm_at "call") => `(tactic| fail "no call")
local macro_rules | `(tactic| tm_at "call") => `(tactic| (apply take_step; tm_at "hp"; tm_at "sc"; tm_at "sc"; intro r H1 h0 h1 hB fr))
local macro_rules | `(tactic| tm_at "ty") => `(tactic| (first | assumption | exact .base .non | exact .base (.bl _) | exact .base (.int _) | exact .base (.str _) | (apply TyX.base; apply TyOf.lst; tm_at "hp") | (apply TyX.base; apply TyOf.tup; tm_at "hp") | fail "no way"))
local macro_rules | `(tactic| tm_at "pre") => `(tactic| fail "none")
local macro_rules | `(tactic| tm_at "go1") => `(tactic| (first | tm_at "pre" | refine ⟨_, rfl, ?_⟩ | refine ⟨_, _, rfl, rfl, ?_⟩ | (apply set_step; tm_at "hp"; tm_at "sc"; tm_at "sc"; intro H1 hp fr) | (with_reducible refine iteDI ?_ ?_ <;> intro c) | (with_reducible refine iteDS ?_ ?_ <;> intro c) | (with_reducible refine iteD ?_ ?_ <;> intro c) | (with_reducible refine iteEM ?_ ?_ <;> intro c) | (with_reducible refine iteE ?_ ?_ <;> intro c) | with_reducible refine iteN ?_ | with_reducible refine iteF ?_ | with_reducible refine iteT ?_ | (refine fun (p : Addr) (np : _ = (none : Option HO)) => ?_; fail_if_success (refine ⟨fun (_ _ : Nat) (_ : Hp) => True, ?_⟩)) | (apply isi_tt; tm_at "ty"; focus (decide +kernel)) | (apply isi_ff; tm_at "ty"; focus (decide +kernel)) | (apply sl_step; tm_at "hp"; intro qq H1 ms nq hq fr) | (apply sum_step; tm_at "hp"; intro i) | (apply tru_step; tm_at "hp") | (apply len_step; tm_at "hp") | (apply lenq_step; assumption) | (apply ixq_step; assumption; tm_at "sc"; tm_at "sc"; intro v hv) | (apply lst_step; tm_at "hp") | (apply tupl_step; tm_at "hp") | (apply ixr_step; tm_at "hp"; exact rfl) | (apply ix0_step; tm_at "hp") | (apply ix1_step; tm_at "hp") | (apply ix2_step; tm_at "hp") | (apply ixi_step; tm_at "hp"; tm_at "sc"; tm_at "sc"; intro n hn hn') | (apply ixl_step; tm_at "hp"; tm_at "sc"; tm_at "sc"; intro v hv) | (apply ixt_step; tm_at "hp"; tm_at "sc"; tm_at "sc"; intro v hm hv) | (apply in_step; tm_at "hp"; rfl; rfl) | (apply cat_step; tm_at "hp"; tm_at "hp"; tm_at "sc") | (apply catT_step; tm_at "hp"; tm_at "hp"; tm_at "sc1") | (apply tyL_and; tm_at "hp") | (apply app_step; tm_at "hp"; tm_at "sc"; intro H1 hp fr) | tm_at "call" | refine ⟨⟨_, rfl⟩, ?_⟩ | (apply ixs_step; tm_at "sc"; tm_at "sc"; tm_at "sc"; intro ch) | refine .inl ⟨_, rfl, ?_⟩ | refine .inr ⟨_, rfl, ?_⟩ | (apply And.intro; tm_at "sc") | (with_reducible refine wayB ?_ ?_ <;> intro c) | fail "no way"))
local macro_rules | `(tactic| tm_at "go") => `(tactic| (repeat tm_at "go1"))
local macro_rules | `(tactic| tm_at "goo") => `(tactic| (repeat' tm_at "go1"))
local macro_rules | `(tactic| tm_at "den") => `(tactic| (first | assumption | exact Den.str _ | exact Den.int _ | exact Den.bl _ | exact Den.non | (apply Den.tups; tm_at "hp"; tm_at "dens") | (apply Den.fr; tm_at "f0"; tm_at "den") | fail "no way"))
local macro_rules | `(tactic| tm_at "dens") => `(tactic| (first | assumption | exact Dens.nil | (apply Dens.cons; tm_at "den"; tm_at "dens") | (apply Dens.fr; tm_at "f0"; tm_at "dens") | fail "no way"))
local macro_rules | `(tactic| tm_at "ix") => `(tactic| (apply Ix.mk; tm_at "hp"; tm_at "ne"; assumption; assumption))
local macro_rules | `(tactic| tm_at "dep") => `(tactic| (first | assumption | exact Dep.int | exact Dep.str | exact Dep.bl | exact Dep.non | (apply Dep.tup; tm_at "dlen"; tm_at "deps") | (apply Dep.mono; assumption; decide) | fail "no way"))
local macro_rules | `(tactic| tm_at "deps") => `(tactic| (first | assumption | exact memN | (apply memC; tm_at "dep"; tm_at "deps") | fail "no way"))
local macro_rules | `(tactic| tm_at "dlen") => `(tactic| (first | assumption | (focus (simp; done)) | omega | fail "no way"))
local macro_rules | `(tactic| tm_at "pre") => `(tactic| (apply rep_step; tm_at "hp"; tm_at "sc"; tm_at "sc"; intro rp H1 nrp hrp fr))

local macro_rules | `(tactic| tm_at "lits") => `(tactic| (try simp only [l_nl, l_open, l_close, l_sp, l_quo, l_bs, l_minus, l_zero, l_empty, l_n] at c))
local macro_rules | `(tactic| tm_at "pre") => `(tactic| (first | (apply slm_step; tm_at "sc"; tm_at "sc"; tm_at "sc") | (apply slf_step; tm_at "sc"; tm_at "sc") | (apply slt_step; tm_at "sc"; tm_at "sc") | (with_reducible refine iteEqZ ?_ ?_ <;> (intro c; tm_at "lits")) | (apply catS_step; tm_at "sc") | (apply inD_step) | (apply ordS_step) | (apply intS_step; assumption) | (apply sign_step) | (apply lenS_step; tm_at "sc")))
local macro_rules | `(tactic| tm_at "pre") => `(tactic| (apply while_go))
local macro_rules | `(tactic| tm_at "pre") => `(tactic| (apply ixS_step; tm_at "sc"; tm_at "sc"; assumption))
local macro_rules | `(tactic| tm_at "pre") => `(tactic| (apply appB_step; tm_at "hp"; tm_at "sc"; intro H1 hp fr))

theorem rpl_step {C : Addr} {a : List Nat} {n : Nat} {H : Hp} {Q : VK} {E : XK} (hz : a.length ≤ 1000000) (hn : n ≤ a.length)
    (h1 : ∀ t m, rp (a.drop n) = some (t, m) → ∀ v p H', Den K H' v t → H p = none → H' p = some (.tup [v, .int ((n + m : Nat) : Int)]) → Fr [] H H' → Q (.ref p) H')
    (h2 : rp (a.drop n) = none → ∀ H', Fr [] H H' → E (.ref C) none H') : spRpl K C ([.str (S a), .int n] ++ []) H Q E := by
  unfold spRpl
  exact ⟨a, n, rfl, hz, hn, h1, h2⟩
theorem head_intN {a : List Nat} {n c : Nat} {z y : Int} (hz : z = n) (hy : y = n + 1) : List.take (y - z).toNat (List.drop z.toNat a) = [c] ↔ a[n]? = some c := by
  subst hz hy
  exact head_int
theorem drop_head {a : List Nat} {n c : Nat} (h : a[n]? = some c) : a.drop n = c :: a.drop (n + 1) ∧ n < a.length := ⟨drop_get h, (List.getElem?_eq_some_iff.mp h).1⟩
theorem runs_opn {st : List (List T)} {q : List Nat} {t : T} (h : q.head? ≠ some 41) : Runs true st (40 :: q) t ↔ st.length ≤ 60 ∧ Runs true ([] :: st) q t := by
  constructor
  · intro r
    cases r with
    | opn a _ b => exact ⟨a, b⟩
    | emp _ _ => exact absurd rfl h
    | itm n _ _ => exact absurd rfl n
  · exact fun r => .opn r.1 h r.2
theorem runs_40 {st : List (List T)} {q : List Nat} {t : T} (h : Runs true st (40 :: q) t) : st.length ≤ 60 := by
  cases h with
  | opn a _ _ => exact a
  | emp a _ => exact a
  | itm n _ _ => exact absurd rfl n
theorem runs_emp {st : List (List T)} {q : List Nat} {t : T} : Runs true st (40 :: 41 :: q) t ↔ st.length ≤ 60 ∧ Runs false ([] :: st) (41 :: q) t := by
  constructor
  · intro r
    cases r with
    | opn _ h _ => exact absurd rfl h
    | emp a b => exact ⟨a, b⟩
    | itm n _ _ => exact absurd rfl n
  · exact fun r => .emp r.1 r.2
theorem runs_itm {xs : List T} {st : List (List T)} {r : List Nat} {t : T} (h : r.head? ≠ some 40) : Runs true (xs :: st) r t ↔ ∃ u n, rp r = some (u, n) ∧ Runs false ((xs ++ [u]) :: st) (r.drop n) t := by
  constructor
  · intro r
    cases r with
    | opn _ _ _ => exact absurd rfl h
    | emp _ _ => exact absurd rfl h
    | itm _ a b => exact ⟨_, _, a, b⟩
  · exact fun ⟨u, n, a, b⟩ => .itm h a b
theorem runs_cls {xs ys : List T} {st : List (List T)} {q : List Nat} {t : T} : Runs false (xs :: ys :: st) (41 :: q) t ↔ Runs false ((ys ++ [.tup xs]) :: st) q t := by
  constructor
  · intro r
    cases r with
    | cls a => exact a
  · exact fun r => .cls r
theorem runs_spc {st : List (List T)} {q : List Nat} {t : T} (h : 1 < st.length) : Runs false st (32 :: q) t ↔ Runs true st q t := by
  constructor
  · intro r
    cases r with
    | spc _ a => exact a
  · exact fun r => .spc h r
/-- no way on behind an item -/
theorem runs_no {st : List (List T)} {r : List Nat} {t : T} (h1 : 1 < st.length) (h2 : r.head? ≠ some 32) (h3 : r.head? ≠ some 41) : ¬ Runs false st r t := by
  intro h
  cases h with
  | cls _ => exact h3 rfl
  | fin => simp at h1
  | spc _ _ => exact h2 rfl
theorem runs_end {xs : List T} {r : List Nat} {t : T} (h : Runs false [xs] r t) : r = [] ∧ ∃ ys, xs = t :: ys := by
  cases h with
  | fin => exact ⟨rfl, _, rfl⟩
  | spc h _ => simp at h
/-- the state of the reading -/
@[irreducible] def SB (K : PySem.W.Frag) (b : Bool) (a : List Nat) (H : Hp) (o : Addr) (m : Nat) (σ : L2.St) (H' : Hp) : Prop :=
  ∃ (n : Nat) (qs : List Addr) (st : List (List T)) (x3 x4 : Option V), m = a.length - n ∧ n ≤ a.length ∧ σ = [some (.str (S a)), some (.ref o), some (.int (n : Nat)), x3, x4] ∧ OS K H H' o qs st n ∧ st ≠ [] ∧ NeB b st (a.drop n) ∧
    ∀ t, Runs true [[]] a t ↔ Runs b st (a.drop n) t
@[irreducible] def SE (K : PySem.W.Frag) (a : List Nat) (H : Hp) (o : Addr) (m : Nat) (σ : L2.St) (H' : Hp) : Prop :=
  ∃ (n : Nat) (qs : List Addr) (st : List (List T)) (x3 x4 : Option V), a.length - n < m ∧ n ≤ a.length ∧ σ = [some (.str (S a)), some (.ref o), some (.int (n : Nat)), x3, x4] ∧ OS K H H' o qs st n ∧ st ≠ [] ∧ NeB false st (a.drop n) ∧
    (∀ t, Runs true [[]] a t ↔ Runs false st (a.drop n) t) ∧ (st.length = 1 ∨ a[n]? ≠ some 41)
@[irreducible] def SB2 (K : PySem.W.Frag) (a : List Nat) (H : Hp) (o : Addr) (m m' : Nat) (σ : L2.St) (H' : Hp) : Prop := m' < m ∧ SB K false a H o m' σ H'
@[irreducible] def spRdm (K : PySem.W.Frag) (C : Addr) : Sp := fun vs H Q E => ∃ a : List Nat, vs = [.str (S a)] ∧ a.length ≤ 1000000 ∧
  (∀ t, Note a t → ∀ v H', Den K H' v t → Fr [] H H' → Q v H') ∧ ((∀ t, ¬ Note a t) → ∀ H', Fr [] H H' → E (.ref C) none H')
set_option pp.deepTerms false
set_option pp.deepTerms.threshold 3
abbrev s_p_read_datum : Stmt := top 19
theorem sc_p_read_datum : FnScope ["text", "opened", "at", "item", "items"] ["text"] (defScope s_p_read_datum) := ⟨rfl, rfl, rfl, by decide +kernel, rfl, by decide +kernel, by decide +kernel⟩

theorem ok_rdm {C : Addr} (T : Bl mg) (X_BadDatum : XC K mg "BadDatum" C) (g_DEEPEST : GV mg "DEEPEST" (.int 60)) (G_p_read_plain : CalX P w K mg base 4 "_read_plain" ["text", "at"] (spRpl K C))
    (D : Def1 K mg "read_datum" s_p_read_datum) : CalX P w K mg base 5 "read_datum" ["text"] (spRdm K C) := by
  refine D.calX sc_p_read_datum (fun _ _ _ _ _ _ us hl => match us, hl with | [_], _ => rfl) (fun vs H Q E h => ?_) (fun f cdv A outer s H vs Q E hr h => ?_) <;> unfold spRdm at h
  · obtain ⟨a, rfl, _⟩ := h
    rfl
  · obtain ⟨a, rfl, hz, kq, ke⟩ := h
    refine ⟨_, (pss_cons (ps_set (i := 1) sc_p_read_datum.nd rfl (Or.inl rfl) (pe_lst (pa_cons (pe_lst pa_nil) pa_nil)))
    (pss_cons (ps_set (i := 2) sc_p_read_datum.nd rfl (Or.inl rfl) pe_int)
    (pss_cons (ps_while (passes_of rfl) (pt_val pe_bl)
      (C8.pss_cut (ps_if (pt_cmpR op_eq (pe_slice slS (pv 0) (po_some (pv 2)) (po_some (pe_op op_add (pv 2) pe_int))) pe_str (nomark _))
        (pss_cons (ps_if (pt_cmpR op_gt (pe_callB (cLen K) (by rfl) T.z_len (by decide +kernel) (pa_cons (pv 1) pa_nil)) (pe_gv g_DEEPEST (by rfl)) (nomark _))
          (pss_one (ps_raise0 X_BadDatum rfl takesE (by rfl)))
          pss_nil)
        (pss_cons (ps_expr (pe_bm PySem.F.plainAttrs_list PySem.F.slot_list_append PySem.F.type_list_append mtApp (pv 1) (pa_cons (pe_lst pa_nil) pa_nil)))
        (pss_cons (ps_aug (i := 2) sc_p_read_datum.nd rfl (Or.inl rfl) pe_int ip_add)
        (pss_one (ps_if (pt_cmpR op_ne (pe_slice slS (pv 0) (po_some (pv 2)) (po_some (pe_op op_add (pv 2) pe_int))) pe_str (nomark _))
          (pss_one ps_continue)
          pss_nil)))))
        (pss_cons (ps_asg (pe_calX G_p_read_plain takesE (hr.mono (by omega)) (by rfl) (pa_cons (pv 0) (pa_cons (pv 2) pa_nil))) (pg_tup (by rfl) (pgs_cons (pg_name (i := 3) sc_p_read_datum.nd rfl (Or.inl rfl)) (pgs_cons (pg_name (i := 2) sc_p_read_datum.nd rfl (Or.inl rfl)) pgs_nil))))
        (pss_one (ps_expr (pe_bm PySem.F.plainAttrs_list PySem.F.slot_list_append PySem.F.type_list_append mtApp (pe_ix (ixL K) (pv 1) (pe_un un_neg pe_int) (fun _ _ => rfl)) (pa_cons (pv 3) pa_nil))))))
      (C8.pss_cut (ps_while (passes_of rfl) (PW.pt (pw_and (pt_cmpR op_gt (pe_callB (cLen K) (by rfl) T.z_len (by decide +kernel) (pa_cons (pv 1) pa_nil)) pe_int (nomark _)) (pw_and1 (pt_cmpR op_eq (pe_slice slS (pv 0) (po_some (pv 2)) (po_some (pe_op op_add (pv 2) pe_int))) pe_str (nomark _)))))
        (pss_cons (ps_set (i := 4) sc_p_read_datum.nd rfl (Or.inl rfl) (pe_bm0 PySem.F.plainAttrs_list PySem.F.slot_list_pop PySem.F.type_list_pop mtPopS (pv 1)))
        (pss_cons (ps_expr (pe_bm PySem.F.plainAttrs_list PySem.F.slot_list_append PySem.F.type_list_append mtApp (pe_ix (ixL K) (pv 1) (pe_un un_neg pe_int) (fun _ _ => rfl)) (pa_cons (pe_callTy (cTuple K) (by rfl) T.z_tuple (by decide +kernel) (pa_cons (pv 4) pa_nil)) pa_nil)))
        (pss_one (ps_aug (i := 2) sc_p_read_datum.nd rfl (Or.inl rfl) pe_int ip_add)))))
      (pss_cons (ps_if (pt_cmpR op_eq (pe_callB (cLen K) (by rfl) T.z_len (by decide +kernel) (pa_cons (pv 1) pa_nil)) pe_int (nomark _))
        (pss_one ps_break)
        pss_nil)
      (pss_cons (ps_if (pt_cmpR op_ne (pe_slice slS (pv 0) (po_some (pv 2)) (po_some (pe_op op_add (pv 2) pe_int))) pe_str (nomark _))
        (pss_one (ps_raise0 X_BadDatum rfl takesE (by rfl)))
        pss_nil)
      (pss_one (ps_aug (i := 2) sc_p_read_datum.nd rfl (Or.inl rfl) pe_int ip_add)))))))
    (pss_cons (ps_if (pt_cmpR op_lt (pv 2) (pe_callB call_lenS (by rfl) T.z_len (by decide +kernel) (pa_cons (pv 0) pa_nil)) (nomark _))
      (pss_one (ps_raise0 X_BadDatum rfl takesE (by rfl)))
      pss_nil)
    (pss_one (ps_ret (pe_ix (ixL K) (pe_ix (ixL K) (pv 1) pe_int (fun _ _ => rfl)) pe_int (fun _ _ => rfl)))))))), ?_⟩
    tm_at "goo"
    rename_i q0 nq
    obtain ⟨o, eo⟩ : ∃ o, o = p := ⟨p, rfl⟩
    subst eo
    have noH : H o = none := updFree np
    have hq : upd (upd H q0 (.lst [])) o (.lst [.ref q0]) q0 = some (.lst []) := by rw [upd_ne (fun e => by rw [← e, upd_same] at np; cases np)]; exact upd_same
    have ne : o ≠ q0 := fun e => by rw [e, upd_same] at np; cases np
    have f0 : Fr [] H (upd (upd H q0 (.lst [])) o (.lst [.ref q0])) := (Fr.new nq).comp0 (Fr.new np)
    refine ⟨SB K true a H o, ⟨a.length, ?_⟩, fun m σ H1 hw => ?_⟩
    · unfold SB
      exact ⟨0, [q0], [[]], none, none, rfl, Nat.zero_le _, rfl, OS.new noH hq upd_same nq f0 ne, by simp, (fun z => nomatch z), fun t => Iff.rfl⟩
    · unfold SB at hw
      obtain ⟨n, qs, st, x3, x4, em, hn, rfl, os, hst, nb, hR⟩ := hw
      have ol := os.olen
      have oh := os.ho
      tm_at "go"
      refine ⟨Nx (SB K false a H o) m, ?_, fun σ' H' hm => ?_⟩
      · tm_at "goo"
        · rename_i c1
          have h40 := drop_head (head_int.mp c1)
          refine ke (fun t ht => ?_) _ os.fr
          have hr := (hR t).mp (runs_iff.mpr ht)
          rw [h40.1] at hr
          have := runs_40 hr
          omega
        · rename_i c1 c2
          have h40 := drop_head (head_int.mp c1)
          have h41 := drop_head ((head_intN (n := n + 1) (by omega) (by omega)).mp c)
          show Nx (SB K false a H o) m _ _
          refine Nx.of (a.length - (n + 1)) (by omega) ?_
          unfold SB
          refine ⟨n + 1, p :: qs, [] :: st, x3, x4, rfl, by omega, rfl, (os.push np upd_same (Fr.new np) (by assumption) (by assumption)).le (by omega), by simp, fun _ => .inr (by rw [h41.1]; rfl), fun t => ?_⟩
          rw [hR t, h40.1, h41.1, runs_emp]
          exact ⟨fun h => h.2, fun h => ⟨by omega, h⟩⟩
        · rename_i c1 c2
          have h40 := drop_head (head_int.mp c1)
          have h41 : a[n + 1]? ≠ some 41 := fun h => c ((head_intN (n := n + 1) (by omega) (by omega)).mpr h)
          show Nx (SB K true a H o) m _ _
          refine Nx.of (a.length - (n + 1)) (by omega) ?_
          unfold SB
          refine ⟨n + 1, p :: qs, [] :: st, x3, x4, rfl, by omega, rfl, (os.push np upd_same (Fr.new np) (by assumption) (by assumption)).le (by omega), by simp, (fun z => nomatch z), fun t => ?_⟩
          rw [hR t, h40.1, runs_opn (by rw [List.head?_drop]; exact h41)]
          exact ⟨fun h => h.2, fun h => ⟨by omega, h⟩⟩
        · have h40 : (a.drop n).head? ≠ some 40 := by
            rw [List.head?_drop]
            exact fun h => c (head_int.mpr h)
          obtain ⟨q, r, ts, rest, rfl, rfl⟩ := os.uncons hst
          refine rpl_step hz hn (fun t k hrp v p H2 dv np2 hp2 f2 => ?_) (fun hrp H2 f2 => ?_)
          · obtain ⟨w0, l0, e1, e2⟩ := rp_sound hrp
            have hkl : n + k ≤ a.length := by
              have := congrArg List.length e1
              rw [List.length_append, List.length_drop, List.length_drop] at this
              omega
            have hk0 : 0 < k := by
              obtain ⟨c0, r0, e0, _⟩ := wr_head w0
              rw [e2, e0]; simp
            have os2 := os.frm f2
            obtain ⟨xs, hx, dx, lx⟩ := os2.top
            refine ⟨p, _, rfl, SqT.of hp2, rfl, _, _, rfl, _, _, rfl, rfl, ?_⟩
            have oh2 := os2.ho
            have hlast := last_ref q r
            tm_at "goo"
            show rxL K (.ref o) (.int (-1)) H2 _
            refine ixr_step (SqL.of oh2) hlast ?_
            tm_at "goo"
            show Nx (SB K false a H o) m _ _
            refine Nx.of (a.length - (n + k)) (by omega) ?_
            unfold SB
            refine ⟨n + k, q :: r, (ts ++ [t]) :: rest, _, _, rfl, hkl, rfl, os2.app dx dv (by omega) (by omega) (by assumption) (by assumption), by simp, fun _ => .inl (by simp), fun t' => ?_⟩
            rw [hR t', runs_itm h40]
            refine ⟨fun ⟨u, m', a1, a2⟩ => ?_, fun a2 => ⟨t, k, hrp, by rw [List.drop_drop]; exact a2⟩⟩
            rw [hrp] at a1
            cases a1
            rw [List.drop_drop] at a2
            exact a2
          · refine ke (fun t ht => ?_) _ (os.fr.comp0 f2)
            have hr := (runs_itm h40).mp ((hR t).mp (runs_iff.mpr ht))
            obtain ⟨u, m, a, _⟩ := hr
            rw [hrp] at a
            cases a
      · unfold Nx at hm
        obtain ⟨m1, hm1, hw1⟩ := hm
        refine ⟨SE K a H o m, ⟨SB2 K a H o m, ⟨m1, by unfold SB2; exact ⟨hm1, hw1⟩⟩, fun m2 σ2 H2 hw2 => ?_⟩, fun σ2 H2 hm2 => ?_⟩
        · clear hR ol oh os hst nb em hn
          unfold SB2 SB at hw2
          obtain ⟨hm2, n, qs, st, x3, x4, em, hn, rfl, os, hst, nb, hR⟩ := hw2
          have ol := os.olen
          have oh := os.ho
          tm_at "goo"
          · rename_i c1
            have h41 := drop_head (head_int.mp c)
            obtain ⟨q, r, ts, rest, rfl, rfl⟩ := os.uncons hst
            have hr1 : rest ≠ [] := fun e => by rw [e] at ol; rw [ol] at c1; simp at c1
            have hr2 : r ≠ [] := fun e => by
              have := os.len
              rw [e] at this
              simp at this
              exact hr1 this
            obtain ⟨q2, r, rfl⟩ := List.exists_cons_of_ne_nil hr2
            obtain ⟨ys, rest, rfl⟩ := List.exists_cons_of_ne_nil hr1
            obtain ⟨xs, hx, dx, lx⟩ := os.top
            refine pop_step os.ho fun H3 ho3 f3 => ?_
            have os3 := os.pop ho3 f3
            have nqo : q ≠ o := fun e => os.no (by rw [← e]; exact List.mem_cons_self)
            have hx3 := f3.at1 hx nqo
            have dx3 := dx.fr f3
            have hlast := last_ref q2 r
            obtain ⟨xs2, hx2, dx2, lx2⟩ := os3.top
            tm_at "goo"
            show rxL K (.ref o) (.int (-1)) H3 _
            refine ixr_step (SqL.of ho3) hlast ?_
            refine ⟨.inl ⟨rfl, _, SqL.of hx2⟩, ?_⟩
            tm_at "goo"
            have fnw : Fr [] H3 (upd H3 p (.tup xs)) := Fr.new np
            have os4 := (os3.frm fnw).app (m := n + 1) (dx2.fr fnw) (Den.tups upd_same (dx3.fr fnw)) (by omega) (by omega) (by assumption) (by assumption)
            show Nx (SB2 K a H o m) m2 _ _
            refine Nx.of (a.length - (n + 1)) (by omega) ?_
            unfold SB2 SB
            refine ⟨by omega, n + 1, q2 :: r, (ys ++ [.tup ts]) :: rest, _, _, rfl, by omega, rfl, os4, by simp, fun _ => .inl (by simp), fun t => ?_⟩
            rw [hR t, h41.1, runs_cls]
          · show SE K a H o m _ _
            unfold SE
            exact ⟨n, qs, st, x3, x4, by omega, hn, rfl, os, hst, nb, hR, .inr fun h => c (head_int.mpr h)⟩
          · show SE K a H o m _ _
            unfold SE
            have hs1 : 0 < st.length := List.length_pos_iff.mpr hst
            exact ⟨n, qs, st, x3, x4, by omega, hn, rfl, os, hst, nb, hR, .inl (by omega)⟩
        · clear hR ol oh os hst nb em hn hw1
          unfold SE at hm2
          obtain ⟨n, qs, st, x3, x4, em, hn, rfl, os, hst, nb, hR, hex⟩ := hm2
          have ol := os.olen
          have oh := os.ho
          tm_at "goo"
          · rename_i c1
            have hl1 : st.length = 1 := by omega
            obtain ⟨ts, rfl⟩ := List.length_eq_one_iff.mp hl1
            refine ke (fun t ht => ?_) _ os.fr
            have := (runs_end ((hR t).mp (runs_iff.mpr ht))).1
            rw [List.drop_eq_nil_iff] at this
            omega
          · rename_i c1
            have hl1 : st.length = 1 := by omega
            obtain ⟨ts, rfl⟩ := List.length_eq_one_iff.mp hl1
            obtain ⟨q, r, ts', rest, rfl, e⟩ := os.uncons (by simp)
            cases e
            have hr0 : r = [] := List.eq_nil_of_length_eq_zero (by have := os.len; simpa using this)
            subst hr0
            have hv' : v = .ref q := by simpa using hv.symm
            subst hv'
            have hd : a.drop n = [] := List.drop_eq_nil_iff.mpr (by omega)
            have hts : ts ≠ [] := by
              rcases nb rfl with h | h
              · intro e; exact h (by rw [e]; rfl)
              · rw [hd] at h; cases h
            obtain ⟨t, us, rfl⟩ := List.exists_cons_of_ne_nil hts
            obtain ⟨xs, hx, dx, lx⟩ := os.top
            obtain ⟨v0, ys, rfl, dv, _⟩ := dx.uncons
            show rxL K (.ref q) (.int 0) H2 _
            refine ixr_step (SqL.of hx) (v := v0) (atI_nat (j := 0) rfl) ?_
            refine kq t (runs_iff.mp ((hR t).mpr ?_)) v0 _ dv os.fr
            rw [hd]
            exact .fin
          · rename_i c1
            have h32 := drop_head (head_int.mp c)
            have hs1 : 0 < st.length := List.length_pos_iff.mpr hst
            have hs2 : 1 < st.length := by omega
            show Nx (SB K true a H o) m _ _
            refine Nx.of (a.length - (n + 1)) (by omega) ?_
            unfold SB
            refine ⟨n + 1, qs, st, x3, x4, rfl, by omega, rfl, os.le (by omega), hst, (fun z => nomatch z), fun t => ?_⟩
            rw [hR t, h32.1, runs_spc hs2]
          · rename_i c1
            have hs1 : 0 < st.length := List.length_pos_iff.mpr hst
            refine ke (fun t ht => ?_) _ os.fr
            have h41 : a[n]? ≠ some 41 := hex.resolve_left (by omega)
            exact runs_no (by omega) (by rw [List.head?_drop]; exact fun h => c (head_int.mpr h)) (by rw [List.head?_drop]; exact h41) ((hR t).mp (runs_iff.mpr ht))
end
end K4
set_option Elab.async false
set_option linter.all false
set_option maxRecDepth 100000
set_option maxHeartbeats 4000000
/-! Comprehensions: what they leave, with and without draws from the box. -/
namespace M14
open PySem PySem.Spec PyProof.Rows L2

/-- a property of values that stays when other things change -/
def Stab (P : Hp → Nat → V → Prop) : Prop := ∀ (M : List Addr) (H H' : Hp) (i : Nat) (y : V), Fr M H H' → P H i y → P H' i y
theorem stab_v {p : Nat → V → Prop} : Stab fun _ i y => p i y := fun _ _ _ _ _ _ h => h
theorem stab_den {K : PySem.W.Frag} {p : Nat → T → Prop} : Stab fun H i y => ∃ t, Den K H y t ∧ p i t := fun _ _ _ _ _ f ⟨t, d, q⟩ => ⟨t, d.fr f, q⟩
theorem wipe_again (σ : L2.St) (j : Nat) (x : Option V) : wipe ((wipe σ [j]).set j x) [j] = wipe σ [j] := by
  show ((σ.set j none).set j x).set j none = σ.set j none
  rw [List.set_set, List.set_set]
/-- what is kept of i turns -/
def keptN (f : Nat → Bool) (i : Nat) : List Nat := (List.range i).filter f
theorem keptN_yes {f : Nat → Bool} {i : Nat} (h : f i = true) : keptN f (i + 1) = keptN f i ++ [i] := by
  unfold keptN; rw [List.range_succ, List.filter_append]; simp [h]
theorem keptN_no {f : Nat → Bool} {i : Nat} (h : f i = false) : keptN f (i + 1) = keptN f i := by
  unfold keptN; rw [List.range_succ, List.filter_append]; simp [h]
theorem keptN_le (f : Nat → Bool) (i : Nat) : (keptN f i).length ≤ i := by
  unfold keptN
  have := List.length_filter_le f (List.range i)
  simpa using this
theorem keptN_all (i : Nat) : keptN (fun _ => true) i = List.range i := by
  unfold keptN
  exact List.filter_eq_self.mpr fun _ _ => rfl
/-- the kept turns and what was made of them -/
def Made (P : Hp → Nat → V → Prop) (H : Hp) (is : List Nat) (ys : List V) : Prop := ys.length = is.length ∧ ∀ (k i : Nat) (y : V), is[k]? = some i → ys[k]? = some y → P H i y
theorem Made.snoc {P : Hp → Nat → V → Prop} {H : Hp} {is : List Nat} {ys : List V} {i : Nat} {y : V} (m : Made P H is ys) (p : P H i y) : Made P H (is ++ [i]) (ys ++ [y]) := by
  refine ⟨by simp [m.1], fun k l z a b => ?_⟩
  by_cases hk : k < is.length
  · rw [List.getElem?_append_left hk] at a
    rw [List.getElem?_append_left (by rw [m.1]; exact hk)] at b
    exact m.2 k l z a b
  · rw [List.getElem?_append_right (by omega)] at a
    rw [List.getElem?_append_right (by rw [m.1]; omega), m.1] at b
    cases e : k - is.length with
    | zero =>
      rw [e] at a b
      simp at a b
      subst a b
      exact p
    | succ q => rw [e] at a; simp at a
theorem Made.fr {P : Hp → Nat → V → Prop} (st : Stab P) {M : List Addr} {H H' : Hp} {is : List Nat} {ys : List V} (f : Fr M H H') (m : Made P H is ys) : Made P H' is ys := ⟨m.1, fun k i y a b => st M H H' i y f (m.2 k i y a b)⟩
theorem Made.all {P : Hp → Nat → V → Prop} {H : Hp} {n : Nat} {ys : List V} (m : Made P H (List.range n) ys) : ys.length = n ∧ ∀ (i : Nat) (y : V), ys[i]? = some y → P H i y := by
  have l : ys.length = n := by rw [m.1, List.length_range]
  refine ⟨l, fun i y e => m.2 i i y ?_ e⟩
  have hi : i < n := by rw [← l]; exact (List.getElem?_eq_some_iff.mp e).1
  rw [List.getElem?_range hi]
theorem Made.mem {P : Hp → Nat → V → Prop} {H : Hp} {is : List Nat} {ys : List V} (m : Made P H is ys) {y : V} (h : y ∈ ys) : ∃ i, i ∈ is ∧ P H i y := by
  obtain ⟨k, e⟩ := List.getElem?_of_mem h
  have hk : k < is.length := by rw [← m.1]; exact (List.getElem?_eq_some_iff.mp e).1
  exact ⟨is[k], List.getElem_mem hk, m.2 k _ y (List.getElem?_eq_getElem hk) e⟩

/-- what a comprehension may touch (M) and what holds throughout (S) -/
structure Cg (M : List Addr) (S : Hp → Prop) (H1 : Hp) : Prop where
  nt : ∀ a ∈ M, ∀ (xs : List V), H1 a ≠ some (HO.tup xs)
  th : ∀ a ∈ M, H1 a ≠ none
  s0 : ∀ H', Fr [] H1 H' → S H'
  sD : ∀ D H H', H1 D = none → Fr [D] H H' → S H → S H'
theorem Cg.nil (H1 : Hp) : Cg [] (fun _ => True) H1 := ⟨fun _ h => (nomatch h), fun _ h => (nomatch h), fun _ _ => trivial, fun _ _ _ _ _ _ => trivial⟩
theorem Cg.box {H1 : Hp} {b : Addr} (hB : Box H1 b) : Cg [b] (fun H => Box H b) H1 :=
  ⟨hB.nt, fun a m e => (by
    obtain ⟨o, q⟩ := hB.has
    have z : a = b := by simpa using m
    rw [z, q] at e; cases e), fun H' f => hB.fr0 f, fun D H H' n f h => h.fr1 f (hB.ne n).symm⟩
section
variable {te : TE} {tt : TT} {σ : L2.St} {H1 : Hp} {j : Nat} {M : List Addr} {S : Hp → Prop} {f : Nat → Bool} {P : Hp → Nat → V → Prop} {Qd : Addr → Hp → Prop}
/-- between two turns -/
def CI (M : List Addr) (S : Hp → Prop) (H1 : Hp) (f : Nat → Bool) (P : Hp → Nat → V → Prop) (D : Addr) (i : Nat) (H : Hp) : Prop := S H ∧ Fr M H1 H ∧ ∃ ys, H D = some (.lst ys) ∧ Made P H (keptN f i) ys
theorem CI.start (G : Cg M S H1) {D : Addr} (hD : H1 D = none) : CI M S H1 f P D 0 (upd H1 D (.lst [])) :=
  ⟨G.s0 _ (Fr.new hD), (Fr.refl G.nt).comp0 (Fr.new hD), [], upd_same, rfl, fun k i y e _ => by
    have z : keptN f 0 = [] := rfl
    rw [z] at e; simp at e⟩
/-- one turn: the test's answer is f i, the item fits P -/
theorem CI.turn {i n : Nat} {H : Hp} {σ2 : L2.St} {D : Addr} (G : Cg M S H1) (st : Stab P) (hD : H1 D = none) (hi : i < n) (hz : n ≤ 10000) (h : CI M S H1 f P D i H)
    (ht : ∀ R : Bool → Hp → Prop, (∀ H', S H' → Fr M H H' → R (f i) H') → tt σ2 H R)
    (he : f i = true → ∀ H', S H' → Fr M H1 H' → ∀ R : VK, (∀ y H'', S H'' → Fr M H' H'' → P H'' i y → R y H'') → te σ2 H' R) :
    tt σ2 H fun b H3 => if b = true then te σ2 H3 fun y H4 => ∃ acc, H4 D = some (.lst acc) ∧ acc.length < sizeLine ∧ CI M S H1 f P D (i + 1) (upd H4 D (.lst (acc ++ [y]))) else CI M S H1 f P D (i + 1) H3 := by
  obtain ⟨s, fr, ys, e, m⟩ := h
  have dm : D ∉ M := fun z => G.th D z hD
  refine ht _ fun H3 s3 f3 => ?_
  have e3 := f3.kp D _ e dm
  cases hf : f i with
  | false =>
    refine iteF ?_
    exact ⟨s3, fr.comp f3, ys, e3, by rw [keptN_no hf]; exact m.fr st f3⟩
  | true =>
    refine iteT ?_
    refine he hf H3 s3 (fr.comp f3) _ fun y H4 s4 f4 p => ?_
    have e4 := f4.kp D _ e3 dm
    have fp : Fr [D] H4 (upd H4 D (.lst (ys ++ [y]))) := Fr.put e4 (by intro _ z; cases z)
    have ly : ys.length ≤ i := by rw [m.1]; exact keptN_le f i
    refine ⟨ys, e4, Nat.lt_of_le_of_lt (Nat.le_trans ly (Nat.le_of_lt (Nat.lt_of_lt_of_le hi hz))) (by decide), G.sD D _ _ hD fp s4, ((fr.comp f3).comp f4).compN fp hD, ys ++ [y], upd_same, ?_⟩
    rw [keptN_yes hf]
    exact (((m.fr st f3).fr st f4).fr st fp).snoc (st _ _ _ _ _ fp p)
/-- [elt for x in range(lo, lo + n) if test] -/
theorem lcR {lo : Int} {n : Nat} (f : Nat → Bool) (P : Hp → Nat → V → Prop) (G : Cg M S H1) (st : Stab P) (hz : n ≤ 10000)
    (ht : ∀ (i : Nat) H, i < n → S H → Fr M H1 H → ∀ R : Bool → Hp → Prop, (∀ H', S H' → Fr M H H' → R (f i) H') → tt ((wipe σ [j]).set j (some (.int (lo + i)))) H R)
    (he : ∀ (i : Nat) H, i < n → f i = true → S H → Fr M H1 H → ∀ R : VK, (∀ y H', S H' → Fr M H H' → P H' i y → R y H') → te ((wipe σ [j]).set j (some (.int (lo + i)))) H R)
    (hd : ∀ D H' ys, H1 D = none → H' D = some (.lst ys) → Made P H' (keptN f n) ys → S H' → Fr M H1 H' → Qd D H') :
    ∀ D, H1 D = none → ∃ W : Nat → Nat → Hp → Prop, (∃ m, W 0 m (upd H1 D (.lst []))) ∧ ∀ i m H, W i m H →
      ((Itr lo n).stop i H ∧ Qd D H) ∨ ((Itr lo n).go i H ∧ ∃ Nx : Hp → Prop, (∀ H', Nx H' → ∃ m', m' < m ∧ W (i + 1) m' H') ∧ ∀ x H', (Itr lo n).yld i H x H' → gName j x (wipe σ [j]) H' fun σ2 H2 => wipe σ2 [j] = wipe σ [j] ∧ tt σ2 H2 fun b H3 =>
        if b = true then te σ2 H3 fun y H4 => ∃ acc, H4 D = some (.lst acc) ∧ acc.length < sizeLine ∧ Nx (upd H4 D (.lst (acc ++ [y]))) else Nx H3) := fun D hD =>
  lc_range (CI M S H1 f P D) (CI.start G hD) (fun i H hi h => ⟨wipe_again σ j _, CI.turn G st hD hi hz h (ht i H hi h.1 h.2.1) fun hf H' s f' => he i H' hi hf s f'⟩) fun H h => let ⟨s, fr, ys, e, m⟩ := h; hd D H ys hD e m s fr
/-- .. for x in a list -/
theorem lcL {K : PySem.W.Frag} {a : Addr} {xs : List V} (f : Nat → Bool) (P : Hp → Nat → V → Prop) (G : Cg M S H1) (st : Stab P) (hx : SqL K H1 a xs) (na : a ∉ M) (hz : xs.length ≤ 10000)
    (ht : ∀ (i : Nat) (x : V) H, xs[i]? = some x → S H → Fr M H1 H → ∀ R : Bool → Hp → Prop, (∀ H', S H' → Fr M H H' → R (f i) H') → tt ((wipe σ [j]).set j (some x)) H R)
    (he : ∀ (i : Nat) (x : V) H, xs[i]? = some x → f i = true → S H → Fr M H1 H → ∀ R : VK, (∀ y H', S H' → Fr M H H' → P H' i y → R y H') → te ((wipe σ [j]).set j (some x)) H R)
    (hd : ∀ D H' ys, H1 D = none → H' D = some (.lst ys) → Made P H' (keptN f xs.length) ys → S H' → Fr M H1 H' → Qd D H') :
    ∀ D, H1 D = none → ∃ W : Nat → Nat → Hp → Prop, (∃ m, W 0 m (upd H1 D (.lst []))) ∧ ∀ i m H, W i m H →
      ((Itl K a).stop i H ∧ Qd D H) ∨ ((Itl K a).go i H ∧ ∃ Nx : Hp → Prop, (∀ H', Nx H' → ∃ m', m' < m ∧ W (i + 1) m' H') ∧ ∀ x H', (Itl K a).yld i H x H' → gName j x (wipe σ [j]) H' fun σ2 H2 => wipe σ2 [j] = wipe σ [j] ∧ tt σ2 H2 fun b H3 =>
        if b = true then te σ2 H3 fun y H4 => ∃ acc, H4 D = some (.lst acc) ∧ acc.length < sizeLine ∧ Nx (upd H4 D (.lst (acc ++ [y]))) else Nx H3) := fun D hD =>
  lc_list (CI M S H1 f P D) (CI.start G hD) (fun i H _ h => sqFr h.2.1 na hx) (fun i x H hi h => ⟨wipe_again σ j _, CI.turn G st hD (List.getElem?_eq_some_iff.mp hi).1 hz h (ht i x H hi h.1 h.2.1) fun hf H' s f' => he i x H' hi hf s f'⟩) fun H h => let ⟨s, fr, ys, e, m⟩ := h; hd D H ys hD e m s fr
/-- no test -/
theorem tyes_ok {σ2 : L2.St} {H : Hp} (hs : S H) (nt : ∀ a ∈ M, ∀ (xs : List V), H a ≠ some (HO.tup xs)) : ∀ R : Bool → Hp → Prop, (∀ H', S H' → Fr M H H' → R true H') → tYes σ2 H R := fun R k => k H hs (Fr.refl nt)
end
end M14
set_option Elab.async false
set_option linter.all false
set_option maxRecDepth 100000
set_option maxHeartbeats 4000000
namespace K4
open PySem PySem.Spec PyProof.Rows L2 M14 SX
section
variable {te : TE} {tt : TT} {σ : L2.St} {H1 : Hp} {j : Nat} {M : List Addr} {S : Hp → Prop} {f : Nat → Bool} {P : Hp → Nat → V → Prop} {Qd : Addr → Hp → Prop}
/-- one turn: the test's answer is f i, the item fits P -/
theorem turnB {i n : Nat} {H : Hp} {σ2 : L2.St} {D : Addr} (G : Cg M S H1) (st : Stab P) (hD : H1 D = none) (hi : i < n) (hz : n ≤ 1000000) (h : CI M S H1 f P D i H)
    (ht : ∀ R : Bool → Hp → Prop, (∀ H', S H' → Fr M H H' → R (f i) H') → tt σ2 H R)
    (he : f i = true → ∀ H', S H' → Fr M H1 H' → ∀ R : VK, (∀ y H'', S H'' → Fr M H' H'' → P H'' i y → R y H'') → te σ2 H' R) :
    tt σ2 H fun b H3 => if b = true then te σ2 H3 fun y H4 => ∃ acc, H4 D = some (.lst acc) ∧ acc.length < sizeLine ∧ CI M S H1 f P D (i + 1) (upd H4 D (.lst (acc ++ [y]))) else CI M S H1 f P D (i + 1) H3 := by
  obtain ⟨s, fr, ys, e, m⟩ := h
  have dm : D ∉ M := fun z => G.th D z hD
  refine ht _ fun H3 s3 f3 => ?_
  have e3 := f3.kp D _ e dm
  cases hf : f i with
  | false =>
    refine iteF ?_
    exact ⟨s3, fr.comp f3, ys, e3, by rw [keptN_no hf]; exact m.fr st f3⟩
  | true =>
    refine iteT ?_
    refine he hf H3 s3 (fr.comp f3) _ fun y H4 s4 f4 p => ?_
    have e4 := f4.kp D _ e3 dm
    have fp : Fr [D] H4 (upd H4 D (.lst (ys ++ [y]))) := Fr.put e4 (by intro _ z; cases z)
    have ly : ys.length ≤ i := by rw [m.1]; exact keptN_le f i
    refine ⟨ys, e4, Nat.lt_of_le_of_lt (Nat.le_trans ly (Nat.le_of_lt (Nat.lt_of_lt_of_le hi hz))) (by decide), G.sD D _ _ hD fp s4, ((fr.comp f3).comp f4).compN fp hD, ys ++ [y], upd_same, ?_⟩
    rw [keptN_yes hf]
    exact (((m.fr st f3).fr st f4).fr st fp).snoc (st _ _ _ _ _ fp p)
end
/-- a comprehension over a tuple -/
theorem lcT {te : TE} {tt : TT} {σ : L2.St} {H1 : Hp} {j : Nat} {M : List Addr} {S : Hp → Prop} {Qd : Addr → Hp → Prop} {K : PySem.W.Frag} {a : Addr} {xs : List V} (f : Nat → Bool) (P : Hp → Nat → V → Prop) (G : Cg M S H1) (st : Stab P) (hx : H1 a = some (.tup xs)) (hz : xs.length ≤ 1000000)
    (ht : ∀ (i : Nat) (x : V) H, xs[i]? = some x → S H → Fr M H1 H → ∀ R : Bool → Hp → Prop, (∀ H', S H' → Fr M H H' → R (f i) H') → tt ((wipe σ [j]).set j (some x)) H R)
    (he : ∀ (i : Nat) (x : V) H, xs[i]? = some x → f i = true → S H → Fr M H1 H → ∀ R : VK, (∀ y H', S H' → Fr M H H' → P H' i y → R y H') → te ((wipe σ [j]).set j (some x)) H R)
    (hd : ∀ D H' ys, H1 D = none → H' D = some (.lst ys) → Made P H' (keptN f xs.length) ys → S H' → Fr M H1 H' → Qd D H') :
    ∀ D, H1 D = none → ∃ W : Nat → Nat → Hp → Prop, (∃ m, W 0 m (upd H1 D (.lst []))) ∧ ∀ i m H, W i m H →
      ((Itt K a).stop i H ∧ Qd D H) ∨ ((Itt K a).go i H ∧ ∃ Nx : Hp → Prop, (∀ H', Nx H' → ∃ m', m' < m ∧ W (i + 1) m' H') ∧ ∀ x H', (Itt K a).yld i H x H' → gName j x (wipe σ [j]) H' fun σ2 H2 => wipe σ2 [j] = wipe σ [j] ∧ tt σ2 H2 fun b H3 =>
        if b = true then te σ2 H3 fun y H4 => ∃ acc, H4 D = some (.lst acc) ∧ acc.length < sizeLine ∧ Nx (upd H4 D (.lst (acc ++ [y]))) else Nx H3) := fun D hD =>
  lc_tup (CI M S H1 f P D) (CI.start G hD) (fun i H _ h => SqT.of (h.2.1.tup hx)) (fun i x H hi h => ⟨wipe_again σ j _, turnB G st hD (List.getElem?_eq_some_iff.mp hi).1 hz h (ht i x H hi h.1 h.2.1) fun hf H' s f' => he i x H' hi hf s f'⟩) fun H h => let ⟨s, fr, ys, e, m⟩ := h; hd D H ys hD e m s fr
theorem strI_step {i : Int} {H : Hp} {Q : VK} (h : i.natAbs < 10 ^ 80) (q : Q (.str (S (numI i))) H) : rStrI [.int i] H Q := by
  unfold rStrI
  have l : i.natAbs.log2 < 1920 := by
    by_cases h0 : i.natAbs = 0
    · rw [h0]; decide
    · exact (Nat.log2_lt h0).mpr (Nat.lt_of_lt_of_le h (by decide +kernel))
  refine ⟨i, rfl, l, ?_⟩
  have e := num_str i
  show Q (.str (Str.ofString (toString i))) H
  rw [e]
  exact q
theorem truB_step {K : PySem.W.Frag} {b : Bool} {H : Hp} {Q : Bool → Hp → Prop} (h : Q b H) : rxTru K (.bl b) H Q := by
  unfold rxTru
  exact ⟨b, rfl, h⟩
theorem litS {z : Str} {l : List Nat} (h : z.cps.toList = l) : V.str z = V.str (S l) := by rw [← S_tl z, h]
theorem l_none : (Str.ofString "none").cps.toList = cNon := by decide +kernel
theorem l_true : (Str.ofString "true").cps.toList = cTru := by decide +kernel
theorem l_false : (Str.ofString "false").cps.toList = cFal := by decide +kernel
/-- a def that writes a datum -/
@[irreducible] def spWr (K : PySem.W.Frag) : Nat → Sp
  | 0 => fun _ _ _ _ => False
  | d + 1 => fun vs H Q _ => ∃ v t, vs = [v] ∧ Den K H v t ∧ WF d t ∧ (wr t).length ≤ 100000 ∧ ∀ H', Fr [] H H' → Q (.str (S (wr t))) H'
theorem wr_step {K : PySem.W.Frag} {d : Nat} {v : V} {t : T} {H : Hp} {Q : VK} {E : XK} (h : Den K H v t) (w : WF d t) (l : (wr t).length ≤ 100000) (k : ∀ H', Fr [] H H' → Q (.str (S (wr t))) H') : spWr K (d + 1) ([v] ++ []) H Q E := by
  unfold spWr
  exact ⟨v, t, rfl, h, w, l, k⟩
theorem calMono {P : Program} {w : World} {K : PySem.W.Frag} {mg : Str → Option Value} {base : Heap} {j k : Nat} {x : Str} {ps : List Str} {sp : Sp} (c : Cal P w K mg base j x ps sp) (h : j ≤ k) : Cal P w K mg base k x ps sp :=
  let ⟨f, fd, F, a, b, d⟩ := c; ⟨f, fd, F.mono h, a, b, d⟩
theorem calNever {P : Program} {w : World} {K : PySem.W.Frag} {mg : Str → Option Value} {base : Heap} {x : Str} {st : Stmt} {ps : List Str} (D : Def1 K mg x st)
    (hb : ∀ (kV doc pm : Value) (an : Option Addr) (cdv ct : Value) (us : List Value), us.length = ps.length → bindArgs (PySem.W.fnOf x x (defArgs st) (defBody st) (defScope st) .none kV doc pm an cdv ct) ⟨us, []⟩ = pure (ps.zip us)) : Cal P w K mg base 0 x ps (fun _ _ _ _ => False) := by
  obtain ⟨f, fd, F, g⟩ := D
  exact ⟨f, fd, ⟨fun _ _ _ _ h => h.elim, fun _ _ _ _ _ _ _ _ _ _ _ _ _ h => h.elim⟩, g, F.kp, F.bindsN hb⟩
theorem enc_len : ∀ a : List Nat, a.length ≤ (enc a).length
  | [] => Nat.le_refl _
  | c :: r => by
    have := enc_len r
    rw [enc]
    have h2 : 1 ≤ (esc c).length := by
      unfold esc
      split
      · simp
      · split <;> simp
    rw [List.length_append, List.length_cons]
    omega
theorem jn_len : ∀ ts : List T, (ts.map fun t => (wr t).length).sum + ts.length ≤ (jn ts).length + 1
  | [] => by simp [jn]
  | [t] => by rw [jn_one]; simp
  | t :: u :: r => by
    have := jn_len (u :: r)
    rw [jn_cons, List.length_append, List.length_cons]
    simp only [List.map_cons, List.sum_cons, List.length_cons] at this ⊢
    omega
theorem wr_pos {d : Nat} {t : T} (h : WF d t) : 1 ≤ (wr t).length := by
  obtain ⟨c, r, e, _⟩ := wr_head h
  rw [e]; simp
theorem mem_len {ts : List T} {t : T} (m : t ∈ ts) : (wr t).length ≤ (jn ts).length := by
  have h1 := jn_len ts
  have h2 : (wr t).length ≤ (ts.map fun t => (wr t).length).sum := by
    clear h1
    induction ts with
    | nil => cases m
    | cons u r ih =>
      rw [List.map_cons, List.sum_cons]
      rcases List.mem_cons.mp m with rfl | m
      · omega
      · have := ih m; omega
  have h3 : 0 < ts.length := List.length_pos_of_mem m
  omega
theorem wr_tup_len (ts : List T) : (wr (.tup ts)).length = (jn ts).length + 2 := by rw [wr_tup]; simp
section
variable {P : Program} {w : World} {K : PySem.W.Frag} {mg : Str → Option Value} {base : Heap}
set_option hygiene false
local macro_rules | `(tactic| tm_at "sc") => `(tactic| (first | omega | (simp only [List.length_cons, List.length_nil, List.length_map, List.length_set, List.length_append]; omega) | (simp only [List.length_map] at h1 ⊢; omega) | (simp only [List.length_map] at c ⊢; omega) | with_reducible assumption | exact And.intro (by omega) (by omega) | exact Or.inl (And.intro (by omega) (by omega)) | exact Or.inr (And.intro (by omega) (by omega)) | decide +kernel | exact len1000 (by simp) | rfl | fail "no way"))
local macro_rules | `(tactic| tm_at "sc1") => `(tactic| (focus (simp; done)))
local macro_rules | `(tactic| tm_at "ne") => `(tactic| (first | assumption | exact Ne.symm (by assumption) | (apply Box.ne2; assumption; tm_at "hp") | (apply Ne.symm; apply Box.ne2; assumption; tm_at "hp") | (apply ne_of_none2; assumption; tm_at "hp") | (apply Ne.symm; apply ne_of_none2; assumption; tm_at "hp") | fail "no way"))
local macro_rules | `(tactic| tm_at "f0") => `(tactic| (first | assumption | (apply Fr.new; assumption) | fail "no way"))
local macro_rules | `(tactic| tm_at "hp") => `(tactic| (first | assumption | exact upd_same | (apply SqL.of; first | assumption | exact upd_same) | (apply Fr.at0; tm_at "f0"; tm_at "hp") | (apply Fr.at1n; assumption; tm_at "ne"; tm_at "hp") | (apply sqFr0; tm_at "f0"; tm_at "hp") | (apply sqFr1; assumption; tm_at "ne"; tm_at "hp") | (apply Box.fr0; tm_at "f0"; tm_at "hp") | (apply Box.fr1; assumption; tm_at "ne"; tm_at "hp") | (apply Den.fr; tm_at "f0"; tm_at "hp") | (apply Dens.fr; tm_at "f0"; tm_at "hp") | fail "no way"))
local macro_rules | `(tactic| tm_at "free0") => `(tactic| (first | assumption | (apply updFree; assumption) | (apply updFree; apply updFree; assumption) | (apply updFree; apply updFree; apply updFree; assumption) | (apply updFree; apply updFree; apply updFree; apply updFree; assumption) | fail "no way"))
local macro_rules | `(tactic| tm_at "free") => `(tactic| (first | tm_at "free0" | (apply Fr.free; assumption; tm_at "free0") | (apply Box.free; assumption; tm_at "fr"; tm_at "free0") | (apply Fr.free; assumption; apply Fr.free; assumption; tm_at "free0") | fail "no way"))
local macro_rules | `(tactic| tm_at "fr") => `(tactic| (first | assumption | exact Fr.refl0 _ | exact Fr.refl (Box.nt (by assumption)) | (refine Fr.comp0 ?_ (by tm_at "f0"); tm_at "fr") | (refine Fr.comp ?_ (by assumption); tm_at "fr") | (refine Fr.compN ?_ (by assumption) (by tm_at "free"); tm_at "fr") | fail "no way"))
local macro_rules | `(tactic| tm_at "call") => `(tactic| fail "no call")
local macro_rules | `(tactic| tm_at "call") => `(tactic| (apply take_step; tm_at "hp"; tm_at "sc"; tm_at "sc"; intro r H1 h0 h1 hB fr))
local macro_rules | `(tactic| tm_at "ty") => `(tactic| (first | assumption | exact .base .non | exact .base (.bl _) | exact .base (.int _) | exact .base (.str _) | (apply TyX.base; apply TyOf.lst; tm_at "hp") | (apply TyX.base; apply TyOf.tup; tm_at "hp") | fail "no way"))
local macro_rules | `(tactic| tm_at "pre") => `(tactic| fail "none")
local macro_rules | `(tactic| tm_at "go1") => `(tactic| (first | tm_at "pre" | refine ⟨_, rfl, ?_⟩ | refine ⟨_, _, rfl, rfl, ?_⟩ | (apply set_step; tm_at "hp"; tm_at "sc"; tm_at "sc"; intro H1 hp fr) | (with_reducible refine iteDI ?_ ?_ <;> intro c) | (with_reducible refine iteDS ?_ ?_ <;> intro c) | (with_reducible refine iteD ?_ ?_ <;> intro c) | (with_reducible refine iteEM ?_ ?_ <;> intro c) | (with_reducible refine iteE ?_ ?_ <;> intro c) | with_reducible refine iteN ?_ | with_reducible refine iteF ?_ | with_reducible refine iteT ?_ | (refine fun (p : Addr) (np : _ = (none : Option HO)) => ?_; fail_if_success (refine ⟨fun (_ _ : Nat) (_ : Hp) => True, ?_⟩)) | (apply isi_tt; tm_at "ty"; focus (decide +kernel)) | (apply isi_ff; tm_at "ty"; focus (decide +kernel)) | (apply sl_step; tm_at "hp"; intro qq H1 ms nq hq fr) | (apply sum_step; tm_at "hp"; intro i) | (apply tru_step; tm_at "hp") | (apply len_step; tm_at "hp") | (apply lenq_step; assumption) | (apply ixq_step; assumption; tm_at "sc"; tm_at "sc"; intro v hv) | (apply lst_step; tm_at "hp") | (apply tupl_step; tm_at "hp") | (apply ixr_step; tm_at "hp"; exact rfl) | (apply ix0_step; tm_at "hp") | (apply ix1_step; tm_at "hp") | (apply ix2_step; tm_at "hp") | (apply ixi_step; tm_at "hp"; tm_at "sc"; tm_at "sc"; intro n hn hn') | (apply ixl_step; tm_at "hp"; tm_at "sc"; tm_at "sc"; intro v hv) | (apply ixt_step; tm_at "hp"; tm_at "sc"; tm_at "sc"; intro v hm hv) | (apply in_step; tm_at "hp"; rfl; rfl) | (apply cat_step; tm_at "hp"; tm_at "hp"; tm_at "sc") | (apply catT_step; tm_at "hp"; tm_at "hp"; tm_at "sc1") | (apply tyL_and; tm_at "hp") | (apply app_step; tm_at "hp"; tm_at "sc"; intro H1 hp fr) | tm_at "call" | refine ⟨⟨_, rfl⟩, ?_⟩ | (apply ixs_step; tm_at "sc"; tm_at "sc"; tm_at "sc"; intro ch) | refine .inl ⟨_, rfl, ?_⟩ | refine .inr ⟨_, rfl, ?_⟩ | (apply And.intro; tm_at "sc") | (with_reducible refine wayB ?_ ?_ <;> intro c) | fail "no way"))
local macro_rules | `(tactic| tm_at "go") => `(tactic| (repeat tm_at "go1"))
local macro_rules | `(tactic| tm_at "goo") => `(tactic| (repeat' tm_at "go1"))
local macro_rules | `(tactic| tm_at "den") => `(tactic| (first | assumption | exact Den.str _ | exact Den.int _ | exact Den.bl _ | exact Den.non | (apply Den.tups; tm_at "hp"; tm_at "dens") | (apply Den.fr; tm_at "f0"; tm_at "den") | fail "no way"))
local macro_rules | `(tactic| tm_at "dens") => `(tactic| (first | assumption | exact Dens.nil | (apply Dens.cons; tm_at "den"; tm_at "dens") | (apply Dens.fr; tm_at "f0"; tm_at "dens") | fail "no way"))
local macro_rules | `(tactic| tm_at "ix") => `(tactic| (apply Ix.mk; tm_at "hp"; tm_at "ne"; assumption; assumption))
local macro_rules | `(tactic| tm_at "dep") => `(tactic| (first | assumption | exact Dep.int | exact Dep.str | exact Dep.bl | exact Dep.non | (apply Dep.tup; tm_at "dlen"; tm_at "deps") | (apply Dep.mono; assumption; decide) | fail "no way"))
local macro_rules | `(tactic| tm_at "deps") => `(tactic| (first | assumption | exact memN | (apply memC; tm_at "dep"; tm_at "deps") | fail "no way"))
local macro_rules | `(tactic| tm_at "dlen") => `(tactic| (first | assumption | (focus (simp; done)) | omega | fail "no way"))
local macro_rules | `(tactic| tm_at "pre") => `(tactic| (apply rep_step; tm_at "hp"; tm_at "sc"; tm_at "sc"; intro rp H1 nrp hrp fr))

local macro_rules | `(tactic| tm_at "lits") => `(tactic| (try simp only [l_nl, l_open, l_close, l_sp, l_quo, l_bs, l_minus, l_zero, l_empty, l_n] at c))
local macro_rules | `(tactic| tm_at "pre") => `(tactic| (first | (apply slm_step; tm_at "sc"; tm_at "sc"; tm_at "sc") | (apply slf_step; tm_at "sc"; tm_at "sc") | (apply slt_step; tm_at "sc"; tm_at "sc") | (with_reducible refine iteEqZ ?_ ?_ <;> (intro c; tm_at "lits")) | (apply catS_step; tm_at "sc") | (apply inD_step) | (apply ordS_step) | (apply intS_step; assumption) | (apply sign_step) | (apply lenS_step; tm_at "sc")))
local macro_rules | `(tactic| tm_at "pre") => `(tactic| (apply while_go))
local macro_rules | `(tactic| tm_at "pre") => `(tactic| (apply ixS_step; tm_at "sc"; tm_at "sc"; assumption))
local macro_rules | `(tactic| tm_at "pre") => `(tactic| (apply appB_step; tm_at "hp"; tm_at "sc"; intro H1 hp fr))

local macro_rules | `(tactic| tm_at "call") => `(tactic| (apply quo_step; tm_at "sc"; intro H1 fr))
local macro_rules | `(tactic| tm_at "pre") => `(tactic| (first | (apply strI_step; assumption) | apply truB_step))
theorem made_wr {H' : Hp} {xs : List V} {ts : List T} {ys : List V} (l : xs.length = ts.length) (m : Made (fun _ i y => ∃ t, ts[i]? = some t ∧ y = V.str (S (wr t))) H' (keptN (fun _ => true) xs.length) ys) : ys = (ts.map wr).map fun z => V.str (S z) := by
  rw [keptN_all] at m
  obtain ⟨ly, hy⟩ := m.all
  refine List.ext_getElem? fun i => ?_
  rw [List.map_map, List.getElem?_map]
  cases e : ys[i]? with
  | none =>
    have := List.getElem?_eq_none_iff.mp e
    rw [List.getElem?_eq_none_iff.mpr (by omega)]
    rfl
  | some y =>
    obtain ⟨t, ht, rfl⟩ := hy i y e
    rw [ht]
    rfl
set_option pp.deepTerms false
set_option pp.deepTerms.threshold 3
abbrev s_p_write_datum : Stmt := top 18
theorem sc_p_write_datum : FnScope ["datum", "item"] ["datum"] (defScope s_p_write_datum) := ⟨rfl, rfl, rfl, by decide +kernel, rfl, by decide +kernel, by decide +kernel⟩

theorem ok_wri (T : Bl mg) (G_p_quoted : Cal P w K mg base 1 "quoted" ["text"] spQuo) (D : Def1 K mg "write_datum" s_p_write_datum) : ∀ d : Nat, Cal P w K mg base (d + 1) "write_datum" ["datum"] (spWr K d)
  | 0 => by
    have z : spWr K 0 = fun _ _ _ _ => False := by unfold spWr; rfl
    rw [z]
    exact calMono (calNever D (fun _ _ _ _ _ _ us hl => match us, hl with | [_], _ => rfl)) (by omega)
  | d + 1 => by
    have G_p_write_datum := ok_wri T G_p_quoted D d
    refine D.cal sc_p_write_datum (fun _ _ _ _ _ _ us hl => match us, hl with | [_], _ => rfl) (fun vs H Q E h => ?_) (fun f cdv A outer s H vs Q E hr h => ?_) <;> unfold spWr at h
    · obtain ⟨v, t, rfl, _⟩ := h
      rfl
    · obtain ⟨v, t, rfl, hd, hw, hl, k⟩ := h
      refine ⟨_, (pss_cons (ps_if (pt_cmpR op_isN (pv 0) pe_non (nomark _))
        (pss_one (ps_ret pe_str))
        pss_nil)
      (pss_cons (ps_if (pt_val (pe_callB (cIsi K) (by rfl) T.z_isinstance (by decide +kernel) (pa_cons (pv 0) (pa_cons (pe_bltn (v := .ty "bool") (by rfl) T.z_bool (by decide +kernel) rfl) pa_nil))))
        (pss_one (ps_ret (pe_ifExp (ptTru K (pv 0)) pe_str pe_str)))
        pss_nil)
      (pss_cons (ps_if (pt_val (pe_callB (cIsi K) (by rfl) T.z_isinstance (by decide +kernel) (pa_cons (pv 0) (pa_cons (pe_bltn (v := .ty "int") (by rfl) T.z_int (by decide +kernel) rfl) pa_nil))))
        (pss_one (ps_ret (pe_callTy call_strI (by rfl) T.z_str (by decide +kernel) (pa_cons (pv 0) pa_nil))))
        pss_nil)
      (pss_cons (ps_if (pt_val (pe_callB (cIsi K) (by rfl) T.z_isinstance (by decide +kernel) (pa_cons (pv 0) (pa_cons (pe_bltn (v := .ty "str") (by rfl) T.z_str (by decide +kernel) rfl) pa_nil))))
        (pss_one (ps_ret (pe_cal G_p_quoted (hr.mono (by omega)) (by rfl) (pa_cons (pv 0) pa_nil))))
        pss_nil)
      (pss_one (ps_ret (pe_op op_catS (pe_op op_catS pe_str (pe_m1 PySem.F.slot_str_join PySem.F.type_str_join (mtJoin K) pe_str (pe_lc (own := [("item", 1)]) (g := gName 1) (by rfl) sc_p_write_datum.nd (pi_tup (pv 0)) (blkOk_by (own := [("item", 1)]) (N := [("datum" : Str), ("item" : Str)]) (sc := defScope s_p_write_datum) (by decide +kernel)) (fun _ _ _ _ _ => pg_name (i := 1) sc_p_write_datum.nd rfl (Or.inl rfl)) (fun _ _ _ _ _ => pts_nil) (fun _ _ _ _ _ => (pe_cal G_p_write_datum (hr.mono (by omega)) (by rfl) (pa_cons (pv 1) pa_nil)))))) pe_str))))))), ?_⟩
      cases hd with
      | non =>
        tm_at "goo"
        · show Q (.str (Str.ofString "none")) H
          rw [litS l_none]
          exact k _ (Fr.refl0 _)
        · exact absurd rfl c
      | bl b =>
        tm_at "goo"
        · subst c
          show Q (.str (Str.ofString "true")) H
          rw [litS l_true]
          exact k _ (Fr.refl0 _)
        · subst c
          show Q (.str (Str.ofString "false")) H
          rw [litS l_false]
          exact k _ (Fr.refl0 _)
      | int i =>
        have hi : i.natAbs < 10 ^ 80 := by cases hw with | int h => exact h
        tm_at "goo"
        exact k _ (Fr.refl0 _)
      | str s =>
        obtain ⟨a, rfl⟩ : ∃ a, s = S a := ⟨_, (S_tl s).symm⟩
        have hle : a.length ≤ 100000 := by
          have h1 : (wr (.str (S a))).length = (enc a).length + 2 := by
            show (34 :: (enc a ++ [34])).length = _
            simp
          have := enc_len a
          omega
        tm_at "goo"
        exact k _ (by tm_at "fr")
      | @tup a xs ts ha lx cx =>
        obtain ⟨e, rfl, hwt⟩ : ∃ e, d = e + 1 ∧ ∀ t ∈ ts, WF e t := by
          cases hw with
          | tup h => exact ⟨_, rfl, h⟩
        have hlt := wr_tup_len ts
        have hjl := jn_len ts
        tm_at "goo"
        refine ⟨⟨xs, SqT.of ha⟩, ?_⟩
        refine lcT (fun _ => true) (fun _ i y => ∃ t, ts[i]? = some t ∧ y = V.str (S (wr t))) (Cg.nil _) stab_v ha (by omega) (fun i x H hi hS f => tyes_ok hS (fun _ h => nomatch h)) (fun i x H1 hi _ hS f R kk => ?_) (fun D H' ys nD hD m hS f => ?_)
        · obtain ⟨t, ht⟩ : ∃ t, ts[i]? = some t := by
            have hl2 := (List.getElem?_eq_some_iff.mp hi).1
            exact ⟨ts[i]'(by omega), List.getElem?_eq_getElem _⟩
          have mt := List.mem_of_getElem? ht
          have := mem_len mt
          refine ⟨_, rfl, ?_⟩
          refine wr_step ((cx i x t hi ht).fr f) (hwt t mt) (by omega) fun H2 f2 => ?_
          exact kk _ _ hS f2 ⟨t, ht, rfl⟩
        · have e := made_wr lx m
          subst e
          refine join_stepS hD rfl ?_ ?_
          · have e1 : (Str.ofString " ").length = 1 := by decide +kernel
            rw [e1, List.map_map, List.length_map]
            have : (ts.map ((fun x => x.length) ∘ wr)).sum = (ts.map fun t => (wr t).length).sum := rfl
            omega
          · rw [l_sp, ← wrl_map]
            show rCatS (.str (Str.ofString "(")) (.str (S (jn ts))) H' _
            rw [litS l_open]
            refine catS_step (by simp; omega) ?_
            show rCatS (.str (S ([40] ++ jn ts))) (.str (Str.ofString ")")) H' _
            rw [litS l_close]
            refine catS_step (by simp; omega) ?_
            have := k H' f
            rw [wr_tup] at this
            simpa using this
@[irreducible] def QMid (a : List Nat) (H : Hp) (i : Nat) (σ : L2.St) (H' : Hp) : Prop := (∃ x, σ = [some (.str (S a)), some (.str (S (enc (a.take i)))), x]) ∧ Fr [] H H'
theorem enc_snoc : ∀ (a : List Nat) (c : Nat), enc (a ++ [c]) = enc a ++ esc c
  | [], c => by simp [enc]
  | d :: r, c => by rw [List.cons_append, enc, enc_snoc r c, enc, List.append_assoc]
theorem enc_take {a : List Nat} {i c : Nat} (e : a[i]? = some c) : enc (a.take (i + 1)) = enc (a.take i) ++ esc c := by
  rw [List.take_succ, e]
  exact enc_snoc _ _
theorem enc_le : ∀ a : List Nat, (enc a).length ≤ 2 * a.length
  | [] => Nat.le_refl _
  | c :: r => by
    have := enc_le r
    rw [enc]
    have h2 : (esc c).length ≤ 2 := by
      unfold esc
      split
      · simp
      · split <;> simp
    rw [List.length_append, List.length_cons]
    omega
theorem QMid.of {a b : List Nat} {H : Hp} {i : Nat} {σ : L2.St} {H' : Hp} {x : Option V} (e : σ = [some (.str (S a)), some (.str (S b)), x]) (eb : b = enc (a.take i)) (f : Fr [] H H') : QMid a H i σ H' := by
  unfold QMid
  subst eb
  exact ⟨⟨x, e⟩, f⟩
theorem l_bn : (Str.ofString "\\n").cps.toList = [92, 110] := by decide +kernel
abbrev s_quoted : Stmt := top 33
theorem sc_quoted : FnScope ["_law_word", "_law_written", "_law_sign"] ["_law_word"] (defScope s_quoted) := ⟨rfl, rfl, rfl, by decide +kernel, rfl, by decide +kernel, by decide +kernel⟩

theorem ok_lquo (T : Bl mg) (D : Def1 K mg "_law_quoted" s_quoted) : Cal P w K mg base 1 "_law_quoted" ["_law_word"] spQuo := by
  refine D.cal sc_quoted (fun _ _ _ _ _ _ us hl => match us, hl with | [_], _ => rfl) (fun vs H Q E h => ?_) (fun f cdv A outer s H vs Q E hr h => ?_) <;> unfold spQuo at h
  · obtain ⟨a, rfl, _⟩ := h
    rfl
  · obtain ⟨a, rfl, hz, k⟩ := h
    refine ⟨_, (pss_cons (ps_set (i := 1) sc_quoted.nd rfl (Or.inl rfl) pe_str)
    (pss_cons (ps_for PassesOwn.never rfl (pi_str (pv 0)) (pg_name (i := 2) sc_quoted.nd rfl (Or.inl rfl))
      (pss_one (ps_if (pt_cmpR op_eq (pv 2) pe_str (nomark _))
        (pss_one (ps_set (i := 1) sc_quoted.nd rfl (Or.inl rfl) (pe_op op_catS (pv 1) pe_str)))
        (pss_one (ps_if (PW.pt (pw_or (pt_cmpR op_eq (pv 2) pe_str (nomark _)) (pw_or1 (pt_cmpR op_eq (pv 2) pe_str (nomark _)))))
          (pss_one (ps_set (i := 1) sc_quoted.nd rfl (Or.inl rfl) (pe_op op_catS (pe_op op_catS (pv 1) pe_str) (pv 2))))
          (pss_one (ps_set (i := 1) sc_quoted.nd rfl (Or.inl rfl) (pe_op op_catS (pv 1) (pv 2)))))))))
    (pss_one (ps_ret (pe_op op_catS (pe_op op_catS pe_str (pv 1)) pe_str))))), ?_⟩
    refine ⟨_, rfl, _, rfl, ?_⟩
    refine for_it walk_str (QMid a H) ?_ (fun _ _ _ _ _ => trivial) (fun i x σ H1 H2 hi hp hy => ?_) (fun σ H1 hp => ?_)
    · show QMid a H 0 [some (.str (S a)), some (.str (Str.ofString "")), none] H
      rw [litS l_empty]
      exact QMid.of rfl rfl (Fr.refl0 _)
    · unfold QMid at hp
      obtain ⟨⟨x2, rfl⟩, f1⟩ := hp
      obtain ⟨rfl, ch, hc, rfl⟩ := hy
      have hc := getS hc
      have hlen := enc_le (a.take i)
      have hlt : (a.take i).length ≤ 100000 := by rw [List.length_take]; omega
      have het := enc_take hc
      show tIfS _ _ _ _ _ _
      tm_at "goo"
      · show rCatS (.str (S (enc (a.take i)))) (.str (Str.ofString "\\n")) _ _
        rw [litS l_bn]
        refine catS_step (by simp; omega) ?_
        show QMid a H (i + 1) _ _
        refine QMid.of rfl ?_ f1
        rw [het, (List.cons.inj c).1]
        rfl
      · show rCatS (.str (S (enc (a.take i)))) (.str (Str.ofString "\\")) _ _
        rw [litS l_bs]
        refine catS_step (by simp; omega) ?_
        tm_at "goo"
        show QMid a H (i + 1) _ _
        refine QMid.of rfl ?_ f1
        rw [het, (List.cons.inj c).1]
        simp [esc]
      · show rCatS (.str (S (enc (a.take i)))) (.str (Str.ofString "\\")) _ _
        rw [litS l_bs]
        refine catS_step (by simp; omega) ?_
        tm_at "goo"
        show QMid a H (i + 1) _ _
        refine QMid.of rfl ?_ f1
        rw [het, (List.cons.inj c).1]
        simp [esc]
      · rename_i c1 c2
        show QMid a H (i + 1) _ _
        refine QMid.of rfl ?_ f1
        rw [het, esc_plain (by simpa using c1) (by simpa using c) (by simpa using c2)]
    · unfold QMid at hp
      obtain ⟨⟨x2, rfl⟩, f1⟩ := hp
      rw [List.take_of_length_le (by simp)]
      have hlen := enc_le a
      refine ⟨_, rfl, ?_⟩
      rw [litS l_quo]
      tm_at "goo"
      have := k _ f1
      simpa using this
abbrev s_note : Stmt := top 34
theorem sc_note : FnScope ["_law_datum_here", "_law_part"] ["_law_datum_here"] (defScope s_note) := ⟨rfl, rfl, rfl, by decide +kernel, rfl, by decide +kernel, by decide +kernel⟩

theorem ok_note (T : Bl mg) (G_quoted : Cal P w K mg base 1 "_law_quoted" ["_law_word"] spQuo) (D : Def1 K mg "_law_note" s_note) : ∀ d : Nat, Cal P w K mg base (d + 1) "_law_note" ["_law_datum_here"] (spWr K d)
  | 0 => by
    have z : spWr K 0 = fun _ _ _ _ => False := by unfold spWr; rfl
    rw [z]
    exact calMono (calNever D (fun _ _ _ _ _ _ us hl => match us, hl with | [_], _ => rfl)) (by omega)
  | d + 1 => by
    have G_note := ok_note T G_quoted D d
    refine D.cal sc_note (fun _ _ _ _ _ _ us hl => match us, hl with | [_], _ => rfl) (fun vs H Q E h => ?_) (fun f cdv A outer s H vs Q E hr h => ?_) <;> unfold spWr at h
    · obtain ⟨v, t, rfl, _⟩ := h
      rfl
    · obtain ⟨v, t, rfl, hd, hw, hl, k⟩ := h
      refine ⟨_, (pss_cons (ps_if (pt_cmpR op_isN (pv 0) pe_non (nomark _))
        (pss_one (ps_ret pe_str))
        pss_nil)
      (pss_cons (ps_if (pt_val (pe_callB (cIsi K) (by rfl) T.z_isinstance (by decide +kernel) (pa_cons (pv 0) (pa_cons (pe_bltn (v := .ty "bool") (by rfl) T.z_bool (by decide +kernel) rfl) pa_nil))))
        (pss_one (ps_ret (pe_ifExp (ptTru K (pv 0)) pe_str pe_str)))
        pss_nil)
      (pss_cons (ps_if (pt_val (pe_callB (cIsi K) (by rfl) T.z_isinstance (by decide +kernel) (pa_cons (pv 0) (pa_cons (pe_bltn (v := .ty "int") (by rfl) T.z_int (by decide +kernel) rfl) pa_nil))))
        (pss_one (ps_ret (pe_callTy call_strI (by rfl) T.z_str (by decide +kernel) (pa_cons (pv 0) pa_nil))))
        pss_nil)
      (pss_cons (ps_if (pt_val (pe_callB (cIsi K) (by rfl) T.z_isinstance (by decide +kernel) (pa_cons (pv 0) (pa_cons (pe_bltn (v := .ty "str") (by rfl) T.z_str (by decide +kernel) rfl) pa_nil))))
        (pss_one (ps_ret (pe_cal G_quoted (hr.mono (by omega)) (by rfl) (pa_cons (pv 0) pa_nil))))
        pss_nil)
      (pss_one (ps_ret (pe_op op_catS (pe_op op_catS pe_str (pe_m1 PySem.F.slot_str_join PySem.F.type_str_join (mtJoin K) pe_str (pe_lc (own := [("_law_part", 1)]) (g := gName 1) (by rfl) sc_note.nd (pi_tup (pv 0)) (blkOk_by (own := [("_law_part", 1)]) (N := [("_law_datum_here" : Str), ("_law_part" : Str)]) (sc := defScope s_note) (by decide +kernel)) (fun _ _ _ _ _ => pg_name (i := 1) sc_note.nd rfl (Or.inl rfl)) (fun _ _ _ _ _ => pts_nil) (fun _ _ _ _ _ => (pe_cal G_note (hr.mono (by omega)) (by rfl) (pa_cons (pv 1) pa_nil)))))) pe_str))))))), ?_⟩
      cases hd with
      | non =>
        tm_at "goo"
        · show Q (.str (Str.ofString "none")) H
          rw [litS l_none]
          exact k _ (Fr.refl0 _)
        · exact absurd rfl c
      | bl b =>
        tm_at "goo"
        · subst c
          show Q (.str (Str.ofString "true")) H
          rw [litS l_true]
          exact k _ (Fr.refl0 _)
        · subst c
          show Q (.str (Str.ofString "false")) H
          rw [litS l_false]
          exact k _ (Fr.refl0 _)
      | int i =>
        have hi : i.natAbs < 10 ^ 80 := by cases hw with | int h => exact h
        tm_at "goo"
        exact k _ (Fr.refl0 _)
      | str s =>
        obtain ⟨a, rfl⟩ : ∃ a, s = S a := ⟨_, (S_tl s).symm⟩
        have hle : a.length ≤ 100000 := by
          have h1 : (wr (.str (S a))).length = (enc a).length + 2 := by
            show (34 :: (enc a ++ [34])).length = _
            simp
          have := enc_len a
          omega
        tm_at "goo"
        exact k _ (by tm_at "fr")
      | @tup a xs ts ha lx cx =>
        obtain ⟨e, rfl, hwt⟩ : ∃ e, d = e + 1 ∧ ∀ t ∈ ts, WF e t := by
          cases hw with
          | tup h => exact ⟨_, rfl, h⟩
        have hlt := wr_tup_len ts
        have hjl := jn_len ts
        tm_at "goo"
        refine ⟨⟨xs, SqT.of ha⟩, ?_⟩
        refine lcT (fun _ => true) (fun _ i y => ∃ t, ts[i]? = some t ∧ y = V.str (S (wr t))) (Cg.nil _) stab_v ha (by omega) (fun i x H hi hS f => tyes_ok hS (fun _ h => nomatch h)) (fun i x H1 hi _ hS f R kk => ?_) (fun D H' ys nD hD m hS f => ?_)
        · obtain ⟨t, ht⟩ : ∃ t, ts[i]? = some t := by
            have hl2 := (List.getElem?_eq_some_iff.mp hi).1
            exact ⟨ts[i]'(by omega), List.getElem?_eq_getElem _⟩
          have mt := List.mem_of_getElem? ht
          have := mem_len mt
          refine ⟨_, rfl, ?_⟩
          refine wr_step ((cx i x t hi ht).fr f) (hwt t mt) (by omega) fun H2 f2 => ?_
          exact kk _ _ hS f2 ⟨t, ht, rfl⟩
        · have e := made_wr lx m
          subst e
          refine join_stepS hD rfl ?_ ?_
          · have e1 : (Str.ofString " ").length = 1 := by decide +kernel
            rw [e1, List.map_map, List.length_map]
            have : (ts.map ((fun x => x.length) ∘ wr)).sum = (ts.map fun t => (wr t).length).sum := rfl
            omega
          · rw [l_sp, ← wrl_map]
            show rCatS (.str (Str.ofString "(")) (.str (S (jn ts))) H' _
            rw [litS l_open]
            refine catS_step (by simp; omega) ?_
            show rCatS (.str (S ([40] ++ jn ts))) (.str (Str.ofString ")")) H' _
            rw [litS l_close]
            refine catS_step (by simp; omega) ?_
            have := k H' f
            rw [wr_tup] at this
            simpa using this
end
end K4
set_option Elab.async false
set_option linter.all false
set_option maxRecDepth 100000
set_option maxHeartbeats 4000000
namespace K4
open PySem PySem.Spec PyProof.Rows L2 M14 SX
@[irreducible] def b80 : Int := 10 ^ 80
theorem b80_mul : ((10 : Int) ^ (40 : Int).toNat) * (10 ^ (40 : Int).toNat) = b80 := by unfold b80; decide +kernel
theorem pe_big {X : Cx} {p1 p2 p3 : Pos} {j1 j2 j3 j4 : Nat} {c1 c2 c3 c4 : Pos} : PE X (.BinOp (.BinOp (.Constant (.int 10) j1 c1) .Pow (.Constant (.int 40) j2 c2) p1) .Mult (.BinOp (.Constant (.int 10) j3 c3) .Pow (.Constant (.int 40) j4 c4) p2) p3) (tC (.int b80)) := by
  refine ⟨fun pins s σ H Q I h => ?_⟩
  refine (pe_op op_mulW (pe_op op_pow pe_int pe_int) (pe_op op_pow pe_int pe_int)).run pins s σ H Q I ?_
  have cp : (0 : Int) ≤ 40 ∧ (40 : Int) ≤ 1000000 ∧ (10 : Int).natAbs < 2 ^ 64 := by decide
  refine ⟨_, _, rfl, rfl, cp, _, _, rfl, rfl, cp, _, _, rfl, rfl, wide_mul (a := 140) (b := 140) (by decide +kernel) (by decide +kernel) (by decide) (by decide) (by decide), ?_⟩
  show Q (.int ((10 : Int) ^ (40 : Int).toNat * (10 ^ (40 : Int).toNat))) H
  rw [b80_mul]
  exact h
theorem lt_b80 {i : Int} (h : i.natAbs < 10 ^ 80) : ((i.natAbs : Nat) : Int) < b80 := by
  unfold b80
  have e : (10 : Int) ^ 80 = ((10 ^ 80 : Nat) : Int) := by decide +kernel
  rw [e]
  exact Int.ofNat_lt.mpr h
@[irreducible] def rAbs : List V → Hp → VK → Prop := fun xs H Q => ∃ i : Int, xs = [.int i] ∧ Q (.int (if i < 0 then -i else i)) H
theorem call_absI {X : Cx} : CallR X (.builtin "abs") rAbs := by unfold rAbs; exact call_abs
theorem abs_step {i : Int} {H : Hp} {Q : VK} (q : Q (.int ((i.natAbs : Nat) : Int)) H) : rAbs [.int i] H Q := by
  unfold rAbs
  refine ⟨i, rfl, ?_⟩
  have e : (if i < 0 then -i else i) = ((i.natAbs : Nat) : Int) := by split <;> omega
  rw [e]
  exact q
@[irreducible] def spWho : Sp := fun vs H Q _ => ∃ i : Int, vs = [.int i] ∧ Q (.bl true) H
theorem who_step {i : Int} {H : Hp} {Q : VK} {E : XK} (q : Q (.bl true) H) : spWho ([.int i] ++ []) H Q E := by
  unfold spWho
  exact ⟨i, rfl, q⟩
@[irreducible] def spSa (K : PySem.W.Frag) : Nat → Sp
  | 0 => fun _ _ _ _ => False
  | d + 1 => fun vs H Q _ => ∃ x y t, vs = [x, y] ∧ Den K H x t ∧ Den K H y t ∧ WF d t ∧ (∀ ts, t = .tup ts → True) ∧ (wr t).length ≤ 100000 ∧ Q (.bl true) H
theorem sa_step {K : PySem.W.Frag} {d : Nat} {x y : V} {t : T} {H : Hp} {Q : VK} {E : XK} (h : Den K H x t) (h2 : Den K H y t) (w : WF d t) (l : (wr t).length ≤ 100000) (q : Q (.bl true) H) : spSa K (d + 1) ([x, y] ++ []) H Q E := by
  unfold spSa
  exact ⟨x, y, t, rfl, h, h2, w, fun _ _ => trivial, l, q⟩
@[irreducible] def spId (K : PySem.W.Frag) : Nat → Sp
  | 0 => fun _ _ _ _ => False
  | d + 1 => fun vs H Q _ => ∃ v r t, vs = [v, .int r] ∧ Den K H v t ∧ WF d t ∧ (d : Int) ≤ r ∧ r ≤ 100 ∧ Q (.bl true) H
theorem id_step {K : PySem.W.Frag} {d : Nat} {v : V} {r : Int} {t : T} {H : Hp} {Q : VK} {E : XK} (h : Den K H v t) (w : WF d t) (l : (d : Int) ≤ r) (l2 : r ≤ 100) (q : Q (.bl true) H) : spId K (d + 1) ([v, .int r] ++ []) H Q E := by
  unfold spId
  exact ⟨v, r, t, rfl, h, w, l, l2, q⟩
@[irreducible] def LMid (H : Hp) (σ : L2.St) (_ : Nat) (σ' : L2.St) (H' : Hp) : Prop := ∃ x : Option V, σ' = σ ++ [x] ∧ H' = H
theorem LMid.of {H : Hp} {σ : L2.St} {i : Nat} {σ' : L2.St} {x : Option V} (e : σ' = σ ++ [x]) : LMid H σ i σ' H := by unfold LMid; exact ⟨x, e, rfl⟩
section
variable {P : Program} {w : World} {K : PySem.W.Frag} {mg : Str → Option Value} {base : Heap}
set_option hygiene false
local macro_rules | `(tactic| tm_at "sc") => `(tactic| (first | omega | (simp only [List.length_cons, List.length_nil, List.length_map, List.length_set, List.length_append]; omega) | (simp only [List.length_map] at h1 ⊢; omega) | (simp only [List.length_map] at c ⊢; omega) | with_reducible assumption | exact And.intro (by omega) (by omega) | exact Or.inl (And.intro (by omega) (by omega)) | exact Or.inr (And.intro (by omega) (by omega)) | decide +kernel | exact len1000 (by simp) | rfl | fail "no way"))
local macro_rules | `(tactic| tm_at "sc1") => `(tactic| (focus (simp; done)))
local macro_rules | `(tactic| tm_at "ne") => `(tactic| (first | assumption | exact Ne.symm (by assumption) | (apply Box.ne2; assumption; tm_at "hp") | (apply Ne.symm; apply Box.ne2; assumption; tm_at "hp") | (apply ne_of_none2; assumption; tm_at "hp") | (apply Ne.symm; apply ne_of_none2; assumption; tm_at "hp") | fail "no way"))
local macro_rules | `(tactic| tm_at "f0") => `(tactic| (first | assumption | (apply Fr.new; assumption) | fail "no way"))
local macro_rules | `(tactic| tm_at "hp") => `(tactic| (first | assumption | exact upd_same | (apply SqL.of; first | assumption | exact upd_same) | (apply Fr.at0; tm_at "f0"; tm_at "hp") | (apply Fr.at1n; assumption; tm_at "ne"; tm_at "hp") | (apply sqFr0; tm_at "f0"; tm_at "hp") | (apply sqFr1; assumption; tm_at "ne"; tm_at "hp") | (apply Box.fr0; tm_at "f0"; tm_at "hp") | (apply Box.fr1; assumption; tm_at "ne"; tm_at "hp") | (apply Den.fr; tm_at "f0"; tm_at "hp") | (apply Dens.fr; tm_at "f0"; tm_at "hp") | fail "no way"))
local macro_rules | `(tactic| tm_at "free0") => `(tactic| (first | assumption | (apply updFree; assumption) | (apply updFree; apply updFree; assumption) | (apply updFree; apply updFree; apply updFree; assumption) | (apply updFree; apply updFree; apply updFree; apply updFree; assumption) | fail "no way"))
local macro_rules | `(tactic| tm_at "free") => `(tactic| (first | tm_at "free0" | (apply Fr.free; assumption; tm_at "free0") | (apply Box.free; assumption; tm_at "fr"; tm_at "free0") | (apply Fr.free; assumption; apply Fr.free; assumption; tm_at "free0") | fail "no way"))
local macro_rules | `(tactic| tm_at "fr") => `(tactic| (first | assumption | exact Fr.refl0 _ | exact Fr.refl (Box.nt (by assumption)) | (refine Fr.comp0 ?_ (by tm_at "f0"); tm_at "fr") | (refine Fr.comp ?_ (by assumption); tm_at "fr") | (refine Fr.compN ?_ (by assumption) (by tm_at "free"); tm_at "fr") | fail "no way"))
local macro_rules | `(tactic| tm_at "call") => `(tactic| fail "no call")
local macro_rules | `(tactic| tm_at "call") => `(tactic| (apply take_step; tm_at "hp"; tm_at "sc"; tm_at "sc"; intro r H1 h0 h1 hB fr))
local macro_rules | `(tactic| tm_at "ty") => `(tactic| (first | assumption | exact .base .non | exact .base (.bl _) | exact .base (.int _) | exact .base (.str _) | (apply TyX.base; apply TyOf.lst; tm_at "hp") | (apply TyX.base; apply TyOf.tup; tm_at "hp") | fail "no way"))
local macro_rules | `(tactic| tm_at "pre") => `(tactic| fail "none")
local macro_rules | `(tactic| tm_at "go1") => `(tactic| (first | tm_at "pre" | refine ⟨_, rfl, ?_⟩ | refine ⟨_, _, rfl, rfl, ?_⟩ | (apply set_step; tm_at "hp"; tm_at "sc"; tm_at "sc"; intro H1 hp fr) | (with_reducible refine iteDI ?_ ?_ <;> intro c) | (with_reducible refine iteDS ?_ ?_ <;> intro c) | (with_reducible refine iteD ?_ ?_ <;> intro c) | (with_reducible refine iteEM ?_ ?_ <;> intro c) | (with_reducible refine iteE ?_ ?_ <;> intro c) | with_reducible refine iteN ?_ | with_reducible refine iteF ?_ | with_reducible refine iteT ?_ | (refine fun (p : Addr) (np : _ = (none : Option HO)) => ?_; fail_if_success (refine ⟨fun (_ _ : Nat) (_ : Hp) => True, ?_⟩)) | (apply isi_tt; tm_at "ty"; focus (decide +kernel)) | (apply isi_ff; tm_at "ty"; focus (decide +kernel)) | (apply sl_step; tm_at "hp"; intro qq H1 ms nq hq fr) | (apply sum_step; tm_at "hp"; intro i) | (apply tru_step; tm_at "hp") | (apply len_step; tm_at "hp") | (apply lenq_step; assumption) | (apply ixq_step; assumption; tm_at "sc"; tm_at "sc"; intro v hv) | (apply lst_step; tm_at "hp") | (apply tupl_step; tm_at "hp") | (apply ixr_step; tm_at "hp"; exact rfl) | (apply ix0_step; tm_at "hp") | (apply ix1_step; tm_at "hp") | (apply ix2_step; tm_at "hp") | (apply ixi_step; tm_at "hp"; tm_at "sc"; tm_at "sc"; intro n hn hn') | (apply ixl_step; tm_at "hp"; tm_at "sc"; tm_at "sc"; intro v hv) | (apply ixt_step; tm_at "hp"; tm_at "sc"; tm_at "sc"; intro v hm hv) | (apply in_step; tm_at "hp"; rfl; rfl) | (apply cat_step; tm_at "hp"; tm_at "hp"; tm_at "sc") | (apply catT_step; tm_at "hp"; tm_at "hp"; tm_at "sc1") | (apply tyL_and; tm_at "hp") | (apply app_step; tm_at "hp"; tm_at "sc"; intro H1 hp fr) | tm_at "call" | refine ⟨⟨_, rfl⟩, ?_⟩ | (apply ixs_step; tm_at "sc"; tm_at "sc"; tm_at "sc"; intro ch) | refine .inl ⟨_, rfl, ?_⟩ | refine .inr ⟨_, rfl, ?_⟩ | (apply And.intro; tm_at "sc") | (with_reducible refine wayB ?_ ?_ <;> intro c) | fail "no way"))
local macro_rules | `(tactic| tm_at "go") => `(tactic| (repeat tm_at "go1"))
local macro_rules | `(tactic| tm_at "goo") => `(tactic| (repeat' tm_at "go1"))
local macro_rules | `(tactic| tm_at "den") => `(tactic| (first | assumption | exact Den.str _ | exact Den.int _ | exact Den.bl _ | exact Den.non | (apply Den.tups; tm_at "hp"; tm_at "dens") | (apply Den.fr; tm_at "f0"; tm_at "den") | fail "no way"))
local macro_rules | `(tactic| tm_at "dens") => `(tactic| (first | assumption | exact Dens.nil | (apply Dens.cons; tm_at "den"; tm_at "dens") | (apply Dens.fr; tm_at "f0"; tm_at "dens") | fail "no way"))
local macro_rules | `(tactic| tm_at "ix") => `(tactic| (apply Ix.mk; tm_at "hp"; tm_at "ne"; assumption; assumption))
local macro_rules | `(tactic| tm_at "dep") => `(tactic| (first | assumption | exact Dep.int | exact Dep.str | exact Dep.bl | exact Dep.non | (apply Dep.tup; tm_at "dlen"; tm_at "deps") | (apply Dep.mono; assumption; decide) | fail "no way"))
local macro_rules | `(tactic| tm_at "deps") => `(tactic| (first | assumption | exact memN | (apply memC; tm_at "dep"; tm_at "deps") | fail "no way"))
local macro_rules | `(tactic| tm_at "dlen") => `(tactic| (first | assumption | (focus (simp; done)) | omega | fail "no way"))
local macro_rules | `(tactic| tm_at "pre") => `(tactic| (apply rep_step; tm_at "hp"; tm_at "sc"; tm_at "sc"; intro rp H1 nrp hrp fr))

local macro_rules | `(tactic| tm_at "lits") => `(tactic| (try simp only [l_nl, l_open, l_close, l_sp, l_quo, l_bs, l_minus, l_zero, l_empty, l_n] at c))
local macro_rules | `(tactic| tm_at "pre") => `(tactic| (first | (apply slm_step; tm_at "sc"; tm_at "sc"; tm_at "sc") | (apply slf_step; tm_at "sc"; tm_at "sc") | (apply slt_step; tm_at "sc"; tm_at "sc") | (with_reducible refine iteEqZ ?_ ?_ <;> (intro c; tm_at "lits")) | (apply catS_step; tm_at "sc") | (apply inD_step) | (apply ordS_step) | (apply intS_step; assumption) | (apply sign_step) | (apply lenS_step; tm_at "sc")))
local macro_rules | `(tactic| tm_at "pre") => `(tactic| (apply while_go))
local macro_rules | `(tactic| tm_at "pre") => `(tactic| (apply ixS_step; tm_at "sc"; tm_at "sc"; assumption))
local macro_rules | `(tactic| tm_at "pre") => `(tactic| (apply appB_step; tm_at "hp"; tm_at "sc"; intro H1 hp fr))

local macro_rules | `(tactic| tm_at "call") => `(tactic| (apply who_step))
local macro_rules | `(tactic| tm_at "pre") => `(tactic| (apply abs_step))
set_option pp.deepTerms false
set_option pp.deepTerms.threshold 3
abbrev s_whole : Stmt := top 26
theorem sc_whole : FnScope ["_law_value"] ["_law_value"] (defScope s_whole) := ⟨rfl, rfl, rfl, by decide +kernel, rfl, by decide +kernel, by decide +kernel⟩

theorem ok_who (T : Bl mg) (D : Def1 K mg "_law_whole" s_whole) : Cal P w K mg base 1 "_law_whole" ["_law_value"] spWho := by
  refine D.cal sc_whole (fun _ _ _ _ _ _ us hl => match us, hl with | [_], _ => rfl) (fun vs H Q E h => ?_) (fun f cdv A outer s H vs Q E hr h => ?_) <;> unfold spWho at h
  · obtain ⟨i, rfl, _⟩ := h
    rfl
  · obtain ⟨i, rfl, k⟩ := h
    refine ⟨_, (pss_one (ps_ret (pe_and (pe_callB (cIsi K) (by rfl) T.z_isinstance (by decide +kernel) (pa_cons (pv 0) (pa_cons (pe_bltn (v := .ty "int") (by rfl) T.z_int (by decide +kernel) rfl) pa_nil))) (pe_one (pe_not (pe_callB (cIsi K) (by rfl) T.z_isinstance (by decide +kernel) (pa_cons (pv 0) (pa_cons (pe_bltn (v := .ty "bool") (by rfl) T.z_bool (by decide +kernel) rfl) pa_nil)))))))), ?_⟩
    tm_at "goo"
    all_goals exact k
abbrev s_same : Stmt := top 35
theorem sc_same : FnScope ["_law_told", "_law_due", "_law_at"] ["_law_told", "_law_due"] (defScope s_same) := ⟨rfl, rfl, rfl, by decide +kernel, rfl, by decide +kernel, by decide +kernel⟩

theorem ok_sam (T : Bl mg) (G_whole : Cal P w K mg base 1 "_law_whole" ["_law_value"] spWho) (D : Def1 K mg "_law_same" s_same) : ∀ d : Nat, Cal P w K mg base (d + 1) "_law_same" ["_law_told", "_law_due"] (spSa K d)
  | 0 => by
    have z : spSa K 0 = fun _ _ _ _ => False := by unfold spSa; rfl
    rw [z]
    exact calMono (calNever D (fun _ _ _ _ _ _ us hl => match us, hl with | [_, _], _ => rfl)) (by omega)
  | d + 1 => by
    have G_same := ok_sam T G_whole D d
    refine D.cal sc_same (fun _ _ _ _ _ _ us hl => match us, hl with | [_, _], _ => rfl) (fun vs H Q E h => ?_) (fun f cdv A outer s H vs Q E hr h => ?_) <;> unfold spSa at h
    · obtain ⟨x, y, t, rfl, _⟩ := h
      rfl
    · obtain ⟨x, y, t, rfl, hx, hy, hw, _, hl, k⟩ := h
      refine ⟨_, (pss_cons (ps_if (pt_val (pe_callB (cIsi K) (by rfl) T.z_isinstance (by decide +kernel) (pa_cons (pv 1) (pa_cons (pe_bltn (v := .ty "tuple") (by rfl) T.z_tuple (by decide +kernel) rfl) pa_nil))))
        (pss_cons (ps_if (PW.pt (pw_or (pt_not (pt_val (pe_callB (cIsi K) (by rfl) T.z_isinstance (by decide +kernel) (pa_cons (pv 0) (pa_cons (pe_bltn (v := .ty "tuple") (by rfl) T.z_tuple (by decide +kernel) rfl) pa_nil))))) (pw_or1 (pt_cmpR op_ne (pe_callB (cLen K) (by rfl) T.z_len (by decide +kernel) (pa_cons (pv 0) pa_nil)) (pe_callB (cLen K) (by rfl) T.z_len (by decide +kernel) (pa_cons (pv 1) pa_nil)) (nomark _)))))
          (pss_one (ps_ret pe_bl))
          pss_nil)
        (pss_cons (ps_for PassesOwn.never rfl (pi_range1 (by rfl) T.z_range (pa_cons (pe_callB (cLen K) (by rfl) T.z_len (by decide +kernel) (pa_cons (pv 1) pa_nil)) pa_nil)) (pg_name (i := 2) sc_same.nd rfl (Or.inl rfl))
          (pss_one (ps_if (pt_not (pt_val (pe_cal G_same (hr.mono (by omega)) (by rfl) (pa_cons (pe_ix (ixQ K) (pv 0) (pv 2) (fun _ _ => rfl)) (pa_cons (pe_ix (ixQ K) (pv 1) (pv 2) (fun _ _ => rfl)) pa_nil)))))
            (pss_one (ps_ret pe_bl))
            pss_nil)))
        (pss_one (ps_ret pe_bl))))
        pss_nil)
      (pss_cons (ps_if (pt_cmpR op_isN (pv 1) pe_non (nomark _))
        (pss_one (ps_ret (pe_cmpR op_isN (pv 0) pe_non (nomark _))))
        pss_nil)
      (pss_cons (ps_if (pt_val (pe_callB (cIsi K) (by rfl) T.z_isinstance (by decide +kernel) (pa_cons (pv 1) (pa_cons (pe_bltn (v := .ty "bool") (by rfl) T.z_bool (by decide +kernel) rfl) pa_nil))))
        (pss_one (ps_ret (pe_and (pe_callB (cIsi K) (by rfl) T.z_isinstance (by decide +kernel) (pa_cons (pv 0) (pa_cons (pe_bltn (v := .ty "bool") (by rfl) T.z_bool (by decide +kernel) rfl) pa_nil))) (pe_one (pe_cmpR op_eq (pv 0) (pv 1) (nomark _))))))
        pss_nil)
      (pss_cons (ps_if (pt_val (pe_callB (cIsi K) (by rfl) T.z_isinstance (by decide +kernel) (pa_cons (pv 1) (pa_cons (pe_bltn (v := .ty "int") (by rfl) T.z_int (by decide +kernel) rfl) pa_nil))))
        (pss_one (ps_ret (pe_and (pe_cal G_whole (hr.mono (by omega)) (by rfl) (pa_cons (pv 0) pa_nil)) (pe_one (pe_cmpR op_eq (pv 0) (pv 1) (nomark _))))))
        pss_nil)
      (pss_one (ps_ret (pe_and (pe_callB (cIsi K) (by rfl) T.z_isinstance (by decide +kernel) (pa_cons (pv 0) (pa_cons (pe_bltn (v := .ty "str") (by rfl) T.z_str (by decide +kernel) rfl) pa_nil))) (pe_one (pe_cmpR op_eq (pv 0) (pv 1) (nomark _)))))))))), ?_⟩
      cases hx with
      | non =>
        cases hy
        tm_at "goo"
        all_goals first | exact k | exact absurd rfl c | exact fin_of (decide_eq_true rfl).symm k
      | bl b =>
        cases hy
        tm_at "goo"
        all_goals first | exact k | exact absurd rfl c | exact fin_of (decide_eq_true rfl).symm k
      | int i =>
        cases hy
        tm_at "goo"
        all_goals first | exact k | exact absurd rfl c | exact fin_of (decide_eq_true rfl).symm k
      | str s =>
        cases hy
        tm_at "goo"
        all_goals first | exact k | exact absurd rfl c | exact fin_of (decide_eq_true rfl).symm k
      | @tup a xs ts ha lx cx =>
        cases hy with
        | @tup b ys _ hb ly cy =>
        obtain ⟨e, rfl, hwt⟩ : ∃ e, d = e + 1 ∧ ∀ t ∈ ts, WF e t := by
          cases hw with
          | tup h => exact ⟨_, rfl, h⟩
        have hlt := wr_tup_len ts
        have hjl := jn_len ts
        have qa : SqL K H a xs ∨ SqT K H a xs := .inr (SqT.of ha)
        have qb : SqL K H b ys ∨ SqT K H b ys := .inr (SqT.of hb)
        tm_at "goo"
        · refine forR (LMid H [some (.ref a), some (.ref b)]) (LMid.of rfl) (fun i σ H1 hi hp => ?_) (fun σ H1 hp => ?_)
          · unfold LMid at hp
            obtain ⟨x, rfl, rfl⟩ := hp
            have hix : i < xs.length := by omega
            have hit : i < ts.length := by omega
            show tIfS _ _ _ _ _ _
            tm_at "goo"
            rename_i v1 hv1
            have ei : ((0 : Int) + i).toNat = i := by omega
            rw [ei] at hv1 hv
            have ht : ts[i]? = some ts[i] := List.getElem?_eq_getElem hit
            have mt := List.mem_of_getElem? ht
            have := mem_len mt
            show spSa K (e + 1) ([v1, v] ++ []) _ _ _
            refine sa_step (cx i v1 _ hv1 ht) (cy i v _ hv ht) (hwt _ mt) (by omega) ?_
            tm_at "goo"
            exact LMid.of rfl
          · unfold LMid at hp
            obtain ⟨x, rfl, rfl⟩ := hp
            tm_at "goo"
            exact k
        · exact absurd (by omega) c
abbrev s_is_datum : Stmt := top 36
theorem sc_is_datum : FnScope ["_law_told", "_law_room", "_law_part"] ["_law_told", "_law_room"] (defScope s_is_datum) := ⟨rfl, rfl, rfl, by decide +kernel, rfl, by decide +kernel, by decide +kernel⟩

theorem ok_isd (T : Bl mg) (D : Def1 K mg "_law_is_datum" s_is_datum) : ∀ d : Nat, Cal P w K mg base (d + 1) "_law_is_datum" ["_law_told", "_law_room"] (spId K d)
  | 0 => by
    have z : spId K 0 = fun _ _ _ _ => False := by unfold spId; rfl
    rw [z]
    exact calMono (calNever D (fun _ _ _ _ _ _ us hl => match us, hl with | [_, _], _ => rfl)) (by omega)
  | d + 1 => by
    have G_is_datum := ok_isd T D d
    refine D.cal sc_is_datum (fun _ _ _ _ _ _ us hl => match us, hl with | [_, _], _ => rfl) (fun vs H Q E h => ?_) (fun f cdv A outer s H vs Q E hr h => ?_) <;> unfold spId at h
    · obtain ⟨x, r, t, rfl, _⟩ := h
      rfl
    · obtain ⟨x, r, t, rfl, hx, hw, hl, hl2, k⟩ := h
      refine ⟨_, (pss_cons (ps_if (pt_val (pe_callB (cIsi K) (by rfl) T.z_isinstance (by decide +kernel) (pa_cons (pv 0) (pa_cons (pe_bltn (v := .ty "tuple") (by rfl) T.z_tuple (by decide +kernel) rfl) pa_nil))))
        (pss_cons (ps_if (pt_cmpR op_eq (pv 1) pe_int (nomark _))
          (pss_one (ps_ret pe_bl))
          pss_nil)
        (pss_cons (ps_for PassesOwn.never rfl (pi_tup (pv 0)) (pg_name (i := 2) sc_is_datum.nd rfl (Or.inl rfl))
          (pss_one (ps_if (pt_not (pt_val (pe_cal G_is_datum (hr.mono (by omega)) (by rfl) (pa_cons (pv 2) (pa_cons (pe_op op_sub (pv 1) pe_int) pa_nil)))))
            (pss_one (ps_ret pe_bl))
            pss_nil)))
        (pss_one (ps_ret pe_bl))))
        pss_nil)
      (pss_cons (ps_if (PW.pt (pw_or (pt_cmpR op_isN (pv 0) pe_non (nomark _)) (pw_or (pt_val (pe_callB (cIsi K) (by rfl) T.z_isinstance (by decide +kernel) (pa_cons (pv 0) (pa_cons (pe_bltn (v := .ty "bool") (by rfl) T.z_bool (by decide +kernel) rfl) pa_nil)))) (pw_or1 (pt_val (pe_callB (cIsi K) (by rfl) T.z_isinstance (by decide +kernel) (pa_cons (pv 0) (pa_cons (pe_bltn (v := .ty "str") (by rfl) T.z_str (by decide +kernel) rfl) pa_nil))))))))
        (pss_one (ps_ret pe_bl))
        pss_nil)
      (pss_one (ps_ret (pe_and (pe_callB (cIsi K) (by rfl) T.z_isinstance (by decide +kernel) (pa_cons (pv 0) (pa_cons (pe_bltn (v := .ty "int") (by rfl) T.z_int (by decide +kernel) rfl) pa_nil))) (pe_one (pe_cmpR op_lt (pe_callB call_absI (by rfl) T.z_abs (by decide +kernel) (pa_cons (pv 0) pa_nil)) pe_big (nomark _)))))))), ?_⟩
      cases hx with
      | non =>
        tm_at "goo"
        all_goals first | exact k | exact absurd rfl c
      | bl b =>
        tm_at "goo"
        all_goals first | exact k | exact absurd rfl c
      | int i =>
        have hi : ((i.natAbs : Nat) : Int) < b80 := by cases hw with | int h => exact lt_b80 h
        tm_at "goo"
        exact fin_of (decide_eq_true hi).symm k
      | str s =>
        tm_at "goo"
        all_goals first | exact k | exact absurd rfl c
      | @tup a xs ts ha lx cx =>
        obtain ⟨e, rfl, hwt⟩ : ∃ e, d = e + 1 ∧ ∀ t ∈ ts, WF e t := by
          cases hw with
          | tup h => exact ⟨_, rfl, h⟩
        tm_at "goo"
        · omega
        · refine ⟨⟨xs, SqT.of ha⟩, ?_⟩
          refine for_it (walk_tup (xs := xs)) (LMid H [some (.ref a), some (.int r)]) (LMid.of rfl) (fun _ _ _ _ hp => ?_) (fun i x σ H1 H2 hi hp hy => ?_) (fun σ H1 hp => ?_)
          · unfold LMid at hp
            obtain ⟨_, _, rfl⟩ := hp
            exact SqT.of ha
          · unfold LMid at hp
            obtain ⟨x2, rfl, rfl⟩ := hp
            obtain ⟨rfl, hx⟩ := hy
            have hit : i < ts.length := by omega
            have ht : ts[i]? = some ts[i] := List.getElem?_eq_getElem hit
            have mt := List.mem_of_getElem? ht
            show tIfS _ _ _ _ _ _
            tm_at "goo"
            show spId K (e + 1) ([x, .int (r - 1)] ++ []) _ _ _
            refine id_step (cx i x _ hx ht) (hwt _ mt) (by omega) (by omega) ?_
            tm_at "goo"
            exact LMid.of rfl
          · unfold LMid at hp
            obtain ⟨x, rfl, rfl⟩ := hp
            tm_at "goo"
            exact k
end
end K4
set_option Elab.async false
set_option linter.all false
set_option maxRecDepth 100000
set_option maxHeartbeats 4000000
namespace K4
open PySem PySem.Spec PyProof.Rows L2 M14 SX
abbrev zAl1 : Str := Str.ofString " !\"#$&'()*+,-./0123456789:;<=>?@ABCDEFGHIJKLMNOPQRSTUVWXYZ[\\]^_"
abbrev zAl2 : Str := Str.ofString "`abcdefghijklmnopqrstuvwxyz{|}~\n"
def zAll : List Nat := zAl1.cps.toList ++ zAl2.cps.toList
theorem zAll_okc : zAll.all okc = true := by decide +kernel
theorem okc_zAll : ∀ c : Nat, c < 127 → okc c = true → c ∈ zAll := by decide +kernel
theorem in_zAll {c : Nat} : decide (c ∈ zAll) = okc c := by
  cases h : okc c with
  | true =>
    have hc : c < 127 := by
      unfold okc at h
      simp at h
      omega
    exact decide_eq_true (okc_zAll c hc h)
  | false =>
    refine decide_eq_false fun m => ?_
    have := List.all_eq_true.mp zAll_okc c m
    rw [h] at this
    cases this
@[irreducible] def spAl : Sp := fun vs H Q _ => vs = [] ∧ Q (.str (S zAll)) H
theorem al_step {H : Hp} {Q : VK} {E : XK} (q : Q (.str (S zAll)) H) : spAl [] H Q E := by
  unfold spAl
  exact ⟨rfl, q⟩
theorem zAll_len : zAll.length = 95 := by decide +kernel
theorem se_plain {c : Nat} {r : List Nat} (h1 : c ≠ 34) (h2 : c ≠ 10) (h3 : okc c = true) (h4 : c ≠ 92) : se (c :: r) = (se r).map (· + 1) := by
  cases r with
  | nil => unfold se; rw [if_neg h1]; rfl
  | cons e r =>
    conv => lhs; unfold se
    rw [if_neg h1, if_neg (by simp [h2, h3]), if_neg h4]
theorem se_esc {e : Nat} {r : List Nat} (h : isE e = true) : se (92 :: e :: r) = (se r).map (· + 2) := by
  conv => lhs; unfold se
  rw [if_neg (by decide), if_neg (by decide), if_pos rfl, if_pos h]
theorem se_bad {c : Nat} {r : List Nat} (h1 : c ≠ 34) (h2 : c = 10 ∨ okc c = false) : se (c :: r) = none := by
  cases r with
  | nil => unfold se; rw [if_neg h1]
  | cons e r =>
    conv => lhs; unfold se
    rw [if_neg h1, if_pos h2]
theorem se_bad2 {r : List Nat} (h : ∀ e, r.take 1 = [e] → isE e = false) : se (92 :: r) = none := by
  cases r with
  | nil => rfl
  | cons e r =>
    conv => lhs; unfold se
    have := h e rfl
    rw [if_neg (by decide), if_neg (by decide), if_pos rfl, if_neg (by rw [this]; decide)]
theorem se_quo {r : List Nat} : se (34 :: r) = some 1 := by cases r <;> rfl
abbrev escL : List V := [.str (Str.ofString "\\"), .str (Str.ofString "\""), .str (Str.ofString "n")]
theorem beqZ {z : Str} {a : List Nat} : (z == S a) = decide (z.cps.toList = a) := by
  conv => lhs; rw [← S_tl z]
  exact S_beq_eq
theorem inV_esc {w : List Nat} : inV (.str (S w)) escL = true ↔ ∃ e, w = [e] ∧ isE e = true := by
  unfold inV escL
  simp only [List.any_cons, List.any_nil, eqV, beqZ, l_bs, l_quo, l_n, Bool.or_false, Bool.or_eq_true, decide_eq_true_eq]
  constructor
  · rintro (h | h | h) <;> exact ⟨_, h.symm, rfl⟩
  · rintro ⟨e, rfl, h⟩
    unfold isE at h
    simp only [Bool.or_eq_true, decide_eq_true_eq] at h
    rcases h with (rfl | rfl) | rfl
    · exact .inl rfl
    · exact .inr (.inl rfl)
    · exact .inr (.inr rfl)
theorem nin_step {K : PySem.W.Frag} {H : Hp} {w : List Nat} {p : Addr} {xs : List V} {Q : VK} (hp : H p = some (.lst xs)) (hf : xs.all flatV = true) (h : Q (.bl (!inV (.str (S w)) xs)) H) : rxIn K true (.str (S w)) (.ref p) H Q := by
  unfold rxIn
  exact ⟨p, xs, rfl, .inl (SqL.of hp), rfl, hf, by rw [if_pos rfl]; exact h⟩
/-- where the text ends, or -1 -/
def seR (a : List Nat) (n : Nat) : Int := match se (a.drop (n + 1)) with
  | some m => ((n + 1 + m : Nat) : Int)
  | none => -1
theorem seR_none {a : List Nat} {n j : Nat} (hs : se (a.drop (n + 1)) = (se (a.drop (n + 1 + j))).map (· + j)) (e : se (a.drop (n + 1 + j)) = none) : seR a n = -1 := by
  unfold seR
  rw [hs, e]
  rfl
theorem GMid.of {a : List Nat} {n : Nat} {H : Hp} {i j : Nat} {u : Int} {x : Option V} {σ : L2.St} {H' : Hp} (e : σ = [some (.str (S a)), some (.int (n : Nat)), some (.str (S zAll)), some (.int u), x]) (eu : u = ((n + 1 + j : Nat) : Int)) (h1 : i ≤ j) (h2 : j ≤ i + 1) (f : Fr [] H H')
    (hs : se (a.drop (n + 1)) = (se (a.drop (n + 1 + j))).map (· + j)) : ∃ (j : Nat) (u : Int) (x : Option V), σ = [some (.str (S a)), some (.int (n : Nat)), some (.str (S zAll)), some (.int u), x] ∧ u = ((n + 1 + j : Nat) : Int) ∧ i ≤ j ∧ j ≤ i + 1 ∧ Fr [] H H' ∧ se (a.drop (n + 1)) = (se (a.drop (n + 1 + j))).map (· + j) := ⟨j, u, x, e, eu, h1, h2, f, hs⟩
@[irreducible] def GMid (a : List Nat) (n : Nat) (H : Hp) (i : Nat) (σ : L2.St) (H' : Hp) : Prop :=
  ∃ (j : Nat) (u : Int) (x : Option V), σ = [some (.str (S a)), some (.int (n : Nat)), some (.str (S zAll)), some (.int u), x] ∧ u = ((n + 1 + j : Nat) : Int) ∧ i ≤ j ∧ j ≤ i + 1 ∧ Fr [] H H' ∧ se (a.drop (n + 1)) = (se (a.drop (n + 1 + j))).map (· + j)
@[irreducible] def spSe : Sp := fun vs H Q _ => ∃ (a : List Nat) (n : Nat), vs = [.str (S a), .int n] ∧ a.length ≤ 1000000 ∧ n < a.length ∧ ∀ H', Fr [] H H' → Q (.int (seR a n)) H'
theorem send_step {a : List Nat} {n : Nat} {H : Hp} {Q : VK} {E : XK} (hz : a.length ≤ 1000000) (hn : n < a.length) (k : ∀ H', Fr [] H H' → Q (.int (seR a n)) H') : spSe ([.str (S a), .int n] ++ []) H Q E := by
  unfold spSe
  exact ⟨a, n, rfl, hz, hn, k⟩
section
variable {P : Program} {w : World} {K : PySem.W.Frag} {mg : Str → Option Value} {base : Heap}
set_option hygiene false
local macro_rules | `(tactic| tm_at "sc") => `(tactic| (first | omega | (simp only [List.length_cons, List.length_nil, List.length_map, List.length_set, List.length_append]; omega) | (simp only [List.length_map] at h1 ⊢; omega) | (simp only [List.length_map] at c ⊢; omega) | with_reducible assumption | exact And.intro (by omega) (by omega) | exact Or.inl (And.intro (by omega) (by omega)) | exact Or.inr (And.intro (by omega) (by omega)) | decide +kernel | exact len1000 (by simp) | rfl | fail "no way"))
local macro_rules | `(tactic| tm_at "sc1") => `(tactic| (focus (simp; done)))
local macro_rules | `(tactic| tm_at "ne") => `(tactic| (first | assumption | exact Ne.symm (by assumption) | (apply Box.ne2; assumption; tm_at "hp") | (apply Ne.symm; apply Box.ne2; assumption; tm_at "hp") | (apply ne_of_none2; assumption; tm_at "hp") | (apply Ne.symm; apply ne_of_none2; assumption; tm_at "hp") | fail "no way"))
local macro_rules | `(tactic| tm_at "f0") => `(tactic| (first | assumption | (apply Fr.new; assumption) | fail "no way"))
local macro_rules | `(tactic| tm_at "hp") => `(tactic| (first | assumption | exact upd_same | (apply SqL.of; first | assumption | exact upd_same) | (apply Fr.at0; tm_at "f0"; tm_at "hp") | (apply Fr.at1n; assumption; tm_at "ne"; tm_at "hp") | (apply sqFr0; tm_at "f0"; tm_at "hp") | (apply sqFr1; assumption; tm_at "ne"; tm_at "hp") | (apply Box.fr0; tm_at "f0"; tm_at "hp") | (apply Box.fr1; assumption; tm_at "ne"; tm_at "hp") | (apply Den.fr; tm_at "f0"; tm_at "hp") | (apply Dens.fr; tm_at "f0"; tm_at "hp") | fail "no way"))
local macro_rules | `(tactic| tm_at "free0") => `(tactic| (first | assumption | (apply updFree; assumption) | (apply updFree; apply updFree; assumption) | (apply updFree; apply updFree; apply updFree; assumption) | (apply updFree; apply updFree; apply updFree; apply updFree; assumption) | fail "no way"))
local macro_rules | `(tactic| tm_at "free") => `(tactic| (first | tm_at "free0" | (apply Fr.free; assumption; tm_at "free0") | (apply Box.free; assumption; tm_at "fr"; tm_at "free0") | (apply Fr.free; assumption; apply Fr.free; assumption; tm_at "free0") | fail "no way"))
local macro_rules | `(tactic| tm_at "fr") => `(tactic| (first | assumption | exact Fr.refl0 _ | exact Fr.refl (Box.nt (by assumption)) | (refine Fr.comp0 ?_ (by tm_at "f0"); tm_at "fr") | (refine Fr.comp ?_ (by assumption); tm_at "fr") | (refine Fr.compN ?_ (by assumption) (by tm_at "free"); tm_at "fr") | fail "no way"))
local macro_rules | `(tactic| tm_at "call") => `(tactic| fail "no call")
local macro_rules | `(tactic| tm_at "call") => `(tactic| (apply take_step; tm_at "hp"; tm_at "sc"; tm_at "sc"; intro r H1 h0 h1 hB fr))
local macro_rules | `(tactic| tm_at "ty") => `(tactic| (first | assumption | exact .base .non | exact .base (.bl _) | exact .base (.int _) | exact .base (.str _) | (apply TyX.base; apply TyOf.lst; tm_at "hp") | (apply TyX.base; apply TyOf.tup; tm_at "hp") | fail "no way"))
local macro_rules | `(tactic| tm_at "pre") => `(tactic| fail "none")
local macro_rules | `(tactic| tm_at "go1") => `(tactic| (first | tm_at "pre" | refine ⟨_, rfl, ?_⟩ | refine ⟨_, _, rfl, rfl, ?_⟩ | (apply set_step; tm_at "hp"; tm_at "sc"; tm_at "sc"; intro H1 hp fr) | (with_reducible refine iteDI ?_ ?_ <;> intro c) | (with_reducible refine iteDS ?_ ?_ <;> intro c) | (with_reducible refine iteD ?_ ?_ <;> intro c) | (with_reducible refine iteEM ?_ ?_ <;> intro c) | (with_reducible refine iteE ?_ ?_ <;> intro c) | with_reducible refine iteN ?_ | with_reducible refine iteF ?_ | with_reducible refine iteT ?_ | (refine fun (p : Addr) (np : _ = (none : Option HO)) => ?_; fail_if_success (refine ⟨fun (_ _ : Nat) (_ : Hp) => True, ?_⟩)) | (apply isi_tt; tm_at "ty"; focus (decide +kernel)) | (apply isi_ff; tm_at "ty"; focus (decide +kernel)) | (apply sl_step; tm_at "hp"; intro qq H1 ms nq hq fr) | (apply sum_step; tm_at "hp"; intro i) | (apply tru_step; tm_at "hp") | (apply len_step; tm_at "hp") | (apply lenq_step; assumption) | (apply ixq_step; assumption; tm_at "sc"; tm_at "sc"; intro v hv) | (apply lst_step; tm_at "hp") | (apply tupl_step; tm_at "hp") | (apply ixr_step; tm_at "hp"; exact rfl) | (apply ix0_step; tm_at "hp") | (apply ix1_step; tm_at "hp") | (apply ix2_step; tm_at "hp") | (apply ixi_step; tm_at "hp"; tm_at "sc"; tm_at "sc"; intro n hn hn') | (apply ixl_step; tm_at "hp"; tm_at "sc"; tm_at "sc"; intro v hv) | (apply ixt_step; tm_at "hp"; tm_at "sc"; tm_at "sc"; intro v hm hv) | (apply in_step; tm_at "hp"; rfl; rfl) | (apply cat_step; tm_at "hp"; tm_at "hp"; tm_at "sc") | (apply catT_step; tm_at "hp"; tm_at "hp"; tm_at "sc1") | (apply tyL_and; tm_at "hp") | (apply app_step; tm_at "hp"; tm_at "sc"; intro H1 hp fr) | tm_at "call" | refine ⟨⟨_, rfl⟩, ?_⟩ | (apply ixs_step; tm_at "sc"; tm_at "sc"; tm_at "sc"; intro ch) | refine .inl ⟨_, rfl, ?_⟩ | refine .inr ⟨_, rfl, ?_⟩ | (apply And.intro; tm_at "sc") | (with_reducible refine wayB ?_ ?_ <;> intro c) | fail "no way"))
local macro_rules | `(tactic| tm_at "go") => `(tactic| (repeat tm_at "go1"))
local macro_rules | `(tactic| tm_at "goo") => `(tactic| (repeat' tm_at "go1"))
local macro_rules | `(tactic| tm_at "den") => `(tactic| (first | assumption | exact Den.str _ | exact Den.int _ | exact Den.bl _ | exact Den.non | (apply Den.tups; tm_at "hp"; tm_at "dens") | (apply Den.fr; tm_at "f0"; tm_at "den") | fail "no way"))
local macro_rules | `(tactic| tm_at "dens") => `(tactic| (first | assumption | exact Dens.nil | (apply Dens.cons; tm_at "den"; tm_at "dens") | (apply Dens.fr; tm_at "f0"; tm_at "dens") | fail "no way"))
local macro_rules | `(tactic| tm_at "ix") => `(tactic| (apply Ix.mk; tm_at "hp"; tm_at "ne"; assumption; assumption))
local macro_rules | `(tactic| tm_at "dep") => `(tactic| (first | assumption | exact Dep.int | exact Dep.str | exact Dep.bl | exact Dep.non | (apply Dep.tup; tm_at "dlen"; tm_at "deps") | (apply Dep.mono; assumption; decide) | fail "no way"))
local macro_rules | `(tactic| tm_at "deps") => `(tactic| (first | assumption | exact memN | (apply memC; tm_at "dep"; tm_at "deps") | fail "no way"))
local macro_rules | `(tactic| tm_at "dlen") => `(tactic| (first | assumption | (focus (simp; done)) | omega | fail "no way"))
local macro_rules | `(tactic| tm_at "pre") => `(tactic| (apply rep_step; tm_at "hp"; tm_at "sc"; tm_at "sc"; intro rp H1 nrp hrp fr))

local macro_rules | `(tactic| tm_at "lits") => `(tactic| (try simp only [l_nl, l_open, l_close, l_sp, l_quo, l_bs, l_minus, l_zero, l_empty, l_n] at c))
local macro_rules | `(tactic| tm_at "pre") => `(tactic| (first | (apply slm_step; tm_at "sc"; tm_at "sc"; tm_at "sc") | (apply slf_step; tm_at "sc"; tm_at "sc") | (apply slt_step; tm_at "sc"; tm_at "sc") | (with_reducible refine iteEqZ ?_ ?_ <;> (intro c; tm_at "lits")) | (apply catS_step; tm_at "sc") | (apply inD_step) | (apply ordS_step) | (apply intS_step; assumption) | (apply sign_step) | (apply lenS_step; tm_at "sc")))
local macro_rules | `(tactic| tm_at "pre") => `(tactic| (apply while_go))
local macro_rules | `(tactic| tm_at "pre") => `(tactic| (apply ixS_step; tm_at "sc"; tm_at "sc"; assumption))
local macro_rules | `(tactic| tm_at "pre") => `(tactic| (apply appB_step; tm_at "hp"; tm_at "sc"; intro H1 hp fr))

local macro_rules | `(tactic| tm_at "call") => `(tactic| (apply al_step))
set_option pp.deepTerms false
set_option pp.deepTerms.threshold 3
abbrev s_allowed : Stmt := top 27
theorem sc_allowed : FnScope ["_law_first"] [] (defScope s_allowed) := ⟨rfl, rfl, rfl, by decide +kernel, rfl, by decide +kernel, by decide +kernel⟩

theorem ok_al (D : Def1 K mg "_law_allowed" s_allowed) : Cal P w K mg base 1 "_law_allowed" [] spAl := by
  refine D.cal sc_allowed (fun _ _ _ _ _ _ us hl => match us, hl with | [], _ => rfl) (fun vs H Q E h => ?_) (fun f cdv A outer s H vs Q E hr h => ?_) <;> unfold spAl at h
  · obtain ⟨rfl, _⟩ := h
    rfl
  · obtain ⟨rfl, k⟩ := h
    refine ⟨_, (pss_cons (ps_set (i := 0) sc_allowed.nd rfl (Or.inl rfl) pe_str)
    (pss_one (ps_ret (pe_op op_catS (pv 0) pe_str)))), ?_⟩
    refine ⟨_, rfl, ?_⟩
    show rCatS (.str zAl1) (.str zAl2) _ _
    rw [litS (z := zAl1) rfl, litS (z := zAl2) rfl]
    refine catS_step ?_ k
    decide +kernel
abbrev s_string_end : Stmt := top 37
theorem sc_string_end : FnScope ["_law_note_here", "_law_at", "_law_signs", "_law_upto", "_law_k"] ["_law_note_here", "_law_at"] (defScope s_string_end) := ⟨rfl, rfl, rfl, by decide +kernel, rfl, by decide +kernel, by decide +kernel⟩

theorem ok_send (T : Bl mg) (G_allowed : Cal P w K mg base 1 "_law_allowed" [] spAl) (D : Def1 K mg "_law_string_end" s_string_end) : Cal P w K mg base 2 "_law_string_end" ["_law_note_here", "_law_at"] spSe := by
  refine D.cal sc_string_end (fun _ _ _ _ _ _ us hl => match us, hl with | [_, _], _ => rfl) (fun vs H Q E h => ?_) (fun f cdv A outer s H vs Q E hr h => ?_) <;> unfold spSe at h
  · obtain ⟨a, n, rfl, _⟩ := h
    rfl
  · obtain ⟨a, n, rfl, hz, hn, k⟩ := h
    refine ⟨_, (pss_cons (ps_set (i := 2) sc_string_end.nd rfl (Or.inl rfl) (pe_cal0 G_allowed (hr.mono (by omega)) (by rfl)))
    (pss_cons (ps_set (i := 3) sc_string_end.nd rfl (Or.inl rfl) (pe_op op_add (pv 1) pe_int))
    (pss_cons (ps_for PassesOwn.never rfl (pi_range2 (by rfl) T.z_range (pa_cons (pe_op op_add (pv 1) pe_int) (pa_cons (pe_callB call_lenS (by rfl) T.z_len (by decide +kernel) (pa_cons (pv 0) pa_nil)) pa_nil))) (pg_name (i := 4) sc_string_end.nd rfl (Or.inl rfl))
      (pss_one (ps_if (pt_cmpR op_ge (pv 4) (pv 3) (nomark _))
        (pss_cons (ps_set (i := 3) sc_string_end.nd rfl (Or.inl rfl) (pe_op op_add (pv 4) pe_int))
        (pss_cons (ps_if (pt_cmpR op_eq (pe_ix ixS (pv 0) (pv 4) (fun _ _ => rfl)) pe_str (nomark _))
          (pss_one (ps_ret (pe_op op_add (pv 4) pe_int)))
          pss_nil)
        (pss_cons (ps_if (PW.pt (pw_or (pt_cmpR op_eq (pe_ix ixS (pv 0) (pv 4) (fun _ _ => rfl)) pe_str (nomark _)) (pw_or1 (pt_cmpR op_notInG (pe_ix ixS (pv 0) (pv 4) (fun _ _ => rfl)) (pv 2) (by rfl)))))
          (pss_one (ps_ret (pe_un un_neg pe_int)))
          pss_nil)
        (pss_one (ps_if (pt_cmpR op_eq (pe_ix ixS (pv 0) (pv 4) (fun _ _ => rfl)) pe_str (nomark _))
          (pss_cons (ps_set (i := 3) sc_string_end.nd rfl (Or.inl rfl) (pe_op op_add (pv 4) pe_int))
          (pss_one (ps_if (pt_cmpR (opNotIn K) (pe_slice slS (pv 0) (po_some (pe_op op_add (pv 4) pe_int)) (po_some (pe_op op_add (pv 4) pe_int))) (pe_lst (pa_cons pe_str (pa_cons pe_str (pa_cons pe_str pa_nil)))) (by rfl))
            (pss_one (ps_ret (pe_un un_neg pe_int)))
            pss_nil)))
          pss_nil)))))
        pss_nil)))
    (pss_one (ps_ret (pe_un un_neg pe_int)))))), ?_⟩
    tm_at "goo"
    refine ⟨(n : Int) + 1, a.length, rfl, ⟨by omega, by omega, by omega, by omega⟩, ?_⟩
    refine forR (lo := (n : Int) + 1) (n := ((a.length : Int) - ((n : Int) + 1)).toNat) (GMid a n H) ?_ (fun i σ H1 hi hp => ?_) (fun σ H1 hp => ?_)
    · unfold GMid
      exact ⟨0, _, none, rfl, by omega, by omega, by omega, Fr.refl0 _, by simp⟩
    · unfold GMid at hp
      obtain ⟨j, u, x, rfl, eu, h1, h2, f1, hs⟩ := hp
      have hki : n + 1 + i < a.length := by omega
      have hc0 : a[n + 1 + i]? = some a[n + 1 + i] := List.getElem?_eq_getElem hki
      have hc : a[((n : Int) + 1 + i).toNat]? = some a[n + 1 + i] := by
        rw [show ((n : Int) + 1 + i).toNat = n + 1 + i by omega]
        exact hc0
      have hdr := drop_get hc0
      generalize a[n + 1 + i] = ch at hc hc0 hdr
      show tIfS _ _ _ _ _ _
      tm_at "goo"
      · rename_i c1
        have ej : j = i := by omega
        subst ej
        have e : seR a n = (n : Int) + 1 + j + 1 := by
          unfold seR
          rw [hs, hdr, (List.cons.inj c).1, se_quo]
          show ((n + 1 + (1 + j) : Nat) : Int) = _
          omega
        have := k _ f1
        rw [e] at this
        exact this
      · rename_i c1 c2
        have ej : j = i := by omega
        subst ej
        have := k _ f1
        rw [seR_none hs (by rw [hdr]; exact se_bad (by simpa using c2) (.inl (List.cons.inj c).1))] at this
        exact this
      · rename_i c1 c2 c3
        have ej : j = i := by omega
        subst ej
        have ho : okc ch = false := by
          rw [← in_zAll]
          simpa using c
        have := k _ f1
        rw [seR_none hs (by rw [hdr]; exact se_bad (by simpa using c2) (.inr ho))] at this
        exact this
      · rename_i c1 c2 c3 c4
        have ej : j = i := by omega
        subst ej
        have hch : ch = 92 := (List.cons.inj c).1
        subst hch
        refine nin_step upd_same (by decide +kernel) ?_
        have f2 : Fr [] H (upd H1 p (.lst escL)) := f1.comp0 (Fr.new np)
        have ee : List.take ((n : Int) + 1 + j + 2 - ((n : Int) + 1 + j + 1)).toNat (List.drop ((n : Int) + 1 + j + 1).toNat a) = (a.drop (n + 1 + j + 1)).take 1 := by
          rw [show ((n : Int) + 1 + j + 1).toNat = n + 1 + j + 1 by omega, show ((n : Int) + 1 + j + 2 - ((n : Int) + 1 + j + 1)).toNat = 1 by omega]
        tm_at "goo"
        · have c' : inV (V.str (S (List.take ((n : Int) + 1 + j + 2 - ((n : Int) + 1 + j + 1)).toNat (List.drop ((n : Int) + 1 + j + 1).toNat a)))) escL = true := by simpa using c
          rw [ee] at c'
          obtain ⟨e, he1, he2⟩ := inV_esc.mp c'
          obtain ⟨r, er⟩ : ∃ r, a.drop (n + 1 + j + 1) = e :: r := by
            cases hq : a.drop (n + 1 + j + 1) with
            | nil => rw [hq] at he1; cases he1
            | cons x r => rw [hq] at he1; exact ⟨r, by rw [(List.cons.inj he1).1]⟩
          have er2 : r = a.drop (n + 1 + (j + 2)) := by
            have := congrArg (List.drop 1) er
            rw [List.drop_drop] at this
            rw [show n + 1 + (j + 2) = n + 1 + j + 1 + 1 by omega, this]
            rfl
          show GMid a n H (j + 1) _ _
          unfold GMid
          refine GMid.of (j := j + 2) rfl (by omega) (by omega) (by omega) f2 ?_
          rw [hs, hdr, er, se_esc he2, ← er2]
          cases se r with
          | none => rfl
          | some m => simp; omega
        · have c' : inV (V.str (S (List.take ((n : Int) + 1 + j + 2 - ((n : Int) + 1 + j + 1)).toNat (List.drop ((n : Int) + 1 + j + 1).toNat a)))) escL = false := by simpa using c
          rw [ee] at c'
          have := k _ f2
          rw [seR_none hs (by
            rw [hdr]
            refine se_bad2 fun e he => ?_
            cases hh : isE e with
            | false => rfl
            | true =>
              rw [inV_esc.mpr ⟨e, he, hh⟩] at c'
              cases c')] at this
          exact this
      · rename_i c1 c2 c3 c4
        have ej : j = i := by omega
        subst ej
        have ho : okc ch = true := by
          rw [← in_zAll]
          simpa using c4
        show GMid a n H (j + 1) _ _
        unfold GMid
        refine GMid.of (j := j + 1) rfl (by omega) (by omega) (by omega) f1 ?_
        rw [hs, hdr, se_plain (by simpa using c2) (by simpa using c3) ho (by simpa using c), show n + 1 + (j + 1) = n + 1 + j + 1 by omega]
        cases se (a.drop (n + 1 + j + 1)) with
        | none => rfl
        | some m => simp; omega
      · show GMid a n H (i + 1) _ _
        unfold GMid
        exact GMid.of rfl eu (by omega) (by omega) f1 hs
    · unfold GMid at hp
      obtain ⟨j, u, x, rfl, eu, h1, h2, f1, hs⟩ := hp
      have hsr : seR a n = -1 := by
        unfold seR
        rw [hs, show a.drop (n + 1 + j) = [] from List.drop_eq_nil_iff.mpr (by omega)]
        rfl
      tm_at "goo"
      have := k _ f1
      rw [hsr] at this
      exact this
end
end K4
set_option Elab.async false
set_option linter.all false
set_option maxRecDepth 100000
set_option maxHeartbeats 4000000
namespace K4
open PySem PySem.Spec PyProof.Rows L2 M14 SX
def leR (a : List Nat) (n : Nat) : Int := match le (a.drop n) with
  | some m => ((n + m : Nat) : Int)
  | none => -1
abbrev wordL : List V := [.str (Str.ofString "none"), .str (Str.ofString "true"), .str (Str.ofString "false")]
abbrev wordN : List (List Nat) := [cNon, cTru, cFal]
theorem word_get {i : Nat} {x : V} (h : wordL[i]? = some x) : ∃ w, wordN[i]? = some w ∧ x = .str (S w) ∧ w.length ≤ 5 := by
  match i, h with
  | 0, h => exact ⟨cNon, rfl, by cases h; exact litS l_none, by decide⟩
  | 1, h => exact ⟨cTru, rfl, by cases h; exact litS l_true, by decide⟩
  | 2, h => exact ⟨cFal, rfl, by cases h; exact litS l_false, by decide⟩
/-- none of the first i words stands here -/
def NoW (r : List Nat) (i : Nat) : Prop := ∀ w ∈ wordN.take i, r.take w.length ≠ w
theorem NoW.succ {r : List Nat} {i : Nat} {w : List Nat} (h : NoW r i) (e : wordN[i]? = some w) (n : r.take w.length ≠ w) : NoW r (i + 1) := by
  intro u hu
  rw [List.take_succ, e] at hu
  rcases List.mem_append.mp hu with m | m
  · exact h u m
  · rw [show u = w by simpa using m]; exact n
theorem le_word {r w : List Nat} {i : Nat} (h : NoW r i) (e : wordN[i]? = some w) (y : r.take w.length = w) : le r = some w.length := by
  match i, e with
  | 0, e => cases e; have y : r.take 4 = cNon := y; unfold le; rw [if_pos y]; rfl
  | 1, e =>
    cases e
    have h0 : r.take 4 ≠ cNon := h cNon (by simp)
    unfold le
    rw [if_neg h0, if_pos (show r.take 4 = cTru from y)]; rfl
  | 2, e =>
    cases e
    have h0 : r.take 4 ≠ cNon := h cNon (by simp)
    have h1 : r.take 4 ≠ cTru := h cTru (by simp)
    unfold le
    rw [if_neg h0, if_neg h1, if_pos (show r.take 5 = cFal from y)]; rfl
theorem le_no {r : List Nat} (h : NoW r 3) : le r = if r.head? = some 34 then (se r.tail).map (· + 1) else ie r := by
  have h0 : r.take 4 ≠ cNon := h cNon (by simp)
  have h1 : r.take 4 ≠ cTru := h cTru (by simp)
  have h2 : r.take 5 ≠ cFal := h cFal (by simp)
  unfold le
  rw [if_neg h0, if_neg h1, if_neg h2]
@[irreducible] def WMid (a : List Nat) (n : Nat) (H : Hp) (p : Addr) (i : Nat) (σ : L2.St) (H' : Hp) : Prop := (∃ x, σ = [some (.str (S a)), some (.int (n : Nat)), x, none, none]) ∧ Fr [] H H' ∧ H' p = some (.lst wordL) ∧ NoW (a.drop n) i
@[irreducible] def WEnd (a : List Nat) (n : Nat) (H : Hp) (σ : L2.St) (H' : Hp) : Prop := (∃ x, σ = [some (.str (S a)), some (.int (n : Nat)), x, none, none]) ∧ Fr [] H H' ∧ NoW (a.drop n) 3
/-- a sign ahead of the digits -/
def sg (a : List Nat) (n : Nat) : Nat := if a[n]? = some 45 then 1 else 0
@[irreducible] def WSt (a : List Nat) (n : Nat) (H : Hp) (σ : L2.St) (H' : Hp) : Prop := (∃ x y, σ = [some (.str (S a)), some (.int (n : Nat)), x, some (.int ((n + sg a n : Nat) : Int)), y]) ∧ Fr [] H H'
theorem dig_at {a : List Nat} {n k : Nat} (h : ((a.drop n).take k).all isDig = true) (e : a[n + k]? = none ∨ ∃ c, a[n + k]? = some c ∧ isDig c = false) : (a.drop n).takeWhile isDig = (a.drop n).take k := by
  conv => lhs; rw [← List.take_append_drop k (a.drop n)]
  refine tw_all h ?_
  rw [List.drop_drop]
  rcases e with e | ⟨c, e, hc⟩
  · rw [List.drop_eq_nil_iff.mpr (List.getElem?_eq_none_iff.mp e)]; rfl
  · rw [drop_get e, List.takeWhile_cons, if_neg (by rw [hc]; decide)]
theorem ie_at (a : List Nat) (n : Nat) : ie (a.drop n) = if ((a.drop (n + sg a n)).takeWhile isDig).length = 0 ∨ 80 < ((a.drop (n + sg a n)).takeWhile isDig).length then none else if a[n + sg a n]? = some 48 ∧ (1 < ((a.drop (n + sg a n)).takeWhile isDig).length ∨ 0 < sg a n) then none else some (sg a n + ((a.drop (n + sg a n)).takeWhile isDig).length) := by
  unfold ie sg
  simp only [List.head?_drop, List.drop_drop]
@[irreducible] def WLp (a : List Nat) (n : Nat) (H : Hp) (m : Nat) (σ : L2.St) (H' : Hp) : Prop :=
  ∃ (k : Nat) (z : Int) (x : Option V), σ = [some (.str (S a)), some (.int (n : Nat)), x, some (.int ((n + sg a n : Nat) : Int)), some (.int z)] ∧ z = ((n + sg a n + k : Nat) : Int) ∧ n + sg a n + k ≤ a.length ∧ m = a.length - (n + sg a n + k) ∧ Fr [] H H' ∧ ((a.drop (n + sg a n)).take k).all isDig = true
@[irreducible] def WFi (a : List Nat) (n : Nat) (H : Hp) (σ : L2.St) (H' : Hp) : Prop :=
  ∃ (k : Nat) (z : Int) (x : Option V), σ = [some (.str (S a)), some (.int (n : Nat)), x, some (.int ((n + sg a n : Nat) : Int)), some (.int z)] ∧ z = ((n + sg a n + k : Nat) : Int) ∧ n + sg a n + k ≤ a.length ∧ Fr [] H H' ∧ k = ((a.drop (n + sg a n)).takeWhile isDig).length
@[irreducible] def spLe : Sp := fun vs H Q _ => ∃ (a : List Nat) (n : Nat), vs = [.str (S a), .int n] ∧ a.length ≤ 1000000 ∧ n ≤ a.length ∧ ∀ H', Fr [] H H' → Q (.int (leR a n)) H'
theorem lend_step {a : List Nat} {n : Nat} {H : Hp} {Q : VK} {E : XK} (hz : a.length ≤ 1000000) (hn : n ≤ a.length) (k : ∀ H', Fr [] H H' → Q (.int (leR a n)) H') : spLe ([.str (S a), .int n] ++ []) H Q E := by
  unfold spLe
  exact ⟨a, n, rfl, hz, hn, k⟩
section
variable {P : Program} {w : World} {K : PySem.W.Frag} {mg : Str → Option Value} {base : Heap}
set_option hygiene false
local macro_rules | `(tactic| tm_at "sc") => `(tactic| (first | omega | (simp only [List.length_cons, List.length_nil, List.length_map, List.length_set, List.length_append]; omega) | (simp only [List.length_map] at h1 ⊢; omega) | (simp only [List.length_map] at c ⊢; omega) | with_reducible assumption | exact And.intro (by omega) (by omega) | exact Or.inl (And.intro (by omega) (by omega)) | exact Or.inr (And.intro (by omega) (by omega)) | decide +kernel | exact len1000 (by simp) | rfl | fail "no way"))
local macro_rules | `(tactic| tm_at "sc1") => `(tactic| (focus (simp; done)))
local macro_rules | `(tactic| tm_at "ne") => `(tactic| (first | assumption | exact Ne.symm (by assumption) | (apply Box.ne2; assumption; tm_at "hp") | (apply Ne.symm; apply Box.ne2; assumption; tm_at "hp") | (apply ne_of_none2; assumption; tm_at "hp") | (apply Ne.symm; apply ne_of_none2; assumption; tm_at "hp") | fail "no way"))
local macro_rules | `(tactic| tm_at "f0") => `(tactic| (first | assumption | (apply Fr.new; assumption) | fail "no way"))
local macro_rules | `(tactic| tm_at "hp") => `(tactic| (first | assumption | exact upd_same | (apply SqL.of; first | assumption | exact upd_same) | (apply Fr.at0; tm_at "f0"; tm_at "hp") | (apply Fr.at1n; assumption; tm_at "ne"; tm_at "hp") | (apply sqFr0; tm_at "f0"; tm_at "hp") | (apply sqFr1; assumption; tm_at "ne"; tm_at "hp") | (apply Box.fr0; tm_at "f0"; tm_at "hp") | (apply Box.fr1; assumption; tm_at "ne"; tm_at "hp") | (apply Den.fr; tm_at "f0"; tm_at "hp") | (apply Dens.fr; tm_at "f0"; tm_at "hp") | fail "no way"))
local macro_rules | `(tactic| tm_at "free0") => `(tactic| (first | assumption | (apply updFree; assumption) | (apply updFree; apply updFree; assumption) | (apply updFree; apply updFree; apply updFree; assumption) | (apply updFree; apply updFree; apply updFree; apply updFree; assumption) | fail "no way"))
local macro_rules | `(tactic| tm_at "free") => `(tactic| (first | tm_at "free0" | (apply Fr.free; assumption; tm_at "free0") | (apply Box.free; assumption; tm_at "fr"; tm_at "free0") | (apply Fr.free; assumption; apply Fr.free; assumption; tm_at "free0") | fail "no way"))
local macro_rules | `(tactic| tm_at "fr") => `(tactic| (first | assumption | exact Fr.refl0 _ | exact Fr.refl (Box.nt (by assumption)) | (refine Fr.comp0 ?_ (by tm_at "f0"); tm_at "fr") | (refine Fr.comp ?_ (by assumption); tm_at "fr") | (refine Fr.compN ?_ (by assumption) (by tm_at "free"); tm_at "fr") | fail "no way"))
local macro_rules | `(tactic| tm_at "call") => `(tactic| fail "no call")
local macro_rules | `(tactic| tm_at "call") => `(tactic| (apply take_step; tm_at "hp"; tm_at "sc"; tm_at "sc"; intro r H1 h0 h1 hB fr))
local macro_rules | `(tactic| tm_at "ty") => `(tactic| (first | assumption | exact .base .non | exact .base (.bl _) | exact .base (.int _) | exact .base (.str _) | (apply TyX.base; apply TyOf.lst; tm_at "hp") | (apply TyX.base; apply TyOf.tup; tm_at "hp") | fail "no way"))
local macro_rules | `(tactic| tm_at "pre") => `(tactic| fail "none")
local macro_rules | `(tactic| tm_at "go1") => `(tactic| (first | tm_at "pre" | refine ⟨_, rfl, ?_⟩ | refine ⟨_, _, rfl, rfl, ?_⟩ | (apply set_step; tm_at "hp"; tm_at "sc"; tm_at "sc"; intro H1 hp fr) | (with_reducible refine iteDI ?_ ?_ <;> intro c) | (with_reducible refine iteDS ?_ ?_ <;> intro c) | (with_reducible refine iteD ?_ ?_ <;> intro c) | (with_reducible refine iteEM ?_ ?_ <;> intro c) | (with_reducible refine iteE ?_ ?_ <;> intro c) | with_reducible refine iteN ?_ | with_reducible refine iteF ?_ | with_reducible refine iteT ?_ | (refine fun (p : Addr) (np : _ = (none : Option HO)) => ?_; fail_if_success (refine ⟨fun (_ _ : Nat) (_ : Hp) => True, ?_⟩)) | (apply isi_tt; tm_at "ty"; focus (decide +kernel)) | (apply isi_ff; tm_at "ty"; focus (decide +kernel)) | (apply sl_step; tm_at "hp"; intro qq H1 ms nq hq fr) | (apply sum_step; tm_at "hp"; intro i) | (apply tru_step; tm_at "hp") | (apply len_step; tm_at "hp") | (apply lenq_step; assumption) | (apply ixq_step; assumption; tm_at "sc"; tm_at "sc"; intro v hv) | (apply lst_step; tm_at "hp") | (apply tupl_step; tm_at "hp") | (apply ixr_step; tm_at "hp"; exact rfl) | (apply ix0_step; tm_at "hp") | (apply ix1_step; tm_at "hp") | (apply ix2_step; tm_at "hp") | (apply ixi_step; tm_at "hp"; tm_at "sc"; tm_at "sc"; intro n hn hn') | (apply ixl_step; tm_at "hp"; tm_at "sc"; tm_at "sc"; intro v hv) | (apply ixt_step; tm_at "hp"; tm_at "sc"; tm_at "sc"; intro v hm hv) | (apply in_step; tm_at "hp"; rfl; rfl) | (apply cat_step; tm_at "hp"; tm_at "hp"; tm_at "sc") | (apply catT_step; tm_at "hp"; tm_at "hp"; tm_at "sc1") | (apply tyL_and; tm_at "hp") | (apply app_step; tm_at "hp"; tm_at "sc"; intro H1 hp fr) | tm_at "call" | refine ⟨⟨_, rfl⟩, ?_⟩ | (apply ixs_step; tm_at "sc"; tm_at "sc"; tm_at "sc"; intro ch) | refine .inl ⟨_, rfl, ?_⟩ | refine .inr ⟨_, rfl, ?_⟩ | (apply And.intro; tm_at "sc") | (with_reducible refine wayB ?_ ?_ <;> intro c) | fail "no way"))
local macro_rules | `(tactic| tm_at "go") => `(tactic| (repeat tm_at "go1"))
local macro_rules | `(tactic| tm_at "goo") => `(tactic| (repeat' tm_at "go1"))
local macro_rules | `(tactic| tm_at "den") => `(tactic| (first | assumption | exact Den.str _ | exact Den.int _ | exact Den.bl _ | exact Den.non | (apply Den.tups; tm_at "hp"; tm_at "dens") | (apply Den.fr; tm_at "f0"; tm_at "den") | fail "no way"))
local macro_rules | `(tactic| tm_at "dens") => `(tactic| (first | assumption | exact Dens.nil | (apply Dens.cons; tm_at "den"; tm_at "dens") | (apply Dens.fr; tm_at "f0"; tm_at "dens") | fail "no way"))
local macro_rules | `(tactic| tm_at "ix") => `(tactic| (apply Ix.mk; tm_at "hp"; tm_at "ne"; assumption; assumption))
local macro_rules | `(tactic| tm_at "dep") => `(tactic| (first | assumption | exact Dep.int | exact Dep.str | exact Dep.bl | exact Dep.non | (apply Dep.tup; tm_at "dlen"; tm_at "deps") | (apply Dep.mono; assumption; decide) | fail "no way"))
local macro_rules | `(tactic| tm_at "deps") => `(tactic| (first | assumption | exact memN | (apply memC; tm_at "dep"; tm_at "deps") | fail "no way"))
local macro_rules | `(tactic| tm_at "dlen") => `(tactic| (first | assumption | (focus (simp; done)) | omega | fail "no way"))
local macro_rules | `(tactic| tm_at "pre") => `(tactic| (apply rep_step; tm_at "hp"; tm_at "sc"; tm_at "sc"; intro rp H1 nrp hrp fr))

local macro_rules | `(tactic| tm_at "lits") => `(tactic| (try simp only [l_nl, l_open, l_close, l_sp, l_quo, l_bs, l_minus, l_zero, l_empty, l_n] at c))
local macro_rules | `(tactic| tm_at "pre") => `(tactic| (first | (apply slm_step; tm_at "sc"; tm_at "sc"; tm_at "sc") | (apply slf_step; tm_at "sc"; tm_at "sc") | (apply slt_step; tm_at "sc"; tm_at "sc") | (with_reducible refine iteEqZ ?_ ?_ <;> (intro c; tm_at "lits")) | (apply catS_step; tm_at "sc") | (apply inD_step) | (apply ordS_step) | (apply intS_step; assumption) | (apply sign_step) | (apply lenS_step; tm_at "sc")))
local macro_rules | `(tactic| tm_at "pre") => `(tactic| (apply while_go))
local macro_rules | `(tactic| tm_at "pre") => `(tactic| (apply ixS_step; tm_at "sc"; tm_at "sc"; assumption))
local macro_rules | `(tactic| tm_at "pre") => `(tactic| (apply appB_step; tm_at "hp"; tm_at "sc"; intro H1 hp fr))

set_option pp.deepTerms false
set_option pp.deepTerms.threshold 3
abbrev s_leaf_end : Stmt := top 38
theorem sc_leaf_end : FnScope ["_law_note_here", "_law_at", "_law_word", "_law_start", "_law_upto"] ["_law_note_here", "_law_at"] (defScope s_leaf_end) := ⟨rfl, rfl, rfl, by decide +kernel, rfl, by decide +kernel, by decide +kernel⟩

theorem ok_lend (T : Bl mg) (G_string_end : Cal P w K mg base 2 "_law_string_end" ["_law_note_here", "_law_at"] spSe) (D : Def1 K mg "_law_leaf_end" s_leaf_end) : Cal P w K mg base 3 "_law_leaf_end" ["_law_note_here", "_law_at"] spLe := by
  refine D.cal sc_leaf_end (fun _ _ _ _ _ _ us hl => match us, hl with | [_, _], _ => rfl) (fun vs H Q E h => ?_) (fun f cdv A outer s H vs Q E hr h => ?_) <;> unfold spLe at h
  · obtain ⟨a, n, rfl, _⟩ := h
    rfl
  · obtain ⟨a, n, rfl, hz, hn, k⟩ := h
    refine ⟨_, (C8.pss_cut (ps_for PassesOwn.never rfl (pi_list (pe_lst (pa_cons pe_str (pa_cons pe_str (pa_cons pe_str pa_nil))))) (pg_name (i := 2) sc_leaf_end.nd rfl (Or.inl rfl))
      (pss_one (ps_if (pt_cmpR op_eq (pe_slice slS (pv 0) (po_some (pv 1)) (po_some (pe_op op_add (pv 1) (pe_callB call_lenS (by rfl) T.z_len (by decide +kernel) (pa_cons (pv 2) pa_nil))))) (pv 2) (nomark _))
        (pss_one (ps_ret (pe_op op_add (pv 1) (pe_callB call_lenS (by rfl) T.z_len (by decide +kernel) (pa_cons (pv 2) pa_nil)))))
        pss_nil)))
    (pss_cons (ps_if (pt_cmpR op_eq (pe_slice slS (pv 0) (po_some (pv 1)) (po_some (pe_op op_add (pv 1) pe_int))) pe_str (nomark _))
      (pss_one (ps_ret (pe_cal G_string_end (hr.mono (by omega)) (by rfl) (pa_cons (pv 0) (pa_cons (pv 1) pa_nil)))))
      pss_nil)
    (C8.pss_cut (ps_set (i := 3) sc_leaf_end.nd rfl (Or.inl rfl) (pe_op op_add (pv 1) (pe_callTy call_int1 (by rfl) T.z_int (by decide +kernel) (pa_cons (pe_cmpR op_eq (pe_slice slS (pv 0) (po_some (pv 1)) (po_some (pe_op op_add (pv 1) pe_int))) pe_str (nomark _)) pa_nil))))
    (pss_cons (ps_set (i := 4) sc_leaf_end.nd rfl (Or.inl rfl) (pv 3))
    (C8.pss_cut (ps_while PassesOwn.never (PW.pt (pw_and (pt_cmpR op_lt (pv 4) (pe_callB call_lenS (by rfl) T.z_len (by decide +kernel) (pa_cons (pv 0) pa_nil)) (nomark _)) (pw_and1 (pt_cmpR op_inG (pe_ix ixS (pv 0) (pv 4) (fun _ _ => rfl)) pe_str (by rfl)))))
      (pss_one (ps_set (i := 4) sc_leaf_end.nd rfl (Or.inl rfl) (pe_op op_add (pv 4) pe_int))))
    (pss_cons (ps_if (PW.pt (pw_or (pt_cmpR op_eq (pv 4) (pv 3) (nomark _)) (pw_or1 (pt_cmpR op_gt (pe_op op_sub (pv 4) (pv 3)) pe_int (nomark _)))))
      (pss_one (ps_ret (pe_un un_neg pe_int)))
      pss_nil)
    (pss_cons (ps_if (PW.pt (pw_and (pt_cmpR op_eq (pe_ix ixS (pv 0) (pv 3) (fun _ _ => rfl)) pe_str (nomark _)) (pw_and1 (PW.pt (pw_or (pt_cmpR op_gt (pe_op op_sub (pv 4) (pv 3)) pe_int (nomark _)) (pw_or1 (pt_cmpR op_gt (pv 3) (pv 1) (nomark _))))))))
      (pss_one (ps_ret (pe_un un_neg pe_int)))
      pss_nil)
    (pss_one (ps_ret (pv 4)))))))))), ?_⟩
    refine ⟨WEnd a n H, ?_, fun σ H1 hw => ?_⟩
    · tm_at "goo"
      refine ⟨⟨_, SqL.of upd_same⟩, ?_⟩
      refine for_it (walk_list (xs := wordL)) (WMid a n H p) ?_ (fun _ _ _ _ hp => ?_) (fun i x σ H1 H2 hi hp hy => ?_) (fun σ H1 hp => ?_)
      · unfold WMid
        exact ⟨⟨none, rfl⟩, Fr.new np, upd_same, fun w hw => by simp at hw⟩
      · unfold WMid at hp
        exact SqL.of hp.2.2.1
      · unfold WMid at hp
        obtain ⟨⟨x2, rfl⟩, f1, hp, hw⟩ := hp
        obtain ⟨rfl, hx⟩ := hy
        obtain ⟨w, hw1, rfl, hw2⟩ := word_get hx
        show tIfS _ _ _ _ _ _
        tm_at "goo"
        · rw [show ((n : Int) + w.length - n).toNat = w.length by omega] at c
          have e : leR a n = (n : Int) + w.length := by
            unfold leR
            rw [le_word hw hw1 c]
            show ((n + w.length : Nat) : Int) = _
            omega
          have := k _ f1
          rw [e] at this
          exact this
        · rw [show ((n : Int) + w.length - n).toNat = w.length by omega] at c
          show WMid a n H p (i + 1) _ _
          unfold WMid
          exact ⟨⟨_, rfl⟩, f1, hp, hw.succ hw1 c⟩
      · unfold WMid at hp
        obtain ⟨⟨x2, rfl⟩, f1, _, hw⟩ := hp
        show WEnd a n H _ _
        unfold WEnd
        exact ⟨⟨x2, rfl⟩, f1, hw⟩
    · unfold WEnd at hw
      obtain ⟨⟨x, rfl⟩, f1, hw⟩ := hw
      have hle := le_no hw
      tm_at "goo"
      · have h34 := head_int.mp c
        have hlt := (List.getElem?_eq_some_iff.mp h34).1
        show spSe ([.str (S a), .int n] ++ []) _ _ _
        refine send_step hz hlt fun H2 f2 => ?_
        have e : seR a n = leR a n := by
          unfold seR leR
          rw [hle, List.head?_drop, if_pos h34, List.tail_drop]
          cases se (a.drop (n + 1)) with
          | none => rfl
          | some m => show ((n + 1 + m : Nat) : Int) = ((n + (m + 1) : Nat) : Int); omega
        rw [e]
        exact k _ (f1.comp0 f2)
      · have h34 : a[n]? ≠ some 34 := fun h => c (head_int.mpr h)
        rw [List.head?_drop, if_neg h34] at hle
        refine ⟨WSt a n H, ?_, fun σ H2 hw2 => ?_⟩
        · tm_at "goo"
          show WSt a n H _ _
          unfold WSt
          refine ⟨⟨x, none, ?_⟩, f1⟩
          have es : (n : Int) + (if decide (V.str (S (List.take ((n : Int) + 1 - n).toNat (List.drop (n : Int).toNat a))) = V.str (Str.ofString "-")) = true then 1 else 0) = ((n + sg a n : Nat) : Int) := by
            rw [litS l_minus]
            unfold sg
            by_cases hm : a[n]? = some 45
            · rw [if_pos hm, if_pos (by rw [decide_eq_true_eq, strEq]; exact head_int.mpr hm)]; rfl
            · rw [if_neg hm, if_neg (by rw [decide_eq_true_eq, strEq]; exact fun h => hm (head_int.mp h))]; simp
          rw [← es]
          rfl
        · unfold WSt at hw2
          obtain ⟨⟨x, y, rfl⟩, f1⟩ := hw2
          have hsl : n + sg a n ≤ a.length := by
            unfold sg
            by_cases hm : a[n]? = some 45
            · have := (List.getElem?_eq_some_iff.mp hm).1
              rw [if_pos hm]; omega
            · rw [if_neg hm]; omega
          tm_at "goo"
          refine ⟨WFi a n H, ⟨WLp a n H, ⟨a.length - (n + sg a n), ?_⟩, fun m σ H2 hw => ?_⟩, fun σ H2 hw => ?_⟩
          · unfold WLp
            exact ⟨0, _, x, rfl, rfl, hsl, rfl, f1, rfl⟩
          · unfold WLp at hw
            obtain ⟨k1, z, x, rfl, ez, hk, em, f2, ha⟩ := hw
            tm_at "goo"
            · have hlt : n + sg a n + k1 < a.length := by omega
              have hc' : a[n + sg a n + k1]? = some a[n + sg a n + k1] := List.getElem?_eq_getElem hlt
              have hc : a[z.toNat]? = some a[n + sg a n + k1] := by
                rw [show z.toNat = n + sg a n + k1 by omega]
                exact hc'
              generalize a[n + sg a n + k1] = ch at hc hc'
              tm_at "goo"
              · rw [dig_in] at c
                show Nx (WLp a n H) m _ _
                refine Nx.of (a.length - (n + sg a n + (k1 + 1))) (by omega) ?_
                unfold WLp
                exact ⟨k1 + 1, z + 1, x, rfl, by omega, by omega, rfl, f2, all_take hc' ha (by simpa using c)⟩
              · rw [dig_in] at c
                show WFi a n H _ _
                unfold WFi
                refine ⟨k1, z, x, rfl, ez, hk, f2, ?_⟩
                rw [dig_at ha (.inr ⟨ch, hc', by simpa using c⟩), List.length_take, List.length_drop]
                omega
            · show WFi a n H _ _
              unfold WFi
              refine ⟨k1, z, x, rfl, ez, hk, f2, ?_⟩
              rw [dig_at ha (.inl (List.getElem?_eq_none_iff.mpr (by omega))), List.length_take, List.length_drop]
              omega
          · unfold WFi at hw
            obtain ⟨k1, z, x, rfl, ez, hk, f2, ha⟩ := hw
            have hie := ie_at a n
            rw [← ha] at hie
            rw [hie] at hle
            have no : (le (a.drop n) = none) → leR a n = -1 := fun e => by unfold leR; rw [e]
            tm_at "goo"
            · have := k _ f2
              rw [no (by rw [hle, if_pos (.inl (by omega))])] at this
              exact this
            · have := k _ f2
              rw [no (by rw [hle, if_pos (.inr (by omega))])] at this
              exact this
            · rename_i c1
              rw [if_neg (by omega)] at hle
              have hlt : n + sg a n < a.length := by omega
              have hc : a[((n + sg a n : Nat) : Int).toNat]? = some a[n + sg a n] := List.getElem?_eq_getElem hlt
              have hc' : a[n + sg a n]? = some a[n + sg a n] := List.getElem?_eq_getElem hlt
              generalize a[n + sg a n] = ch at hc hc'
              rw [hc'] at hle
              refine ixS_step (by omega) (by omega) hc ?_
              tm_at "goo"
              · rename_i c2 c3
                have := k _ f2
                rw [no (by rw [hle, if_pos ⟨by rw [(List.cons.inj c3).1], .inl (by omega)⟩])] at this
                exact this
              · rename_i c2 c3 c4
                have := k _ f2
                rw [no (by rw [hle, if_pos ⟨by rw [(List.cons.inj c3).1], .inr (by omega)⟩])] at this
                exact this
              · rename_i c2 c3 c4
                rw [if_neg (by omega)] at hle
                have e : leR a n = z := by
                  unfold leR
                  rw [hle]
                  show ((n + (sg a n + k1) : Nat) : Int) = z
                  omega
                have := k _ f2
                rw [e] at this
                exact this
              · rename_i c2
                rw [if_neg (fun h => c (by rw [Option.some.inj h.1]))] at hle
                have e : leR a n = z := by
                  unfold leR
                  rw [hle]
                  show ((n + (sg a n + k1) : Nat) : Int) = z
                  omega
                have := k _ f2
                rw [e] at this
                exact this
end
end K4
set_option Elab.async false
set_option linter.all false
set_option maxRecDepth 100000
set_option maxHeartbeats 4000000
namespace K4
open PySem PySem.Spec PyProof.Rows L2 M14 SX
theorem acc_b0 {r : List Nat} : Acc .behind 0 r ↔ r = [] := ⟨fun h => by cases h; rfl, fun h => by rw [h]; exact .fin⟩
theorem acc_spc {d : Nat} {q : List Nat} : Acc .behind (d + 1) (32 :: q) ↔ Acc .item (d + 1) q := ⟨fun h => by cases h with | spc h => exact h, .spc⟩
theorem acc_clsB {d : Nat} {q : List Nat} : Acc .behind (d + 1) (41 :: q) ↔ Acc .behind d q := ⟨fun h => by cases h with | clsB h => exact h, .clsB⟩
theorem acc_clsF {d : Nat} {q : List Nat} : Acc .first (d + 1) (41 :: q) ↔ Acc .behind d q :=
  ⟨fun h => by cases h with
    | clsF h => exact h
    | leafF _ h _ _ => exact absurd rfl h, .clsF⟩
theorem acc_bno {d : Nat} {r : List Nat} (h1 : r.head? ≠ some 32) (h2 : r.head? ≠ some 41) : ¬ Acc .behind (d + 1) r := fun h => by
  cases h with
  | spc _ => exact h1 rfl
  | clsB _ => exact h2 rfl
theorem acc_opnI {d : Nat} {q : List Nat} : Acc .item d (40 :: q) ↔ d + 1 ≤ 60 ∧ Acc .first (d + 1) q :=
  ⟨fun h => by cases h with
    | opnI a b => exact ⟨a, b⟩
    | leafI h _ _ => exact absurd rfl h, fun h => .opnI h.1 h.2⟩
theorem acc_opnF {d : Nat} {q : List Nat} : Acc .first d (40 :: q) ↔ d + 1 ≤ 60 ∧ Acc .first (d + 1) q :=
  ⟨fun h => by cases h with
    | opnF a b => exact ⟨a, b⟩
    | leafF h _ _ _ => exact absurd rfl h, fun h => .opnF h.1 h.2⟩
theorem acc_leafI {d : Nat} {r : List Nat} (h : r.head? ≠ some 40) : Acc .item d r ↔ ∃ m, le r = some m ∧ Acc .behind d (r.drop m) :=
  ⟨fun g => by cases g with
    | opnI _ _ => exact absurd rfl h
    | leafI _ a b => exact ⟨_, a, b⟩, fun ⟨m, a, b⟩ => .leafI h a b⟩
theorem acc_leafF {d : Nat} {r : List Nat} (h : r.head? ≠ some 40) (h2 : r.head? ≠ some 41) : Acc .first d r ↔ ∃ m, le r = some m ∧ Acc .behind d (r.drop m) :=
  ⟨fun g => by cases g with
    | opnF _ _ => exact absurd rfl h
    | clsF _ => exact absurd rfl h2
    | leafF _ _ a b => exact ⟨_, a, b⟩, fun ⟨m, a, b⟩ => .leafF h h2 a b⟩
theorem le_pos {r : List Nat} {m : Nat} (h : le r = some m) : 0 < m ∧ m ≤ r.length := by
  obtain ⟨t, w, l, e, e2⟩ := le_sound h
  refine ⟨by rw [e2]; exact wr_pos w, ?_⟩
  have := congrArg List.length e
  rw [List.length_append] at this
  omega
theorem dueT {x z : Str} {A B : Prop} (e : x = z) (h : A) : if decide (V.str x = V.str z) = true then A else B := by
  rw [if_pos (by rw [e]; exact decide_eq_true rfl)]; exact h
theorem dueF {x z : Str} {A B : Prop} (e : x ≠ z) (h : B) : if decide (V.str x = V.str z) = true then A else B := by
  rw [if_neg (by rw [decide_eq_true_eq]; exact fun q => e (V.str.inj q))]; exact h
def dz : Due → Str
  | .item => Str.ofString "item"
  | .first => Str.ofString "first"
  | .behind => Str.ofString "behind"
@[irreducible] def NMid (a : List Nat) (H : Hp) (i : Nat) (σ : L2.St) (H' : Hp) : Prop :=
  ∃ (d n : Nat) (due : Due) (x y : Option V), σ = [some (.str (S a)), some (.int (d : Nat)), some (.int (n : Nat)), some (.str (dz due)), x, y] ∧ i ≤ n ∧ n ≤ a.length ∧ Fr [] H H' ∧ (due = .first → 0 < d) ∧ ((∃ t, Note a t) ↔ Acc due d (a.drop n))
theorem NMid.of {a : List Nat} {H : Hp} {i d n : Nat} {due : Due} {zd zn : Int} {x y : Option V} {σ : L2.St} {H' : Hp} (e : σ = [some (.str (S a)), some (.int zd), some (.int zn), some (.str (dz due)), x, y]) (ed : zd = (d : Nat)) (en : zn = (n : Nat)) (h1 : i ≤ n) (h2 : n ≤ a.length) (f : Fr [] H H') (h3 : due = .first → 0 < d) (h4 : (∃ t, Note a t) ↔ Acc due d (a.drop n)) : NMid a H i σ H' := by
  unfold NMid
  subst ed en
  exact ⟨d, n, due, x, y, e, h1, h2, f, h3, h4⟩
@[irreducible] def spIn : Sp := fun vs H Q _ => ∃ a : List Nat, vs = [.str (S a)] ∧ a.length ≤ 100000 ∧ ∀ b H', (b = true ↔ ∃ t, Note a t) → Fr [] H H' → Q (.bl b) H'
theorem isn_step {a : List Nat} {H : Hp} {Q : VK} {E : XK} (hz : a.length ≤ 100000) (k : ∀ b H', (b = true ↔ ∃ t, Note a t) → Fr [] H H' → Q (.bl b) H') : spIn ([.str (S a)] ++ []) H Q E := by
  unfold spIn
  exact ⟨a, rfl, hz, k⟩
section
variable {P : Program} {w : World} {K : PySem.W.Frag} {mg : Str → Option Value} {base : Heap}
set_option hygiene false
local macro_rules | `(tactic| tm_at "sc") => `(tactic| (first | omega | (simp only [List.length_cons, List.length_nil, List.length_map, List.length_set, List.length_append]; omega) | (simp only [List.length_map] at h1 ⊢; omega) | (simp only [List.length_map] at c ⊢; omega) | with_reducible assumption | exact And.intro (by omega) (by omega) | exact Or.inl (And.intro (by omega) (by omega)) | exact Or.inr (And.intro (by omega) (by omega)) | decide +kernel | exact len1000 (by simp) | rfl | fail "no way"))
local macro_rules | `(tactic| tm_at "sc1") => `(tactic| (focus (simp; done)))
local macro_rules | `(tactic| tm_at "ne") => `(tactic| (first | assumption | exact Ne.symm (by assumption) | (apply Box.ne2; assumption; tm_at "hp") | (apply Ne.symm; apply Box.ne2; assumption; tm_at "hp") | (apply ne_of_none2; assumption; tm_at "hp") | (apply Ne.symm; apply ne_of_none2; assumption; tm_at "hp") | fail "no way"))
local macro_rules | `(tactic| tm_at "f0") => `(tactic| (first | assumption | (apply Fr.new; assumption) | fail "no way"))
local macro_rules | `(tactic| tm_at "hp") => `(tactic| (first | assumption | exact upd_same | (apply SqL.of; first | assumption | exact upd_same) | (apply Fr.at0; tm_at "f0"; tm_at "hp") | (apply Fr.at1n; assumption; tm_at "ne"; tm_at "hp") | (apply sqFr0; tm_at "f0"; tm_at "hp") | (apply sqFr1; assumption; tm_at "ne"; tm_at "hp") | (apply Box.fr0; tm_at "f0"; tm_at "hp") | (apply Box.fr1; assumption; tm_at "ne"; tm_at "hp") | (apply Den.fr; tm_at "f0"; tm_at "hp") | (apply Dens.fr; tm_at "f0"; tm_at "hp") | fail "no way"))
local macro_rules | `(tactic| tm_at "free0") => `(tactic| (first | assumption | (apply updFree; assumption) | (apply updFree; apply updFree; assumption) | (apply updFree; apply updFree; apply updFree; assumption) | (apply updFree; apply updFree; apply updFree; apply updFree; assumption) | fail "no way"))
local macro_rules | `(tactic| tm_at "free") => `(tactic| (first | tm_at "free0" | (apply Fr.free; assumption; tm_at "free0") | (apply Box.free; assumption; tm_at "fr"; tm_at "free0") | (apply Fr.free; assumption; apply Fr.free; assumption; tm_at "free0") | fail "no way"))
local macro_rules | `(tactic| tm_at "fr") => `(tactic| (first | assumption | exact Fr.refl0 _ | exact Fr.refl (Box.nt (by assumption)) | (refine Fr.comp0 ?_ (by tm_at "f0"); tm_at "fr") | (refine Fr.comp ?_ (by assumption); tm_at "fr") | (refine Fr.compN ?_ (by assumption) (by tm_at "free"); tm_at "fr") | fail "no way"))
local macro_rules | `(tactic| tm_at "call") => `(tactic| fail "no call")
local macro_rules | `(tactic| tm_at "call") => `(tactic| (apply take_step; tm_at "hp"; tm_at "sc"; tm_at "sc"; intro r H1 h0 h1 hB fr))
local macro_rules | `(tactic| tm_at "ty") => `(tactic| (first | assumption | exact .base .non | exact .base (.bl _) | exact .base (.int _) | exact .base (.str _) | (apply TyX.base; apply TyOf.lst; tm_at "hp") | (apply TyX.base; apply TyOf.tup; tm_at "hp") | fail "no way"))
local macro_rules | `(tactic| tm_at "pre") => `(tactic| fail "none")
local macro_rules | `(tactic| tm_at "go1") => `(tactic| (first | tm_at "pre" | refine ⟨_, rfl, ?_⟩ | refine ⟨_, _, rfl, rfl, ?_⟩ | (apply set_step; tm_at "hp"; tm_at "sc"; tm_at "sc"; intro H1 hp fr) | (with_reducible refine iteDI ?_ ?_ <;> intro c) | (with_reducible refine iteDS ?_ ?_ <;> intro c) | (with_reducible refine iteD ?_ ?_ <;> intro c) | (with_reducible refine iteEM ?_ ?_ <;> intro c) | (with_reducible refine iteE ?_ ?_ <;> intro c) | with_reducible refine iteN ?_ | with_reducible refine iteF ?_ | with_reducible refine iteT ?_ | (refine fun (p : Addr) (np : _ = (none : Option HO)) => ?_; fail_if_success (refine ⟨fun (_ _ : Nat) (_ : Hp) => True, ?_⟩)) | (apply isi_tt; tm_at "ty"; focus (decide +kernel)) | (apply isi_ff; tm_at "ty"; focus (decide +kernel)) | (apply sl_step; tm_at "hp"; intro qq H1 ms nq hq fr) | (apply sum_step; tm_at "hp"; intro i) | (apply tru_step; tm_at "hp") | (apply len_step; tm_at "hp") | (apply lenq_step; assumption) | (apply ixq_step; assumption; tm_at "sc"; tm_at "sc"; intro v hv) | (apply lst_step; tm_at "hp") | (apply tupl_step; tm_at "hp") | (apply ixr_step; tm_at "hp"; exact rfl) | (apply ix0_step; tm_at "hp") | (apply ix1_step; tm_at "hp") | (apply ix2_step; tm_at "hp") | (apply ixi_step; tm_at "hp"; tm_at "sc"; tm_at "sc"; intro n hn hn') | (apply ixl_step; tm_at "hp"; tm_at "sc"; tm_at "sc"; intro v hv) | (apply ixt_step; tm_at "hp"; tm_at "sc"; tm_at "sc"; intro v hm hv) | (apply in_step; tm_at "hp"; rfl; rfl) | (apply cat_step; tm_at "hp"; tm_at "hp"; tm_at "sc") | (apply catT_step; tm_at "hp"; tm_at "hp"; tm_at "sc1") | (apply tyL_and; tm_at "hp") | (apply app_step; tm_at "hp"; tm_at "sc"; intro H1 hp fr) | tm_at "call" | refine ⟨⟨_, rfl⟩, ?_⟩ | (apply ixs_step; tm_at "sc"; tm_at "sc"; tm_at "sc"; intro ch) | refine .inl ⟨_, rfl, ?_⟩ | refine .inr ⟨_, rfl, ?_⟩ | (apply And.intro; tm_at "sc") | (with_reducible refine wayB ?_ ?_ <;> intro c) | fail "no way"))
local macro_rules | `(tactic| tm_at "go") => `(tactic| (repeat tm_at "go1"))
local macro_rules | `(tactic| tm_at "goo") => `(tactic| (repeat' tm_at "go1"))
local macro_rules | `(tactic| tm_at "den") => `(tactic| (first | assumption | exact Den.str _ | exact Den.int _ | exact Den.bl _ | exact Den.non | (apply Den.tups; tm_at "hp"; tm_at "dens") | (apply Den.fr; tm_at "f0"; tm_at "den") | fail "no way"))
local macro_rules | `(tactic| tm_at "dens") => `(tactic| (first | assumption | exact Dens.nil | (apply Dens.cons; tm_at "den"; tm_at "dens") | (apply Dens.fr; tm_at "f0"; tm_at "dens") | fail "no way"))
local macro_rules | `(tactic| tm_at "ix") => `(tactic| (apply Ix.mk; tm_at "hp"; tm_at "ne"; assumption; assumption))
local macro_rules | `(tactic| tm_at "dep") => `(tactic| (first | assumption | exact Dep.int | exact Dep.str | exact Dep.bl | exact Dep.non | (apply Dep.tup; tm_at "dlen"; tm_at "deps") | (apply Dep.mono; assumption; decide) | fail "no way"))
local macro_rules | `(tactic| tm_at "deps") => `(tactic| (first | assumption | exact memN | (apply memC; tm_at "dep"; tm_at "deps") | fail "no way"))
local macro_rules | `(tactic| tm_at "dlen") => `(tactic| (first | assumption | (focus (simp; done)) | omega | fail "no way"))
local macro_rules | `(tactic| tm_at "pre") => `(tactic| (apply rep_step; tm_at "hp"; tm_at "sc"; tm_at "sc"; intro rp H1 nrp hrp fr))

local macro_rules | `(tactic| tm_at "lits") => `(tactic| (try simp only [l_nl, l_open, l_close, l_sp, l_quo, l_bs, l_minus, l_zero, l_empty, l_n] at c))
local macro_rules | `(tactic| tm_at "pre") => `(tactic| (first | (apply slm_step; tm_at "sc"; tm_at "sc"; tm_at "sc") | (apply slf_step; tm_at "sc"; tm_at "sc") | (apply slt_step; tm_at "sc"; tm_at "sc") | (with_reducible refine iteEqZ ?_ ?_ <;> (intro c; tm_at "lits")) | (apply catS_step; tm_at "sc") | (apply inD_step) | (apply ordS_step) | (apply intS_step; assumption) | (apply sign_step) | (apply lenS_step; tm_at "sc")))
local macro_rules | `(tactic| tm_at "pre") => `(tactic| (apply while_go))
local macro_rules | `(tactic| tm_at "pre") => `(tactic| (apply ixS_step; tm_at "sc"; tm_at "sc"; assumption))
local macro_rules | `(tactic| tm_at "pre") => `(tactic| (apply appB_step; tm_at "hp"; tm_at "sc"; intro H1 hp fr))

local macro_rules | `(tactic| tm_at "pre") => `(tactic| (first | (refine dueT (by decide +kernel) ?_) | (refine dueF (by decide +kernel) ?_)))
set_option pp.deepTerms false
set_option pp.deepTerms.threshold 3
abbrev s_is_note : Stmt := top 39
theorem sc_is_note : FnScope ["_law_note_here", "_law_depth", "_law_at", "_law_due", "_law_turn", "_law_sign"] ["_law_note_here"] (defScope s_is_note) := ⟨rfl, rfl, rfl, by decide +kernel, rfl, by decide +kernel, by decide +kernel⟩

theorem ok_isn (T : Bl mg) (G_leaf_end : Cal P w K mg base 3 "_law_leaf_end" ["_law_note_here", "_law_at"] spLe) (D : Def1 K mg "_law_is_note" s_is_note) : Cal P w K mg base 4 "_law_is_note" ["_law_note_here"] spIn := by
  refine D.cal sc_is_note (fun _ _ _ _ _ _ us hl => match us, hl with | [_], _ => rfl) (fun vs H Q E h => ?_) (fun f cdv A outer s H vs Q E hr h => ?_) <;> unfold spIn at h
  · obtain ⟨a, rfl, _⟩ := h
    rfl
  · obtain ⟨a, rfl, hz, k⟩ := h
    refine ⟨_, (pss_cons (ps_set (i := 1) sc_is_note.nd rfl (Or.inl rfl) pe_int)
    (pss_cons (ps_set (i := 2) sc_is_note.nd rfl (Or.inl rfl) pe_int)
    (pss_cons (ps_set (i := 3) sc_is_note.nd rfl (Or.inl rfl) pe_str)
    (pss_cons (ps_for PassesOwn.never rfl (pi_range1 (by rfl) T.z_range (pa_cons (pe_op op_add (pe_callB call_lenS (by rfl) T.z_len (by decide +kernel) (pa_cons (pv 0) pa_nil)) pe_int) pa_nil)) (pg_name (i := 4) sc_is_note.nd rfl (Or.inl rfl))
      (pss_cons (ps_set (i := 5) sc_is_note.nd rfl (Or.inl rfl) (pe_slice slS (pv 0) (po_some (pv 2)) (po_some (pe_op op_add (pv 2) pe_int))))
      (pss_cons (ps_if (PW.pt (pw_and (pt_cmpR op_eq (pv 3) pe_str (nomark _)) (pw_and1 (pt_cmpR op_eq (pv 1) pe_int (nomark _)))))
        (pss_one (ps_ret (pe_cmpR op_eq (pv 2) (pe_callB call_lenS (by rfl) T.z_len (by decide +kernel) (pa_cons (pv 0) pa_nil)) (nomark _))))
        pss_nil)
      (pss_one (ps_if (PW.pt (pw_and (pt_cmpR op_eq (pv 3) pe_str (nomark _)) (pw_and1 (pt_cmpR op_eq (pv 5) pe_str (nomark _)))))
        (pss_cons (ps_set (i := 3) sc_is_note.nd rfl (Or.inl rfl) pe_str)
        (pss_one (ps_set (i := 2) sc_is_note.nd rfl (Or.inl rfl) (pe_op op_add (pv 2) pe_int))))
        (pss_one (ps_if (PW.pt (pw_and (pt_cmpR op_ne (pv 3) pe_str (nomark _)) (pw_and1 (pt_cmpR op_eq (pv 5) pe_str (nomark _)))))
          (pss_cons (ps_set (i := 1) sc_is_note.nd rfl (Or.inl rfl) (pe_op op_sub (pv 1) pe_int))
          (pss_cons (ps_set (i := 3) sc_is_note.nd rfl (Or.inl rfl) pe_str)
          (pss_one (ps_set (i := 2) sc_is_note.nd rfl (Or.inl rfl) (pe_op op_add (pv 2) pe_int)))))
          (pss_one (ps_if (pt_cmpR op_eq (pv 3) pe_str (nomark _))
            (pss_one (ps_ret pe_bl))
            (pss_one (ps_if (pt_cmpR op_eq (pv 5) pe_str (nomark _))
              (pss_cons (ps_set (i := 1) sc_is_note.nd rfl (Or.inl rfl) (pe_op op_add (pv 1) pe_int))
              (pss_cons (ps_set (i := 3) sc_is_note.nd rfl (Or.inl rfl) pe_str)
              (pss_cons (ps_set (i := 2) sc_is_note.nd rfl (Or.inl rfl) (pe_op op_add (pv 2) pe_int))
              (pss_one (ps_if (pt_cmpR op_gt (pv 1) pe_int (nomark _))
                (pss_one (ps_ret pe_bl))
                pss_nil)))))
              (pss_cons (ps_set (i := 2) sc_is_note.nd rfl (Or.inl rfl) (pe_cal G_leaf_end (hr.mono (by omega)) (by rfl) (pa_cons (pv 0) (pa_cons (pv 2) pa_nil))))
              (pss_cons (ps_set (i := 3) sc_is_note.nd rfl (Or.inl rfl) pe_str)
              (pss_one (ps_if (pt_cmpR op_lt (pv 2) pe_int (nomark _))
                (pss_one (ps_ret pe_bl))
                pss_nil)))))))))))))))
    (pss_one (ps_ret pe_bl)))))), ?_⟩
    tm_at "goo"
    refine forR (lo := 0) (NMid a H) ?_ (fun i σ H1 hi hp => ?_) (fun σ H1 hp => ?_)
    · unfold NMid
      exact ⟨0, 0, .item, none, none, rfl, Nat.le_refl _, Nat.zero_le _, Fr.refl0 _, (fun z => nomatch z), acc_iff.symm⟩
    · unfold NMid at hp
      obtain ⟨d, n, due, x, y, rfl, hin, hn, f1, hd, hA⟩ := hp
      have hk : ∀ b, (b = true ↔ Acc due d (a.drop n)) → ∀ H', Fr [] H H' → Q (.bl b) H' := fun b e H' f => k b H' (e.trans hA.symm) f
      cases due with
      | item =>
        tm_at "goo"
        · rename_i c1
          have h40 := drop_head (head_int.mp c1)
          refine hk false ?_ _ f1
          rw [h40.1, acc_opnI]
          constructor
          · intro h; cases h
          · intro h; have := h.1; omega
        · rename_i c1
          have h40 := drop_head (head_int.mp c1)
          show NMid a H (i + 1) _ _
          refine NMid.of (d := d + 1) (n := n + 1) (due := .first) rfl (by omega) (by omega) (by omega) (by omega) f1 (fun _ => by omega) ?_
          rw [hA, h40.1, acc_opnI]
          exact ⟨fun h => h.2, fun h => ⟨by omega, h⟩⟩
        · skip
          have h40 : (a.drop n).head? ≠ some 40 := by
            rw [List.head?_drop]; exact fun h => c (head_int.mpr h)
          show spLe ([.str (S a), .int n] ++ []) _ _ _
          refine lend_step (by omega) hn fun H2 f2 => ?_
          unfold leR at *
          cases hl : le (a.drop n) with
          | none =>
            tm_at "goo"
            · refine hk false ?_ _ (f1.comp0 f2)
              rw [acc_leafI h40]
              constructor
              · intro h; cases h
              · rintro ⟨m, h, _⟩; rw [hl] at h; cases h
            · exact absurd (by decide : (-1 : Int) < 0) (by assumption)
          | some m =>
            have hm := le_pos hl
            rw [List.length_drop] at hm
            tm_at "goo"
            · rename_i cc
              exact absurd (show ((n + m : Nat) : Int) < 0 by assumption) (by omega)
            · show NMid a H (i + 1) _ _
              refine NMid.of (d := d) (n := n + m) (due := .behind) rfl rfl rfl (by omega) (by omega) (f1.comp0 f2) (fun z => nomatch z) ?_
              rw [hA, acc_leafI h40]
              constructor
              · rintro ⟨m', h, g⟩
                rw [hl] at h
                cases h
                rw [List.drop_drop] at g
                exact g
              · intro g
                exact ⟨m, hl, by rw [List.drop_drop]; exact g⟩
      | first =>
        have hd0 := hd rfl
        obtain ⟨e, rfl⟩ : ∃ e, d = e + 1 := ⟨d - 1, by omega⟩
        tm_at "goo"
        · have h41 := drop_head (head_int.mp c)
          show NMid a H (i + 1) _ _
          refine NMid.of (d := e) (n := n + 1) (due := .behind) rfl (by omega) (by omega) (by omega) (by omega) f1 (fun z => nomatch z) ?_
          rw [hA, h41.1, acc_clsF]
        · rename_i c0 c1
          have h40 := drop_head (head_int.mp c1)
          refine hk false ?_ _ f1
          rw [h40.1, acc_opnF]
          constructor
          · intro h; cases h
          · intro h; have := h.1; omega
        · rename_i c0 c1
          have h40 := drop_head (head_int.mp c1)
          show NMid a H (i + 1) _ _
          refine NMid.of (d := e + 1 + 1) (n := n + 1) (due := .first) rfl (by omega) (by omega) (by omega) (by omega) f1 (fun _ => by omega) ?_
          rw [hA, h40.1, acc_opnF]
          exact ⟨fun h => h.2, fun h => ⟨by omega, h⟩⟩
        · rename_i c1
          have h40 : (a.drop n).head? ≠ some 40 := by
            rw [List.head?_drop]; exact fun h => c (head_int.mpr h)
          have h41 : (a.drop n).head? ≠ some 41 := by
            rw [List.head?_drop]; exact fun h => c1 (head_int.mpr h)
          show spLe ([.str (S a), .int n] ++ []) _ _ _
          refine lend_step (by omega) hn fun H2 f2 => ?_
          unfold leR at *
          cases hl : le (a.drop n) with
          | none =>
            tm_at "goo"
            · refine hk false ?_ _ (f1.comp0 f2)
              rw [acc_leafF h40 h41]
              constructor
              · intro h; cases h
              · rintro ⟨m, h, _⟩; rw [hl] at h; cases h
            · exact absurd (by decide : (-1 : Int) < 0) (by assumption)
          | some m =>
            have hm := le_pos hl
            rw [List.length_drop] at hm
            tm_at "goo"
            · rename_i cc
              exact absurd (show ((n + m : Nat) : Int) < 0 by assumption) (by omega)
            · show NMid a H (i + 1) _ _
              refine NMid.of (d := e + 1) (n := n + m) (due := .behind) rfl rfl rfl (by omega) (by omega) (f1.comp0 f2) (fun z => nomatch z) ?_
              rw [hA, acc_leafF h40 h41]
              constructor
              · rintro ⟨m', h, g⟩
                rw [hl] at h
                cases h
                rw [List.drop_drop] at g
                exact g
              · intro g
                exact ⟨m, hl, by rw [List.drop_drop]; exact g⟩
      | behind =>
        tm_at "goo"
        · have d0 : d = 0 := by omega
          subst d0
          refine hk _ ?_ _ f1
          rw [acc_b0, List.drop_eq_nil_iff, decide_eq_true_eq]
          constructor
          · intro h; have := V.int.inj h; omega
          · intro h; exact congrArg V.int (by omega)
        · rename_i c1
          have h32 := drop_head (head_int.mp c)
          obtain ⟨e, rfl⟩ : ∃ e, d = e + 1 := ⟨d - 1, by omega⟩
          show NMid a H (i + 1) _ _
          refine NMid.of (d := e + 1) (n := n + 1) (due := .item) rfl (by omega) (by omega) (by omega) (by omega) f1 (fun z => nomatch z) ?_
          rw [hA, h32.1, acc_spc]
        · rename_i c1 c2
          have h41 := drop_head (head_int.mp c)
          obtain ⟨e, rfl⟩ : ∃ e, d = e + 1 := ⟨d - 1, by omega⟩
          show NMid a H (i + 1) _ _
          refine NMid.of (d := e) (n := n + 1) (due := .behind) rfl (by omega) (by omega) (by omega) (by omega) f1 (fun z => nomatch z) ?_
          rw [hA, h41.1, acc_clsB]
        · rename_i c1 c2
          obtain ⟨e, rfl⟩ : ∃ e, d = e + 1 := ⟨d - 1, by omega⟩
          refine hk false ?_ _ f1
          constructor
          · intro h; cases h
          · intro h
            exact absurd h (acc_bno (by rw [List.head?_drop]; exact fun h => c2 (head_int.mpr h)) (by rw [List.head?_drop]; exact fun h => c (head_int.mpr h)))
    · unfold NMid at hp
      obtain ⟨d, n, due, x, y, rfl, hin, hn, f1, hd, hA⟩ := hp
      exact absurd hin (by omega)
end
end K4
set_option Elab.async false
set_option linter.all false
set_option maxRecDepth 100000
set_option maxHeartbeats 4000000
namespace K4
open PySem PySem.Spec PyProof.Rows L2 M14 SX
/-! ### the box of draws: a list of three ints -/
def Box (H : Hp) (b : Addr) : Prop := ∃ i0 i1 i2 : Int, H b = some (.lst [.int i0, .int i1, .int i2])
theorem Box.fr0 {H H' : Hp} {b : Addr} (e : Fr [] H H') (h : Box H b) : Box H' b := let ⟨i0, i1, i2, h⟩ := h; ⟨i0, i1, i2, e.at0 h⟩
theorem Box.fr1 {H H' : Hp} {b p : Addr} (e : Fr [p] H H') (n : b ≠ p) (h : Box H b) : Box H' b := let ⟨i0, i1, i2, h⟩ := h; ⟨i0, i1, i2, e.at1 h n⟩
theorem Box.has {H : Hp} {b : Addr} (h : Box H b) : ∃ o, H b = some o := let ⟨_, _, _, h⟩ := h; ⟨_, h⟩
theorem Box.nt {H : Hp} {b : Addr} (h : Box H b) : ∀ a ∈ [b], ∀ (xs : List V), H a ≠ some (HO.tup xs) := fun a m xs e => by
  obtain ⟨_, _, _, h⟩ := h
  have z : a = b := by simpa using m
  rw [z, h] at e; cases e
theorem Box.free {H H' : Hp} {b l : Addr} (B : Box H' b) (e : Fr [b] H H') (h : H' l = none) : H l = none := let ⟨_, q⟩ := B.has; e.freeb q h
theorem Box.ne {H : Hp} {b l : Addr} (B : Box H b) (h : H l = none) : l ≠ b := fun e => by
  obtain ⟨o, q⟩ := B.has
  rw [e, q] at h; cases h
theorem Box.ne2 {H : Hp} {b l : Addr} (h : H l = none) (B : Box H b) : l ≠ b := B.ne h
@[irreducible] def spTake : Sp := fun vs H Q _ => ∃ (b : Addr) (n : Int), vs = [.ref b, .int n] ∧ Box H b ∧ 0 < n ∧ n < 1073741824 ∧ ∀ (r : Int) H', 0 ≤ r → r < n → Box H' b → Fr [b] H H' → Q (.int r) H'
theorem take_step {b : Addr} {n : Int} {H : Hp} {Q : VK} {E : XK} (hB : Box H b) (h0 : 0 < n) (h1 : n < 1073741824) (k : ∀ (r : Int) H', 0 ≤ r → r < n → Box H' b → Fr [b] H H' → Q (.int r) H') : spTake ([.ref b, .int n] ++ []) H Q E := by
  unfold spTake
  exact ⟨b, n, rfl, hB, h0, h1, k⟩
section
variable {P : Program} {w : World} {K : PySem.W.Frag} {mg : Str → Option Value} {base : Heap}
set_option hygiene false
local macro_rules | `(tactic| tm_at "sc") => `(tactic| (first | omega | (simp only [List.length_cons, List.length_nil, List.length_map, List.length_set, List.length_append]; omega) | (simp only [List.length_map] at h1 ⊢; omega) | (simp only [List.length_map] at c ⊢; omega) | with_reducible assumption | exact And.intro (by omega) (by omega) | exact Or.inl (And.intro (by omega) (by omega)) | exact Or.inr (And.intro (by omega) (by omega)) | decide +kernel | exact len1000 (by simp) | rfl | fail "no way"))
local macro_rules | `(tactic| tm_at "sc1") => `(tactic| (focus (simp; done)))
local macro_rules | `(tactic| tm_at "ne") => `(tactic| (first | assumption | exact Ne.symm (by assumption) | (apply Box.ne2; assumption; tm_at "hp") | (apply Ne.symm; apply Box.ne2; assumption; tm_at "hp") | (apply ne_of_none2; assumption; tm_at "hp") | (apply Ne.symm; apply ne_of_none2; assumption; tm_at "hp") | fail "no way"))
local macro_rules | `(tactic| tm_at "f0") => `(tactic| (first | assumption | (apply Fr.new; assumption) | fail "no way"))
local macro_rules | `(tactic| tm_at "hp") => `(tactic| (first | assumption | exact upd_same | (apply SqL.of; first | assumption | exact upd_same) | (apply Fr.at0; tm_at "f0"; tm_at "hp") | (apply Fr.at1n; assumption; tm_at "ne"; tm_at "hp") | (apply sqFr0; tm_at "f0"; tm_at "hp") | (apply sqFr1; assumption; tm_at "ne"; tm_at "hp") | (apply Box.fr0; tm_at "f0"; tm_at "hp") | (apply Box.fr1; assumption; tm_at "ne"; tm_at "hp") | (apply Den.fr; tm_at "f0"; tm_at "hp") | (apply Dens.fr; tm_at "f0"; tm_at "hp") | fail "no way"))
local macro_rules | `(tactic| tm_at "free0") => `(tactic| (first | assumption | (apply updFree; assumption) | (apply updFree; apply updFree; assumption) | (apply updFree; apply updFree; apply updFree; assumption) | (apply updFree; apply updFree; apply updFree; apply updFree; assumption) | fail "no way"))
local macro_rules | `(tactic| tm_at "free") => `(tactic| (first | tm_at "free0" | (apply Fr.free; assumption; tm_at "free0") | (apply Box.free; assumption; tm_at "fr"; tm_at "free0") | (apply Fr.free; assumption; apply Fr.free; assumption; tm_at "free0") | fail "no way"))
local macro_rules | `(tactic| tm_at "fr") => `(tactic| (first | assumption | exact Fr.refl0 _ | exact Fr.refl (Box.nt (by assumption)) | (refine Fr.comp0 ?_ (by tm_at "f0"); tm_at "fr") | (refine Fr.comp ?_ (by assumption); tm_at "fr") | (refine Fr.compN ?_ (by assumption) (by tm_at "free"); tm_at "fr") | fail "no way"))
local macro_rules | `(tactic| tm_at "call") => `(tactic| fail "no call")
local macro_rules | `(tactic| tm_at "call") => `(tactic| (apply take_step; tm_at "hp"; tm_at "sc"; tm_at "sc"; intro r H1 h0 h1 hB fr))
local macro_rules | `(tactic| tm_at "ty") => `(tactic| (first | assumption | exact .base .non | exact .base (.bl _) | exact .base (.int _) | exact .base (.str _) | (apply TyX.base; apply TyOf.lst; tm_at "hp") | (apply TyX.base; apply TyOf.tup; tm_at "hp") | fail "no way"))
local macro_rules | `(tactic| tm_at "pre") => `(tactic| fail "none")
local macro_rules | `(tactic| tm_at "go1") => `(tactic| (first | tm_at "pre" | refine ⟨_, rfl, ?_⟩ | refine ⟨_, _, rfl, rfl, ?_⟩ | (apply set_step; tm_at "hp"; tm_at "sc"; tm_at "sc"; intro H1 hp fr) | (with_reducible refine iteDI ?_ ?_ <;> intro c) | (with_reducible refine iteDS ?_ ?_ <;> intro c) | (with_reducible refine iteD ?_ ?_ <;> intro c) | (with_reducible refine iteEM ?_ ?_ <;> intro c) | (with_reducible refine iteE ?_ ?_ <;> intro c) | with_reducible refine iteN ?_ | with_reducible refine iteF ?_ | with_reducible refine iteT ?_ | (refine fun (p : Addr) (np : _ = (none : Option HO)) => ?_; fail_if_success (refine ⟨fun (_ _ : Nat) (_ : Hp) => True, ?_⟩)) | (apply isi_tt; tm_at "ty"; focus (decide +kernel)) | (apply isi_ff; tm_at "ty"; focus (decide +kernel)) | (apply sl_step; tm_at "hp"; intro qq H1 ms nq hq fr) | (apply sum_step; tm_at "hp"; intro i) | (apply tru_step; tm_at "hp") | (apply len_step; tm_at "hp") | (apply lenq_step; assumption) | (apply ixq_step; assumption; tm_at "sc"; tm_at "sc"; intro v hv) | (apply lst_step; tm_at "hp") | (apply tupl_step; tm_at "hp") | (apply ixr_step; tm_at "hp"; exact rfl) | (apply ix0_step; tm_at "hp") | (apply ix1_step; tm_at "hp") | (apply ix2_step; tm_at "hp") | (apply ixi_step; tm_at "hp"; tm_at "sc"; tm_at "sc"; intro n hn hn') | (apply ixl_step; tm_at "hp"; tm_at "sc"; tm_at "sc"; intro v hv) | (apply ixt_step; tm_at "hp"; tm_at "sc"; tm_at "sc"; intro v hm hv) | (apply in_step; tm_at "hp"; rfl; rfl) | (apply cat_step; tm_at "hp"; tm_at "hp"; tm_at "sc") | (apply catT_step; tm_at "hp"; tm_at "hp"; tm_at "sc1") | (apply tyL_and; tm_at "hp") | (apply app_step; tm_at "hp"; tm_at "sc"; intro H1 hp fr) | tm_at "call" | refine ⟨⟨_, rfl⟩, ?_⟩ | (apply ixs_step; tm_at "sc"; tm_at "sc"; tm_at "sc"; intro ch) | refine .inl ⟨_, rfl, ?_⟩ | refine .inr ⟨_, rfl, ?_⟩ | (apply And.intro; tm_at "sc") | (with_reducible refine wayB ?_ ?_ <;> intro c) | fail "no way"))
local macro_rules | `(tactic| tm_at "go") => `(tactic| (repeat tm_at "go1"))
local macro_rules | `(tactic| tm_at "goo") => `(tactic| (repeat' tm_at "go1"))
local macro_rules | `(tactic| tm_at "den") => `(tactic| (first | assumption | exact Den.str _ | exact Den.int _ | exact Den.bl _ | exact Den.non | (apply Den.tups; tm_at "hp"; tm_at "dens") | (apply Den.fr; tm_at "f0"; tm_at "den") | fail "no way"))
local macro_rules | `(tactic| tm_at "dens") => `(tactic| (first | assumption | exact Dens.nil | (apply Dens.cons; tm_at "den"; tm_at "dens") | (apply Dens.fr; tm_at "f0"; tm_at "dens") | fail "no way"))
local macro_rules | `(tactic| tm_at "ix") => `(tactic| (apply Ix.mk; tm_at "hp"; tm_at "ne"; assumption; assumption))
local macro_rules | `(tactic| tm_at "dep") => `(tactic| (first | assumption | exact Dep.int | exact Dep.str | exact Dep.bl | exact Dep.non | (apply Dep.tup; tm_at "dlen"; tm_at "deps") | (apply Dep.mono; assumption; decide) | fail "no way"))
local macro_rules | `(tactic| tm_at "deps") => `(tactic| (first | assumption | exact memN | (apply memC; tm_at "dep"; tm_at "deps") | fail "no way"))
local macro_rules | `(tactic| tm_at "dlen") => `(tactic| (first | assumption | (focus (simp; done)) | omega | fail "no way"))
local macro_rules | `(tactic| tm_at "pre") => `(tactic| (apply rep_step; tm_at "hp"; tm_at "sc"; tm_at "sc"; intro rp H1 nrp hrp fr))

local macro_rules | `(tactic| tm_at "lits") => `(tactic| (try simp only [l_nl, l_open, l_close, l_sp, l_quo, l_bs, l_minus, l_zero, l_empty, l_n] at c))
local macro_rules | `(tactic| tm_at "pre") => `(tactic| (first | (apply slm_step; tm_at "sc"; tm_at "sc"; tm_at "sc") | (apply slf_step; tm_at "sc"; tm_at "sc") | (apply slt_step; tm_at "sc"; tm_at "sc") | (with_reducible refine iteEqZ ?_ ?_ <;> (intro c; tm_at "lits")) | (apply catS_step; tm_at "sc") | (apply inD_step) | (apply ordS_step) | (apply intS_step; assumption) | (apply sign_step) | (apply lenS_step; tm_at "sc")))
local macro_rules | `(tactic| tm_at "pre") => `(tactic| (apply while_go))
local macro_rules | `(tactic| tm_at "pre") => `(tactic| (apply ixS_step; tm_at "sc"; tm_at "sc"; assumption))
local macro_rules | `(tactic| tm_at "pre") => `(tactic| (apply appB_step; tm_at "hp"; tm_at "sc"; intro H1 hp fr))

set_option pp.deepTerms false
set_option pp.deepTerms.threshold 3
abbrev s_take : Stmt := top 25
theorem sc_take : FnScope ["_law_bag_here", "_law_size", "_law_got", "_law_first", "_law_second"] ["_law_bag_here", "_law_size"] (defScope s_take) := ⟨rfl, rfl, rfl, by decide +kernel, rfl, by decide +kernel, by decide +kernel⟩

theorem ok_tak (T : Bl mg) (D : Def1 K mg "_law_take" s_take) : Cal P w K mg base 1 "_law_take" ["_law_bag_here", "_law_size"] spTake := by
  refine D.cal sc_take (fun _ _ _ _ _ _ us hl => match us, hl with | [_, _], _ => rfl) (fun vs H Q E h => ?_) (fun f cdv A outer s H vs Q E hr h => ?_) <;> unfold spTake at h
  · obtain ⟨b, n, rfl, _⟩ := h
    rfl
  · obtain ⟨b, n, rfl, ⟨i0, i1, i2, hb⟩, n0, n1, k⟩ := h
    refine ⟨_, (pss_cons (ps_asg (pe_op op_add (pe_ix (ixL K) (pv 0) pe_int (fun _ _ => rfl)) pe_int) (pg_sub (pv 0) pe_int setL))
    (pss_cons (ps_if (pt_cmpR op_gt (pe_ix (ixL K) (pv 0) pe_int (fun _ _ => rfl)) pe_int (nomark _))
      (pss_cons (ps_set (i := 2) sc_take.nd rfl (Or.inl rfl) (pe_op op_mod (pe_callTy call_int1 (by rfl) T.z_int (by decide +kernel) (pa_cons (pe_ix (ixL K) (pv 0) pe_int (fun _ _ => rfl)) pa_nil)) (pv 1)))
      (pss_cons (ps_asg (pe_op op_fdiv (pe_ix (ixL K) (pv 0) pe_int (fun _ _ => rfl)) (pv 1)) (pg_sub (pv 0) pe_int setL))
      (pss_one (ps_ret (pv 2)))))
      pss_nil)
    (pss_cons (ps_set (i := 3) sc_take.nd rfl (Or.inl rfl) (pe_op op_mod (pe_callTy call_int1 (by rfl) T.z_int (by decide +kernel) (pa_cons (pe_op op_add (pe_op op_mul (pe_ix (ixL K) (pv 0) pe_int (fun _ _ => rfl)) pe_int) (pe_op op_mul (pe_ix (ixL K) (pv 0) pe_int (fun _ _ => rfl)) pe_int)) pa_nil)) pe_int))
    (pss_cons (ps_set (i := 4) sc_take.nd rfl (Or.inl rfl) (pe_op op_mod (pe_callTy call_int1 (by rfl) T.z_int (by decide +kernel) (pa_cons (pe_op op_add (pe_op op_add (pe_op op_mul (pe_op op_fdiv (pv 3) pe_int) (pv 3)) (pe_op op_mul (pe_ix (ixL K) (pv 0) pe_int (fun _ _ => rfl)) pe_int)) pe_int) pa_nil)) pe_int))
    (pss_one (ps_ret (pe_op op_mod (pe_op op_fdiv (pe_op op_mod (pe_callTy call_int1 (by rfl) T.z_int (by decide +kernel) (pa_cons (pe_op op_add (pe_op op_mul (pv 4) pe_int) (pe_ix (ixL K) (pv 0) pe_int (fun _ _ => rfl))) pa_nil)) pe_int) pe_int) (pv 1)))))))), ?_⟩
    have hB : Box H b := ⟨_, _, _, hb⟩
    tm_at "goo"
    all_goals (refine k _ _ (Int.emod_nonneg _ (by omega)) (Int.emod_lt_of_pos _ n0) ?_ (by tm_at "fr"))
    · exact ⟨_, _, _, hp⟩
    · exact ⟨_, _, _, hp⟩
@[irreducible] def BMid (l : Addr) (at_ : Int) (c : Int) (H : Hp) (_ : Nat) (σ : L2.St) (H' : Hp) : Prop := ∃ (s : Int) (x : Option V), σ = [some (.ref l), some (.int at_), some (.int c), some (.int s), x] ∧ H' = H
@[irreducible] def BM1 (l : Addr) (at_ : Int) (H : Hp) (σ : L2.St) (H' : Hp) : Prop := ∃ c : Int, σ = [some (.ref l), some (.int at_), some (.int c), none, none] ∧ H' = H
theorem BM1.of {l : Addr} {at_ : Int} {H : Hp} {σ : L2.St} {c : Int} (e : σ = [some (.ref l), some (.int at_), some (.int c), none, none]) : BM1 l at_ H σ H := by
  unfold BM1
  exact ⟨c, e, rfl⟩
@[irreducible] def spBag (K : PySem.W.Frag) : Sp := fun vs H Q _ => ∃ (l : Addr) (ns : List Int) (z : Int), vs = [.ref l, .int z] ∧ SqL K H l (ns.map V.int) ∧ 0 ≤ z ∧ z ≤ 1 ∧ ∀ p H', H p = none → Box H' p → Fr [] H H' → Q (.ref p) H'
theorem bag_step {K : PySem.W.Frag} {l : Addr} {ns : List Int} {z : Int} {H : Hp} {Q : VK} {E : XK} (h : SqL K H l (ns.map V.int)) (h0 : 0 ≤ z) (h1 : z ≤ 1) (k : ∀ p H', H p = none → Box H' p → Fr [] H H' → Q (.ref p) H') : spBag K ([.ref l, .int z] ++ []) H Q E := by
  unfold spBag
  exact ⟨l, ns, z, rfl, h, h0, h1, k⟩
abbrev s_bag : Stmt := top 24
theorem sc_bag : FnScope ["_law_script", "_law_at", "_law_cell", "_law_seed", "_law_one"] ["_law_script", "_law_at"] (defScope s_bag) := ⟨rfl, rfl, rfl, by decide +kernel, rfl, by decide +kernel, by decide +kernel⟩

theorem ok_bag (T : Bl mg) (D : Def1 K mg "_law_bag" s_bag) : Cal P w K mg base 1 "_law_bag" ["_law_script", "_law_at"] (spBag K) := by
  refine D.cal sc_bag (fun _ _ _ _ _ _ us hl => match us, hl with | [_, _], _ => rfl) (fun vs H Q E h => ?_) (fun f cdv A outer s H vs Q E hr h => ?_) <;> unfold spBag at h
  · obtain ⟨b, n, z, rfl, _⟩ := h
    rfl
  · obtain ⟨l, ns, z, rfl, hs, h0, h1, k⟩ := h
    have hlen : (ns.map V.int).length = ns.length := by simp
    refine ⟨_, (pss_cons (ps_set (i := 2) sc_bag.nd rfl (Or.inl rfl) pe_int)
    (C8.pss_cut (ps_if (pt_cmpR op_lt (pv 1) (pe_callB (cLen K) (by rfl) T.z_len (by decide +kernel) (pa_cons (pv 0) pa_nil)) (nomark _))
      (pss_one (ps_set (i := 2) sc_bag.nd rfl (Or.inl rfl) (pe_ix (ixL K) (pv 0) (pv 1) (fun _ _ => rfl))))
      pss_nil)
    (C8.pss_cut (ps_if (pt_cmpR op_lt (pv 2) pe_int (nomark _))
      (pss_one (ps_set (i := 2) sc_bag.nd rfl (Or.inl rfl) (pe_op op_sub pe_int (pv 2))))
      pss_nil)
    (pss_cons (ps_set (i := 3) sc_bag.nd rfl (Or.inl rfl) (pe_op op_mul pe_int (pe_op op_add (pv 1) pe_int)))
    (pss_cons (ps_for PassesOwn.never rfl (pi_list (pe_slice (slL K) (pv 0) po_none (po_some pe_int))) (pg_name (i := 4) sc_bag.nd rfl (Or.inl rfl))
      (pss_one (ps_set (i := 3) sc_bag.nd rfl (Or.inl rfl) (pe_op op_mod (pe_callTy call_int1 (by rfl) T.z_int (by decide +kernel) (pa_cons (pe_op op_add (pe_op op_add (pe_op op_mul (pv 3) pe_int) (pe_op op_mod (pe_callTy call_int1 (by rfl) T.z_int (by decide +kernel) (pa_cons (pv 4) pa_nil)) pe_int)) pe_int) pa_nil)) pe_int))))
    (pss_cons (ps_if (pt_cmpR op_lt (pv 2) (pe_op op_pow pe_int pe_int) (nomark _))
      (pss_one (ps_set (i := 2) sc_bag.nd rfl (Or.inl rfl) pe_int))
      pss_nil)
    (pss_one (ps_ret (pe_lst (pa_cons (pv 2) (pa_cons (pv 3) (pa_cons pe_int pa_nil)))))))))))), ?_⟩
    refine ⟨BM1 l z H, ?_, fun σ H1 hw => ?_⟩
    · tm_at "goo"
      · exact BM1.of rfl
      · exact BM1.of rfl
    · unfold BM1 at hw
      obtain ⟨c0, rfl, rfl⟩ := hw
      refine ⟨BM1 l z H1, ?_, fun σ H1 hw => ?_⟩
      · tm_at "goo"
        · exact BM1.of rfl
        · exact BM1.of rfl
      · unfold BM1 at hw
        obtain ⟨c1, rfl, rfl⟩ := hw
        tm_at "goo"
        refine ⟨⟨_, SqL.of hq⟩, ?_⟩
        refine for_it (walk_list (xs := ms.map V.int)) (BMid l z c1 H1) ?_ (fun _ _ _ _ hp => ?_) (fun i x σ H3 H4 hi hp hy => ?_) (fun σ H3 hp => ?_)
        · unfold BMid
          exact ⟨_, none, rfl, rfl⟩
        · unfold BMid at hp
          obtain ⟨_, _, _, rfl⟩ := hp
          exact SqL.of hq
        · unfold BMid at hp
          obtain ⟨s0, x0, rfl, rfl⟩ := hp
          obtain ⟨rfl, hx⟩ := hy
          obtain ⟨m, rfl⟩ : ∃ m, x = V.int m := by
            rw [List.getElem?_map] at hx
            cases e : ms[i]? with
            | none => rw [e] at hx; cases hx
            | some m => rw [e] at hx; exact ⟨m, (Option.some.inj hx).symm⟩
          show tAsg _ _ _ _ _
          tm_at "goo"
          show BMid l z c1 _ (i + 1) _ _
          unfold BMid
          exact ⟨_, _, rfl, rfl⟩
        · unfold BMid at hp
          obtain ⟨s0, x0, rfl, rfl⟩ := hp
          tm_at "goo"
          all_goals exact k _ _ (Fr.free (by assumption) (by assumption)) ⟨_, _, _, upd_same⟩ (Fr.comp0 (by assumption) (Fr.new (by assumption)))
end
end K4
set_option Elab.async false
set_option linter.all false
set_option maxRecDepth 100000
set_option maxHeartbeats 4000000
namespace K4
open PySem PySem.Spec PyProof.Rows L2 M14 SX
def szB : V → Bool
  | .int i => decide (0 ≤ i) && decide (i ≤ 80)
  | _ => false
theorem szB_of {l : List V} {v : V} {i : Nat} (h : l.all szB = true) (m : l[i]? = some v) : ∃ z : Int, v = .int z ∧ 0 ≤ z ∧ z ≤ 80 := by
  have q := List.all_eq_true.mp h v (List.mem_of_getElem? m)
  cases v with
  | int i =>
    simp [szB] at q
    exact ⟨i, rfl, q.1, q.2⟩
  | _ => cases q
@[irreducible] def DMid (b : Addr) (sz : Int) (H : Hp) (i : Nat) (σ : L2.St) (H' : Hp) : Prop := ∃ (v : Nat) (x : Option V), σ = [some (.ref b), some (.int sz), some (.int (v : Nat)), x] ∧ Box H' b ∧ Fr [b] H H' ∧ v < 10 ^ i
@[irreducible] def spInt : Sp := fun vs H Q _ => ∃ b : Addr, vs = [.ref b] ∧ Box H b ∧ ∀ (i : Int) H', i.natAbs < 10 ^ 80 → Box H' b → Fr [b] H H' → Q (.int i) H'
theorem int_step {b : Addr} {H : Hp} {Q : VK} {E : XK} (hB : Box H b) (k : ∀ (i : Int) H', i.natAbs < 10 ^ 80 → Box H' b → Fr [b] H H' → Q (.int i) H') : spInt ([.ref b] ++ []) H Q E := by
  unfold spInt
  exact ⟨b, rfl, hB, k⟩
theorem small80 {v sz : Nat} (h : v < 10 ^ sz) (hs : sz ≤ 80) : v < 10 ^ 80 := Nat.lt_of_lt_of_le h (Nat.pow_le_pow_right (by decide) hs)
section
variable {P : Program} {w : World} {K : PySem.W.Frag} {mg : Str → Option Value} {base : Heap}
set_option hygiene false
local macro_rules | `(tactic| tm_at "sc") => `(tactic| (first | omega | (simp only [List.length_cons, List.length_nil, List.length_map, List.length_set, List.length_append]; omega) | (simp only [List.length_map] at h1 ⊢; omega) | (simp only [List.length_map] at c ⊢; omega) | with_reducible assumption | exact And.intro (by omega) (by omega) | exact Or.inl (And.intro (by omega) (by omega)) | exact Or.inr (And.intro (by omega) (by omega)) | decide +kernel | exact len1000 (by simp) | rfl | fail "no way"))
local macro_rules | `(tactic| tm_at "sc1") => `(tactic| (focus (simp; done)))
local macro_rules | `(tactic| tm_at "ne") => `(tactic| (first | assumption | exact Ne.symm (by assumption) | (apply Box.ne2; assumption; tm_at "hp") | (apply Ne.symm; apply Box.ne2; assumption; tm_at "hp") | (apply ne_of_none2; assumption; tm_at "hp") | (apply Ne.symm; apply ne_of_none2; assumption; tm_at "hp") | fail "no way"))
local macro_rules | `(tactic| tm_at "f0") => `(tactic| (first | assumption | (apply Fr.new; assumption) | fail "no way"))
local macro_rules | `(tactic| tm_at "hp") => `(tactic| (first | assumption | exact upd_same | (apply SqL.of; first | assumption | exact upd_same) | (apply Fr.at0; tm_at "f0"; tm_at "hp") | (apply Fr.at1n; assumption; tm_at "ne"; tm_at "hp") | (apply sqFr0; tm_at "f0"; tm_at "hp") | (apply sqFr1; assumption; tm_at "ne"; tm_at "hp") | (apply Box.fr0; tm_at "f0"; tm_at "hp") | (apply Box.fr1; assumption; tm_at "ne"; tm_at "hp") | (apply Den.fr; tm_at "f0"; tm_at "hp") | (apply Dens.fr; tm_at "f0"; tm_at "hp") | fail "no way"))
local macro_rules | `(tactic| tm_at "free0") => `(tactic| (first | assumption | (apply updFree; assumption) | (apply updFree; apply updFree; assumption) | (apply updFree; apply updFree; apply updFree; assumption) | (apply updFree; apply updFree; apply updFree; apply updFree; assumption) | fail "no way"))
local macro_rules | `(tactic| tm_at "free") => `(tactic| (first | tm_at "free0" | (apply Fr.free; assumption; tm_at "free0") | (apply Box.free; assumption; tm_at "fr"; tm_at "free0") | (apply Fr.free; assumption; apply Fr.free; assumption; tm_at "free0") | fail "no way"))
local macro_rules | `(tactic| tm_at "fr") => `(tactic| (first | assumption | exact Fr.refl0 _ | exact Fr.refl (Box.nt (by assumption)) | (refine Fr.comp0 ?_ (by tm_at "f0"); tm_at "fr") | (refine Fr.comp ?_ (by assumption); tm_at "fr") | (refine Fr.compN ?_ (by assumption) (by tm_at "free"); tm_at "fr") | fail "no way"))
local macro_rules | `(tactic| tm_at "call") => `(tactic| fail "no call")
local macro_rules | `(tactic| tm_at "call") => `(tactic| (apply take_step; tm_at "hp"; tm_at "sc"; tm_at "sc"; intro r H1 h0 h1 hB fr))
local macro_rules | `(tactic| tm_at "ty") => `(tactic| (first | assumption | exact .base .non | exact .base (.bl _) | exact .base (.int _) | exact .base (.str _) | (apply TyX.base; apply TyOf.lst; tm_at "hp") | (apply TyX.base; apply TyOf.tup; tm_at "hp") | fail "no way"))
local macro_rules | `(tactic| tm_at "pre") => `(tactic| fail "none")
local macro_rules | `(tactic| tm_at "go1") => `(tactic| (first | tm_at "pre" | refine ⟨_, rfl, ?_⟩ | refine ⟨_, _, rfl, rfl, ?_⟩ | (apply set_step; tm_at "hp"; tm_at "sc"; tm_at "sc"; intro H1 hp fr) | (with_reducible refine iteDI ?_ ?_ <;> intro c) | (with_reducible refine iteDS ?_ ?_ <;> intro c) | (with_reducible refine iteD ?_ ?_ <;> intro c) | (with_reducible refine iteEM ?_ ?_ <;> intro c) | (with_reducible refine iteE ?_ ?_ <;> intro c) | with_reducible refine iteN ?_ | with_reducible refine iteF ?_ | with_reducible refine iteT ?_ | (refine fun (p : Addr) (np : _ = (none : Option HO)) => ?_; fail_if_success (refine ⟨fun (_ _ : Nat) (_ : Hp) => True, ?_⟩)) | (apply isi_tt; tm_at "ty"; focus (decide +kernel)) | (apply isi_ff; tm_at "ty"; focus (decide +kernel)) | (apply sl_step; tm_at "hp"; intro qq H1 ms nq hq fr) | (apply sum_step; tm_at "hp"; intro i) | (apply tru_step; tm_at "hp") | (apply len_step; tm_at "hp") | (apply lenq_step; assumption) | (apply ixq_step; assumption; tm_at "sc"; tm_at "sc"; intro v hv) | (apply lst_step; tm_at "hp") | (apply tupl_step; tm_at "hp") | (apply ixr_step; tm_at "hp"; exact rfl) | (apply ix0_step; tm_at "hp") | (apply ix1_step; tm_at "hp") | (apply ix2_step; tm_at "hp") | (apply ixi_step; tm_at "hp"; tm_at "sc"; tm_at "sc"; intro n hn hn') | (apply ixl_step; tm_at "hp"; tm_at "sc"; tm_at "sc"; intro v hv) | (apply ixt_step; tm_at "hp"; tm_at "sc"; tm_at "sc"; intro v hm hv) | (apply in_step; tm_at "hp"; rfl; rfl) | (apply cat_step; tm_at "hp"; tm_at "hp"; tm_at "sc") | (apply catT_step; tm_at "hp"; tm_at "hp"; tm_at "sc1") | (apply tyL_and; tm_at "hp") | (apply app_step; tm_at "hp"; tm_at "sc"; intro H1 hp fr) | tm_at "call" | refine ⟨⟨_, rfl⟩, ?_⟩ | (apply ixs_step; tm_at "sc"; tm_at "sc"; tm_at "sc"; intro ch) | refine .inl ⟨_, rfl, ?_⟩ | refine .inr ⟨_, rfl, ?_⟩ | (apply And.intro; tm_at "sc") | (with_reducible refine wayB ?_ ?_ <;> intro c) | fail "no way"))
local macro_rules | `(tactic| tm_at "go") => `(tactic| (repeat tm_at "go1"))
local macro_rules | `(tactic| tm_at "goo") => `(tactic| (repeat' tm_at "go1"))
local macro_rules | `(tactic| tm_at "den") => `(tactic| (first | assumption | exact Den.str _ | exact Den.int _ | exact Den.bl _ | exact Den.non | (apply Den.tups; tm_at "hp"; tm_at "dens") | (apply Den.fr; tm_at "f0"; tm_at "den") | fail "no way"))
local macro_rules | `(tactic| tm_at "dens") => `(tactic| (first | assumption | exact Dens.nil | (apply Dens.cons; tm_at "den"; tm_at "dens") | (apply Dens.fr; tm_at "f0"; tm_at "dens") | fail "no way"))
local macro_rules | `(tactic| tm_at "ix") => `(tactic| (apply Ix.mk; tm_at "hp"; tm_at "ne"; assumption; assumption))
local macro_rules | `(tactic| tm_at "dep") => `(tactic| (first | assumption | exact Dep.int | exact Dep.str | exact Dep.bl | exact Dep.non | (apply Dep.tup; tm_at "dlen"; tm_at "deps") | (apply Dep.mono; assumption; decide) | fail "no way"))
local macro_rules | `(tactic| tm_at "deps") => `(tactic| (first | assumption | exact memN | (apply memC; tm_at "dep"; tm_at "deps") | fail "no way"))
local macro_rules | `(tactic| tm_at "dlen") => `(tactic| (first | assumption | (focus (simp; done)) | omega | fail "no way"))
local macro_rules | `(tactic| tm_at "pre") => `(tactic| (apply rep_step; tm_at "hp"; tm_at "sc"; tm_at "sc"; intro rp H1 nrp hrp fr))

local macro_rules | `(tactic| tm_at "lits") => `(tactic| (try simp only [l_nl, l_open, l_close, l_sp, l_quo, l_bs, l_minus, l_zero, l_empty, l_n] at c))
local macro_rules | `(tactic| tm_at "pre") => `(tactic| (first | (apply slm_step; tm_at "sc"; tm_at "sc"; tm_at "sc") | (apply slf_step; tm_at "sc"; tm_at "sc") | (apply slt_step; tm_at "sc"; tm_at "sc") | (with_reducible refine iteEqZ ?_ ?_ <;> (intro c; tm_at "lits")) | (apply catS_step; tm_at "sc") | (apply inD_step) | (apply ordS_step) | (apply intS_step; assumption) | (apply sign_step) | (apply lenS_step; tm_at "sc")))
local macro_rules | `(tactic| tm_at "pre") => `(tactic| (apply while_go))
local macro_rules | `(tactic| tm_at "pre") => `(tactic| (apply ixS_step; tm_at "sc"; tm_at "sc"; assumption))
local macro_rules | `(tactic| tm_at "pre") => `(tactic| (apply appB_step; tm_at "hp"; tm_at "sc"; intro H1 hp fr))

set_option pp.deepTerms false
set_option pp.deepTerms.threshold 3
abbrev s_integer : Stmt := top 28
theorem sc_integer : FnScope ["_law_bag_here", "_law_size", "_law_built", "_law_turn"] ["_law_bag_here"] (defScope s_integer) := ⟨rfl, rfl, rfl, by decide +kernel, rfl, by decide +kernel, by decide +kernel⟩

theorem ok_int (T : Bl mg) (G_take : Cal P w K mg base 1 "_law_take" ["_law_bag_here", "_law_size"] spTake) (D : Def1 K mg "_law_integer" s_integer) : Cal P w K mg base 2 "_law_integer" ["_law_bag_here"] spInt := by
  refine D.cal sc_integer (fun _ _ _ _ _ _ us hl => match us, hl with | [_], _ => rfl) (fun vs H Q E h => ?_) (fun f cdv A outer s H vs Q E hr h => ?_) <;> unfold spInt at h
  · obtain ⟨b, rfl, _⟩ := h
    rfl
  · obtain ⟨b, rfl, hB, k⟩ := h
    refine ⟨_, (pss_cons (ps_set (i := 1) sc_integer.nd rfl (Or.inl rfl) (pe_ix (ixL K) (pe_lst (pa_cons pe_int (pa_cons pe_int (pa_cons pe_int (pa_cons pe_int (pa_cons pe_int (pa_cons pe_int (pa_cons pe_int (pa_cons pe_int pa_nil))))))))) (pe_cal G_take (hr.mono (by omega)) (by rfl) (pa_cons (pv 0) (pa_cons pe_int pa_nil))) (fun _ _ => rfl)))
    (pss_cons (ps_set (i := 2) sc_integer.nd rfl (Or.inl rfl) pe_int)
    (pss_cons (ps_for PassesOwn.never rfl (pi_range1 (by rfl) T.z_range (pa_cons (pv 1) pa_nil)) (pg_name (i := 3) sc_integer.nd rfl (Or.inl rfl))
      (pss_one (ps_set (i := 2) sc_integer.nd rfl (Or.inl rfl) (pe_op op_add (pe_op op_mul (pv 2) pe_int) (pe_cal G_take (hr.mono (by omega)) (by rfl) (pa_cons (pv 0) (pa_cons pe_int pa_nil)))))))
    (pss_cons (ps_if (pt_cmpR op_eq (pe_cal G_take (hr.mono (by omega)) (by rfl) (pa_cons (pv 0) (pa_cons pe_int pa_nil))) pe_int (nomark _))
      (pss_one (ps_ret (pe_op op_sub pe_int (pv 2))))
      pss_nil)
    (pss_one (ps_ret (pv 2))))))), ?_⟩
    have hB0 := hB
    tm_at "goo"
    obtain ⟨z, rfl, z0, z1⟩ := szB_of (by decide) hv
    have f0 : Fr [b] H H1 := by tm_at "fr"
    refine ⟨_, rfl, by omega, by omega, ?_⟩
    refine forR (lo := 0) (DMid b z H) ?_ (fun i σ H2 hi hp => ?_) (fun σ H2 hp => ?_)
    · unfold DMid
      exact ⟨0, none, rfl, by assumption, f0, by decide⟩
    · unfold DMid at hp
      obtain ⟨v, x, rfl, hB2, f2, hv2⟩ := hp
      show tAsg _ _ _ _ _
      tm_at "goo"
      obtain ⟨r3, rfl⟩ : ∃ r3 : Nat, r = (r3 : Int) := ⟨r.toNat, by omega⟩
      show DMid b z H (i + 1) _ _
      unfold DMid
      refine ⟨v * 10 + r3, some (.int (0 + (i : Int))), ?_, by assumption, f2.comp fr, ?_⟩
      · rw [show ((v * 10 + r3 : Nat) : Int) = (v : Int) * 10 + r3 by omega]
        rfl
      rw [Nat.pow_succ]
      omega
    · unfold DMid at hp
      obtain ⟨v, x, rfl, hB2, f2, hv2⟩ := hp
      have h80 := small80 hv2 (by omega)
      tm_at "goo"
      · exact k _ _ (by simpa using h80) (by assumption) (f2.comp fr)
      · exact k _ _ (by simpa using h80) (by assumption) (f2.comp fr)
end
end K4
set_option Elab.async false
set_option linter.all false
set_option maxRecDepth 100000
set_option maxHeartbeats 4000000
namespace K4
open PySem PySem.Spec PyProof.Rows L2 M14 SX
abbrev zOdd : Str := Str.ofString "\\\"'\nn "
theorem l_odd : zOdd.cps.toList = [92, 34, 39, 10, 110, 32] := by decide +kernel
theorem zAll_at {r : Int} (h0 : 0 ≤ r) (h1 : r < 95) : ∃ c, zAll[r.toNat]? = some c ∧ okc c = true := by
  have hl := zAll_len
  have hr : r.toNat < zAll.length := by omega
  refine ⟨zAll[r.toNat], List.getElem?_eq_getElem hr, ?_⟩
  exact List.all_eq_true.mp zAll_okc _ (List.getElem_mem hr)
theorem odd_at {r : Int} (h0 : 0 ≤ r) (h1 : r < 6) : ∃ c, [92, 34, 39, 10, 110, 32][r.toNat]? = some c ∧ okc c = true := by
  have hr : r.toNat < 6 := by omega
  have key : ∀ j : Nat, j < 6 → ∃ c, [92, 34, 39, 10, 110, 32][j]? = some c ∧ okc c = true := by
    intro j hj
    match j, hj with
    | 0, _ => exact ⟨_, rfl, rfl⟩
    | 1, _ => exact ⟨_, rfl, rfl⟩
    | 2, _ => exact ⟨_, rfl, rfl⟩
    | 3, _ => exact ⟨_, rfl, rfl⟩
    | 4, _ => exact ⟨_, rfl, rfl⟩
    | 5, _ => exact ⟨_, rfl, rfl⟩
  exact key _ hr
@[irreducible] def TM1 (b : Addr) (H : Hp) (σ : L2.St) (H' : Hp) : Prop := ∃ sz : Int, σ = [some (.ref b), some (.str (S zAll)), some (.int sz), none, none, none] ∧ 0 ≤ sz ∧ sz ≤ 299 ∧ Box H' b ∧ Fr [b] H H'
theorem TM1.of {b : Addr} {H : Hp} {sz : Int} {σ : L2.St} {H' : Hp} (e : σ = [some (.ref b), some (.str (S zAll)), some (.int sz), none, none, none]) (h0 : 0 ≤ sz) (h1 : sz ≤ 299) (hB : Box H' b) (f : Fr [b] H H') : TM1 b H σ H' := by
  unfold TM1
  exact ⟨sz, e, h0, h1, hB, f⟩
@[irreducible] def TM2 (b : Addr) (sz : Int) (H : Hp) (i : Nat) (σ : L2.St) (H' : Hp) : Prop := ∃ (a : List Nat) (x y : Option V), σ = [some (.ref b), some (.str (S zAll)), some (.int sz), some (.str (S a)), x, y] ∧ a.all okc = true ∧ a.length ≤ i ∧ Box H' b ∧ Fr [b] H H'
@[irreducible] def TM3 (b : Addr) (sz : Int) (a : List Nat) (H : Hp) (σ : L2.St) (H' : Hp) : Prop := ∃ (c : Nat) (x : Option V), σ = [some (.ref b), some (.str (S zAll)), some (.int sz), some (.str (S a)), x, some (.str (S [c]))] ∧ okc c = true ∧ Box H' b ∧ Fr [b] H H'
@[irreducible] def spStr : Sp := fun vs H Q _ => ∃ b : Addr, vs = [.ref b] ∧ Box H b ∧ ∀ (a : List Nat) H', a.all okc = true → a.length ≤ 299 → Box H' b → Fr [b] H H' → Q (.str (S a)) H'
theorem str_step {b : Addr} {H : Hp} {Q : VK} {E : XK} (hB : Box H b) (k : ∀ (a : List Nat) H', a.all okc = true → a.length ≤ 299 → Box H' b → Fr [b] H H' → Q (.str (S a)) H') : spStr ([.ref b] ++ []) H Q E := by
  unfold spStr
  exact ⟨b, rfl, hB, k⟩
section
variable {P : Program} {w : World} {K : PySem.W.Frag} {mg : Str → Option Value} {base : Heap}
set_option hygiene false
local macro_rules | `(tactic| tm_at "sc") => `(tactic| (first | omega | (simp only [List.length_cons, List.length_nil, List.length_map, List.length_set, List.length_append]; omega) | (simp only [List.length_map] at h1 ⊢; omega) | (simp only [List.length_map] at c ⊢; omega) | with_reducible assumption | exact And.intro (by omega) (by omega) | exact Or.inl (And.intro (by omega) (by omega)) | exact Or.inr (And.intro (by omega) (by omega)) | decide +kernel | exact len1000 (by simp) | rfl | fail "no way"))
local macro_rules | `(tactic| tm_at "sc1") => `(tactic| (focus (simp; done)))
local macro_rules | `(tactic| tm_at "ne") => `(tactic| (first | assumption | exact Ne.symm (by assumption) | (apply Box.ne2; assumption; tm_at "hp") | (apply Ne.symm; apply Box.ne2; assumption; tm_at "hp") | (apply ne_of_none2; assumption; tm_at "hp") | (apply Ne.symm; apply ne_of_none2; assumption; tm_at "hp") | fail "no way"))
local macro_rules | `(tactic| tm_at "f0") => `(tactic| (first | assumption | (apply Fr.new; assumption) | fail "no way"))
local macro_rules | `(tactic| tm_at "hp") => `(tactic| (first | assumption | exact upd_same | (apply SqL.of; first | assumption | exact upd_same) | (apply Fr.at0; tm_at "f0"; tm_at "hp") | (apply Fr.at1n; assumption; tm_at "ne"; tm_at "hp") | (apply sqFr0; tm_at "f0"; tm_at "hp") | (apply sqFr1; assumption; tm_at "ne"; tm_at "hp") | (apply Box.fr0; tm_at "f0"; tm_at "hp") | (apply Box.fr1; assumption; tm_at "ne"; tm_at "hp") | (apply Den.fr; tm_at "f0"; tm_at "hp") | (apply Dens.fr; tm_at "f0"; tm_at "hp") | fail "no way"))
local macro_rules | `(tactic| tm_at "free0") => `(tactic| (first | assumption | (apply updFree; assumption) | (apply updFree; apply updFree; assumption) | (apply updFree; apply updFree; apply updFree; assumption) | (apply updFree; apply updFree; apply updFree; apply updFree; assumption) | fail "no way"))
local macro_rules | `(tactic| tm_at "free") => `(tactic| (first | tm_at "free0" | (apply Fr.free; assumption; tm_at "free0") | (apply Box.free; assumption; tm_at "fr"; tm_at "free0") | (apply Fr.free; assumption; apply Fr.free; assumption; tm_at "free0") | fail "no way"))
local macro_rules | `(tactic| tm_at "fr") => `(tactic| (first | assumption | exact Fr.refl0 _ | exact Fr.refl (Box.nt (by assumption)) | (refine Fr.comp0 ?_ (by tm_at "f0"); tm_at "fr") | (refine Fr.comp ?_ (by assumption); tm_at "fr") | (refine Fr.compN ?_ (by assumption) (by tm_at "free"); tm_at "fr") | fail "no way"))
local macro_rules | `(tactic| tm_at "call") => `(tactic| fail "no call")
local macro_rules | `(tactic| tm_at "call") => `(tactic| (apply take_step; tm_at "hp"; tm_at "sc"; tm_at "sc"; intro r H1 h0 h1 hB fr))
local macro_rules | `(tactic| tm_at "ty") => `(tactic| (first | assumption | exact .base .non | exact .base (.bl _) | exact .base (.int _) | exact .base (.str _) | (apply TyX.base; apply TyOf.lst; tm_at "hp") | (apply TyX.base; apply TyOf.tup; tm_at "hp") | fail "no way"))
local macro_rules | `(tactic| tm_at "pre") => `(tactic| fail "none")
local macro_rules | `(tactic| tm_at "go1") => `(tactic| (first | tm_at "pre" | refine ⟨_, rfl, ?_⟩ | refine ⟨_, _, rfl, rfl, ?_⟩ | (apply set_step; tm_at "hp"; tm_at "sc"; tm_at "sc"; intro H1 hp fr) | (with_reducible refine iteDI ?_ ?_ <;> intro c) | (with_reducible refine iteDS ?_ ?_ <;> intro c) | (with_reducible refine iteD ?_ ?_ <;> intro c) | (with_reducible refine iteEM ?_ ?_ <;> intro c) | (with_reducible refine iteE ?_ ?_ <;> intro c) | with_reducible refine iteN ?_ | with_reducible refine iteF ?_ | with_reducible refine iteT ?_ | (refine fun (p : Addr) (np : _ = (none : Option HO)) => ?_; fail_if_success (refine ⟨fun (_ _ : Nat) (_ : Hp) => True, ?_⟩)) | (apply isi_tt; tm_at "ty"; focus (decide +kernel)) | (apply isi_ff; tm_at "ty"; focus (decide +kernel)) | (apply sl_step; tm_at "hp"; intro qq H1 ms nq hq fr) | (apply sum_step; tm_at "hp"; intro i) | (apply tru_step; tm_at "hp") | (apply len_step; tm_at "hp") | (apply lenq_step; assumption) | (apply ixq_step; assumption; tm_at "sc"; tm_at "sc"; intro v hv) | (apply lst_step; tm_at "hp") | (apply tupl_step; tm_at "hp") | (apply ixr_step; tm_at "hp"; exact rfl) | (apply ix0_step; tm_at "hp") | (apply ix1_step; tm_at "hp") | (apply ix2_step; tm_at "hp") | (apply ixi_step; tm_at "hp"; tm_at "sc"; tm_at "sc"; intro n hn hn') | (apply ixl_step; tm_at "hp"; tm_at "sc"; tm_at "sc"; intro v hv) | (apply ixt_step; tm_at "hp"; tm_at "sc"; tm_at "sc"; intro v hm hv) | (apply in_step; tm_at "hp"; rfl; rfl) | (apply cat_step; tm_at "hp"; tm_at "hp"; tm_at "sc") | (apply catT_step; tm_at "hp"; tm_at "hp"; tm_at "sc1") | (apply tyL_and; tm_at "hp") | (apply app_step; tm_at "hp"; tm_at "sc"; intro H1 hp fr) | tm_at "call" | refine ⟨⟨_, rfl⟩, ?_⟩ | (apply ixs_step; tm_at "sc"; tm_at "sc"; tm_at "sc"; intro ch) | refine .inl ⟨_, rfl, ?_⟩ | refine .inr ⟨_, rfl, ?_⟩ | (apply And.intro; tm_at "sc") | (with_reducible refine wayB ?_ ?_ <;> intro c) | fail "no way"))
local macro_rules | `(tactic| tm_at "go") => `(tactic| (repeat tm_at "go1"))
local macro_rules | `(tactic| tm_at "goo") => `(tactic| (repeat' tm_at "go1"))
local macro_rules | `(tactic| tm_at "den") => `(tactic| (first | assumption | exact Den.str _ | exact Den.int _ | exact Den.bl _ | exact Den.non | (apply Den.tups; tm_at "hp"; tm_at "dens") | (apply Den.fr; tm_at "f0"; tm_at "den") | fail "no way"))
local macro_rules | `(tactic| tm_at "dens") => `(tactic| (first | assumption | exact Dens.nil | (apply Dens.cons; tm_at "den"; tm_at "dens") | (apply Dens.fr; tm_at "f0"; tm_at "dens") | fail "no way"))
local macro_rules | `(tactic| tm_at "ix") => `(tactic| (apply Ix.mk; tm_at "hp"; tm_at "ne"; assumption; assumption))
local macro_rules | `(tactic| tm_at "dep") => `(tactic| (first | assumption | exact Dep.int | exact Dep.str | exact Dep.bl | exact Dep.non | (apply Dep.tup; tm_at "dlen"; tm_at "deps") | (apply Dep.mono; assumption; decide) | fail "no way"))
local macro_rules | `(tactic| tm_at "deps") => `(tactic| (first | assumption | exact memN | (apply memC; tm_at "dep"; tm_at "deps") | fail "no way"))
local macro_rules | `(tactic| tm_at "dlen") => `(tactic| (first | assumption | (focus (simp; done)) | omega | fail "no way"))
local macro_rules | `(tactic| tm_at "pre") => `(tactic| (apply rep_step; tm_at "hp"; tm_at "sc"; tm_at "sc"; intro rp H1 nrp hrp fr))

local macro_rules | `(tactic| tm_at "lits") => `(tactic| (try simp only [l_nl, l_open, l_close, l_sp, l_quo, l_bs, l_minus, l_zero, l_empty, l_n] at c))
local macro_rules | `(tactic| tm_at "pre") => `(tactic| (first | (apply slm_step; tm_at "sc"; tm_at "sc"; tm_at "sc") | (apply slf_step; tm_at "sc"; tm_at "sc") | (apply slt_step; tm_at "sc"; tm_at "sc") | (with_reducible refine iteEqZ ?_ ?_ <;> (intro c; tm_at "lits")) | (apply catS_step; tm_at "sc") | (apply inD_step) | (apply ordS_step) | (apply intS_step; assumption) | (apply sign_step) | (apply lenS_step; tm_at "sc")))
local macro_rules | `(tactic| tm_at "pre") => `(tactic| (apply while_go))
local macro_rules | `(tactic| tm_at "pre") => `(tactic| (apply ixS_step; tm_at "sc"; tm_at "sc"; assumption))
local macro_rules | `(tactic| tm_at "pre") => `(tactic| (apply appB_step; tm_at "hp"; tm_at "sc"; intro H1 hp fr))

local macro_rules | `(tactic| tm_at "call") => `(tactic| (apply al_step))
set_option pp.deepTerms false
set_option pp.deepTerms.threshold 3
abbrev s_string : Stmt := top 29
theorem sc_string : FnScope ["_law_bag_here", "_law_signs", "_law_size", "_law_built", "_law_turn", "_law_sign"] ["_law_bag_here"] (defScope s_string) := ⟨rfl, rfl, rfl, by decide +kernel, rfl, by decide +kernel, by decide +kernel⟩

theorem ok_str (T : Bl mg) (G_take : Cal P w K mg base 1 "_law_take" ["_law_bag_here", "_law_size"] spTake) (G_allowed : Cal P w K mg base 1 "_law_allowed" [] spAl) (D : Def1 K mg "_law_string" s_string) : Cal P w K mg base 2 "_law_string" ["_law_bag_here"] spStr := by
  refine D.cal sc_string (fun _ _ _ _ _ _ us hl => match us, hl with | [_], _ => rfl) (fun vs H Q E h => ?_) (fun f cdv A outer s H vs Q E hr h => ?_) <;> unfold spStr at h
  · obtain ⟨b, rfl, _⟩ := h
    rfl
  · obtain ⟨b, rfl, hB, k⟩ := h
    refine ⟨_, (pss_cons (ps_set (i := 1) sc_string.nd rfl (Or.inl rfl) (pe_cal0 G_allowed (hr.mono (by omega)) (by rfl)))
    (pss_cons (ps_set (i := 2) sc_string.nd rfl (Or.inl rfl) (pe_cal G_take (hr.mono (by omega)) (by rfl) (pa_cons (pv 0) (pa_cons pe_int pa_nil))))
    (C8.pss_cut (ps_if (pt_cmpR op_eq (pe_cal G_take (hr.mono (by omega)) (by rfl) (pa_cons (pv 0) (pa_cons pe_int pa_nil))) pe_int (nomark _))
      (pss_one (ps_set (i := 2) sc_string.nd rfl (Or.inl rfl) (pe_op op_add pe_int (pe_cal G_take (hr.mono (by omega)) (by rfl) (pa_cons (pv 0) (pa_cons pe_int pa_nil))))))
      pss_nil)
    (pss_cons (ps_set (i := 3) sc_string.nd rfl (Or.inl rfl) pe_str)
    (pss_cons (ps_for PassesOwn.never rfl (pi_range1 (by rfl) T.z_range (pa_cons (pv 2) pa_nil)) (pg_name (i := 4) sc_string.nd rfl (Or.inl rfl))
      (pss_cons (ps_set (i := 5) sc_string.nd rfl (Or.inl rfl) (pe_ix ixS (pv 1) (pe_cal G_take (hr.mono (by omega)) (by rfl) (pa_cons (pv 0) (pa_cons (pe_callB call_lenS (by rfl) T.z_len (by decide +kernel) (pa_cons (pv 1) pa_nil)) pa_nil))) (fun _ _ => rfl)))
      (C8.pss_cut (ps_if (pt_cmpR op_eq (pe_cal G_take (hr.mono (by omega)) (by rfl) (pa_cons (pv 0) (pa_cons pe_int pa_nil))) pe_int (nomark _))
        (pss_one (ps_set (i := 5) sc_string.nd rfl (Or.inl rfl) (pe_ix ixS pe_str (pe_cal G_take (hr.mono (by omega)) (by rfl) (pa_cons (pv 0) (pa_cons pe_int pa_nil))) (fun _ _ => rfl))))
        pss_nil)
      (pss_one (ps_set (i := 3) sc_string.nd rfl (Or.inl rfl) (pe_op op_catS (pv 3) (pv 5)))))))
    (pss_one (ps_ret (pv 3)))))))), ?_⟩
    have hB0 := hB
    have hl95 := zAll_len
    tm_at "goo"
    have f1 := fr
    refine ⟨TM1 b H, ?_, fun σ H2 hw => ?_⟩
    · tm_at "goo"
      · refine TM1.of rfl (by omega) (by omega) (by assumption) (by tm_at "fr")
      · refine TM1.of rfl (by omega) (by omega) (by assumption) (by tm_at "fr")
    · unfold TM1 at hw
      obtain ⟨sz, rfl, s0, s1, hB2, f2⟩ := hw
      refine ⟨_, rfl, _, rfl, by omega, by omega, ?_⟩
      refine forR (lo := 0) (TM2 b sz H) ?_ (fun i σ H3 hi hp => ?_) (fun σ H3 hp => ?_)
      · show TM2 b sz H 0 [some (.ref b), some (.str (S zAll)), some (.int sz), some (.str (Str.ofString "")), none, none] H2
        rw [litS l_empty]
        unfold TM2
        exact ⟨[], none, none, rfl, rfl, by simp, hB2, f2⟩
      · unfold TM2 at hp
        obtain ⟨a, x, y, rfl, ha, hl, hB3, f3⟩ := hp
        refine ⟨_, rfl, _, rfl, _, rfl, ?_⟩
        refine lenS_step (by omega) ?_
        refine take_step hB3 (by omega) (by omega) fun r4 H4 h40 h41 hB4 f4 => ?_
        obtain ⟨c, hc, ho⟩ := zAll_at h40 (by omega)
        refine ixS_step (by omega) h40 hc ?_
        refine ⟨TM3 b sz a H, ?_, fun σ H5 hw => ?_⟩
        · tm_at "goo"
          · rename_i fr5
            obtain ⟨c2, hc2, ho2⟩ := odd_at h0 h1
            show rxS (.str zOdd) (.int r) H1 _
            rw [litS l_odd]
            refine ixS_step (by simp) h0 hc2 ?_
            show TM3 b sz a H _ _
            unfold TM3
            exact ⟨c2, _, rfl, ho2, by assumption, ((f3.comp f4).comp fr5).comp fr⟩
          · show TM3 b sz a H _ _
            unfold TM3
            exact ⟨_, _, rfl, ho, by assumption, (f3.comp f4).comp fr⟩
        · unfold TM3 at hw
          obtain ⟨c2, x, rfl, hc2, hB5, f5⟩ := hw
          tm_at "goo"
          show TM2 b sz H (i + 1) _ _
          unfold TM2
          exact ⟨a ++ [c2], _, _, rfl, by simp [hc2]; simpa using ha, by simp; omega, hB5, f5⟩
      · unfold TM2 at hp
        obtain ⟨a, x, y, rfl, ha, hl, hB3, f3⟩ := hp
        tm_at "goo"
        exact k a _ ha (by omega) hB3 f3
end
end K4
set_option Elab.async false
set_option linter.all false
set_option maxRecDepth 100000
set_option maxHeartbeats 4000000
namespace K4
open PySem PySem.Spec PyProof.Rows L2 M14 SX
theorem num_len {i : Int} (h : i.natAbs < 10 ^ 80) : (numI i).length ≤ 81 := by
  cases i with
  | ofNat n => exact Nat.le_succ_of_le (TL.numL_len (by decide) h)
  | negSucc n =>
    have : (TL.numL (n + 1)).length ≤ 80 := TL.numL_len (by decide) h
    show (45 :: TL.numL (n + 1)).length ≤ 81
    simp; omega
@[irreducible] def spLf (K : PySem.W.Frag) : Sp := fun vs H Q _ => ∃ b : Addr, vs = [.ref b] ∧ Box H b ∧ ∀ v t H', Den K H' v t → WF 0 t → (wr t).length ≤ 600 → Box H' b → Fr [b] H H' → Q v H'
theorem leaf_step {K : PySem.W.Frag} {b : Addr} {H : Hp} {Q : VK} {E : XK} (hB : Box H b) (k : ∀ v t H', Den K H' v t → WF 0 t → (wr t).length ≤ 600 → Box H' b → Fr [b] H H' → Q v H') : spLf K ([.ref b] ++ []) H Q E := by
  unfold spLf
  exact ⟨b, rfl, hB, k⟩
section
variable {P : Program} {w : World} {K : PySem.W.Frag} {mg : Str → Option Value} {base : Heap}
set_option hygiene false
local macro_rules | `(tactic| tm_at "sc") => `(tactic| (first | omega | (simp only [List.length_cons, List.length_nil, List.length_map, List.length_set, List.length_append]; omega) | (simp only [List.length_map] at h1 ⊢; omega) | (simp only [List.length_map] at c ⊢; omega) | with_reducible assumption | exact And.intro (by omega) (by omega) | exact Or.inl (And.intro (by omega) (by omega)) | exact Or.inr (And.intro (by omega) (by omega)) | decide +kernel | exact len1000 (by simp) | rfl | fail "no way"))
local macro_rules | `(tactic| tm_at "sc1") => `(tactic| (focus (simp; done)))
local macro_rules | `(tactic| tm_at "ne") => `(tactic| (first | assumption | exact Ne.symm (by assumption) | (apply Box.ne2; assumption; tm_at "hp") | (apply Ne.symm; apply Box.ne2; assumption; tm_at "hp") | (apply ne_of_none2; assumption; tm_at "hp") | (apply Ne.symm; apply ne_of_none2; assumption; tm_at "hp") | fail "no way"))
local macro_rules | `(tactic| tm_at "f0") => `(tactic| (first | assumption | (apply Fr.new; assumption) | fail "no way"))
local macro_rules | `(tactic| tm_at "hp") => `(tactic| (first | assumption | exact upd_same | (apply SqL.of; first | assumption | exact upd_same) | (apply Fr.at0; tm_at "f0"; tm_at "hp") | (apply Fr.at1n; assumption; tm_at "ne"; tm_at "hp") | (apply sqFr0; tm_at "f0"; tm_at "hp") | (apply sqFr1; assumption; tm_at "ne"; tm_at "hp") | (apply Box.fr0; tm_at "f0"; tm_at "hp") | (apply Box.fr1; assumption; tm_at "ne"; tm_at "hp") | (apply Den.fr; tm_at "f0"; tm_at "hp") | (apply Dens.fr; tm_at "f0"; tm_at "hp") | fail "no way"))
local macro_rules | `(tactic| tm_at "free0") => `(tactic| (first | assumption | (apply updFree; assumption) | (apply updFree; apply updFree; assumption) | (apply updFree; apply updFree; apply updFree; assumption) | (apply updFree; apply updFree; apply updFree; apply updFree; assumption) | fail "no way"))
local macro_rules | `(tactic| tm_at "free") => `(tactic| (first | tm_at "free0" | (apply Fr.free; assumption; tm_at "free0") | (apply Box.free; assumption; tm_at "fr"; tm_at "free0") | (apply Fr.free; assumption; apply Fr.free; assumption; tm_at "free0") | fail "no way"))
local macro_rules | `(tactic| tm_at "fr") => `(tactic| (first | assumption | exact Fr.refl0 _ | exact Fr.refl (Box.nt (by assumption)) | (refine Fr.comp0 ?_ (by tm_at "f0"); tm_at "fr") | (refine Fr.comp ?_ (by assumption); tm_at "fr") | (refine Fr.compN ?_ (by assumption) (by tm_at "free"); tm_at "fr") | fail "no way"))
local macro_rules | `(tactic| tm_at "call") => `(tactic| fail "no call")
local macro_rules | `(tactic| tm_at "call") => `(tactic| (apply take_step; tm_at "hp"; tm_at "sc"; tm_at "sc"; intro r H1 h0 h1 hB fr))
local macro_rules | `(tactic| tm_at "ty") => `(tactic| (first | assumption | exact .base .non | exact .base (.bl _) | exact .base (.int _) | exact .base (.str _) | (apply TyX.base; apply TyOf.lst; tm_at "hp") | (apply TyX.base; apply TyOf.tup; tm_at "hp") | fail "no way"))
local macro_rules | `(tactic| tm_at "pre") => `(tactic| fail "none")
local macro_rules | `(tactic| tm_at "go1") => `(tactic| (first | tm_at "pre" | refine ⟨_, rfl, ?_⟩ | refine ⟨_, _, rfl, rfl, ?_⟩ | (apply set_step; tm_at "hp"; tm_at "sc"; tm_at "sc"; intro H1 hp fr) | (with_reducible refine iteDI ?_ ?_ <;> intro c) | (with_reducible refine iteDS ?_ ?_ <;> intro c) | (with_reducible refine iteD ?_ ?_ <;> intro c) | (with_reducible refine iteEM ?_ ?_ <;> intro c) | (with_reducible refine iteE ?_ ?_ <;> intro c) | with_reducible refine iteN ?_ | with_reducible refine iteF ?_ | with_reducible refine iteT ?_ | (refine fun (p : Addr) (np : _ = (none : Option HO)) => ?_; fail_if_success (refine ⟨fun (_ _ : Nat) (_ : Hp) => True, ?_⟩)) | (apply isi_tt; tm_at "ty"; focus (decide +kernel)) | (apply isi_ff; tm_at "ty"; focus (decide +kernel)) | (apply sl_step; tm_at "hp"; intro qq H1 ms nq hq fr) | (apply sum_step; tm_at "hp"; intro i) | (apply tru_step; tm_at "hp") | (apply len_step; tm_at "hp") | (apply lenq_step; assumption) | (apply ixq_step; assumption; tm_at "sc"; tm_at "sc"; intro v hv) | (apply lst_step; tm_at "hp") | (apply tupl_step; tm_at "hp") | (apply ixr_step; tm_at "hp"; exact rfl) | (apply ix0_step; tm_at "hp") | (apply ix1_step; tm_at "hp") | (apply ix2_step; tm_at "hp") | (apply ixi_step; tm_at "hp"; tm_at "sc"; tm_at "sc"; intro n hn hn') | (apply ixl_step; tm_at "hp"; tm_at "sc"; tm_at "sc"; intro v hv) | (apply ixt_step; tm_at "hp"; tm_at "sc"; tm_at "sc"; intro v hm hv) | (apply in_step; tm_at "hp"; rfl; rfl) | (apply cat_step; tm_at "hp"; tm_at "hp"; tm_at "sc") | (apply catT_step; tm_at "hp"; tm_at "hp"; tm_at "sc1") | (apply tyL_and; tm_at "hp") | (apply app_step; tm_at "hp"; tm_at "sc"; intro H1 hp fr) | tm_at "call" | refine ⟨⟨_, rfl⟩, ?_⟩ | (apply ixs_step; tm_at "sc"; tm_at "sc"; tm_at "sc"; intro ch) | refine .inl ⟨_, rfl, ?_⟩ | refine .inr ⟨_, rfl, ?_⟩ | (apply And.intro; tm_at "sc") | (with_reducible refine wayB ?_ ?_ <;> intro c) | fail "no way"))
local macro_rules | `(tactic| tm_at "go") => `(tactic| (repeat tm_at "go1"))
local macro_rules | `(tactic| tm_at "goo") => `(tactic| (repeat' tm_at "go1"))
local macro_rules | `(tactic| tm_at "den") => `(tactic| (first | assumption | exact Den.str _ | exact Den.int _ | exact Den.bl _ | exact Den.non | (apply Den.tups; tm_at "hp"; tm_at "dens") | (apply Den.fr; tm_at "f0"; tm_at "den") | fail "no way"))
local macro_rules | `(tactic| tm_at "dens") => `(tactic| (first | assumption | exact Dens.nil | (apply Dens.cons; tm_at "den"; tm_at "dens") | (apply Dens.fr; tm_at "f0"; tm_at "dens") | fail "no way"))
local macro_rules | `(tactic| tm_at "ix") => `(tactic| (apply Ix.mk; tm_at "hp"; tm_at "ne"; assumption; assumption))
local macro_rules | `(tactic| tm_at "dep") => `(tactic| (first | assumption | exact Dep.int | exact Dep.str | exact Dep.bl | exact Dep.non | (apply Dep.tup; tm_at "dlen"; tm_at "deps") | (apply Dep.mono; assumption; decide) | fail "no way"))
local macro_rules | `(tactic| tm_at "deps") => `(tactic| (first | assumption | exact memN | (apply memC; tm_at "dep"; tm_at "deps") | fail "no way"))
local macro_rules | `(tactic| tm_at "dlen") => `(tactic| (first | assumption | (focus (simp; done)) | omega | fail "no way"))
local macro_rules | `(tactic| tm_at "pre") => `(tactic| (apply rep_step; tm_at "hp"; tm_at "sc"; tm_at "sc"; intro rp H1 nrp hrp fr))

local macro_rules | `(tactic| tm_at "lits") => `(tactic| (try simp only [l_nl, l_open, l_close, l_sp, l_quo, l_bs, l_minus, l_zero, l_empty, l_n] at c))
local macro_rules | `(tactic| tm_at "pre") => `(tactic| (first | (apply slm_step; tm_at "sc"; tm_at "sc"; tm_at "sc") | (apply slf_step; tm_at "sc"; tm_at "sc") | (apply slt_step; tm_at "sc"; tm_at "sc") | (with_reducible refine iteEqZ ?_ ?_ <;> (intro c; tm_at "lits")) | (apply catS_step; tm_at "sc") | (apply inD_step) | (apply ordS_step) | (apply intS_step; assumption) | (apply sign_step) | (apply lenS_step; tm_at "sc")))
local macro_rules | `(tactic| tm_at "pre") => `(tactic| (apply while_go))
local macro_rules | `(tactic| tm_at "pre") => `(tactic| (apply ixS_step; tm_at "sc"; tm_at "sc"; assumption))
local macro_rules | `(tactic| tm_at "pre") => `(tactic| (apply appB_step; tm_at "hp"; tm_at "sc"; intro H1 hp fr))

local macro_rules | `(tactic| tm_at "call") => `(tactic| (apply int_step; tm_at "hp"; intro iv H1 hi hB fr))
local macro_rules | `(tactic| tm_at "call") => `(tactic| (apply str_step; tm_at "hp"; intro sv H1 hs hsl hB fr))
set_option pp.deepTerms false
set_option pp.deepTerms.threshold 3
abbrev s_leaf : Stmt := top 30
theorem sc_leaf : FnScope ["_law_bag_here", "_law_way"] ["_law_bag_here"] (defScope s_leaf) := ⟨rfl, rfl, rfl, by decide +kernel, rfl, by decide +kernel, by decide +kernel⟩

theorem ok_leaf (T : Bl mg) (G_take : Cal P w K mg base 1 "_law_take" ["_law_bag_here", "_law_size"] spTake) (G_integer : Cal P w K mg base 2 "_law_integer" ["_law_bag_here"] spInt) (G_string : Cal P w K mg base 2 "_law_string" ["_law_bag_here"] spStr) (D : Def1 K mg "_law_leaf" s_leaf) : Cal P w K mg base 3 "_law_leaf" ["_law_bag_here"] (spLf K) := by
  refine D.cal sc_leaf (fun _ _ _ _ _ _ us hl => match us, hl with | [_], _ => rfl) (fun vs H Q E h => ?_) (fun f cdv A outer s H vs Q E hr h => ?_) <;> unfold spLf at h
  · obtain ⟨b, rfl, _⟩ := h
    rfl
  · obtain ⟨b, rfl, hB, k⟩ := h
    refine ⟨_, (pss_cons (ps_set (i := 1) sc_leaf.nd rfl (Or.inl rfl) (pe_cal G_take (hr.mono (by omega)) (by rfl) (pa_cons (pv 0) (pa_cons pe_int pa_nil))))
    (pss_cons (ps_if (pt_cmpR op_eq (pv 1) pe_int (nomark _))
      (pss_one (ps_ret pe_non))
      pss_nil)
    (pss_cons (ps_if (pt_cmpR op_eq (pv 1) pe_int (nomark _))
      (pss_one (ps_ret pe_bl))
      pss_nil)
    (pss_cons (ps_if (pt_cmpR op_eq (pv 1) pe_int (nomark _))
      (pss_one (ps_ret pe_bl))
      pss_nil)
    (pss_cons (ps_if (pt_cmpR op_lt (pv 1) pe_int (nomark _))
      (pss_one (ps_ret (pe_cal G_integer (hr.mono (by omega)) (by rfl) (pa_cons (pv 0) pa_nil))))
      pss_nil)
    (pss_one (ps_ret (pe_cal G_string (hr.mono (by omega)) (by rfl) (pa_cons (pv 0) pa_nil))))))))), ?_⟩
    have hB0 := hB
    tm_at "goo"
    all_goals first
      | exact k _ _ _ .non .non (by decide) (by assumption) (by assumption)
      | exact k _ _ _ (.bl true) .bl (by decide) (by assumption) (by assumption)
      | exact k _ _ _ (.bl false) .bl (by decide) (by assumption) (by assumption)
      | exact k _ _ _ (.int _) (.int hi) (Nat.le_trans (num_len hi) (by decide)) (by assumption) (by tm_at "fr")
      | (refine k _ (.str (S sv)) _ (.str _) (.str hs) ?_ (by assumption) (by tm_at "fr")
         have := enc_le sv
         show (34 :: (enc sv ++ [34])).length ≤ 600
         simp; omega)
end
end K4
set_option Elab.async false
set_option linter.all false
set_option maxRecDepth 100000
set_option maxHeartbeats 4000000
namespace K4
open PySem PySem.Spec PyProof.Rows L2 M14 SX
/-- a def that draws some text -/
def DrS (n : Nat) (b : Addr) (H : Hp) (Q : VK) : Prop := Box H b ∧ ∀ (a : List Nat) H', a.length ≤ n → Box H' b → Fr [b] H H' → Q (.str (S a)) H'
@[irreducible] def spOdd : Sp := fun vs H Q _ => ∃ b : Addr, vs = [.ref b] ∧ DrS 100 b H Q
theorem odd_step {b : Addr} {H : Hp} {Q : VK} {E : XK} (hB : Box H b) (k : ∀ (a : List Nat) H', a.length ≤ 100 → Box H' b → Fr [b] H H' → Q (.str (S a)) H') : spOdd ([.ref b] ++ []) H Q E := by
  unfold spOdd
  exact ⟨b, rfl, hB, k⟩
theorem strL_of {l : List V} {v : V} {i n : Nat} (h : l.all (strB n) = true) (m : l[i]? = some v) : ∃ a, v = .str (S a) ∧ a.length ≤ n := by
  obtain ⟨s, rfl, hs⟩ := isS_of h (List.mem_of_getElem? m)
  exact ⟨s.cps.toList, by rw [S_tl], by rw [← S_len, S_tl]; exact hs⟩
section
variable {P : Program} {w : World} {K : PySem.W.Frag} {mg : Str → Option Value} {base : Heap}
set_option hygiene false
local macro_rules | `(tactic| tm_at "sc") => `(tactic| (first | omega | (simp only [List.length_cons, List.length_nil, List.length_map, List.length_set, List.length_append]; omega) | (simp only [List.length_map] at h1 ⊢; omega) | (simp only [List.length_map] at c ⊢; omega) | with_reducible assumption | exact And.intro (by omega) (by omega) | exact Or.inl (And.intro (by omega) (by omega)) | exact Or.inr (And.intro (by omega) (by omega)) | decide +kernel | exact len1000 (by simp) | rfl | fail "no way"))
local macro_rules | `(tactic| tm_at "sc1") => `(tactic| (focus (simp; done)))
local macro_rules | `(tactic| tm_at "ne") => `(tactic| (first | assumption | exact Ne.symm (by assumption) | (apply Box.ne2; assumption; tm_at "hp") | (apply Ne.symm; apply Box.ne2; assumption; tm_at "hp") | (apply ne_of_none2; assumption; tm_at "hp") | (apply Ne.symm; apply ne_of_none2; assumption; tm_at "hp") | fail "no way"))
local macro_rules | `(tactic| tm_at "f0") => `(tactic| (first | assumption | (apply Fr.new; assumption) | fail "no way"))
local macro_rules | `(tactic| tm_at "hp") => `(tactic| (first | assumption | exact upd_same | (apply SqL.of; first | assumption | exact upd_same) | (apply Fr.at0; tm_at "f0"; tm_at "hp") | (apply Fr.at1n; assumption; tm_at "ne"; tm_at "hp") | (apply sqFr0; tm_at "f0"; tm_at "hp") | (apply sqFr1; assumption; tm_at "ne"; tm_at "hp") | (apply Box.fr0; tm_at "f0"; tm_at "hp") | (apply Box.fr1; assumption; tm_at "ne"; tm_at "hp") | (apply Den.fr; tm_at "f0"; tm_at "hp") | (apply Dens.fr; tm_at "f0"; tm_at "hp") | fail "no way"))
local macro_rules | `(tactic| tm_at "free0") => `(tactic| (first | assumption | (apply updFree; assumption) | (apply updFree; apply updFree; assumption) | (apply updFree; apply updFree; apply updFree; assumption) | (apply updFree; apply updFree; apply updFree; apply updFree; assumption) | fail "no way"))
local macro_rules | `(tactic| tm_at "free") => `(tactic| (first | tm_at "free0" | (apply Fr.free; assumption; tm_at "free0") | (apply Box.free; assumption; tm_at "fr"; tm_at "free0") | (apply Fr.free; assumption; apply Fr.free; assumption; tm_at "free0") | fail "no way"))
local macro_rules | `(tactic| tm_at "fr") => `(tactic| (first | assumption | exact Fr.refl0 _ | exact Fr.refl (Box.nt (by assumption)) | (refine Fr.comp0 ?_ (by tm_at "f0"); tm_at "fr") | (refine Fr.comp ?_ (by assumption); tm_at "fr") | (refine Fr.compN ?_ (by assumption) (by tm_at "free"); tm_at "fr") | fail "no way"))
local macro_rules | `(tactic| tm_at "call") => `(tactic| fail "no call")
local macro_rules | `(tactic| tm_at "call") => `(tactic| (apply take_step; tm_at "hp"; tm_at "sc"; tm_at "sc"; intro r H1 h0 h1 hB fr))
local macro_rules | `(tactic| tm_at "ty") => `(tactic| (first | assumption | exact .base .non | exact .base (.bl _) | exact .base (.int _) | exact .base (.str _) | (apply TyX.base; apply TyOf.lst; tm_at "hp") | (apply TyX.base; apply TyOf.tup; tm_at "hp") | fail "no way"))
local macro_rules | `(tactic| tm_at "pre") => `(tactic| fail "none")
local macro_rules | `(tactic| tm_at "go1") => `(tactic| (first | tm_at "pre" | refine ⟨_, rfl, ?_⟩ | refine ⟨_, _, rfl, rfl, ?_⟩ | (apply set_step; tm_at "hp"; tm_at "sc"; tm_at "sc"; intro H1 hp fr) | (with_reducible refine iteDI ?_ ?_ <;> intro c) | (with_reducible refine iteDS ?_ ?_ <;> intro c) | (with_reducible refine iteD ?_ ?_ <;> intro c) | (with_reducible refine iteEM ?_ ?_ <;> intro c) | (with_reducible refine iteE ?_ ?_ <;> intro c) | with_reducible refine iteN ?_ | with_reducible refine iteF ?_ | with_reducible refine iteT ?_ | (refine fun (p : Addr) (np : _ = (none : Option HO)) => ?_; fail_if_success (refine ⟨fun (_ _ : Nat) (_ : Hp) => True, ?_⟩)) | (apply isi_tt; tm_at "ty"; focus (decide +kernel)) | (apply isi_ff; tm_at "ty"; focus (decide +kernel)) | (apply sl_step; tm_at "hp"; intro qq H1 ms nq hq fr) | (apply sum_step; tm_at "hp"; intro i) | (apply tru_step; tm_at "hp") | (apply len_step; tm_at "hp") | (apply lenq_step; assumption) | (apply ixq_step; assumption; tm_at "sc"; tm_at "sc"; intro v hv) | (apply lst_step; tm_at "hp") | (apply tupl_step; tm_at "hp") | (apply ixr_step; tm_at "hp"; exact rfl) | (apply ix0_step; tm_at "hp") | (apply ix1_step; tm_at "hp") | (apply ix2_step; tm_at "hp") | (apply ixi_step; tm_at "hp"; tm_at "sc"; tm_at "sc"; intro n hn hn') | (apply ixl_step; tm_at "hp"; tm_at "sc"; tm_at "sc"; intro v hv) | (apply ixt_step; tm_at "hp"; tm_at "sc"; tm_at "sc"; intro v hm hv) | (apply in_step; tm_at "hp"; rfl; rfl) | (apply cat_step; tm_at "hp"; tm_at "hp"; tm_at "sc") | (apply catT_step; tm_at "hp"; tm_at "hp"; tm_at "sc1") | (apply tyL_and; tm_at "hp") | (apply app_step; tm_at "hp"; tm_at "sc"; intro H1 hp fr) | tm_at "call" | refine ⟨⟨_, rfl⟩, ?_⟩ | (apply ixs_step; tm_at "sc"; tm_at "sc"; tm_at "sc"; intro ch) | refine .inl ⟨_, rfl, ?_⟩ | refine .inr ⟨_, rfl, ?_⟩ | (apply And.intro; tm_at "sc") | (with_reducible refine wayB ?_ ?_ <;> intro c) | fail "no way"))
local macro_rules | `(tactic| tm_at "go") => `(tactic| (repeat tm_at "go1"))
local macro_rules | `(tactic| tm_at "goo") => `(tactic| (repeat' tm_at "go1"))
local macro_rules | `(tactic| tm_at "den") => `(tactic| (first | assumption | exact Den.str _ | exact Den.int _ | exact Den.bl _ | exact Den.non | (apply Den.tups; tm_at "hp"; tm_at "dens") | (apply Den.fr; tm_at "f0"; tm_at "den") | fail "no way"))
local macro_rules | `(tactic| tm_at "dens") => `(tactic| (first | assumption | exact Dens.nil | (apply Dens.cons; tm_at "den"; tm_at "dens") | (apply Dens.fr; tm_at "f0"; tm_at "dens") | fail "no way"))
local macro_rules | `(tactic| tm_at "ix") => `(tactic| (apply Ix.mk; tm_at "hp"; tm_at "ne"; assumption; assumption))
local macro_rules | `(tactic| tm_at "dep") => `(tactic| (first | assumption | exact Dep.int | exact Dep.str | exact Dep.bl | exact Dep.non | (apply Dep.tup; tm_at "dlen"; tm_at "deps") | (apply Dep.mono; assumption; decide) | fail "no way"))
local macro_rules | `(tactic| tm_at "deps") => `(tactic| (first | assumption | exact memN | (apply memC; tm_at "dep"; tm_at "deps") | fail "no way"))
local macro_rules | `(tactic| tm_at "dlen") => `(tactic| (first | assumption | (focus (simp; done)) | omega | fail "no way"))
local macro_rules | `(tactic| tm_at "pre") => `(tactic| (apply rep_step; tm_at "hp"; tm_at "sc"; tm_at "sc"; intro rp H1 nrp hrp fr))

local macro_rules | `(tactic| tm_at "lits") => `(tactic| (try simp only [l_nl, l_open, l_close, l_sp, l_quo, l_bs, l_minus, l_zero, l_empty, l_n] at c))
local macro_rules | `(tactic| tm_at "pre") => `(tactic| (first | (apply slm_step; tm_at "sc"; tm_at "sc"; tm_at "sc") | (apply slf_step; tm_at "sc"; tm_at "sc") | (apply slt_step; tm_at "sc"; tm_at "sc") | (with_reducible refine iteEqZ ?_ ?_ <;> (intro c; tm_at "lits")) | (apply catS_step; tm_at "sc") | (apply inD_step) | (apply ordS_step) | (apply intS_step; assumption) | (apply sign_step) | (apply lenS_step; tm_at "sc")))
local macro_rules | `(tactic| tm_at "pre") => `(tactic| (apply while_go))
local macro_rules | `(tactic| tm_at "pre") => `(tactic| (apply ixS_step; tm_at "sc"; tm_at "sc"; assumption))
local macro_rules | `(tactic| tm_at "pre") => `(tactic| (apply appB_step; tm_at "hp"; tm_at "sc"; intro H1 hp fr))

set_option pp.deepTerms false
set_option pp.deepTerms.threshold 3
abbrev s_odd_note : Stmt := top 40
theorem sc_odd_note : FnScope ["_law_bag_here", "_law_notes"] ["_law_bag_here"] (defScope s_odd_note) := ⟨rfl, rfl, rfl, by decide +kernel, rfl, by decide +kernel, by decide +kernel⟩

theorem ok_odd (T : Bl mg) (G_take : Cal P w K mg base 1 "_law_take" ["_law_bag_here", "_law_size"] spTake) (D : Def1 K mg "_law_odd_note" s_odd_note) : Cal P w K mg base 2 "_law_odd_note" ["_law_bag_here"] spOdd := by
  refine D.cal sc_odd_note (fun _ _ _ _ _ _ us hl => match us, hl with | [_], _ => rfl) (fun vs H Q E h => ?_) (fun f cdv A outer s H vs Q E hr h => ?_) <;> unfold spOdd at h
  · obtain ⟨b, rfl, _⟩ := h
    rfl
  · obtain ⟨b, rfl, hB, k⟩ := h
    refine ⟨_, (pss_cons (ps_set (i := 1) sc_odd_note.nd rfl (Or.inl rfl) (pe_lst (pa_cons pe_str (pa_cons pe_str (pa_cons pe_str (pa_cons pe_str (pa_cons pe_str (pa_cons pe_str (pa_cons pe_str (pa_cons pe_str (pa_cons pe_str (pa_cons pe_str (pa_cons pe_str (pa_cons pe_str (pa_cons pe_str pa_nil)))))))))))))))
    (pss_cons (ps_set (i := 1) sc_odd_note.nd rfl (Or.inl rfl) (pe_op opCat (pv 1) (pe_lst (pa_cons pe_str (pa_cons pe_str (pa_cons pe_str (pa_cons pe_str (pa_cons pe_str (pa_cons pe_str (pa_cons pe_str (pa_cons pe_str (pa_cons pe_str (pa_cons pe_str (pa_cons pe_str (pa_cons pe_str (pa_cons pe_str pa_nil))))))))))))))))
    (pss_cons (ps_set (i := 1) sc_odd_note.nd rfl (Or.inl rfl) (pe_op opCat (pv 1) (pe_lst (pa_cons pe_str (pa_cons pe_str (pa_cons pe_str (pa_cons pe_str (pa_cons pe_str (pa_cons pe_str (pa_cons pe_str (pa_cons pe_str (pa_cons pe_str (pa_cons pe_str (pa_cons pe_str (pa_cons pe_str pa_nil)))))))))))))))
    (pss_cons (ps_set (i := 1) sc_odd_note.nd rfl (Or.inl rfl) (pe_op opCat (pv 1) (pe_lst (pa_cons pe_str (pa_cons pe_str (pa_cons pe_str (pa_cons pe_str (pa_cons pe_str (pa_cons pe_str (pa_cons pe_str (pa_cons pe_str pa_nil)))))))))))
    (pss_cons (ps_set (i := 1) sc_odd_note.nd rfl (Or.inl rfl) (pe_op opCat (pv 1) (pe_lst (pa_cons pe_str (pa_cons pe_str (pa_cons pe_str (pa_cons pe_str (pa_cons pe_str (pa_cons pe_str (pa_cons pe_str (pa_cons pe_str pa_nil)))))))))))
    (pss_cons (ps_set (i := 1) sc_odd_note.nd rfl (Or.inl rfl) (pe_op opCat (pv 1) (pe_lst (pa_cons pe_str (pa_cons pe_str (pa_cons pe_str (pa_cons pe_str (pa_cons pe_str (pa_cons pe_str (pa_cons pe_str pa_nil))))))))))
    (pss_one (ps_ret (pe_ix (ixL K) (pv 1) (pe_cal G_take (hr.mono (by omega)) (by rfl) (pa_cons (pv 0) (pa_cons (pe_callB (cLen K) (by rfl) T.z_len (by decide +kernel) (pa_cons (pv 1) pa_nil)) pa_nil))) (fun _ _ => rfl)))))))))), ?_⟩
    have hB0 := hB
    tm_at "goo"
    obtain ⟨a, rfl, ha⟩ := strL_of (n := 100) (by decide +kernel) hv
    exact k a _ ha (by assumption) (by tm_at "fr")
end
end K4
set_option Elab.async false
set_option linter.all false
set_option maxRecDepth 100000
set_option maxHeartbeats 4000000
namespace K4
open PySem PySem.Spec PyProof.Rows L2 M14 SX
/-- z * n: some text -/
theorem repS_step {z : Str} {n : Int} {H : Hp} {Q : VK} (hz : z.length ≤ 1) (h0 : 0 ≤ n) (h1 : n ≤ 10000) (k : ∀ a : List Nat, a.length ≤ 10000 → Q (.str (S a)) H) : rRepS (.str z) (.int n) H Q := by
  unfold rRepS
  have hb : z.length * n.toNat ≤ 1 * 10000 := Nat.mul_le_mul hz (by omega)
  refine ⟨z, n, rfl, rfl, by omega, by omega, by omega, ?_⟩
  have hl : (Txt.mul z n).length ≤ 1 * 10000 := len_mul_leN hz (by omega)
  have := k (Txt.mul z n).cps.toList (by rw [← S_len, S_tl]; omega)
  rw [S_tl] at this
  exact this
@[irreducible] def rMaxL (K : PySem.W.Frag) : List V → Hp → VK → Prop := fun xs H Q => ∃ a, ∃ ns : List Int, xs = [.ref a] ∧ SqL K H a (ns.map V.int) ∧ 0 < ns.length ∧ ∀ m : Int, m ∈ ns → (∀ y ∈ ns, y ≤ m) → Q (.int m) H
theorem cMaxL {X : Cx} (K : PySem.W.Frag) (hc : X.calm = true := by rfl) (hK : X.K = K := by rfl) : CallR X (.builtin "max") (rMaxL K) := by
  unfold rMaxL
  rw [← hK]
  exact cr_max hc
theorem maxL_step {K : PySem.W.Frag} {a : Addr} {ns : List Int} {H : Hp} {Q : VK} (h : SqL K H a (ns.map V.int)) (h0 : 0 < ns.length) (k : ∀ m : Int, m ∈ ns → (∀ y ∈ ns, y ≤ m) → Q (.int m) H) : rMaxL K [.ref a] H Q := by
  unfold rMaxL
  exact ⟨a, ns, rfl, h, h0, k⟩
end K4
set_option Elab.async false
set_option linter.all false
set_option maxRecDepth 100000
set_option maxHeartbeats 4000000
namespace K4
open PySem PySem.Spec PyProof.Rows L2 M14 SX
/-- a part: a list of a datum and its depth -/
def Pt (K : PySem.W.Frag) (H : Hp) (x : V) (p : T × Nat) : Prop := ∃ (a : Addr) (v : V), x = .ref a ∧ H a = some (.lst [v, .int (p.2 : Nat)]) ∧ Den K H v p.1 ∧ WF p.2 p.1
theorem Pt.fr0 {K : PySem.W.Frag} {H H' : Hp} {x : V} {p : T × Nat} (f : Fr [] H H') (h : Pt K H x p) : Pt K H' x p :=
  let ⟨a, v, e, h1, h2, h3⟩ := h; ⟨a, v, e, f.at0 h1, h2.fr f, h3⟩
theorem Pt.frB {K : PySem.W.Frag} {H H' : Hp} {b : Addr} {x : V} {p : T × Nat} (B : Box H b) (f : Fr [b] H H') (h : Pt K H x p) : Pt K H' x p := by
  obtain ⟨a, v, e, h1, h2, h3⟩ := h
  refine ⟨a, v, e, f.at1 h1 fun z => ?_, h2.fr f, h3⟩
  obtain ⟨_, _, _, q⟩ := B
  rw [z, q] at h1
  cases h1
/-- the parts of a list -/
def Pts (K : PySem.W.Frag) (H : Hp) (xs : List V) (ps : List (T × Nat)) : Prop := xs.length = ps.length ∧ ∀ (i : Nat) (x : V) (p : T × Nat), xs[i]? = some x → ps[i]? = some p → Pt K H x p
theorem Pts.fr0 {K : PySem.W.Frag} {H H' : Hp} {xs : List V} {ps : List (T × Nat)} (f : Fr [] H H') (h : Pts K H xs ps) : Pts K H' xs ps := ⟨h.1, fun i x p a b => (h.2 i x p a b).fr0 f⟩
theorem Pts.frB {K : PySem.W.Frag} {H H' : Hp} {b : Addr} {xs : List V} {ps : List (T × Nat)} (B : Box H b) (f : Fr [b] H H') (h : Pts K H xs ps) : Pts K H' xs ps := ⟨h.1, fun i x p a b => (h.2 i x p a b).frB B f⟩
theorem Pts.nil {K : PySem.W.Frag} {H : Hp} : Pts K H [] [] := ⟨rfl, fun i x p a => by simp at a⟩
theorem Pts.snoc {K : PySem.W.Frag} {H : Hp} {xs : List V} {ps : List (T × Nat)} {x : V} {p : T × Nat} (h : Pts K H xs ps) (g : Pt K H x p) : Pts K H (xs ++ [x]) (ps ++ [p]) := by
  refine ⟨by simp [h.1], fun i y q a b => ?_⟩
  by_cases hi : i < xs.length
  · rw [List.getElem?_append_left hi] at a
    rw [List.getElem?_append_left (by rw [← h.1]; exact hi)] at b
    exact h.2 i y q a b
  · rw [List.getElem?_append_right (by omega)] at a
    rw [List.getElem?_append_right (by rw [← h.1]; omega), ← h.1] at b
    cases e : i - xs.length with
    | zero => rw [e] at a b; simp at a b; subst a b; exact g
    | succ j => rw [e] at a; simp at a
theorem Pts.take {K : PySem.W.Frag} {H : Hp} {xs : List V} {ps : List (T × Nat)} (n : Nat) (h : Pts K H xs ps) : Pts K H (xs.take n) (ps.take n) := by
  refine ⟨by simp [h.1], fun i y q a b => ?_⟩
  rw [List.getElem?_take] at a b
  split at a
  · rw [if_pos (by assumption)] at b; exact h.2 i y q a b
  · cases a
theorem Pts.drop {K : PySem.W.Frag} {H : Hp} {xs : List V} {ps : List (T × Nat)} (n : Nat) (h : Pts K H xs ps) : Pts K H (xs.drop n) (ps.drop n) := by
  refine ⟨by simp [h.1], fun i y q a b => ?_⟩
  rw [List.getElem?_drop] at a b
  exact h.2 _ y q a b
/-- the room that the parts' notes take -/
def room (ps : List (T × Nat)) : Nat := (ps.map fun p => (wr p.1).length + 1).sum
theorem room_app (a b : List (T × Nat)) : room (a ++ b) = room a + room b := by simp [room]
end K4
set_option Elab.async false
set_option linter.all false
set_option maxRecDepth 100000
set_option maxHeartbeats 4000000
namespace K4
open PySem PySem.Spec PyProof.Rows L2 M14 SX
/-- the depths -/
def dps (ps : List (T × Nat)) : List Int := ps.map fun p => ((p.2 : Nat) : Int)
theorem made_dps {H : Hp} {xs : List V} {ps : List (T × Nat)} {ys : List V} (l : xs.length = ps.length) (m : Made (fun _ i y => ∃ p, ps[i]? = some p ∧ y = V.int ((p.2 : Nat) : Int)) H (keptN (fun _ => true) xs.length) ys) : ys = (dps ps).map V.int := by
  rw [keptN_all] at m
  obtain ⟨l1, h⟩ := m.all
  apply List.ext_getElem?
  intro i
  unfold dps
  rw [List.map_map, List.getElem?_map]
  cases e : ys[i]? with
  | none =>
    have : ps.length ≤ i := by rw [List.getElem?_eq_none_iff] at e; omega
    rw [List.getElem?_eq_none this]; rfl
  | some y =>
    obtain ⟨p, h1, h2⟩ := h i y e
    rw [h1, h2]; rfl
theorem made_tup {K : PySem.W.Frag} {H : Hp} {xs : List V} {ps : List (T × Nat)} {ys : List V} (l : xs.length = ps.length) (m : Made (fun H i y => ∃ t, Den K H y t ∧ (ps.map (·.1))[i]? = some t) H (keptN (fun _ => true) xs.length) ys) : Dens K H ys (ps.map (·.1)) := by
  rw [keptN_all] at m
  obtain ⟨l1, h⟩ := m.all
  refine ⟨by simp [l1, l], fun i x t a b => ?_⟩
  obtain ⟨u, d, e⟩ := h i x a
  rw [b] at e
  cases e
  exact d
theorem part_at {K : PySem.W.Frag} {H : Hp} {xs : List V} {ps : List (T × Nat)} {i : Nat} {x : V} (h : Pts K H xs ps) (e : xs[i]? = some x) : ∃ p, ps[i]? = some p ∧ Pt K H x p := by
  have hl2 := (List.getElem?_eq_some_iff.mp e).1
  have hl := h.1
  have e2 : ps[i]? = some (ps[i]'(by omega)) := List.getElem?_eq_getElem _
  exact ⟨_, e2, h.2 i x _ e e2⟩
theorem max_dps {ps : List (T × Nat)} {m : Int} (h : m ∈ dps ps ++ [0]) (hle : ∀ y ∈ dps ps ++ [0], y ≤ m) : ∃ d : Nat, m = (d : Nat) ∧ (∀ q ∈ ps, q.2 ≤ d) ∧ (d = 0 ∨ ∃ q ∈ ps, q.2 = d) := by
  have key : ∀ q ∈ ps, ((q.2 : Nat) : Int) ≤ m := fun q mq => hle _ (List.mem_append_left _ (List.mem_map_of_mem (f := fun p : T × Nat => ((p.2 : Nat) : Int)) mq))
  rcases List.mem_append.mp h with h | h
  · obtain ⟨q, mq, e⟩ := List.mem_map.mp h
    refine ⟨q.2, e.symm, fun z mz => ?_, .inr ⟨q, mq, rfl⟩⟩
    have := key z mz
    omega
  · have e : m = 0 := by simpa using h
    refine ⟨0, by simpa using e, fun z mz => ?_, .inl rfl⟩
    have := key z mz
    omega
/-- what grouped makes: a new list of the tuple and one more than the greatest depth -/
@[irreducible] def spGr (K : PySem.W.Frag) : Sp := fun vs H Q _ => ∃ (l : Addr) (xs : List V) (ps : List (T × Nat)), vs = [.ref l] ∧ H l = some (.lst xs) ∧ Pts K H xs ps ∧ ps.length ≤ 1000 ∧
  ∀ (p : Addr) (d : Nat) H', (∀ q ∈ ps, q.2 ≤ d) → (d = 0 ∨ ∃ q ∈ ps, q.2 = d) → H p = none → Pt K H' (.ref p) (.tup (ps.map (·.1)), d + 1) → Fr [] H H' → Q (.ref p) H'
theorem gr_step {K : PySem.W.Frag} {l : Addr} {xs : List V} {ps : List (T × Nat)} {H : Hp} {Q : VK} {E : XK} (h : H l = some (.lst xs)) (hp : Pts K H xs ps) (hl : ps.length ≤ 1000) (k : ∀ (p : Addr) (d : Nat) H', (∀ q ∈ ps, q.2 ≤ d) → (d = 0 ∨ ∃ q ∈ ps, q.2 = d) → H p = none → Pt K H' (.ref p) (.tup (ps.map (·.1)), d + 1) → Fr [] H H' → Q (.ref p) H') : spGr K ([.ref l] ++ []) H Q E := by
  unfold spGr
  exact ⟨l, xs, ps, rfl, h, hp, hl, k⟩
section
variable {P : Program} {w : World} {K : PySem.W.Frag} {mg : Str → Option Value} {base : Heap}
set_option hygiene false
local macro_rules | `(tactic| tm_at "sc") => `(tactic| (first | omega | (simp only [List.length_cons, List.length_nil, List.length_map, List.length_set, List.length_append]; omega) | (simp only [List.length_map] at h1 ⊢; omega) | (simp only [List.length_map] at c ⊢; omega) | with_reducible assumption | exact And.intro (by omega) (by omega) | exact Or.inl (And.intro (by omega) (by omega)) | exact Or.inr (And.intro (by omega) (by omega)) | decide +kernel | exact len1000 (by simp) | rfl | fail "no way"))
local macro_rules | `(tactic| tm_at "sc1") => `(tactic| (focus (simp; done)))
local macro_rules | `(tactic| tm_at "ne") => `(tactic| (first | assumption | exact Ne.symm (by assumption) | (apply Box.ne2; assumption; tm_at "hp") | (apply Ne.symm; apply Box.ne2; assumption; tm_at "hp") | (apply ne_of_none2; assumption; tm_at "hp") | (apply Ne.symm; apply ne_of_none2; assumption; tm_at "hp") | fail "no way"))
local macro_rules | `(tactic| tm_at "f0") => `(tactic| (first | assumption | (apply Fr.new; assumption) | fail "no way"))
local macro_rules | `(tactic| tm_at "hp") => `(tactic| (first | assumption | exact upd_same | (apply SqL.of; first | assumption | exact upd_same) | (apply Fr.at0; tm_at "f0"; tm_at "hp") | (apply Fr.at1n; assumption; tm_at "ne"; tm_at "hp") | (apply sqFr0; tm_at "f0"; tm_at "hp") | (apply sqFr1; assumption; tm_at "ne"; tm_at "hp") | (apply Box.fr0; tm_at "f0"; tm_at "hp") | (apply Box.fr1; assumption; tm_at "ne"; tm_at "hp") | (apply Den.fr; tm_at "f0"; tm_at "hp") | (apply Dens.fr; tm_at "f0"; tm_at "hp") | fail "no way"))
local macro_rules | `(tactic| tm_at "free0") => `(tactic| (first | assumption | (apply updFree; assumption) | (apply updFree; apply updFree; assumption) | (apply updFree; apply updFree; apply updFree; assumption) | (apply updFree; apply updFree; apply updFree; apply updFree; assumption) | fail "no way"))
local macro_rules | `(tactic| tm_at "free") => `(tactic| (first | tm_at "free0" | (apply Fr.free; assumption; tm_at "free0") | (apply Box.free; assumption; tm_at "fr"; tm_at "free0") | (apply Fr.free; assumption; apply Fr.free; assumption; tm_at "free0") | fail "no way"))
local macro_rules | `(tactic| tm_at "fr") => `(tactic| (first | assumption | exact Fr.refl0 _ | exact Fr.refl (Box.nt (by assumption)) | (refine Fr.comp0 ?_ (by tm_at "f0"); tm_at "fr") | (refine Fr.comp ?_ (by assumption); tm_at "fr") | (refine Fr.compN ?_ (by assumption) (by tm_at "free"); tm_at "fr") | fail "no way"))
local macro_rules | `(tactic| tm_at "call") => `(tactic| fail "no call")
local macro_rules | `(tactic| tm_at "call") => `(tactic| (apply take_step; tm_at "hp"; tm_at "sc"; tm_at "sc"; intro r H1 h0 h1 hB fr))
local macro_rules | `(tactic| tm_at "ty") => `(tactic| (first | assumption | exact .base .non | exact .base (.bl _) | exact .base (.int _) | exact .base (.str _) | (apply TyX.base; apply TyOf.lst; tm_at "hp") | (apply TyX.base; apply TyOf.tup; tm_at "hp") | fail "no way"))
local macro_rules | `(tactic| tm_at "pre") => `(tactic| fail "none")
local macro_rules | `(tactic| tm_at "go1") => `(tactic| (first | tm_at "pre" | refine ⟨_, rfl, ?_⟩ | refine ⟨_, _, rfl, rfl, ?_⟩ | (apply set_step; tm_at "hp"; tm_at "sc"; tm_at "sc"; intro H1 hp fr) | (with_reducible refine iteDI ?_ ?_ <;> intro c) | (with_reducible refine iteDS ?_ ?_ <;> intro c) | (with_reducible refine iteD ?_ ?_ <;> intro c) | (with_reducible refine iteEM ?_ ?_ <;> intro c) | (with_reducible refine iteE ?_ ?_ <;> intro c) | with_reducible refine iteN ?_ | with_reducible refine iteF ?_ | with_reducible refine iteT ?_ | (refine fun (p : Addr) (np : _ = (none : Option HO)) => ?_; fail_if_success (refine ⟨fun (_ _ : Nat) (_ : Hp) => True, ?_⟩)) | (apply isi_tt; tm_at "ty"; focus (decide +kernel)) | (apply isi_ff; tm_at "ty"; focus (decide +kernel)) | (apply sl_step; tm_at "hp"; intro qq H1 ms nq hq fr) | (apply sum_step; tm_at "hp"; intro i) | (apply tru_step; tm_at "hp") | (apply len_step; tm_at "hp") | (apply lenq_step; assumption) | (apply ixq_step; assumption; tm_at "sc"; tm_at "sc"; intro v hv) | (apply lst_step; tm_at "hp") | (apply tupl_step; tm_at "hp") | (apply ixr_step; tm_at "hp"; exact rfl) | (apply ix0_step; tm_at "hp") | (apply ix1_step; tm_at "hp") | (apply ix2_step; tm_at "hp") | (apply ixi_step; tm_at "hp"; tm_at "sc"; tm_at "sc"; intro n hn hn') | (apply ixl_step; tm_at "hp"; tm_at "sc"; tm_at "sc"; intro v hv) | (apply ixt_step; tm_at "hp"; tm_at "sc"; tm_at "sc"; intro v hm hv) | (apply in_step; tm_at "hp"; rfl; rfl) | (apply cat_step; tm_at "hp"; tm_at "hp"; tm_at "sc") | (apply catT_step; tm_at "hp"; tm_at "hp"; tm_at "sc1") | (apply tyL_and; tm_at "hp") | (apply app_step; tm_at "hp"; tm_at "sc"; intro H1 hp fr) | tm_at "call" | refine ⟨⟨_, rfl⟩, ?_⟩ | (apply ixs_step; tm_at "sc"; tm_at "sc"; tm_at "sc"; intro ch) | refine .inl ⟨_, rfl, ?_⟩ | refine .inr ⟨_, rfl, ?_⟩ | (apply And.intro; tm_at "sc") | (with_reducible refine wayB ?_ ?_ <;> intro c) | fail "no way"))
local macro_rules | `(tactic| tm_at "go") => `(tactic| (repeat tm_at "go1"))
local macro_rules | `(tactic| tm_at "goo") => `(tactic| (repeat' tm_at "go1"))
local macro_rules | `(tactic| tm_at "den") => `(tactic| (first | assumption | exact Den.str _ | exact Den.int _ | exact Den.bl _ | exact Den.non | (apply Den.tups; tm_at "hp"; tm_at "dens") | (apply Den.fr; tm_at "f0"; tm_at "den") | fail "no way"))
local macro_rules | `(tactic| tm_at "dens") => `(tactic| (first | assumption | exact Dens.nil | (apply Dens.cons; tm_at "den"; tm_at "dens") | (apply Dens.fr; tm_at "f0"; tm_at "dens") | fail "no way"))
local macro_rules | `(tactic| tm_at "ix") => `(tactic| (apply Ix.mk; tm_at "hp"; tm_at "ne"; assumption; assumption))
local macro_rules | `(tactic| tm_at "dep") => `(tactic| (first | assumption | exact Dep.int | exact Dep.str | exact Dep.bl | exact Dep.non | (apply Dep.tup; tm_at "dlen"; tm_at "deps") | (apply Dep.mono; assumption; decide) | fail "no way"))
local macro_rules | `(tactic| tm_at "deps") => `(tactic| (first | assumption | exact memN | (apply memC; tm_at "dep"; tm_at "deps") | fail "no way"))
local macro_rules | `(tactic| tm_at "dlen") => `(tactic| (first | assumption | (focus (simp; done)) | omega | fail "no way"))
local macro_rules | `(tactic| tm_at "pre") => `(tactic| (apply rep_step; tm_at "hp"; tm_at "sc"; tm_at "sc"; intro rp H1 nrp hrp fr))

local macro_rules | `(tactic| tm_at "lits") => `(tactic| (try simp only [l_nl, l_open, l_close, l_sp, l_quo, l_bs, l_minus, l_zero, l_empty, l_n] at c))
local macro_rules | `(tactic| tm_at "pre") => `(tactic| (first | (apply slm_step; tm_at "sc"; tm_at "sc"; tm_at "sc") | (apply slf_step; tm_at "sc"; tm_at "sc") | (apply slt_step; tm_at "sc"; tm_at "sc") | (with_reducible refine iteEqZ ?_ ?_ <;> (intro c; tm_at "lits")) | (apply catS_step; tm_at "sc") | (apply inD_step) | (apply ordS_step) | (apply intS_step; assumption) | (apply sign_step) | (apply lenS_step; tm_at "sc")))
local macro_rules | `(tactic| tm_at "pre") => `(tactic| (apply while_go))
local macro_rules | `(tactic| tm_at "pre") => `(tactic| (apply ixS_step; tm_at "sc"; tm_at "sc"; assumption))
local macro_rules | `(tactic| tm_at "pre") => `(tactic| (apply appB_step; tm_at "hp"; tm_at "sc"; intro H1 hp fr))

set_option pp.deepTerms false
set_option pp.deepTerms.threshold 3
abbrev s_grouped : Stmt := top 31
theorem sc_grouped : FnScope ["_law_parts", "_law_deepest", "_law_part"] ["_law_parts"] (defScope s_grouped) := ⟨rfl, rfl, rfl, by decide +kernel, rfl, by decide +kernel, by decide +kernel⟩

theorem ok_grouped (T : Bl mg) (D : Def1 K mg "_law_grouped" s_grouped) : Cal P w K mg base 1 "_law_grouped" ["_law_parts"] (spGr K) := by
  refine D.cal sc_grouped (fun _ _ _ _ _ _ us hl => match us, hl with | [_], _ => rfl) (fun vs H Q E h => ?_) (fun f cdv A outer s H vs Q E hr h => ?_) <;> unfold spGr at h
  · obtain ⟨l, xs, ps, rfl, _⟩ := h
    rfl
  · obtain ⟨l, xs, ps, rfl, hl, hp, hz, k⟩ := h
    have lx := hp.1
    refine ⟨_, (pss_cons (ps_set (i := 1) sc_grouped.nd rfl (Or.inl rfl) (pe_callB (cMaxL K) (by rfl) T.z_max (by decide +kernel) (pa_cons (pe_op opCat (pe_lc (own := [("_law_part", 2)]) (g := gName 2) (by rfl) sc_grouped.nd (pi_list (pv 0)) (blkOk_by (own := [("_law_part", 2)]) (N := [("_law_parts" : Str), ("_law_deepest" : Str), ("_law_part" : Str)]) (sc := defScope s_grouped) (by decide +kernel)) (fun _ _ _ _ _ => pg_name (i := 2) sc_grouped.nd rfl (Or.inl rfl)) (fun _ _ _ _ _ => pts_nil) (fun _ _ _ _ _ => (pe_ix (ixL K) (pv 2) pe_int (fun _ _ => rfl)))) (pe_lst (pa_cons pe_int pa_nil))) pa_nil)))
    (pss_one (ps_ret (pe_lst (pa_cons (pe_callTy (cTuple K) (by rfl) T.z_tuple (by decide +kernel) (pa_cons (pe_lc (own := [("_law_part", 2)]) (g := gName 2) (by rfl) sc_grouped.nd (pi_list (pv 0)) (blkOk_by (own := [("_law_part", 2)]) (N := [("_law_parts" : Str), ("_law_deepest" : Str), ("_law_part" : Str)]) (sc := defScope s_grouped) (by decide +kernel)) (fun _ _ _ _ _ => pg_name (i := 2) sc_grouped.nd rfl (Or.inl rfl)) (fun _ _ _ _ _ => pts_nil) (fun _ _ _ _ _ => (pe_ix (ixL K) (pv 2) pe_int (fun _ _ => rfl)))) pa_nil)) (pa_cons (pe_op op_add pe_int (pv 1)) pa_nil)))))), ?_⟩
    tm_at "goo"
    refine ⟨⟨xs, SqL.of hl⟩, ?_⟩
    refine lcL (fun _ => true) (fun _ i y => ∃ p, ps[i]? = some p ∧ y = V.int ((p.2 : Nat) : Int)) (Cg.nil _) stab_v (xs := xs) (.of hl) (by simp) (by omega) (fun i x H2 hi hS f => tyes_ok trivial (fun _ h => nomatch h)) (fun i x H2 hi _ hS f R kk => ?_) (fun D1 H1 ys nD hD m _ f1 => ?_)
    · obtain ⟨p, hpi, hpt⟩ := part_at hp hi
      obtain ⟨a, v, rfl, ha, hd, hw⟩ := hpt
      refine ⟨_, rfl, ?_⟩
      refine ixr_step (.of (f.at0 ha)) (atI_nat (j := 1) rfl) ?_
      exact kk _ _ trivial (Fr.refl0 _) ⟨p, hpi, rfl⟩
    · have e := made_dps lx m
      subst e
      have hln : (dps ps).length = ps.length := by simp [dps]
      tm_at "goo"
      rename_i p1 np1
      have fa : Fr [] H1 _ := Fr.new (o := .lst [V.int 0]) np1
      have fb : Fr [] _ _ := Fr.new (o := .lst ((dps ps).map V.int ++ [V.int 0])) np
      have F : Fr [] H _ := (f1.comp0 fa).comp0 fb
      refine maxL_step (ns := dps ps ++ [0]) (.of (by rw [List.map_append]; exact upd_same)) (by simp) fun m hm hle => ?_
      revert F
      generalize upd (upd H1 _ (HO.lst [V.int 0])) _ (HO.lst ((dps ps).map V.int ++ [V.int 0])) = H3
      intro F
      tm_at "goo"
      have hl3 := F.at0 hl
      have hp3 := hp.fr0 F
      obtain ⟨d, rfl, hq, hd⟩ := max_dps hm hle
      refine ⟨⟨xs, SqL.of hl3⟩, ?_⟩
      refine lcL (fun _ => true) (fun H i y => ∃ t, Den K H y t ∧ (ps.map (·.1))[i]? = some t) (Cg.nil _) stab_den (xs := xs) (.of hl3) (by simp) (by omega) (fun i x H2 hi hS f => tyes_ok trivial (fun _ h => nomatch h)) (fun i x H4 hi _ hS f R kk => ?_) (fun D2 H4 ys nD2 hD2 m2 _ f4 => ?_)
      · obtain ⟨p, hpi, hpt⟩ := part_at hp3 hi
        obtain ⟨a, v, rfl, ha, hd, hw⟩ := hpt
        refine ⟨_, rfl, ?_⟩
        refine ixr_step (.of (f.at0 ha)) (atI_nat (j := 0) rfl) ?_
        exact kk _ _ trivial (Fr.refl0 _) ⟨p.1, hd.fr f, by rw [List.getElem?_map, hpi]; rfl⟩
      · have ds := made_tup lx m2
        tm_at "goo"
        rename_i p1 np1
        have e1 : (1 + ((d : Nat) : Int)) = ((d + 1 : Nat) : Int) := by omega
        have fa : Fr [] H4 _ := Fr.new (o := .tup ys) np1
        have fb : Fr [] (upd H4 p1 (HO.tup ys)) (upd (upd H4 p1 (HO.tup ys)) p (HO.lst [V.ref p1, V.int ((d + 1 : Nat) : Int)])) := Fr.new np
        show Q (V.ref p) (upd (upd H4 p1 (HO.tup ys)) p (HO.lst [V.ref p1, V.int (1 + ((d : Nat) : Int))]))
        rw [e1]
        refine k p d _ hq hd ?_ ⟨p, .ref p1, rfl, upd_same, ?_, ?_⟩ (((F.comp0 f4).comp0 fa).comp0 fb)
        · exact F.free (f4.free (updFree np))
        · exact Den.fr fb (Den.tup upd_same ds.1 fun i x t a b => (ds.2 i x t a b).fr fa)
        · refine .tup fun t mt => ?_
          obtain ⟨q, mq, rfl⟩ := List.mem_map.mp mt
          obtain ⟨j, ej⟩ := List.getElem?_of_mem mq
          have hj := (List.getElem?_eq_some_iff.mp ej).1
          obtain ⟨_, _, _, _, _, hw⟩ := hp.2 j (xs[j]'(by omega)) q (List.getElem?_eq_getElem _) ej
          exact hw.mono (hq q mq)
end
end K4
set_option Elab.async false
set_option linter.all false
set_option maxRecDepth 100000
set_option maxHeartbeats 4000000
namespace K4
open PySem PySem.Spec PyProof.Rows L2 M14 SX
/-! ### parts == [] -/
mutual
def dat : T → PyData
  | .non => .none
  | .bl b => .bool b
  | .int i => .int i
  | .str s => .str s
  | .tup ts => .tuple (dats ts)
def dats : List T → List PyData
  | [] => []
  | t :: r => dat t :: dats r
end
theorem dpAll_of {K : PySem.W.Frag} {H : Hp} : ∀ (xs : List V) (ts : List T), xs.length = ts.length → (∀ (i : Nat) (x : V) (t : T), xs[i]? = some x → ts[i]? = some t → Dp K H x (dat t)) → DpAll K H xs (dats ts)
  | [], [], _, _ => .nil
  | [], _ :: _, l, _ => by simp at l
  | _ :: _, [], l, _ => by simp at l
  | x :: xs, t :: ts, l, h => .cons (h 0 x t rfl rfl) (dpAll_of xs ts (by simpa using l) fun i y u a b => h (i + 1) y u (by simpa using a) (by simpa using b))
theorem dp_of {K : PySem.W.Frag} {H : Hp} {v : V} {t : T} (h : Den K H v t) : Dp K H v (dat t) := by
  induction h with
  | non => exact .non
  | bl b => exact .bl b
  | int i => exact .int i
  | str s => exact .str s
  | tup ha l c ih => exact .tup (SqT.of ha) (dpAll_of _ _ l ih)
theorem dat_ok {d : Nat} {t : T} (h : WF d t) : PyData.canLay0 (dat t) = true ∧ PyData.depth (dat t) ≤ d := by
  induction h with
  | non => exact ⟨rfl, Nat.zero_le _⟩
  | bl => exact ⟨rfl, Nat.zero_le _⟩
  | int h => exact ⟨rfl, Nat.zero_le _⟩
  | @str d s h =>
    refine ⟨?_, Nat.zero_le _⟩
    show s.cps.all (fun c => decide (c < 0x110000)) = true
    rw [← Array.all_toList]
    refine List.all_eq_true.mpr fun c m => ?_
    have := List.all_eq_true.mp h c m
    unfold okc at this
    simp at this
    simp
    omega
  | @tup d ts h ih =>
    have key : ∀ us : List T, (∀ t ∈ us, PyData.canLay0 (dat t) = true ∧ PyData.depth (dat t) ≤ d) → PyData.canLayAll0 (dats us) = true ∧ PyData.depthAll (dats us) ≤ d := by
      intro us
      induction us with
      | nil => intro _; exact ⟨rfl, Nat.zero_le _⟩
      | cons u r ihr =>
        intro hu
        obtain ⟨a, b⟩ := hu u List.mem_cons_self
        obtain ⟨a2, b2⟩ := ihr fun t m => hu t (List.mem_cons_of_mem _ m)
        exact ⟨by show (PyData.canLay0 (dat u) && PyData.canLayAll0 (dats r)) = true; rw [a, a2]; rfl, by show max (PyData.depth (dat u)) (PyData.depthAll (dats r)) ≤ d; omega⟩
    obtain ⟨a, b⟩ := key ts ih
    exact ⟨a, by show PyData.depthAll (dats ts) + 1 ≤ d + 1; omega⟩
@[irreducible] def rEqNil (K : PySem.W.Frag) : R2 := fun x y H Q => ∃ a b xs ps, x = .ref a ∧ y = .ref b ∧ H a = some (.lst xs) ∧ H b = some (.lst []) ∧ Pts K H xs ps ∧ (∀ p ∈ ps, p.2 ≤ 60) ∧ Q (.bl xs.isEmpty) H
def datP (p : T × Nat) : PyData := .list [dat p.1, .int (p.2 : Nat)]
theorem pts_dp {K : PySem.W.Frag} {H : Hp} : ∀ (xs : List V) (ps : List (T × Nat)), Pts K H xs ps → (∀ p ∈ ps, p.2 ≤ 60) → DpAll K H xs (ps.map datP) ∧ PyData.canLayAll0 (ps.map datP) = true ∧ PyData.depthAll (ps.map datP) ≤ 61
  | [], [], _, _ => ⟨.nil, rfl, Nat.zero_le _⟩
  | [], _ :: _, l, _ => by have := l.1; simp at this
  | _ :: _, [], l, _ => by have := l.1; simp at this
  | x :: xs, p :: ps, h, hd => by
    obtain ⟨a, v, rfl, ha, hv, hw⟩ := h.2 0 x p rfl rfl
    obtain ⟨r1, r2, r3⟩ := pts_dp xs ps ⟨by have := h.1; simpa using this, fun i y u a b => h.2 (i + 1) y u (by simpa using a) (by simpa using b)⟩ fun q m => hd q (List.mem_cons_of_mem _ m)
    obtain ⟨w1, w2⟩ := dat_ok hw
    have := hd p List.mem_cons_self
    refine ⟨.cons (.lst (SqL.of ha) (.cons (dp_of hv) (.cons (.int _) .nil))) r1, ?_, ?_⟩
    · show ((PyData.canLay0 (dat p.1) && (PyData.canLay0 (.int (p.2 : Nat)) && true)) && PyData.canLayAll0 (ps.map datP)) = true
      rw [w1, r2]; rfl
    · show max (max (PyData.depth (dat p.1)) (max 0 0) + 1) (PyData.depthAll (ps.map datP)) ≤ 61
      omega
theorem opEqD {X : Cx} (K : PySem.W.Frag) (hu : X.A.units + 65 < cLine) (hK : X.K = K := by rfl) : OpR X (compareOp .Eq) (rEqNil K) := by
  unfold rEqNil
  rw [← hK]
  intro pins s σ H x y v u Q I rx ry h
  obtain ⟨a, b, xs, ps, rfl, rfl, ha, hb, hp, hd, q⟩ := h
  obtain ⟨d1, d2, d3⟩ := pts_dp xs ps hp hd
  refine op_eqD (by omega) pins s σ H _ _ v u Q I rx ry ⟨.list (ps.map datP), .list [], .lst (SqL.of ha) d1, .lst (SqL.of hb) .nil, ?_, rfl, ?_⟩
  · unfold SeqAt.shaped
    refine Bool.and_eq_true_iff.mpr ⟨d2, decide_eq_true ?_⟩
    show PyData.depthAll (ps.map datP) + 1 ≤ 64
    omega
  · have e : PyData.eqv (.list (ps.map datP)) (.list []) = xs.isEmpty := by
      have l := hp.1
      cases ps with
      | nil => cases xs with
        | nil => rfl
        | cons => simp at l
      | cons p r => cases xs with
        | nil => simp at l
        | cons => rfl
    rw [e]
    exact q
theorem eqNil_step {K : PySem.W.Frag} {a b : Addr} {xs : List V} {ps : List (T × Nat)} {H : Hp} {Q : VK} (ha : H a = some (.lst xs)) (hb : H b = some (.lst [])) (hp : Pts K H xs ps) (hd : ∀ p ∈ ps, p.2 ≤ 60) (q : Q (.bl xs.isEmpty) H) : rEqNil K (.ref a) (.ref b) H Q := by
  unfold rEqNil
  exact ⟨a, b, xs, ps, rfl, rfl, ha, hb, hp, hd, q⟩
theorem room_65 {k : Nat} {A : Around} (r : Room k A) : A.units + 65 < cLine := by have := r.un; omega
/-! ### slices of lists -/
theorem sl_to {K : PySem.W.Frag} {H : Hp} {p : Addr} {xs : List V} {k : Nat} {Q : VK} (hp : H p = some (.lst xs)) (h : ∀ q H', H q = none → H' q = some (.lst (xs.take k)) → Fr [] H H' → Q (.ref q) H') : rxSl K (.ref p) none (some (k : Int)) H Q := by
  unfold rxSl
  refine ⟨p, _, rfl, .of hp, fun q hq => ?_⟩
  have e : cutV xs none (some (k : Int)) = xs.take k := by
    unfold cutV
    rw [HT.sIx_none, HT.sIx_nat, List.drop_zero, Nat.sub_zero]
    by_cases hk : k ≤ xs.length
    · rw [Nat.min_eq_left hk]
    · rw [Nat.min_eq_right (by omega), List.take_of_length_le (Nat.le_refl _), List.take_of_length_le (by omega)]
  rw [e]
  exact h q _ hq upd_same (Fr.new hq)
theorem sl_from {K : PySem.W.Frag} {H : Hp} {p : Addr} {xs : List V} {k : Nat} {Q : VK} (hp : H p = some (.lst xs)) (hk : k ≤ xs.length) (h : ∀ q H', H q = none → H' q = some (.lst (xs.drop k)) → Fr [] H H' → Q (.ref q) H') : rxSl K (.ref p) (some (k : Int)) none H Q := by
  unfold rxSl
  refine ⟨p, _, rfl, .of hp, fun q hq => ?_⟩
  have e : cutV xs (some (k : Int)) none = xs.drop k := by
    unfold cutV
    rw [HT.sIx_none, HT.sIx_nat, Nat.min_eq_left hk, List.take_of_length_le (by rw [List.length_drop]; omega)]
  rw [e]
  exact h q _ hq upd_same (Fr.new hq)
/-! ### parts, further -/
theorem Pts.nol {K : PySem.W.Frag} {H : Hp} {xs : List V} {ps : List (T × Nat)} {l : Addr} (hl : H l = some (.lst xs)) (hp : Pts K H xs ps) {i : Nat} {x : V} {p : T × Nat} (a : xs[i]? = some x) (b : ps[i]? = some p) : ∃ (q : Addr) (v : V), x = .ref q ∧ q ≠ l ∧ H q = some (.lst [v, .int (p.2 : Nat)]) ∧ Den K H v p.1 ∧ WF p.2 p.1 := by
  obtain ⟨q, v, e, hq, hv, hw⟩ := hp.2 i x p a b
  refine ⟨q, v, e, fun z => ?_, hq, hv, hw⟩
  rw [z, hl] at hq
  cases hq
  have l1 := hp.1
  have hb : 1 < ps.length := by rw [← l1]; simp
  obtain ⟨_, _, e2, _⟩ := hp.2 1 _ (ps[1]'hb) rfl (List.getElem?_eq_getElem _)
  cases e2
theorem Pts.frL {K : PySem.W.Frag} {H H' : Hp} {xs : List V} {ps : List (T × Nat)} {l : Addr} (hl : H l = some (.lst xs)) (hp : Pts K H xs ps) (f : Fr [l] H H') : Pts K H' xs ps := by
  refine ⟨hp.1, fun i x p a b => ?_⟩
  obtain ⟨q, v, e, n, hq, hv, hw⟩ := hp.nol hl a b
  exact ⟨q, v, e, f.at1 hq n, hv.fr f, hw⟩
structure DS (K : PySem.W.Frag) (b : Addr) (H0 H' : Hp) (l : Addr) (xs : List V) (ps : List (T × Nat)) (n : Nat) : Prop where
  fr : Fr [b] H0 H'
  bx : Box H' b
  fl : H0 l = none
  hl : H' l = some (.lst xs)
  pt : Pts K H' xs ps
  ln : ps.length ≤ n
  dp : ∀ p ∈ ps, p.2 ≤ n
  rm : room ps ≤ 610 * n
theorem jn_le : ∀ ts : List T, (jn ts).length ≤ (ts.map fun t => (wr t).length).sum + ts.length
  | [] => by simp [jn_nil]
  | [t] => by rw [jn_one]; simp
  | t :: u :: r => by
    have := jn_le (u :: r)
    rw [jn_cons]
    simp only [List.length_append, List.length_cons, List.map_cons, List.sum_cons] at this ⊢
    omega
theorem jn_room (ps : List (T × Nat)) : (jn (ps.map (·.1))).length ≤ room ps := by
  have := jn_le (ps.map (·.1))
  unfold room
  have e : ∀ qs : List (T × Nat), ((qs.map (·.1)).map fun t => (wr t).length).sum + qs.length = (qs.map fun p => (wr p.1).length + 1).sum := by
    intro qs
    induction qs with
    | nil => rfl
    | cons q r ih =>
      simp only [List.map_cons, List.sum_cons, List.length_cons] at ih ⊢
      omega
  have h2 := e ps
  have l : (ps.map (·.1)).length = ps.length := by simp
  rw [l] at this
  exact Nat.le_trans this (by rw [← h2]; exact Nat.le_refl _)
theorem wr_tup_room (ps : List (T × Nat)) : (wr (.tup (ps.map (·.1)))).length ≤ room ps + 2 := by
  rw [wr_tup]
  have := jn_room ps
  simp
  omega
theorem room_one (p : T × Nat) : room [p] = (wr p.1).length + 1 := by simp [room]
section
variable {K : PySem.W.Frag} {b : Addr} {H0 H' H2 : Hp} {l : Addr} {xs : List V} {ps : List (T × Nat)} {n : Nat}
theorem DS.mono (s : DS K b H0 H' l xs ps n) {m : Nat} (h : n ≤ m) : DS K b H0 H' l xs ps m :=
  ⟨s.fr, s.bx, s.fl, s.hl, s.pt, Nat.le_trans s.ln h, fun p m => Nat.le_trans (s.dp p m) h, Nat.le_trans s.rm (Nat.mul_le_mul_left _ h)⟩
theorem DS.nb (s : DS K b H0 H' l xs ps n) (hB : Box H0 b) : l ≠ b := hB.ne s.fl
/-- draws from the box -/
theorem DS.box (s : DS K b H0 H' l xs ps n) (hB : Box H0 b) (f : Fr [b] H' H2) (h : Box H2 b) : DS K b H0 H2 l xs ps n :=
  ⟨s.fr.comp f, h, s.fl, f.at1 s.hl (s.nb hB), s.pt.frB s.bx f, s.ln, s.dp, s.rm⟩
theorem DS.frm (s : DS K b H0 H' l xs ps n) (f : Fr [] H' H2) : DS K b H0 H2 l xs ps n :=
  ⟨s.fr.comp0 f, s.bx.fr0 f, s.fl, f.at0 s.hl, s.pt.fr0 f, s.ln, s.dp, s.rm⟩
/-- a part put behind -/
theorem DS.add (s : DS K b H0 H' l xs ps n) (hB : Box H0 b) {x : V} {p : T × Nat} (hx : ∃ q v, x = .ref q ∧ q ≠ l ∧ H' q = some (.lst [v, .int (p.2 : Nat)]) ∧ Den K H' v p.1 ∧ WF p.2 p.1) (hd : p.2 ≤ n + 1) (hr : (wr p.1).length ≤ 609) (h2 : H2 l = some (.lst (xs ++ [x]))) (f : Fr [l] H' H2) : DS K b H0 H2 l (xs ++ [x]) (ps ++ [p]) (n + 1) := by
  obtain ⟨q, v, rfl, nq, hq, hv, hw⟩ := hx
  refine ⟨s.fr.compN f s.fl, s.bx.fr1 f (s.nb hB).symm, s.fl, h2, (s.pt.frL s.hl f).snoc ⟨q, v, rfl, f.at1 hq nq, hv.fr f, hw⟩, by simp; exact s.ln, fun z m => ?_, ?_⟩
  · rcases List.mem_append.mp m with m | m
    · have := s.dp z m; omega
    · rw [List.mem_singleton.mp m]; exact hd
  · rw [room_app, room_one]
    have := s.rm
    omega
/-- the last parts grouped -/
theorem DS.grp (s : DS K b H0 H' l xs ps n) {k d : Nat} {l2 g : Addr} (hk : k ≤ ps.length) (hd : d = 0 ∨ ∃ q ∈ ps.drop k, q.2 = d) (f : Fr [] H' H2) (fl : H' l2 = none) (h2 : H2 l2 = some (.lst (xs.take k ++ [.ref g]))) (hg : Pt K H2 (.ref g) (.tup ((ps.drop k).map (·.1)), d + 1)) : DS K b H0 H2 l2 (xs.take k ++ [.ref g]) (ps.take k ++ [(.tup ((ps.drop k).map (·.1)), d + 1)]) (n + 1) := by
  have ln := s.ln
  have rm := s.rm
  refine ⟨s.fr.comp0 f, s.bx.fr0 f, ?_, h2, ((s.pt.fr0 f).take k).snoc hg, by simp; omega, fun z m => ?_, ?_⟩
  · obtain ⟨o, q⟩ := s.bx.has
    exact s.fr.freeb q fl
  · rcases List.mem_append.mp m with m | m
    · have := s.dp z (List.mem_of_mem_take m); omega
    · rw [List.mem_singleton.mp m]
      rcases hd with rfl | ⟨q, mq, rfl⟩
      · show 0 + 1 ≤ n + 1; omega
      · have := s.dp q (List.mem_of_mem_drop mq)
        show q.2 + 1 ≤ n + 1; omega
  · have e : room ps = room (ps.take k) + room (ps.drop k) := by rw [← room_app, List.take_append_drop]
    have := wr_tup_room (ps.drop k)
    rw [room_app, room_one]
    show room (ps.take k) + ((wr (.tup ((ps.drop k).map (·.1)))).length + 1) ≤ _
    omega
end
end K4
set_option Elab.async false
set_option linter.all false
set_option maxRecDepth 100000
set_option maxHeartbeats 4000000
namespace K4
open PySem PySem.Spec PyProof.Rows L2 M14 SX
theorem sl_toI {K : PySem.W.Frag} {H : Hp} {p : Addr} {xs : List V} {i : Int} {Q : VK} (h0 : 0 ≤ i) (hp : H p = some (.lst xs)) (h : ∀ q H', H q = none → H' q = some (.lst (xs.take i.toNat)) → Fr [] H H' → Q (.ref q) H') : rxSl K (.ref p) none (some i) H Q := by
  have e : i = ((i.toNat : Nat) : Int) := by omega
  have := sl_to (K := K) (k := i.toNat) (Q := Q) hp h
  rwa [← e] at this
theorem sl_fromI {K : PySem.W.Frag} {H : Hp} {p : Addr} {xs : List V} {i : Int} {Q : VK} (h0 : 0 ≤ i) (h1 : i.toNat ≤ xs.length) (hp : H p = some (.lst xs)) (h : ∀ q H', H q = none → H' q = some (.lst (xs.drop i.toNat)) → Fr [] H H' → Q (.ref q) H') : rxSl K (.ref p) (some i) none H Q := by
  have e : i = ((i.toNat : Nat) : Int) := by omega
  have := sl_from (K := K) (k := i.toNat) (Q := Q) hp h1 h
  rwa [← e] at this
/-- a datum, drawn -/
@[irreducible] def spDa (K : PySem.W.Frag) : Sp := fun vs H Q _ => ∃ b : Addr, vs = [.ref b] ∧ Box H b ∧ ∀ (x : V) (p : T × Nat) H', Pt K H' x p → p.2 ≤ 60 → (wr p.1).length ≤ 40000 → Box H' b → Fr [b] H H' → Q x H'
theorem da_step {K : PySem.W.Frag} {b : Addr} {H : Hp} {Q : VK} {E : XK} (hB : Box H b) (k : ∀ (x : V) (p : T × Nat) H', Pt K H' x p → p.2 ≤ 60 → (wr p.1).length ≤ 40000 → Box H' b → Fr [b] H H' → Q x H') : spDa K ([.ref b] ++ []) H Q E := by
  unfold spDa
  exact ⟨b, rfl, hB, k⟩
@[irreducible] def AM1 (K : PySem.W.Frag) (b : Addr) (H : Hp) (σ : L2.St) (H' : Hp) : Prop := ∃ (l : Addr) (m : Int), σ = [some (.ref b), some (.ref l), some (.int m), none, none, none] ∧ 0 ≤ m ∧ m ≤ 40 ∧ DS K b H H' l [] [] 0
@[irreducible] def AM2 (K : PySem.W.Frag) (b : Addr) (H : Hp) (i : Nat) (σ : L2.St) (H' : Hp) : Prop := ∃ (l : Addr) (x y z : Option V) (xs : List V) (ps : List (T × Nat)), σ = [some (.ref b), some (.ref l), x, y, z, none] ∧ DS K b H H' l xs ps i
@[irreducible] def AM3 (K : PySem.W.Frag) (b : Addr) (H : Hp) (σ : L2.St) (H' : Hp) : Prop := ∃ (l : Addr) (x y z : Option V) (xs : List V) (ps : List (T × Nat)), σ = [some (.ref b), some (.ref l), x, y, z, none] ∧ DS K b H H' l xs ps 41 ∧ 0 < ps.length
@[irreducible] def AM4 (K : PySem.W.Frag) (b : Addr) (H : Hp) (σ : L2.St) (H' : Hp) : Prop := ∃ (l : Addr) (x y z : Option V) (u : V) (p : T × Nat), σ = [some (.ref b), some (.ref l), x, y, z, none] ∧ Fr [b] H H' ∧ Box H' b ∧ H' l = some (.lst [u]) ∧ Pt K H' u p ∧ p.2 ≤ 42 ∧ (wr p.1).length ≤ 26000
@[irreducible] def AM5 (K : PySem.W.Frag) (b : Addr) (H : Hp) (d : Nat) (i : Nat) (σ : L2.St) (H' : Hp) : Prop := ∃ (l x y z : Option V) (u : V) (p : T × Nat), σ = [some (.ref b), l, x, y, z, some u] ∧ Fr [b] H H' ∧ Box H' b ∧ Pt K H' u p ∧ p.2 ≤ d + i ∧ (wr p.1).length ≤ 26000 + 2 * i
section
variable {P : Program} {w : World} {K : PySem.W.Frag} {mg : Str → Option Value} {base : Heap}
set_option hygiene false
local macro_rules | `(tactic| tm_at "sc") => `(tactic| (first | omega | (simp only [List.length_cons, List.length_nil, List.length_map, List.length_set, List.length_append]; omega) | (simp only [List.length_map] at h1 ⊢; omega) | (simp only [List.length_map] at c ⊢; omega) | with_reducible assumption | exact And.intro (by omega) (by omega) | exact Or.inl (And.intro (by omega) (by omega)) | exact Or.inr (And.intro (by omega) (by omega)) | decide +kernel | exact len1000 (by simp) | rfl | fail "no way"))
local macro_rules | `(tactic| tm_at "sc1") => `(tactic| (focus (simp; done)))
local macro_rules | `(tactic| tm_at "ne") => `(tactic| (first | assumption | exact Ne.symm (by assumption) | (apply Box.ne2; assumption; tm_at "hp") | (apply Ne.symm; apply Box.ne2; assumption; tm_at "hp") | (apply ne_of_none2; assumption; tm_at "hp") | (apply Ne.symm; apply ne_of_none2; assumption; tm_at "hp") | fail "no way"))
local macro_rules | `(tactic| tm_at "f0") => `(tactic| (first | assumption | (apply Fr.new; assumption) | fail "no way"))
local macro_rules | `(tactic| tm_at "hp") => `(tactic| (first | assumption | exact upd_same | (apply SqL.of; first | assumption | exact upd_same) | (apply Fr.at0; tm_at "f0"; tm_at "hp") | (apply Fr.at1n; assumption; tm_at "ne"; tm_at "hp") | (apply sqFr0; tm_at "f0"; tm_at "hp") | (apply sqFr1; assumption; tm_at "ne"; tm_at "hp") | (apply Box.fr0; tm_at "f0"; tm_at "hp") | (apply Box.fr1; assumption; tm_at "ne"; tm_at "hp") | (apply Den.fr; tm_at "f0"; tm_at "hp") | (apply Dens.fr; tm_at "f0"; tm_at "hp") | fail "no way"))
local macro_rules | `(tactic| tm_at "free0") => `(tactic| (first | assumption | (apply updFree; assumption) | (apply updFree; apply updFree; assumption) | (apply updFree; apply updFree; apply updFree; assumption) | (apply updFree; apply updFree; apply updFree; apply updFree; assumption) | fail "no way"))
local macro_rules | `(tactic| tm_at "free") => `(tactic| (first | tm_at "free0" | (apply Fr.free; assumption; tm_at "free0") | (apply Box.free; assumption; tm_at "fr"; tm_at "free0") | (apply Fr.free; assumption; apply Fr.free; assumption; tm_at "free0") | fail "no way"))
local macro_rules | `(tactic| tm_at "fr") => `(tactic| (first | assumption | exact Fr.refl0 _ | exact Fr.refl (Box.nt (by assumption)) | (refine Fr.comp0 ?_ (by tm_at "f0"); tm_at "fr") | (refine Fr.comp ?_ (by assumption); tm_at "fr") | (refine Fr.compN ?_ (by assumption) (by tm_at "free"); tm_at "fr") | fail "no way"))
local macro_rules | `(tactic| tm_at "call") => `(tactic| fail "no call")
local macro_rules | `(tactic| tm_at "call") => `(tactic| (apply take_step; tm_at "hp"; tm_at "sc"; tm_at "sc"; intro r H1 h0 h1 hB fr))
local macro_rules | `(tactic| tm_at "ty") => `(tactic| (first | assumption | exact .base .non | exact .base (.bl _) | exact .base (.int _) | exact .base (.str _) | (apply TyX.base; apply TyOf.lst; tm_at "hp") | (apply TyX.base; apply TyOf.tup; tm_at "hp") | fail "no way"))
local macro_rules | `(tactic| tm_at "pre") => `(tactic| fail "none")
local macro_rules | `(tactic| tm_at "go1") => `(tactic| (first | tm_at "pre" | refine ⟨_, rfl, ?_⟩ | refine ⟨_, _, rfl, rfl, ?_⟩ | (apply set_step; tm_at "hp"; tm_at "sc"; tm_at "sc"; intro H1 hp fr) | (with_reducible refine iteDI ?_ ?_ <;> intro c) | (with_reducible refine iteDS ?_ ?_ <;> intro c) | (with_reducible refine iteD ?_ ?_ <;> intro c) | (with_reducible refine iteEM ?_ ?_ <;> intro c) | (with_reducible refine iteE ?_ ?_ <;> intro c) | with_reducible refine iteN ?_ | with_reducible refine iteF ?_ | with_reducible refine iteT ?_ | (refine fun (p : Addr) (np : _ = (none : Option HO)) => ?_; fail_if_success (refine ⟨fun (_ _ : Nat) (_ : Hp) => True, ?_⟩)) | (apply isi_tt; tm_at "ty"; focus (decide +kernel)) | (apply isi_ff; tm_at "ty"; focus (decide +kernel)) | (apply sl_step; tm_at "hp"; intro qq H1 ms nq hq fr) | (apply sum_step; tm_at "hp"; intro i) | (apply tru_step; tm_at "hp") | (apply len_step; tm_at "hp") | (apply lenq_step; assumption) | (apply ixq_step; assumption; tm_at "sc"; tm_at "sc"; intro v hv) | (apply lst_step; tm_at "hp") | (apply tupl_step; tm_at "hp") | (apply ixr_step; tm_at "hp"; exact rfl) | (apply ix0_step; tm_at "hp") | (apply ix1_step; tm_at "hp") | (apply ix2_step; tm_at "hp") | (apply ixi_step; tm_at "hp"; tm_at "sc"; tm_at "sc"; intro n hn hn') | (apply ixl_step; tm_at "hp"; tm_at "sc"; tm_at "sc"; intro v hv) | (apply ixt_step; tm_at "hp"; tm_at "sc"; tm_at "sc"; intro v hm hv) | (apply in_step; tm_at "hp"; rfl; rfl) | (apply cat_step; tm_at "hp"; tm_at "hp"; tm_at "sc") | (apply catT_step; tm_at "hp"; tm_at "hp"; tm_at "sc1") | (apply tyL_and; tm_at "hp") | (apply app_step; tm_at "hp"; tm_at "sc"; intro H1 hp fr) | tm_at "call" | refine ⟨⟨_, rfl⟩, ?_⟩ | (apply ixs_step; tm_at "sc"; tm_at "sc"; tm_at "sc"; intro ch) | refine .inl ⟨_, rfl, ?_⟩ | refine .inr ⟨_, rfl, ?_⟩ | (apply And.intro; tm_at "sc") | (with_reducible refine wayB ?_ ?_ <;> intro c) | fail "no way"))
local macro_rules | `(tactic| tm_at "go") => `(tactic| (repeat tm_at "go1"))
local macro_rules | `(tactic| tm_at "goo") => `(tactic| (repeat' tm_at "go1"))
local macro_rules | `(tactic| tm_at "den") => `(tactic| (first | assumption | exact Den.str _ | exact Den.int _ | exact Den.bl _ | exact Den.non | (apply Den.tups; tm_at "hp"; tm_at "dens") | (apply Den.fr; tm_at "f0"; tm_at "den") | fail "no way"))
local macro_rules | `(tactic| tm_at "dens") => `(tactic| (first | assumption | exact Dens.nil | (apply Dens.cons; tm_at "den"; tm_at "dens") | (apply Dens.fr; tm_at "f0"; tm_at "dens") | fail "no way"))
local macro_rules | `(tactic| tm_at "ix") => `(tactic| (apply Ix.mk; tm_at "hp"; tm_at "ne"; assumption; assumption))
local macro_rules | `(tactic| tm_at "dep") => `(tactic| (first | assumption | exact Dep.int | exact Dep.str | exact Dep.bl | exact Dep.non | (apply Dep.tup; tm_at "dlen"; tm_at "deps") | (apply Dep.mono; assumption; decide) | fail "no way"))
local macro_rules | `(tactic| tm_at "deps") => `(tactic| (first | assumption | exact memN | (apply memC; tm_at "dep"; tm_at "deps") | fail "no way"))
local macro_rules | `(tactic| tm_at "dlen") => `(tactic| (first | assumption | (focus (simp; done)) | omega | fail "no way"))
local macro_rules | `(tactic| tm_at "pre") => `(tactic| (apply rep_step; tm_at "hp"; tm_at "sc"; tm_at "sc"; intro rp H1 nrp hrp fr))

local macro_rules | `(tactic| tm_at "lits") => `(tactic| (try simp only [l_nl, l_open, l_close, l_sp, l_quo, l_bs, l_minus, l_zero, l_empty, l_n] at c))
local macro_rules | `(tactic| tm_at "pre") => `(tactic| (first | (apply slm_step; tm_at "sc"; tm_at "sc"; tm_at "sc") | (apply slf_step; tm_at "sc"; tm_at "sc") | (apply slt_step; tm_at "sc"; tm_at "sc") | (with_reducible refine iteEqZ ?_ ?_ <;> (intro c; tm_at "lits")) | (apply catS_step; tm_at "sc") | (apply inD_step) | (apply ordS_step) | (apply intS_step; assumption) | (apply sign_step) | (apply lenS_step; tm_at "sc")))
local macro_rules | `(tactic| tm_at "pre") => `(tactic| (apply while_go))
local macro_rules | `(tactic| tm_at "pre") => `(tactic| (apply ixS_step; tm_at "sc"; tm_at "sc"; assumption))
local macro_rules | `(tactic| tm_at "pre") => `(tactic| (apply appB_step; tm_at "hp"; tm_at "sc"; intro H1 hp fr))

local macro_rules | `(tactic| tm_at "call") => `(tactic| (apply leaf_step; tm_at "hp"; intro lv lt H1 ld lw ll hB fr))
set_option pp.deepTerms false
set_option pp.deepTerms.threshold 3
abbrev s_datum : Stmt := top 32
theorem sc_datum : FnScope ["_law_bag_here", "_law_parts", "_law_many", "_law_turn", "_law_at", "_law_built"] ["_law_bag_here"] (defScope s_datum) := ⟨rfl, rfl, rfl, by decide +kernel, rfl, by decide +kernel, by decide +kernel⟩

theorem ok_datum (T : Bl mg) (G_take : Cal P w K mg base 1 "_law_take" ["_law_bag_here", "_law_size"] spTake) (G_leaf : Cal P w K mg base 3 "_law_leaf" ["_law_bag_here"] (spLf K)) (G_grouped : Cal P w K mg base 1 "_law_grouped" ["_law_parts"] (spGr K)) (D : Def1 K mg "_law_datum" s_datum) : Cal P w K mg base 4 "_law_datum" ["_law_bag_here"] (spDa K) := by
  refine D.cal sc_datum (fun _ _ _ _ _ _ us hl => match us, hl with | [_], _ => rfl) (fun vs H Q E h => ?_) (fun f cdv A outer s H vs Q E hr h => ?_) <;> unfold spDa at h
  · obtain ⟨b, rfl, _⟩ := h
    rfl
  · obtain ⟨b, rfl, hB, k⟩ := h
    have hu65 := room_65 hr
    refine ⟨_, (pss_cons (ps_set (i := 1) sc_datum.nd rfl (Or.inl rfl) (pe_lst pa_nil))
    (pss_cons (ps_set (i := 2) sc_datum.nd rfl (Or.inl rfl) (pe_cal G_take (hr.mono (by omega)) (by rfl) (pa_cons (pv 0) (pa_cons pe_int pa_nil))))
    (C8.pss_cut (ps_if (pt_cmpR op_eq (pe_cal G_take (hr.mono (by omega)) (by rfl) (pa_cons (pv 0) (pa_cons pe_int pa_nil))) pe_int (nomark _))
      (pss_one (ps_set (i := 2) sc_datum.nd rfl (Or.inl rfl) (pe_cal G_take (hr.mono (by omega)) (by rfl) (pa_cons (pv 0) (pa_cons pe_int pa_nil)))))
      pss_nil)
    (pss_cons (ps_for PassesOwn.never rfl (pi_range1 (by rfl) T.z_range (pa_cons (pv 2) pa_nil)) (pg_name (i := 3) sc_datum.nd rfl (Or.inl rfl))
      (pss_one (ps_if (pt_cmpR op_eq (pe_cal G_take (hr.mono (by omega)) (by rfl) (pa_cons (pv 0) (pa_cons pe_int pa_nil))) pe_int (nomark _))
        (pss_cons (ps_set (i := 4) sc_datum.nd rfl (Or.inl rfl) (pe_op op_sub (pe_callB (cLen K) (by rfl) T.z_len (by decide +kernel) (pa_cons (pv 1) pa_nil)) (pe_cal G_take (hr.mono (by omega)) (by rfl) (pa_cons (pv 0) (pa_cons (pe_op op_add (pe_callB (call_min2 rfl) (by rfl) T.z_min (by decide +kernel) (pa_cons (pe_callB (cLen K) (by rfl) T.z_len (by decide +kernel) (pa_cons (pv 1) pa_nil)) (pa_cons pe_int pa_nil))) pe_int) pa_nil)))))
        (pss_one (ps_set (i := 1) sc_datum.nd rfl (Or.inl rfl) (pe_op opCat (pe_slice (slL K) (pv 1) po_none (po_some (pv 4))) (pe_lst (pa_cons (pe_cal G_grouped (hr.mono (by omega)) (by rfl) (pa_cons (pe_slice (slL K) (pv 1) (po_some (pv 4)) po_none) pa_nil)) pa_nil))))))
        (pss_one (ps_expr (pe_bm PySem.F.plainAttrs_list PySem.F.slot_list_append PySem.F.type_list_append mtApp (pv 1) (pa_cons (pe_lst (pa_cons (pe_cal G_leaf (hr.mono (by omega)) (by rfl) (pa_cons (pv 0) pa_nil)) (pa_cons pe_int pa_nil))) pa_nil)))))))
    (C8.pss_cut (ps_if (pt_cmpR (opEqD K hu65) (pv 1) (pe_lst pa_nil) (nomark _))
      (pss_one (ps_expr (pe_bm PySem.F.plainAttrs_list PySem.F.slot_list_append PySem.F.type_list_append mtApp (pv 1) (pa_cons (pe_lst (pa_cons (pe_cal G_leaf (hr.mono (by omega)) (by rfl) (pa_cons (pv 0) pa_nil)) (pa_cons pe_int pa_nil))) pa_nil))))
      pss_nil)
    (C8.pss_cut (ps_if (pt_cmpR op_gt (pe_callB (cLen K) (by rfl) T.z_len (by decide +kernel) (pa_cons (pv 1) pa_nil)) pe_int (nomark _))
      (pss_one (ps_set (i := 1) sc_datum.nd rfl (Or.inl rfl) (pe_lst (pa_cons (pe_cal G_grouped (hr.mono (by omega)) (by rfl) (pa_cons (pv 1) pa_nil)) pa_nil))))
      pss_nil)
    (pss_cons (ps_set (i := 5) sc_datum.nd rfl (Or.inl rfl) (pe_ix (ixL K) (pv 1) pe_int (fun _ _ => rfl)))
    (pss_cons (ps_if (pt_cmpR op_eq (pe_cal G_take (hr.mono (by omega)) (by rfl) (pa_cons (pv 0) (pa_cons pe_int pa_nil))) pe_int (nomark _))
      (pss_one (ps_for PassesOwn.never rfl (pi_range1 (by rfl) T.z_range (pa_cons (pe_cal G_take (hr.mono (by omega)) (by rfl) (pa_cons (pv 0) (pa_cons (pe_op op_sub pe_int (pe_ix (ixL K) (pv 5) pe_int (fun _ _ => rfl))) pa_nil))) pa_nil)) (pg_name (i := 3) sc_datum.nd rfl (Or.inl rfl))
        (pss_one (ps_set (i := 5) sc_datum.nd rfl (Or.inl rfl) (pe_cal G_grouped (hr.mono (by omega)) (by rfl) (pa_cons (pe_lst (pa_cons (pv 5) pa_nil)) pa_nil))))))
      pss_nil)
    (pss_one (ps_ret (pv 5))))))))))), ?_⟩
    have hB0 := hB
    tm_at "goo"
    have nb : p ≠ b := hB0.ne np
    have f0 : Fr [] H (upd H p (HO.lst [])) := Fr.new np
    have d0 : DS K b H H1 p [] [] 0 := ⟨((Fr.refl hB0.nt).comp0 f0).comp fr, hB, np, fr.at1 upd_same nb, .nil, Nat.le_refl _, (fun _ m => nomatch m), Nat.zero_le _⟩
    refine ⟨AM1 K b H, ?_, fun σ H2 hw => ?_⟩
    · tm_at "goo"
      · unfold AM1
        exact ⟨p, _, rfl, by assumption, by omega, (d0.box hB0 (by assumption) (by assumption)).box hB0 (by assumption) (by assumption)⟩
      · unfold AM1
        exact ⟨p, _, rfl, by assumption, by omega, d0.box hB0 (by assumption) (by assumption)⟩
    · unfold AM1 at hw
      obtain ⟨l, m, rfl, m0, m1, dl⟩ := hw
      refine ⟨_, rfl, _, rfl, by omega, by omega, ?_⟩
      refine forR (lo := 0) (AM2 K b H) ?_ (fun i σ H3 hi hp => ?_) (fun σ H3 hp => ?_)
      · unfold AM2
        exact ⟨l, _, _, _, [], [], rfl, dl⟩
      · unfold AM2 at hp
        obtain ⟨l, x, y, z, xs, ps, rfl, ds⟩ := hp
        show tIfS _ _ _ _ _ _
        have hi40 : i < 40 := by omega
        have lx := ds.pt.1
        have ln := ds.ln
        have hB3 := ds.bx
        have hl3 := ds.hl
        have nlb := ds.nb hB0
        tm_at "goo"
        · have d1 := ds.box hB0 fr hB
          have hm : (0 : Int) ≤ (if (4 : Int) < xs.length then 4 else xs.length) ∧ (if (4 : Int) < xs.length then 4 else xs.length) ≤ 4 ∧ (if (4 : Int) < xs.length then 4 else xs.length) ≤ (xs.length : Int) := by split <;> omega
          refine ⟨_, _, rfl, ?_⟩
          refine ⟨_, _, rfl, rfl, ?_⟩
          refine take_step hB (by omega) (by omega) fun r2 H4 h20 h21 hB4 f4 => ?_
          refine ⟨_, _, rfl, rfl, ?_⟩
          have d2 := d1.box hB0 f4 hB4
          have k0 : (0 : Int) ≤ (xs.length : Int) - r2 := by omega
          refine ⟨_, rfl, _, rfl, ?_⟩
          refine ⟨_, rfl, ?_⟩
          refine sl_toI k0 d2.hl fun q1 H5 nq1 hq1 f5 => ?_
          refine ⟨_, rfl, _, rfl, _, rfl, ?_⟩
          have d3 := d2.frm f5
          refine sl_fromI k0 (by omega) d3.hl fun q2 H6 nq2 hq2 f6 => ?_
          have d4 := d3.frm f6
          refine gr_step hq2 (d4.pt.drop _) (by simp; omega) fun g d H7 hd1 hd2 ng hg f7 => ?_
          tm_at "go1"
          refine fun p np => ?_
          have f8 : Fr [] H7 (upd H7 p (HO.lst [.ref g])) := Fr.new np
          refine cat_step (f8.at0 (f7.at0 (f6.at0 hq1))) upd_same (by simp; omega) fun q4 nq4 => ?_
          have f9 : Fr [] (upd H7 p (HO.lst [.ref g])) (upd (upd H7 p (HO.lst [.ref g])) q4 (HO.lst (xs.take ((xs.length : Int) - r2).toNat ++ [.ref g]))) := Fr.new nq4
          have F := ((((f5.comp0 f6).comp0 f7).comp0 f8).comp0 f9)
          show AM2 K b H (i + 1) _ _
          unfold AM2
          refine ⟨q4, _, _, _, _, _, rfl, d2.grp (k := ((xs.length : Int) - r2).toNat) (by omega) hd2 F ?_ upd_same ((hg.fr0 f8).fr0 f9)⟩
          exact (((f5.comp0 f6).comp0 f7)).free (updFree nq4)
        · unfold AM2
          have d1 := (ds.box hB0 (by assumption) (by assumption)).box hB0 (by assumption) hB
          have d2 := d1.frm (Fr.new (o := .lst [lv, .int 0]) np)
          refine ⟨l, _, _, _, _, _, rfl, d2.add hB0 (x := .ref p) (p := (lt, 0)) ⟨p, lv, rfl, ?_, upd_same, ld.fr (Fr.new np), lw⟩ (Nat.zero_le _) (Nat.le_trans ll (by decide)) hp fr⟩
          intro e
          rw [e, d1.hl] at np
          cases np
      · unfold AM2 at hp
        obtain ⟨l, x, y, z, xs, ps, rfl, ds⟩ := hp
        have ds40 : DS K b H H3 l xs ps 40 := ds.mono (by omega)
        have hd60 : ∀ p ∈ ps, p.2 ≤ 60 := fun p m => Nat.le_trans (ds40.dp p m) (by decide)
        have hl3 := ds.hl
        have nlb := ds.nb hB0
        have hB3 := ds.bx
        have hpt := ds.pt
        have ln := ds40.ln
        have lx := ds.pt.1
        refine ⟨AM3 K b H, ?_, fun σ H5 hw => ?_⟩
        · show tIfS _ _ _ _ _ _
          tm_at "go1"
          tm_at "go1"
          tm_at "go1"
          refine eqNil_step ((Fr.new np).at0 hl3) upd_same (hpt.fr0 (Fr.new np)) hd60 ?_
          have d1 := ds40.frm (Fr.new (o := .lst []) np)
          have hl4 := d1.hl
          have hB4 := d1.bx
          refine ⟨_, rfl, wayB (fun c => ?_) (fun c => ?_)⟩
          · obtain rfl : xs = [] := by simpa using c
            tm_at "goo"
            show AM3 K b H _ _
            unfold AM3
            have d2 := (d1.box hB0 (by assumption) (by assumption)).frm (Fr.new (o := .lst [lv, .int 0]) np)
            refine ⟨l, _, _, _, _, _, rfl, d2.add hB0 (x := .ref p) (p := (lt, 0)) ⟨p, lv, rfl, ?_, upd_same, ld.fr (Fr.new np), lw⟩ (Nat.zero_le _) (Nat.le_trans ll (by decide)) hp fr, by simp⟩
            intro e
            have d3 := d1.box hB0 (by assumption) hB
            rw [e, d3.hl] at np
            cases np
          · show AM3 K b H _ _
            unfold AM3
            refine ⟨l, _, _, _, _, _, rfl, d1.mono (by decide), ?_⟩
            rw [← lx]
            cases xs with
            | nil => cases c
            | cons => simp
        · unfold AM3 at hw
          obtain ⟨l, x, y, z, xs, ps, rfl, ds, pos⟩ := hw
          have hl3 := ds.hl
          have nlb := ds.nb hB0
          have hB3 := ds.bx
          have ln := ds.ln
          have lx := ds.pt.1
          refine ⟨AM4 K b H, ?_, fun σ H6 hw => ?_⟩
          · show tIfS _ _ _ _ _ _
            tm_at "goo"
            · refine gr_step hl3 ds.pt (by omega) fun g d H7 hd1 hd2 ng hg f7 => ?_
              tm_at "go1"
              refine fun p np => ?_
              have f8 : Fr [] H7 (upd H7 p (HO.lst [.ref g])) := Fr.new np
              show AM4 K b H _ _
              unfold AM4
              refine ⟨p, _, _, _, _, _, rfl, (ds.fr.comp0 f7).comp0 f8, (ds.bx.fr0 f7).fr0 f8, upd_same, hg.fr0 f8, ?_, ?_⟩
              · rcases hd2 with rfl | ⟨q, mq, rfl⟩
                · show 0 + 1 ≤ 42; omega
                · have := ds.dp q mq
                  show q.2 + 1 ≤ 42; omega
              · have h1 := wr_tup_room ps
                have h2 := ds.rm
                show (wr (.tup (ps.map (·.1)))).length ≤ 26000
                omega
            · show AM4 K b H _ _
              unfold AM4
              obtain ⟨q, rfl⟩ : ∃ q, ps = [q] := by
                match ps, pos, lx with
                | [q], _, _ => exact ⟨q, rfl⟩
                | _ :: _ :: _, _, h => simp at h; omega
              obtain ⟨u, rfl⟩ : ∃ u, xs = [u] := by
                match xs, lx with
                | [u], _ => exact ⟨u, rfl⟩
              have hr := ds.rm
              rw [room_one] at hr
              exact ⟨l, _, _, _, u, q, rfl, ds.fr, ds.bx, ds.hl, ds.pt.2 0 u q rfl rfl, Nat.le_trans (ds.dp q List.mem_cons_self) (by decide), by omega⟩
          · unfold AM4 at hw
            obtain ⟨l, x, y, z, u, p, rfl, fr6, hB6, hl6, hu, hp2, hwr⟩ := hw
            tm_at "goo"
            · have hu1 := hu.frB hB6 fr
              obtain ⟨q, v, rfl, hq, hv, hw⟩ := hu1
              refine ixr_step (.of hq) (atI_nat (j := 1) rfl) ?_
              refine ⟨_, _, rfl, rfl, ?_⟩
              refine take_step hB (by omega) (by omega) fun r2 H7 h20 h21 hB7 f7 => ?_
              have hu7 : Pt K H7 (.ref q) p := Pt.frB hB f7 ⟨q, v, rfl, hq, hv, hw⟩
              refine ⟨_, rfl, by omega, by omega, ?_⟩
              refine forR (lo := 0) (AM5 K b H p.2) ?_ (fun i σ H8 hi hp => ?_) (fun σ H8 hp => ?_)
              · unfold AM5
                exact ⟨_, _, _, _, _, p, rfl, (fr6.comp fr).comp f7, hB7, hu7, Nat.le_refl _, hwr⟩
              · unfold AM5 at hp
                obtain ⟨l, x, y, z, u, g, rfl, f8, hB8, hg, hg2, hgw⟩ := hp
                tm_at "goo"
                have f9 : Fr [] H8 (upd H8 p (HO.lst [u])) := Fr.new np
                refine gr_step (ps := [g]) upd_same (Pts.nil.snoc (hg.fr0 f9)) (by simp) fun z d H9 hd1 hd2 ng hz f10 => ?_
                show AM5 K b H _ (i + 1) _ _
                unfold AM5
                refine ⟨_, _, _, _, _, _, rfl, (f8.comp0 f9).comp0 f10, (hB8.fr0 f9).fr0 f10, hz, ?_, ?_⟩
                · show d + 1 ≤ _
                  have := hd1 g List.mem_cons_self
                  rcases hd2 with rfl | ⟨q, mq, rfl⟩
                  · omega
                  · rw [List.mem_singleton.mp mq]; omega
                · have h1 := wr_tup_room [g]
                  rw [room_one] at h1
                  have h2 : (wr (.tup ([g].map (·.1)))).length = (wr g.1).length + 2 := by
                    rw [wr_tup]
                    show (40 :: (jn [g.1] ++ [41])).length = _
                    rw [jn_one]; simp
                  show (wr (.tup ([g].map (·.1)))).length ≤ _
                  omega
              · unfold AM5 at hp
                obtain ⟨l, x, y, z, u, g, rfl, f8, hB8, hg, hg2, hgw⟩ := hp
                tm_at "goo"
                exact k _ _ _ hg (by omega) (by omega) hB8 f8
            · exact k _ _ _ (hu.frB hB6 fr) (by omega) (by omega) hB (fr6.comp fr)
end
end K4
set_option Elab.async false
set_option linter.all false
set_option maxRecDepth 100000
set_option maxHeartbeats 4000000
namespace K4
open PySem PySem.Spec PyProof.Rows L2 M14 SX
/-- z * n: some text; n may be below 0 -/
theorem repS_stepN {z : Str} {n : Int} {H : Hp} {Q : VK} (hz : z.length ≤ 1) (h0 : -1 ≤ n) (h1 : n ≤ 10000) (k : ∀ a : List Nat, a.length ≤ 10000 → Q (.str (S a)) H) : rRepS (.str z) (.int n) H Q := by
  by_cases h : 0 ≤ n
  · exact repS_step hz h h1 k
  · unfold rRepS
    have e : n.toNat = 0 := by omega
    refine ⟨z, n, rfl, rfl, by omega, by omega, by rw [e]; omega, ?_⟩
    have e2 : Txt.mul z n = S [] := by
      unfold Txt.mul
      rw [if_pos (by omega)]
      rfl
    rw [e2]
    exact k [] (by simp)
theorem ixS_any {z : Str} {i : Int} {H : Hp} {Q : VK} (hz : z.length ≤ sizeLine) (h0 : 0 ≤ i) (h1 : i < z.length) (h : ∀ c, Q (.str (S [c])) H) : rxS (.str z) (.int i) H Q := ixs_step hz h0 h1 fun c => h c
def bdB (n : Int) : V → Bool
  | .int i => decide (1 ≤ i) && decide (i ≤ n)
  | _ => false
theorem bdB_of {n : Int} {l : List V} {v : V} {i : Nat} (h : l.all (bdB n) = true) (m : l[i]? = some v) : ∃ z : Int, v = .int z ∧ 1 ≤ z ∧ z ≤ n := by
  have q := List.all_eq_true.mp h v (List.mem_of_getElem? m)
  cases v with
  | int i =>
    simp [bdB] at q
    exact ⟨i, rfl, q.1, q.2⟩
  | _ => cases q
theorem len_ofS {x : String} {n : Nat} (h : (Str.ofString x).cps.toList.length = n) : (Str.ofString x).length = n := by
  rw [← h, ← S_len, S_tl]
/-- a def that draws some text beside a datum -/
def DrP (K : PySem.W.Frag) (x : V) (p : T × Nat) (b : Addr) (H : Hp) (Q : VK) : Prop := Box H b ∧ Pt K H x p ∧ p.2 ≤ 60 ∧ (wr p.1).length ≤ 40000 ∧ ∀ (a : List Nat) H', a.length ≤ 100000 → Box H' b → Fr [b] H H' → Q (.str (S a)) H'
@[irreducible] def spAro (K : PySem.W.Frag) : Sp := fun vs H Q _ => ∃ (b : Addr) (x : V) (p : T × Nat), vs = [.ref b, x] ∧ DrP K x p b H Q
theorem aro_step {K : PySem.W.Frag} {b : Addr} {x : V} {p : T × Nat} {H : Hp} {Q : VK} {E : XK} (hB : Box H b) (hx : Pt K H x p) (h1 : p.2 ≤ 60) (h2 : (wr p.1).length ≤ 40000) (k : ∀ (a : List Nat) H', a.length ≤ 100000 → Box H' b → Fr [b] H H' → Q (.str (S a)) H') : spAro K ([.ref b, x] ++ []) H Q E := by
  unfold spAro
  exact ⟨b, x, p, rfl, hB, hx, h1, h2, k⟩
@[irreducible] def RM1 (b : Addr) (x : V) (w : Int) (s : Option V) (H : Hp) (σ : L2.St) (H' : Hp) : Prop := ∃ d : Int, σ = [some (.ref b), some x, some (.int w), s, some (.int d)] ∧ 0 ≤ d ∧ d ≤ 1200 ∧ Box H' b ∧ Fr [b] H H'
section
variable {P : Program} {w : World} {K : PySem.W.Frag} {mg : Str → Option Value} {base : Heap}
set_option hygiene false
local macro_rules | `(tactic| tm_at "sc") => `(tactic| (first | omega | (simp only [List.length_cons, List.length_nil, List.length_map, List.length_set, List.length_append]; omega) | (simp only [List.length_map] at h1 ⊢; omega) | (simp only [List.length_map] at c ⊢; omega) | with_reducible assumption | exact And.intro (by omega) (by omega) | exact Or.inl (And.intro (by omega) (by omega)) | exact Or.inr (And.intro (by omega) (by omega)) | decide +kernel | exact len1000 (by simp) | rfl | fail "no way"))
local macro_rules | `(tactic| tm_at "sc1") => `(tactic| (focus (simp; done)))
local macro_rules | `(tactic| tm_at "ne") => `(tactic| (first | assumption | exact Ne.symm (by assumption) | (apply Box.ne2; assumption; tm_at "hp") | (apply Ne.symm; apply Box.ne2; assumption; tm_at "hp") | (apply ne_of_none2; assumption; tm_at "hp") | (apply Ne.symm; apply ne_of_none2; assumption; tm_at "hp") | fail "no way"))
local macro_rules | `(tactic| tm_at "f0") => `(tactic| (first | assumption | (apply Fr.new; assumption) | fail "no way"))
local macro_rules | `(tactic| tm_at "hp") => `(tactic| (first | assumption | exact upd_same | (apply SqL.of; first | assumption | exact upd_same) | (apply Fr.at0; tm_at "f0"; tm_at "hp") | (apply Fr.at1n; assumption; tm_at "ne"; tm_at "hp") | (apply sqFr0; tm_at "f0"; tm_at "hp") | (apply sqFr1; assumption; tm_at "ne"; tm_at "hp") | (apply Box.fr0; tm_at "f0"; tm_at "hp") | (apply Box.fr1; assumption; tm_at "ne"; tm_at "hp") | (apply Den.fr; tm_at "f0"; tm_at "hp") | (apply Dens.fr; tm_at "f0"; tm_at "hp") | fail "no way"))
local macro_rules | `(tactic| tm_at "free0") => `(tactic| (first | assumption | (apply updFree; assumption) | (apply updFree; apply updFree; assumption) | (apply updFree; apply updFree; apply updFree; assumption) | (apply updFree; apply updFree; apply updFree; apply updFree; assumption) | fail "no way"))
local macro_rules | `(tactic| tm_at "free") => `(tactic| (first | tm_at "free0" | (apply Fr.free; assumption; tm_at "free0") | (apply Box.free; assumption; tm_at "fr"; tm_at "free0") | (apply Fr.free; assumption; apply Fr.free; assumption; tm_at "free0") | fail "no way"))
local macro_rules | `(tactic| tm_at "fr") => `(tactic| (first | assumption | exact Fr.refl0 _ | exact Fr.refl (Box.nt (by assumption)) | (refine Fr.comp0 ?_ (by tm_at "f0"); tm_at "fr") | (refine Fr.comp ?_ (by assumption); tm_at "fr") | (refine Fr.compN ?_ (by assumption) (by tm_at "free"); tm_at "fr") | fail "no way"))
local macro_rules | `(tactic| tm_at "call") => `(tactic| fail "no call")
local macro_rules | `(tactic| tm_at "call") => `(tactic| (apply take_step; tm_at "hp"; tm_at "sc"; tm_at "sc"; intro r H1 h0 h1 hB fr))
local macro_rules | `(tactic| tm_at "ty") => `(tactic| (first | assumption | exact .base .non | exact .base (.bl _) | exact .base (.int _) | exact .base (.str _) | (apply TyX.base; apply TyOf.lst; tm_at "hp") | (apply TyX.base; apply TyOf.tup; tm_at "hp") | fail "no way"))
local macro_rules | `(tactic| tm_at "pre") => `(tactic| fail "none")
local macro_rules | `(tactic| tm_at "go1") => `(tactic| (first | tm_at "pre" | refine ⟨_, rfl, ?_⟩ | refine ⟨_, _, rfl, rfl, ?_⟩ | (apply set_step; tm_at "hp"; tm_at "sc"; tm_at "sc"; intro H1 hp fr) | (with_reducible refine iteDI ?_ ?_ <;> intro c) | (with_reducible refine iteDS ?_ ?_ <;> intro c) | (with_reducible refine iteD ?_ ?_ <;> intro c) | (with_reducible refine iteEM ?_ ?_ <;> intro c) | (with_reducible refine iteE ?_ ?_ <;> intro c) | with_reducible refine iteN ?_ | with_reducible refine iteF ?_ | with_reducible refine iteT ?_ | (refine fun (p : Addr) (np : _ = (none : Option HO)) => ?_; fail_if_success (refine ⟨fun (_ _ : Nat) (_ : Hp) => True, ?_⟩)) | (apply isi_tt; tm_at "ty"; focus (decide +kernel)) | (apply isi_ff; tm_at "ty"; focus (decide +kernel)) | (apply sl_step; tm_at "hp"; intro qq H1 ms nq hq fr) | (apply sum_step; tm_at "hp"; intro i) | (apply tru_step; tm_at "hp") | (apply len_step; tm_at "hp") | (apply lenq_step; assumption) | (apply ixq_step; assumption; tm_at "sc"; tm_at "sc"; intro v hv) | (apply lst_step; tm_at "hp") | (apply tupl_step; tm_at "hp") | (apply ixr_step; tm_at "hp"; exact rfl) | (apply ix0_step; tm_at "hp") | (apply ix1_step; tm_at "hp") | (apply ix2_step; tm_at "hp") | (apply ixi_step; tm_at "hp"; tm_at "sc"; tm_at "sc"; intro n hn hn') | (apply ixl_step; tm_at "hp"; tm_at "sc"; tm_at "sc"; intro v hv) | (apply ixt_step; tm_at "hp"; tm_at "sc"; tm_at "sc"; intro v hm hv) | (apply in_step; tm_at "hp"; rfl; rfl) | (apply cat_step; tm_at "hp"; tm_at "hp"; tm_at "sc") | (apply catT_step; tm_at "hp"; tm_at "hp"; tm_at "sc1") | (apply tyL_and; tm_at "hp") | (apply app_step; tm_at "hp"; tm_at "sc"; intro H1 hp fr) | tm_at "call" | refine ⟨⟨_, rfl⟩, ?_⟩ | (apply ixs_step; tm_at "sc"; tm_at "sc"; tm_at "sc"; intro ch) | refine .inl ⟨_, rfl, ?_⟩ | refine .inr ⟨_, rfl, ?_⟩ | (apply And.intro; tm_at "sc") | (with_reducible refine wayB ?_ ?_ <;> intro c) | fail "no way"))
local macro_rules | `(tactic| tm_at "go") => `(tactic| (repeat tm_at "go1"))
local macro_rules | `(tactic| tm_at "goo") => `(tactic| (repeat' tm_at "go1"))
local macro_rules | `(tactic| tm_at "den") => `(tactic| (first | assumption | exact Den.str _ | exact Den.int _ | exact Den.bl _ | exact Den.non | (apply Den.tups; tm_at "hp"; tm_at "dens") | (apply Den.fr; tm_at "f0"; tm_at "den") | fail "no way"))
local macro_rules | `(tactic| tm_at "dens") => `(tactic| (first | assumption | exact Dens.nil | (apply Dens.cons; tm_at "den"; tm_at "dens") | (apply Dens.fr; tm_at "f0"; tm_at "dens") | fail "no way"))
local macro_rules | `(tactic| tm_at "ix") => `(tactic| (apply Ix.mk; tm_at "hp"; tm_at "ne"; assumption; assumption))
local macro_rules | `(tactic| tm_at "dep") => `(tactic| (first | assumption | exact Dep.int | exact Dep.str | exact Dep.bl | exact Dep.non | (apply Dep.tup; tm_at "dlen"; tm_at "deps") | (apply Dep.mono; assumption; decide) | fail "no way"))
local macro_rules | `(tactic| tm_at "deps") => `(tactic| (first | assumption | exact memN | (apply memC; tm_at "dep"; tm_at "deps") | fail "no way"))
local macro_rules | `(tactic| tm_at "dlen") => `(tactic| (first | assumption | (focus (simp; done)) | omega | fail "no way"))
local macro_rules | `(tactic| tm_at "pre") => `(tactic| (apply rep_step; tm_at "hp"; tm_at "sc"; tm_at "sc"; intro rp H1 nrp hrp fr))

local macro_rules | `(tactic| tm_at "lits") => `(tactic| (try simp only [l_nl, l_open, l_close, l_sp, l_quo, l_bs, l_minus, l_zero, l_empty, l_n] at c))
local macro_rules | `(tactic| tm_at "pre") => `(tactic| (first | (apply slm_step; tm_at "sc"; tm_at "sc"; tm_at "sc") | (apply slf_step; tm_at "sc"; tm_at "sc") | (apply slt_step; tm_at "sc"; tm_at "sc") | (with_reducible refine iteEqZ ?_ ?_ <;> (intro c; tm_at "lits")) | (apply catS_step; tm_at "sc") | (apply inD_step) | (apply ordS_step) | (apply intS_step; assumption) | (apply sign_step) | (apply lenS_step; tm_at "sc")))
local macro_rules | `(tactic| tm_at "pre") => `(tactic| (apply while_go))
local macro_rules | `(tactic| tm_at "pre") => `(tactic| (apply ixS_step; tm_at "sc"; tm_at "sc"; assumption))
local macro_rules | `(tactic| tm_at "pre") => `(tactic| (apply appB_step; tm_at "hp"; tm_at "sc"; intro H1 hp fr))

set_option pp.deepTerms false
set_option pp.deepTerms.threshold 3
abbrev s_around : Stmt := top 41
theorem sc_around : FnScope ["_law_bag_here", "_law_built", "_law_way", "_law_size", "_law_deep"] ["_law_bag_here", "_law_built"] (defScope s_around) := ⟨rfl, rfl, rfl, by decide +kernel, rfl, by decide +kernel, by decide +kernel⟩

theorem ok_around (T : Bl mg) (G_take : Cal P w K mg base 1 "_law_take" ["_law_bag_here", "_law_size"] spTake) (G_note : Cal P w K mg base 62 "_law_note" ["_law_datum_here"] (spWr K 61)) (D : Def1 K mg "_law_around" s_around) : Cal P w K mg base 63 "_law_around" ["_law_bag_here", "_law_built"] (spAro K) := by
  refine D.cal sc_around (fun _ _ _ _ _ _ us hl => match us, hl with | [_, _], _ => rfl) (fun vs H Q E h => ?_) (fun f cdv A outer s H vs Q E hr h => ?_) <;> unfold spAro at h
  · obtain ⟨b, x, p, rfl, _⟩ := h
    rfl
  · obtain ⟨b, x, p, rfl, hB, hx, hp, hw, k⟩ := h
    refine ⟨_, (pss_cons (ps_set (i := 2) sc_around.nd rfl (Or.inl rfl) (pe_cal G_take (hr.mono (by omega)) (by rfl) (pa_cons (pv 0) (pa_cons pe_int pa_nil))))
    (pss_cons (ps_if (pt_cmpR op_eq (pv 2) pe_int (nomark _))
      (pss_cons (ps_set (i := 3) sc_around.nd rfl (Or.inl rfl) (pe_ix (ixL K) (pe_lst (pa_cons pe_int (pa_cons pe_int (pa_cons pe_int (pa_cons pe_int (pa_cons pe_int pa_nil)))))) (pe_cal G_take (hr.mono (by omega)) (by rfl) (pa_cons (pv 0) (pa_cons pe_int pa_nil))) (fun _ _ => rfl)))
      (pss_one (ps_ret (pe_op op_catS (pe_op op_catS (pe_op op_repS pe_str (pe_cal G_take (hr.mono (by omega)) (by rfl) (pa_cons (pv 0) (pa_cons pe_int pa_nil)))) (pe_ix ixS pe_str (pe_cal G_take (hr.mono (by omega)) (by rfl) (pa_cons (pv 0) (pa_cons pe_int pa_nil))) (fun _ _ => rfl))) (pe_op op_repS pe_str (pe_op op_sub (pv 3) pe_int))))))
      pss_nil)
    (pss_cons (ps_set (i := 4) sc_around.nd rfl (Or.inl rfl) pe_int)
    (C8.pss_cut (ps_if (pt_cmpR op_lt (pv 2) pe_int (nomark _))
      (pss_one (ps_set (i := 4) sc_around.nd rfl (Or.inl rfl) (pe_callB (call_max2 rfl) (by rfl) T.z_max (by decide +kernel) (pa_cons pe_int (pa_cons (pe_op op_sub (pe_op op_add pe_int (pe_cal G_take (hr.mono (by omega)) (by rfl) (pa_cons (pv 0) (pa_cons pe_int pa_nil)))) (pe_ix (ixL K) (pv 1) pe_int (fun _ _ => rfl))) pa_nil)))))
      pss_nil)
    (pss_one (ps_ret (pe_op op_catS (pe_op op_catS (pe_op op_repS pe_str (pv 4)) (pe_cal G_note (hr.mono (by omega)) (by rfl) (pa_cons (pe_ix (ixL K) (pv 1) pe_int (fun _ _ => rfl)) pa_nil))) (pe_op op_repS pe_str (pe_op op_sub (pv 4) (pe_op op_fdiv (pe_cal G_take (hr.mono (by omega)) (by rfl) (pa_cons (pv 0) (pa_cons pe_int pa_nil))) pe_int)))))))))), ?_⟩
    have hB0 := hB
    tm_at "goo"
    · obtain ⟨z, rfl, z1, z2⟩ := bdB_of (n := 5000) (by decide) hv
      refine repS_stepN (by decide +kernel) (by omega) (by omega) fun a1 hl1 => ?_
      refine ⟨_, rfl, ?_⟩
      refine take_step hB (by omega) (by omega) fun r2 H4 h20 h21 hB4 f4 => ?_
      refine ixS_any (by decide +kernel) h20 (by rw [show (Str.ofString "1234567890").length = 10 by decide +kernel]; omega) fun ch => ?_
      refine catS_step (by simp; omega) ?_
      refine ⟨_, rfl, ?_⟩
      refine ⟨_, _, rfl, rfl, ?_⟩
      refine repS_stepN (by decide +kernel) (by omega) (by omega) fun a2 hl2 => ?_
      refine catS_step (by simp; omega) ?_
      have f3 : Fr [] _ (upd _ p (HO.lst [V.int 79, V.int 80, V.int 81, V.int 82, V.int 5000])) := Fr.new np
      exact k _ _ (by simp; omega) hB4 (by tm_at "fr")
    · refine ⟨RM1 b x r none H, ?_, fun σ H2 hw2 => ?_⟩
      · show tIfS _ _ _ _ _ _
        tm_at "goo"
        · obtain ⟨q, v, rfl, hq, hv, hw⟩ := Pt.frB (by assumption) fr (Pt.frB hB0 (by assumption) hx)
          refine ixr_step (.of hq) (atI_nat (j := 1) rfl) ?_
          refine ⟨_, _, rfl, rfl, ?_⟩
          refine ⟨_, _, rfl, ?_⟩
          show RM1 b _ _ none H _ _
          unfold RM1
          refine ⟨_, rfl, ?_, ?_, hB, by tm_at "fr"⟩
          · split <;> omega
          · split <;> omega
        · show RM1 b x r none H _ _
          unfold RM1
          exact ⟨_, rfl, by decide, by decide, hB, fr⟩
      · unfold RM1 at hw2
        obtain ⟨d, rfl, d0, d1, hB2, f2⟩ := hw2
        tm_at "goo"
        refine repS_stepN (by decide +kernel) (by omega) (by omega) fun a1 hl1 => ?_
        obtain ⟨q, v, rfl, hq, hv, hw3⟩ := Pt.frB hB0 f2 hx
        refine ⟨_, rfl, ?_⟩
        refine ixr_step (.of hq) (atI_nat (j := 0) rfl) ?_
        refine wr_step hv (hw3.mono hp) (by omega) fun H3 f3 => ?_
        refine catS_step (by omega) ?_
        refine ⟨_, rfl, _, rfl, ?_⟩
        refine take_step (hB2.fr0 f3) (by omega) (by omega) fun r2 H4 h20 h21 hB4 f4 => ?_
        refine ⟨_, _, rfl, rfl, ?_⟩
        tm_at "go1"
        refine ⟨_, _, rfl, rfl, ?_⟩
        have q0 : 0 ≤ r2 / 6 ∧ r2 / 6 ≤ 1 := by omega
        refine repS_stepN (by decide +kernel) (by omega) (by omega) fun a2 hl2 => ?_
        refine catS_step (by simp; omega) ?_
        exact k _ _ (by simp; omega) hB4 ((f2.comp0 f3).comp f4)
end
end K4
set_option Elab.async false
set_option linter.all false
set_option maxRecDepth 100000
set_option maxHeartbeats 4000000
namespace K4
open PySem PySem.Spec PyProof.Rows L2 M14 SX
abbrev zTail : Str := Str.ofString "\t () -0\"\\"
def lTail : List Nat := [9, 32, 40, 41, 32, 45, 48, 34, 92]
theorem l_tail : zTail.cps.toList = lTail := by decide +kernel
theorem lTail_len : lTail.length = 9 := rfl
theorem ixS_anyL {a : List Nat} {i : Int} {H : Hp} {Q : VK} (hz : a.length ≤ 1000000) (h0 : 0 ≤ i) (h1 : i < a.length) (h : ∀ z : List Nat, z.length = 1 → Q (.str (S z)) H) : rxS (.str (S a)) (.int i) H Q := by
  have hi : i.toNat < a.length := by omega
  exact ixS_step hz h0 (List.getElem?_eq_getElem hi) (h _ rfl)
theorem catA_step {a b : List Nat} {H : Hp} {Q : VK} (h : a.length + b.length ≤ 1000000) (q : ∀ c : List Nat, a.length ≤ c.length → c.length ≤ a.length + b.length → Q (.str (S c)) H) : rCatS (.str (S a)) (.str (S b)) H Q := catS_step h (q _ (by simp) (by simp))
theorem slmA_step {a : List Nat} {i j : Int} {H : Hp} {Q : VK} (hz : a.length ≤ 40000) (h0 : 0 ≤ i) (h1 : i ≤ j) (h : ∀ c : List Nat, (c.length : Int) ≤ j - i → Q (.str (S c)) H) : rSlS (.str (S a)) (some i) (some j) H Q := slm_step (by omega) h0 h1 (h _ (by rw [List.length_take, List.length_drop]; omega))
theorem slfA_step {a : List Nat} {i : Int} {H : Hp} {Q : VK} (hz : a.length ≤ 40000) (h0 : 0 ≤ i) (h : ∀ c : List Nat, c.length ≤ 40000 → Q (.str (S c)) H) : rSlS (.str (S a)) (some i) none H Q := slf_step (by omega) h0 (h _ (by rw [List.length_drop]; omega))
theorem sltA_step {a : List Nat} {i : Int} {H : Hp} {Q : VK} (hz : a.length ≤ 40000) (h0 : 0 ≤ i) (h : ∀ c : List Nat, c.length ≤ 40000 → Q (.str (S c)) H) : rSlS (.str (S a)) none (some i) H Q := slt_step (by omega) h0 (h _ (by rw [List.length_take]; omega))
def txB (n : Nat) : V → Prop
  | .str s => s.length ≤ n
  | _ => False
theorem txB_of {n : Nat} {v : V} (h : txB n v) : ∃ c : List Nat, v = .str (S c) ∧ c.length ≤ n := by
  cases v with
  | str s => exact ⟨s.cps.toList, by rw [S_tl], by rw [← S_len, S_tl]; exact h⟩
  | _ => cases h
@[irreducible] def spSpo (K : PySem.W.Frag) : Sp := fun vs H Q _ => ∃ (b : Addr) (x : V) (p : T × Nat), vs = [.ref b, x] ∧ DrP K x p b H Q
theorem spo_step {K : PySem.W.Frag} {b : Addr} {x : V} {p : T × Nat} {H : Hp} {Q : VK} {E : XK} (hB : Box H b) (hx : Pt K H x p) (h1 : p.2 ≤ 60) (h2 : (wr p.1).length ≤ 40000) (k : ∀ (a : List Nat) H', a.length ≤ 100000 → Box H' b → Fr [b] H H' → Q (.str (S a)) H') : spSpo K ([.ref b, x] ++ []) H Q E := by
  unfold spSpo
  exact ⟨b, x, p, rfl, hB, hx, h1, h2, k⟩
@[irreducible] def QM1 (b : Addr) (x : V) (W : List Nat) (H : Hp) (σ : L2.St) (H' : Hp) : Prop := ∃ (w a m : Int) (z : List Nat) (y : V), σ = [some (.ref b), some x, some (.str (S W)), some (.int w), some (.int a), some (.int m), some y, some (.str (S z))] ∧ z.length = 1 ∧ 0 ≤ a ∧ a < W.length ∧ 1 ≤ m ∧ m ≤ 5 ∧ Box H' b ∧ Fr [b] H H'
section
variable {P : Program} {w : World} {K : PySem.W.Frag} {mg : Str → Option Value} {base : Heap}
set_option hygiene false
local macro_rules | `(tactic| tm_at "sc") => `(tactic| (first | omega | (simp only [List.length_cons, List.length_nil, List.length_map, List.length_set, List.length_append]; omega) | (simp only [List.length_map] at h1 ⊢; omega) | (simp only [List.length_map] at c ⊢; omega) | with_reducible assumption | exact And.intro (by omega) (by omega) | exact Or.inl (And.intro (by omega) (by omega)) | exact Or.inr (And.intro (by omega) (by omega)) | decide +kernel | exact len1000 (by simp) | rfl | fail "no way"))
local macro_rules | `(tactic| tm_at "sc1") => `(tactic| (focus (simp; done)))
local macro_rules | `(tactic| tm_at "ne") => `(tactic| (first | assumption | exact Ne.symm (by assumption) | (apply Box.ne2; assumption; tm_at "hp") | (apply Ne.symm; apply Box.ne2; assumption; tm_at "hp") | (apply ne_of_none2; assumption; tm_at "hp") | (apply Ne.symm; apply ne_of_none2; assumption; tm_at "hp") | fail "no way"))
local macro_rules | `(tactic| tm_at "f0") => `(tactic| (first | assumption | (apply Fr.new; assumption) | fail "no way"))
local macro_rules | `(tactic| tm_at "hp") => `(tactic| (first | assumption | exact upd_same | (apply SqL.of; first | assumption | exact upd_same) | (apply Fr.at0; tm_at "f0"; tm_at "hp") | (apply Fr.at1n; assumption; tm_at "ne"; tm_at "hp") | (apply sqFr0; tm_at "f0"; tm_at "hp") | (apply sqFr1; assumption; tm_at "ne"; tm_at "hp") | (apply Box.fr0; tm_at "f0"; tm_at "hp") | (apply Box.fr1; assumption; tm_at "ne"; tm_at "hp") | (apply Den.fr; tm_at "f0"; tm_at "hp") | (apply Dens.fr; tm_at "f0"; tm_at "hp") | fail "no way"))
local macro_rules | `(tactic| tm_at "free0") => `(tactic| (first | assumption | (apply updFree; assumption) | (apply updFree; apply updFree; assumption) | (apply updFree; apply updFree; apply updFree; assumption) | (apply updFree; apply updFree; apply updFree; apply updFree; assumption) | fail "no way"))
local macro_rules | `(tactic| tm_at "free") => `(tactic| (first | tm_at "free0" | (apply Fr.free; assumption; tm_at "free0") | (apply Box.free; assumption; tm_at "fr"; tm_at "free0") | (apply Fr.free; assumption; apply Fr.free; assumption; tm_at "free0") | fail "no way"))
local macro_rules | `(tactic| tm_at "fr") => `(tactic| (first | assumption | exact Fr.refl0 _ | exact Fr.refl (Box.nt (by assumption)) | (refine Fr.comp0 ?_ (by tm_at "f0"); tm_at "fr") | (refine Fr.comp ?_ (by assumption); tm_at "fr") | (refine Fr.compN ?_ (by assumption) (by tm_at "free"); tm_at "fr") | fail "no way"))
local macro_rules | `(tactic| tm_at "call") => `(tactic| fail "no call")
local macro_rules | `(tactic| tm_at "call") => `(tactic| (apply take_step; tm_at "hp"; tm_at "sc"; tm_at "sc"; intro r H1 h0 h1 hB fr))
local macro_rules | `(tactic| tm_at "ty") => `(tactic| (first | assumption | exact .base .non | exact .base (.bl _) | exact .base (.int _) | exact .base (.str _) | (apply TyX.base; apply TyOf.lst; tm_at "hp") | (apply TyX.base; apply TyOf.tup; tm_at "hp") | fail "no way"))
local macro_rules | `(tactic| tm_at "pre") => `(tactic| fail "none")
local macro_rules | `(tactic| tm_at "go1") => `(tactic| (first | tm_at "pre" | refine ⟨_, rfl, ?_⟩ | refine ⟨_, _, rfl, rfl, ?_⟩ | (apply set_step; tm_at "hp"; tm_at "sc"; tm_at "sc"; intro H1 hp fr) | (with_reducible refine iteDI ?_ ?_ <;> intro c) | (with_reducible refine iteDS ?_ ?_ <;> intro c) | (with_reducible refine iteD ?_ ?_ <;> intro c) | (with_reducible refine iteEM ?_ ?_ <;> intro c) | (with_reducible refine iteE ?_ ?_ <;> intro c) | with_reducible refine iteN ?_ | with_reducible refine iteF ?_ | with_reducible refine iteT ?_ | (refine fun (p : Addr) (np : _ = (none : Option HO)) => ?_; fail_if_success (refine ⟨fun (_ _ : Nat) (_ : Hp) => True, ?_⟩)) | (apply isi_tt; tm_at "ty"; focus (decide +kernel)) | (apply isi_ff; tm_at "ty"; focus (decide +kernel)) | (apply sl_step; tm_at "hp"; intro qq H1 ms nq hq fr) | (apply sum_step; tm_at "hp"; intro i) | (apply tru_step; tm_at "hp") | (apply len_step; tm_at "hp") | (apply lenq_step; assumption) | (apply ixq_step; assumption; tm_at "sc"; tm_at "sc"; intro v hv) | (apply lst_step; tm_at "hp") | (apply tupl_step; tm_at "hp") | (apply ixr_step; tm_at "hp"; exact rfl) | (apply ix0_step; tm_at "hp") | (apply ix1_step; tm_at "hp") | (apply ix2_step; tm_at "hp") | (apply ixi_step; tm_at "hp"; tm_at "sc"; tm_at "sc"; intro n hn hn') | (apply ixl_step; tm_at "hp"; tm_at "sc"; tm_at "sc"; intro v hv) | (apply ixt_step; tm_at "hp"; tm_at "sc"; tm_at "sc"; intro v hm hv) | (apply in_step; tm_at "hp"; rfl; rfl) | (apply cat_step; tm_at "hp"; tm_at "hp"; tm_at "sc") | (apply catT_step; tm_at "hp"; tm_at "hp"; tm_at "sc1") | (apply tyL_and; tm_at "hp") | (apply app_step; tm_at "hp"; tm_at "sc"; intro H1 hp fr) | tm_at "call" | refine ⟨⟨_, rfl⟩, ?_⟩ | (apply ixs_step; tm_at "sc"; tm_at "sc"; tm_at "sc"; intro ch) | refine .inl ⟨_, rfl, ?_⟩ | refine .inr ⟨_, rfl, ?_⟩ | (apply And.intro; tm_at "sc") | (with_reducible refine wayB ?_ ?_ <;> intro c) | fail "no way"))
local macro_rules | `(tactic| tm_at "go") => `(tactic| (repeat tm_at "go1"))
local macro_rules | `(tactic| tm_at "goo") => `(tactic| (repeat' tm_at "go1"))
local macro_rules | `(tactic| tm_at "den") => `(tactic| (first | assumption | exact Den.str _ | exact Den.int _ | exact Den.bl _ | exact Den.non | (apply Den.tups; tm_at "hp"; tm_at "dens") | (apply Den.fr; tm_at "f0"; tm_at "den") | fail "no way"))
local macro_rules | `(tactic| tm_at "dens") => `(tactic| (first | assumption | exact Dens.nil | (apply Dens.cons; tm_at "den"; tm_at "dens") | (apply Dens.fr; tm_at "f0"; tm_at "dens") | fail "no way"))
local macro_rules | `(tactic| tm_at "ix") => `(tactic| (apply Ix.mk; tm_at "hp"; tm_at "ne"; assumption; assumption))
local macro_rules | `(tactic| tm_at "dep") => `(tactic| (first | assumption | exact Dep.int | exact Dep.str | exact Dep.bl | exact Dep.non | (apply Dep.tup; tm_at "dlen"; tm_at "deps") | (apply Dep.mono; assumption; decide) | fail "no way"))
local macro_rules | `(tactic| tm_at "deps") => `(tactic| (first | assumption | exact memN | (apply memC; tm_at "dep"; tm_at "deps") | fail "no way"))
local macro_rules | `(tactic| tm_at "dlen") => `(tactic| (first | assumption | (focus (simp; done)) | omega | fail "no way"))
local macro_rules | `(tactic| tm_at "pre") => `(tactic| (apply rep_step; tm_at "hp"; tm_at "sc"; tm_at "sc"; intro rp H1 nrp hrp fr))

local macro_rules | `(tactic| tm_at "lits") => `(tactic| (try simp only [l_nl, l_open, l_close, l_sp, l_quo, l_bs, l_minus, l_zero, l_empty, l_n] at c))
local macro_rules | `(tactic| tm_at "pre") => `(tactic| (first | (apply slm_step; tm_at "sc"; tm_at "sc"; tm_at "sc") | (apply slf_step; tm_at "sc"; tm_at "sc") | (apply slt_step; tm_at "sc"; tm_at "sc") | (with_reducible refine iteEqZ ?_ ?_ <;> (intro c; tm_at "lits")) | (apply catS_step; tm_at "sc") | (apply inD_step) | (apply ordS_step) | (apply intS_step; assumption) | (apply sign_step) | (apply lenS_step; tm_at "sc")))
local macro_rules | `(tactic| tm_at "pre") => `(tactic| (apply while_go))
local macro_rules | `(tactic| tm_at "pre") => `(tactic| (apply ixS_step; tm_at "sc"; tm_at "sc"; assumption))
local macro_rules | `(tactic| tm_at "pre") => `(tactic| (apply appB_step; tm_at "hp"; tm_at "sc"; intro H1 hp fr))

local macro_rules | `(tactic| tm_at "call") => `(tactic| (apply al_step))
local macro_rules | `(tactic| tm_at "pre") => `(tactic| (first | (apply slmA_step; tm_at "sc"; tm_at "sc"; tm_at "sc"; intro zz hzz) | (apply slfA_step; tm_at "sc"; tm_at "sc"; intro zz hzz) | (apply sltA_step; tm_at "sc"; tm_at "sc"; intro zz hzz) | (apply catA_step; tm_at "sc"; intro zz hzl hzz)))
set_option pp.deepTerms false
set_option pp.deepTerms.threshold 3
abbrev s_spoiled : Stmt := top 42
theorem sc_spoiled : FnScope ["_law_bag_here", "_law_built", "_law_note_here", "_law_way", "_law_at", "_law_many", "_law_signs", "_law_sign"] ["_law_bag_here", "_law_built"] (defScope s_spoiled) := ⟨rfl, rfl, rfl, by decide +kernel, rfl, by decide +kernel, by decide +kernel⟩

theorem ok_spoiled (T : Bl mg) (G_take : Cal P w K mg base 1 "_law_take" ["_law_bag_here", "_law_size"] spTake) (G_note : Cal P w K mg base 62 "_law_note" ["_law_datum_here"] (spWr K 61)) (G_allowed : Cal P w K mg base 1 "_law_allowed" [] spAl) (G_around : Cal P w K mg base 63 "_law_around" ["_law_bag_here", "_law_built"] (spAro K)) (G_odd_note : Cal P w K mg base 2 "_law_odd_note" ["_law_bag_here"] spOdd) (D : Def1 K mg "_law_spoiled" s_spoiled) : Cal P w K mg base 64 "_law_spoiled" ["_law_bag_here", "_law_built"] (spSpo K) := by
  refine D.cal sc_spoiled (fun _ _ _ _ _ _ us hl => match us, hl with | [_, _], _ => rfl) (fun vs H Q E h => ?_) (fun f cdv A outer s H vs Q E hr h => ?_) <;> unfold spSpo at h
  · obtain ⟨b, x, p, rfl, _⟩ := h
    rfl
  · obtain ⟨b, x, p, rfl, hB, hx, hp, hw, k⟩ := h
    refine ⟨_, (pss_cons (ps_set (i := 2) sc_spoiled.nd rfl (Or.inl rfl) (pe_cal G_note (hr.mono (by omega)) (by rfl) (pa_cons (pe_ix (ixL K) (pv 1) pe_int (fun _ _ => rfl)) pa_nil)))
    (pss_cons (ps_set (i := 3) sc_spoiled.nd rfl (Or.inl rfl) (pe_cal G_take (hr.mono (by omega)) (by rfl) (pa_cons (pv 0) (pa_cons pe_int pa_nil))))
    (pss_cons (ps_set (i := 4) sc_spoiled.nd rfl (Or.inl rfl) (pe_cal G_take (hr.mono (by omega)) (by rfl) (pa_cons (pv 0) (pa_cons (pe_callB call_lenS (by rfl) T.z_len (by decide +kernel) (pa_cons (pv 2) pa_nil)) pa_nil))))
    (pss_cons (ps_set (i := 5) sc_spoiled.nd rfl (Or.inl rfl) (pe_op op_add pe_int (pe_cal G_take (hr.mono (by omega)) (by rfl) (pa_cons (pv 0) (pa_cons pe_int pa_nil)))))
    (pss_cons (ps_set (i := 6) sc_spoiled.nd rfl (Or.inl rfl) (pe_op op_catS (pe_cal0 G_allowed (hr.mono (by omega)) (by rfl)) pe_str))
    (C8.pss_cut (ps_set (i := 7) sc_spoiled.nd rfl (Or.inl rfl) (pe_ix ixS (pv 6) (pe_cal G_take (hr.mono (by omega)) (by rfl) (pa_cons (pv 0) (pa_cons (pe_callB call_lenS (by rfl) T.z_len (by decide +kernel) (pa_cons (pv 6) pa_nil)) pa_nil))) (fun _ _ => rfl)))
    (pss_cons (ps_if (pt_cmpR op_eq (pv 3) pe_int (nomark _))
      (pss_one (ps_ret (pe_op op_catS (pe_slice slS (pv 2) po_none (po_some (pv 4))) (pe_slice slS (pv 2) (po_some (pe_op op_add (pv 4) pe_int)) po_none))))
      pss_nil)
    (pss_cons (ps_if (pt_cmpR op_eq (pv 3) pe_int (nomark _))
      (pss_one (ps_ret (pe_op op_catS (pe_op op_catS (pe_slice slS (pv 2) po_none (po_some (pv 4))) (pv 7)) (pe_slice slS (pv 2) (po_some (pv 4)) po_none))))
      pss_nil)
    (pss_cons (ps_if (pt_cmpR op_eq (pv 3) pe_int (nomark _))
      (pss_one (ps_ret (pe_op op_catS (pe_op op_catS (pe_slice slS (pv 2) po_none (po_some (pv 4))) (pv 7)) (pe_slice slS (pv 2) (po_some (pe_op op_add (pv 4) pe_int)) po_none))))
      pss_nil)
    (pss_cons (ps_if (pt_cmpR op_eq (pv 3) pe_int (nomark _))
      (pss_one (ps_ret (pe_op op_catS (pe_op op_catS (pe_slice slS (pv 2) po_none (po_some (pv 4))) (pe_slice slS (pv 2) (po_some (pv 4)) (po_some (pe_op op_add (pv 4) pe_int)))) (pe_slice slS (pv 2) (po_some (pv 4)) po_none))))
      pss_nil)
    (pss_cons (ps_if (pt_cmpR op_eq (pv 3) pe_int (nomark _))
      (pss_one (ps_ret (pe_op op_catS (pe_op op_catS (pe_op op_catS (pe_slice slS (pv 2) po_none (po_some (pv 4))) (pe_slice slS (pv 2) (po_some (pe_op op_add (pv 4) pe_int)) (po_some (pe_op op_add (pv 4) pe_int)))) (pe_slice slS (pv 2) (po_some (pv 4)) (po_some (pe_op op_add (pv 4) pe_int)))) (pe_slice slS (pv 2) (po_some (pe_op op_add (pv 4) pe_int)) po_none))))
      pss_nil)
    (pss_cons (ps_if (pt_cmpR op_eq (pv 3) pe_int (nomark _))
      (pss_one (ps_ret (pe_slice slS (pv 2) po_none (po_some (pv 4)))))
      pss_nil)
    (pss_cons (ps_if (pt_cmpR op_eq (pv 3) pe_int (nomark _))
      (pss_one (ps_ret (pe_op op_catS (pe_slice slS (pv 2) po_none (po_some (pv 4))) (pe_slice slS (pv 2) (po_some (pe_op op_add (pv 4) (pv 5))) po_none))))
      pss_nil)
    (pss_cons (ps_if (pt_cmpR op_eq (pv 3) pe_int (nomark _))
      (pss_one (ps_ret (pe_op op_catS (pe_op op_catS (pe_slice slS (pv 2) po_none (po_some (pv 4))) (pe_slice slS (pv 2) (po_some (pv 4)) (po_some (pe_op op_add (pv 4) (pv 5))))) (pe_slice slS (pv 2) (po_some (pv 4)) po_none))))
      pss_nil)
    (pss_cons (ps_if (PW.pt (pw_and (pt_cmpR op_eq (pv 3) pe_int (nomark _)) (pw_and1 (pt_cmpR op_eq (pv 5) pe_int (nomark _)))))
      (pss_one (ps_ret (pe_op op_catS (pv 7) (pv 2))))
      pss_nil)
    (pss_cons (ps_if (pt_cmpR op_eq (pv 3) pe_int (nomark _))
      (pss_one (ps_ret (pe_op op_catS (pv 2) (pe_ix (ixL K) (pe_lst (pa_cons (pv 7) (pa_cons (pe_op op_catS pe_str (pv 2)) (pa_cons (pv 2) (pa_cons pe_str pa_nil))))) (pe_op op_sub (pv 5) pe_int) (fun _ _ => rfl)))))
      pss_nil)
    (pss_cons (ps_if (pt_cmpR op_eq (pv 3) pe_int (nomark _))
      (pss_one (ps_ret (pe_cal G_around (hr.mono (by omega)) (by rfl) (pa_cons (pv 0) (pa_cons (pv 1) pa_nil)))))
      pss_nil)
    (pss_one (ps_ret (pe_cal G_odd_note (hr.mono (by omega)) (by rfl) (pa_cons (pv 0) pa_nil))))))))))))))))))))), ?_⟩
    have hB0 := hB
    have hx0 := hx
    obtain ⟨q, v, rfl, hq, hv, hw3⟩ := hx
    refine ⟨_, rfl, ?_⟩
    refine ixr_step (.of hq) (atI_nat (j := 0) rfl) ?_
    refine wr_step hv (hw3.mono hp) (by omega) fun H3 f3 => ?_
    have hpos := wr_pos hw3
    have hB3 := hB0.fr0 f3
    have hl95 := zAll_len
    have hwr := hw
    generalize wr p.1 = W at hw hpos ⊢
    have F3 : Fr [b] H H3 := (Fr.refl hB0.nt).comp0 f3
    tm_at "goo"
    have F4 : Fr [b] H H1 := by tm_at "fr"
    refine ⟨QM1 b (.ref q) W H, ?_, fun σ H4 hm => ?_⟩
    · show tAsg _ _ _ _ _
      have hzz9 : zz.length ≤ 104 := by
        have e : (Str.cps zTail).toList.length = 9 := by rw [l_tail]; rfl
        exact Nat.le_trans hzz (by rw [hl95]; exact Nat.add_le_add_left (Nat.le_of_eq e) 95)
      refine ⟨_, rfl, _, rfl, _, rfl, ?_⟩
      refine lenS_step (by omega) ?_
      have hzz1 : 95 ≤ zz.length := Nat.le_trans (by rw [hl95]; exact Nat.le_refl _) hzl
      refine take_step hB (by omega) (by omega) fun r4 H4 h40 h41 hB4 f4 => ?_
      refine ixS_anyL (by omega) h40 (by omega) fun z hz => ?_
      show QM1 b _ _ _ _ _
      unfold QM1
      exact ⟨_, _, _, z, _, rfl, hz, by assumption, by assumption, by omega, by omega, hB4, F4.comp f4⟩
    · unfold QM1 at hm
      obtain ⟨w1, a1, m1, z1, y1, rfl, z1l, a10, a11, m10, m11, hB4, f4⟩ := hm
      have hx4 := hx0.frB hB0 f4
      tm_at "goo"
      all_goals first
        | (refine k _ _ ?_ hB4 f4; omega)
        | (exfalso; omega)
        | skip
      · show rCatS (.str (Str.ofString " ")) (.str (S W)) H4 _
        rw [litS l_sp]
        refine catA_step (by simp; omega) fun z2 _ hz2 => ?_
        have hz2 : z2.length ≤ 40001 := by simp at hz2; omega
        tm_at "goo"
        have hv3 : ∃ c : List Nat, v = .str (S c) ∧ c.length ≤ 40001 := by
          have m := List.mem_of_getElem? hv
          simp only [List.mem_cons, List.not_mem_nil, or_false] at m
          rcases m with rfl | rfl | rfl | rfl
          · exact ⟨_, rfl, by omega⟩
          · exact ⟨_, rfl, by omega⟩
          · exact ⟨_, rfl, by omega⟩
          · exact ⟨[32], by rw [← litS l_sp], by simp⟩
        obtain ⟨c2, rfl, hc2⟩ := hv3
        refine catA_step (by omega) fun z3 _ hz3 => ?_
        exact k _ _ (by omega) (by tm_at "hp") (f4.comp0 (Fr.new (by assumption)))
      · refine aro_step hB4 hx4 hp hwr fun a H5 ha hB5 f5 => ?_
        exact k _ _ ha hB5 (f4.comp f5)
      · refine odd_step hB4 fun a H5 ha hB5 f5 => ?_
        exact k _ _ (by omega) hB5 (f4.comp f5)
end
end K4
set_option Elab.async false
set_option linter.all false
set_option maxRecDepth 100000
set_option maxHeartbeats 4000000
namespace K4
open PySem PySem.Spec PyProof.Rows L2 M14 SX
theorem Def1T.cal {P : Program} {w : World} {K : PySem.W.Frag} {mg : Str → Option Value} {base : Heap} {x : Str} {st : Stmt} {N ps : List Str} {k : Nat} {sp : Sp} (D : Def1 K mg x st) (S : FnScope N ps (defScope st))
    (hb : ∀ (kV doc pm : Value) (an : Option Addr) (cdv ct : Value) (us : List Value), us.length = ps.length → bindArgs (PySem.W.fnOf x x (defArgs st) (defBody st) (defScope st) .none kV doc pm an cdv ct) ⟨us, []⟩ = pure (ps.zip us))
    (len : ∀ vs H Q E, sp vs H Q E → vs.length = ps.length)
    (hbody : ∀ (f : Addr) (cdv : Value) (A : Around) (outer : List Env) (s : Shared) (H : Hp) (vs : List V) (Q : VK) (E : XK), Room k (A.deeper (envOfC x (defScope st) s.heap.objs.size f cdv)) → sp vs H Q E →
      ∃ t, PSs (cxOf CX0 P w K mg base N x (defScope st) f cdv A outer s H E) (defBody st) t ∧ t { nx := fun _ H' => Q .non H', rt := Q } (start N vs) H) : Cal P w K mg base (k + 1) x ps sp := by
  obtain ⟨f, fd, F, g⟩ := D
  exact ⟨f, fd, F.ok S len fun cdv A outer s H vs Q E hr h => hbody f cdv A outer s H vs Q E hr h, g, F.kp, F.bindsN hb⟩
/-- the error classes of the law: BadDatum at C, LikerunError at CL, BadSave at CS, SourceError at CE -/
structure Errs (K : PySem.W.Frag) (mg : Str → Option Value) (C CL CS CE : Addr) : Prop where
  ec : ExcC K C
  gC : mg "BadDatum" = some (.ref C)
  gL : mg "LikerunError" = some (.ref CL)
  gS : mg "BadSave" = some (.ref CS)
  gE : mg "SourceError" = some (.ref CE)
  zV : mg "ValueError" = none
  xL : PySem.W.exmOne K (.ref C) (.ref CL) = some true
  kC : PySem.W.kitOne K (.ref C) (.ref C) = some true
  kV : PySem.W.kitOne K (.ref C) (.type "ValueError") = some true
  kS : PySem.W.kitOne K (.ref C) (.ref CS) = some false
  kE : PySem.W.kitOne K (.ref C) (.ref CE) = some false
@[irreducible] def rIsEx (K : PySem.W.Frag) (D a : Addr) : List V → Hp → VK → Prop := rIsE K D a
theorem call_isEx {X : Cx} {a D : Addr} {cls : Value} {d : Option Addr} {oe : Obj} {pn : List (Addr × Obj)} (C : ExcC X.K D) (e1 : cls = .ref D) (e2 : d = none) (hz : Zc cls d oe) (hf : ∃ vs, oe.data = .fields vs) : CallR (X.suite a ((a, oe) :: pn)) (.builtin "isinstance") (rIsEx X.K D a) := by
  subst e1 e2
  unfold rIsEx
  exact call_isE C hz hf
theorem isEr_step {K : PySem.W.Frag} {D a c : Addr} {b : Bool} {H : Hp} {Q : VK} (h : PySem.W.kitOne K (.ref D) (.ref c) = some b) (q : Q (.bl b) H) : rIsEx K D a [.ref a, .ref c] H Q := by
  unfold rIsEx
  exact ⟨_, _, b, rfl, fun u r => by cases r; rfl, h, q⟩
theorem isEt_step {K : PySem.W.Frag} {D a : Addr} {c : String} {b : Bool} {H : Hp} {Q : VK} (h : PySem.W.kitOne K (.ref D) (.type c) = some b) (q : Q (.bl b) H) : rIsEx K D a [.ref a, .ty c] H Q := by
  unfold rIsEx
  exact ⟨_, _, b, rfl, fun u r => by cases r; rfl, h, q⟩
@[irreducible] def spRef : Sp := fun vs H Q _ => ∃ a : List Nat, vs = [.str (S a)] ∧ a.length ≤ 100000 ∧ (∀ t, ¬ Note a t) ∧ ∀ H', Fr [] H H' → Q (.bl true) H'
theorem ref_step {a : List Nat} {H : Hp} {Q : VK} {E : XK} (hl : a.length ≤ 100000) (n : ∀ t, ¬ Note a t) (k : ∀ H', Fr [] H H' → Q (.bl true) H') : spRef ([.str (S a)] ++ []) H Q E := by
  unfold spRef
  exact ⟨a, rfl, hl, n, k⟩
theorem rdm_step {K : PySem.W.Frag} {C : Addr} {a : List Nat} {H : Hp} {Q : VK} {E : XK} (hl : a.length ≤ 1000000) (h1 : ∀ t, Note a t → ∀ v H', Den K H' v t → Fr [] H H' → Q v H') (h2 : (∀ t, ¬ Note a t) → ∀ H', Fr [] H H' → E (.ref C) none H') : spRdm K C ([.str (S a)] ++ []) H Q E := by
  unfold spRdm
  exact ⟨a, rfl, hl, h1, h2⟩
/-- the suite's reading: the error is of the class C -/
def tOnly (C : Addr) (t : Addr → TS) : Addr → Value → Option Addr → TS := fun a cls d D σ H => cls = .ref C ∧ d = none ∧ t a D σ H
theorem pss_only {X : Cx} {C : Addr} {a : Addr} {cls : Value} {d : Option Addr} {ss : List Stmt} {t : Addr → TS} (h : cls = .ref C → d = none → PSs X ss (t a)) : PSs X ss (tOnly C t a cls d) := by
  refine ⟨fun pins s σ H D I q => ?_⟩
  obtain ⟨e1, e2, q⟩ := q
  exact (h e1 e2).run pins s σ H D I q
section
variable {P : Program} {w : World} {K : PySem.W.Frag} {mg : Str → Option Value} {base : Heap}
set_option hygiene false
local macro_rules | `(tactic| tm_at "sc") => `(tactic| (first | omega | (simp only [List.length_cons, List.length_nil, List.length_map, List.length_set, List.length_append]; omega) | (simp only [List.length_map] at h1 ⊢; omega) | (simp only [List.length_map] at c ⊢; omega) | with_reducible assumption | exact And.intro (by omega) (by omega) | exact Or.inl (And.intro (by omega) (by omega)) | exact Or.inr (And.intro (by omega) (by omega)) | decide +kernel | exact len1000 (by simp) | rfl | fail "no way"))
local macro_rules | `(tactic| tm_at "sc1") => `(tactic| (focus (simp; done)))
local macro_rules | `(tactic| tm_at "ne") => `(tactic| (first | assumption | exact Ne.symm (by assumption) | (apply Box.ne2; assumption; tm_at "hp") | (apply Ne.symm; apply Box.ne2; assumption; tm_at "hp") | (apply ne_of_none2; assumption; tm_at "hp") | (apply Ne.symm; apply ne_of_none2; assumption; tm_at "hp") | fail "no way"))
local macro_rules | `(tactic| tm_at "f0") => `(tactic| (first | assumption | (apply Fr.new; assumption) | fail "no way"))
local macro_rules | `(tactic| tm_at "hp") => `(tactic| (first | assumption | exact upd_same | (apply SqL.of; first | assumption | exact upd_same) | (apply Fr.at0; tm_at "f0"; tm_at "hp") | (apply Fr.at1n; assumption; tm_at "ne"; tm_at "hp") | (apply sqFr0; tm_at "f0"; tm_at "hp") | (apply sqFr1; assumption; tm_at "ne"; tm_at "hp") | (apply Box.fr0; tm_at "f0"; tm_at "hp") | (apply Box.fr1; assumption; tm_at "ne"; tm_at "hp") | (apply Den.fr; tm_at "f0"; tm_at "hp") | (apply Dens.fr; tm_at "f0"; tm_at "hp") | fail "no way"))
local macro_rules | `(tactic| tm_at "free0") => `(tactic| (first | assumption | (apply updFree; assumption) | (apply updFree; apply updFree; assumption) | (apply updFree; apply updFree; apply updFree; assumption) | (apply updFree; apply updFree; apply updFree; apply updFree; assumption) | fail "no way"))
local macro_rules | `(tactic| tm_at "free") => `(tactic| (first | tm_at "free0" | (apply Fr.free; assumption; tm_at "free0") | (apply Box.free; assumption; tm_at "fr"; tm_at "free0") | (apply Fr.free; assumption; apply Fr.free; assumption; tm_at "free0") | fail "no way"))
local macro_rules | `(tactic| tm_at "fr") => `(tactic| (first | assumption | exact Fr.refl0 _ | exact Fr.refl (Box.nt (by assumption)) | (refine Fr.comp0 ?_ (by tm_at "f0"); tm_at "fr") | (refine Fr.comp ?_ (by assumption); tm_at "fr") | (refine Fr.compN ?_ (by assumption) (by tm_at "free"); tm_at "fr") | fail "no way"))
local macro_rules | `(tactic| tm_at "call") => `(tactic| fail "no call")
local macro_rules | `(tactic| tm_at "call") => `(tactic| (apply take_step; tm_at "hp"; tm_at "sc"; tm_at "sc"; intro r H1 h0 h1 hB fr))
local macro_rules | `(tactic| tm_at "ty") => `(tactic| (first | assumption | exact .base .non | exact .base (.bl _) | exact .base (.int _) | exact .base (.str _) | (apply TyX.base; apply TyOf.lst; tm_at "hp") | (apply TyX.base; apply TyOf.tup; tm_at "hp") | fail "no way"))
local macro_rules | `(tactic| tm_at "pre") => `(tactic| fail "none")
local macro_rules | `(tactic| tm_at "go1") => `(tactic| (first | tm_at "pre" | refine ⟨_, rfl, ?_⟩ | refine ⟨_, _, rfl, rfl, ?_⟩ | (apply set_step; tm_at "hp"; tm_at "sc"; tm_at "sc"; intro H1 hp fr) | (with_reducible refine iteDI ?_ ?_ <;> intro c) | (with_reducible refine iteDS ?_ ?_ <;> intro c) | (with_reducible refine iteD ?_ ?_ <;> intro c) | (with_reducible refine iteEM ?_ ?_ <;> intro c) | (with_reducible refine iteE ?_ ?_ <;> intro c) | with_reducible refine iteN ?_ | with_reducible refine iteF ?_ | with_reducible refine iteT ?_ | (refine fun (p : Addr) (np : _ = (none : Option HO)) => ?_; fail_if_success (refine ⟨fun (_ _ : Nat) (_ : Hp) => True, ?_⟩)) | (apply isi_tt; tm_at "ty"; focus (decide +kernel)) | (apply isi_ff; tm_at "ty"; focus (decide +kernel)) | (apply sl_step; tm_at "hp"; intro qq H1 ms nq hq fr) | (apply sum_step; tm_at "hp"; intro i) | (apply tru_step; tm_at "hp") | (apply len_step; tm_at "hp") | (apply lenq_step; assumption) | (apply ixq_step; assumption; tm_at "sc"; tm_at "sc"; intro v hv) | (apply lst_step; tm_at "hp") | (apply tupl_step; tm_at "hp") | (apply ixr_step; tm_at "hp"; exact rfl) | (apply ix0_step; tm_at "hp") | (apply ix1_step; tm_at "hp") | (apply ix2_step; tm_at "hp") | (apply ixi_step; tm_at "hp"; tm_at "sc"; tm_at "sc"; intro n hn hn') | (apply ixl_step; tm_at "hp"; tm_at "sc"; tm_at "sc"; intro v hv) | (apply ixt_step; tm_at "hp"; tm_at "sc"; tm_at "sc"; intro v hm hv) | (apply in_step; tm_at "hp"; rfl; rfl) | (apply cat_step; tm_at "hp"; tm_at "hp"; tm_at "sc") | (apply catT_step; tm_at "hp"; tm_at "hp"; tm_at "sc1") | (apply tyL_and; tm_at "hp") | (apply app_step; tm_at "hp"; tm_at "sc"; intro H1 hp fr) | tm_at "call" | refine ⟨⟨_, rfl⟩, ?_⟩ | (apply ixs_step; tm_at "sc"; tm_at "sc"; tm_at "sc"; intro ch) | refine .inl ⟨_, rfl, ?_⟩ | refine .inr ⟨_, rfl, ?_⟩ | (apply And.intro; tm_at "sc") | (with_reducible refine wayB ?_ ?_ <;> intro c) | fail "no way"))
local macro_rules | `(tactic| tm_at "go") => `(tactic| (repeat tm_at "go1"))
local macro_rules | `(tactic| tm_at "goo") => `(tactic| (repeat' tm_at "go1"))
local macro_rules | `(tactic| tm_at "den") => `(tactic| (first | assumption | exact Den.str _ | exact Den.int _ | exact Den.bl _ | exact Den.non | (apply Den.tups; tm_at "hp"; tm_at "dens") | (apply Den.fr; tm_at "f0"; tm_at "den") | fail "no way"))
local macro_rules | `(tactic| tm_at "dens") => `(tactic| (first | assumption | exact Dens.nil | (apply Dens.cons; tm_at "den"; tm_at "dens") | (apply Dens.fr; tm_at "f0"; tm_at "dens") | fail "no way"))
local macro_rules | `(tactic| tm_at "ix") => `(tactic| (apply Ix.mk; tm_at "hp"; tm_at "ne"; assumption; assumption))
local macro_rules | `(tactic| tm_at "dep") => `(tactic| (first | assumption | exact Dep.int | exact Dep.str | exact Dep.bl | exact Dep.non | (apply Dep.tup; tm_at "dlen"; tm_at "deps") | (apply Dep.mono; assumption; decide) | fail "no way"))
local macro_rules | `(tactic| tm_at "deps") => `(tactic| (first | assumption | exact memN | (apply memC; tm_at "dep"; tm_at "deps") | fail "no way"))
local macro_rules | `(tactic| tm_at "dlen") => `(tactic| (first | assumption | (focus (simp; done)) | omega | fail "no way"))
local macro_rules | `(tactic| tm_at "pre") => `(tactic| (apply rep_step; tm_at "hp"; tm_at "sc"; tm_at "sc"; intro rp H1 nrp hrp fr))

local macro_rules | `(tactic| tm_at "lits") => `(tactic| (try simp only [l_nl, l_open, l_close, l_sp, l_quo, l_bs, l_minus, l_zero, l_empty, l_n] at c))
local macro_rules | `(tactic| tm_at "pre") => `(tactic| (first | (apply slm_step; tm_at "sc"; tm_at "sc"; tm_at "sc") | (apply slf_step; tm_at "sc"; tm_at "sc") | (apply slt_step; tm_at "sc"; tm_at "sc") | (with_reducible refine iteEqZ ?_ ?_ <;> (intro c; tm_at "lits")) | (apply catS_step; tm_at "sc") | (apply inD_step) | (apply ordS_step) | (apply intS_step; assumption) | (apply sign_step) | (apply lenS_step; tm_at "sc")))
local macro_rules | `(tactic| tm_at "pre") => `(tactic| (apply while_go))
local macro_rules | `(tactic| tm_at "pre") => `(tactic| (apply ixS_step; tm_at "sc"; tm_at "sc"; assumption))
local macro_rules | `(tactic| tm_at "pre") => `(tactic| (apply appB_step; tm_at "hp"; tm_at "sc"; intro H1 hp fr))

local macro_rules | `(tactic| tm_at "call") => `(tactic| (first | (apply isEr_step; assumption) | (apply isEt_step; assumption)))
set_option pp.deepTerms false
set_option pp.deepTerms.threshold 3
abbrev s_is_refused : Stmt := top 43
theorem sc_is_refused : FnScope ["_law_note_here", "raised"] ["_law_note_here"] (defScope s_is_refused) := ⟨rfl, rfl, rfl, by decide +kernel, rfl, by decide +kernel, by decide +kernel⟩

theorem ok_refused {C CL CS CE : Addr} (T : Bl mg) (R : Errs K mg C CL CS CE) (G_p_read_datum : CalX P w K mg base 5 "read_datum" ["text"] (spRdm K C)) (D : Def1 K mg "_law_is_refused" s_is_refused) : Cal P w K mg base 6 "_law_is_refused" ["_law_note_here"] spRef := by
  refine Def1T.cal D sc_is_refused (fun _ _ _ _ _ _ us hl => match us, hl with | [_], _ => rfl) (fun vs H Q E h => ?_) (fun f cdv A outer s H vs Q E hr h => ?_) <;> unfold spRef at h
  · obtain ⟨a, rfl, _⟩ := h
    rfl
  · obtain ⟨a, rfl, hl, n, k⟩ := h
    have hr1 : Room 5 _ := hr.mono (by decide)
    refine ⟨_, pss_cons (ps_try_as (i := 1) (Wout := fun _ _ _ _ => False) (ts := tOnly C _) rfl rfl sc_is_refused.nd rfl rfl ⟨rfl, by decide, Or.inl R.gL⟩ takes0
      (fun W pn xe tk _ => pss_one (ps_expr (pe_calX G_p_read_datum tk hr1 (by rfl) (pa_cons (pv 0) pa_nil))))
      (fun a oe cls d pn hz hf => pss_only (t := fun a => _) fun e1 e2 =>
        pss_cons (ps_if (PW.pt (pw_or (pt_not (pt_val (pe_callB (call_isEx R.ec e1 e2 hz hf) (by rfl) T.z_isinstance (by decide +kernel) (pa_cons (pv 1) (pa_cons (pe_glob (v := .ref C) (by rfl) R.gC rfl) pa_nil))))) (pw_or1 (pt_not (pt_val (pe_callB (call_isEx R.ec e1 e2 hz hf) (by rfl) T.z_isinstance (by decide +kernel) (pa_cons (pv 1) (pa_cons (pe_bltn (v := .ty "ValueError") (by rfl) R.zV (by decide +kernel) rfl) pa_nil)))))))) (pss_one (ps_ret pe_bl)) pss_nil)
        (pss_one (ps_ret (pe_and (pe_not (pe_callB (call_isEx R.ec e1 e2 hz hf) (by rfl) T.z_isinstance (by decide +kernel) (pa_cons (pv 1) (pa_cons (pe_glob (v := .ref CS) (by rfl) R.gS rfl) pa_nil)))) (pe_one (pe_not (pe_callB (call_isEx R.ec e1 e2 hz hf) (by rfl) T.z_isinstance (by decide +kernel) (pa_cons (pv 1) (pa_cons (pe_glob (v := .ref CE) (by rfl) R.gE rfl) pa_nil)))))))))) (pss_one (ps_ret pe_bl)), ?_⟩
    refine ⟨_, rfl, ?_⟩
    have big : a.length ≤ 1000000 := by omega
    refine rdm_step big (fun t ht => absurd ht (n t)) (fun _ H' f => ?_)
    refine ⟨true, R.xL, fun _ x nx => ?_, fun q => Bool.noConfusion q⟩
    refine ⟨rfl, rfl, ?_⟩
    refine ⟨_, rfl, ?_⟩
    have kC := R.kC
    have kV := R.kV
    have kS := R.kS
    have kE := R.kE
    tm_at "goo"
    all_goals exact k _ f
end
end K4
set_option Elab.async false
set_option linter.all false
set_option maxRecDepth 100000
set_option maxHeartbeats 4000000
namespace K4
open PySem PySem.Spec PyProof.Rows L2 M14 SX
@[irreducible] def spIrd : Sp := fun vs H Q _ => ∃ a : List Nat, vs = [.str (S a)] ∧ a.length ≤ 100000 ∧ ∀ H', Fr [] H H' → Q (.bl true) H'
theorem ird_step {a : List Nat} {H : Hp} {Q : VK} {E : XK} (hl : a.length ≤ 100000) (k : ∀ H', Fr [] H H' → Q (.bl true) H') : spIrd ([.str (S a)] ++ []) H Q E := by
  unfold spIrd
  exact ⟨a, rfl, hl, k⟩
theorem in_stepB {a : List Nat} {H : Hp} {Q : VK} {E : XK} (hl : a.length ≤ 100000) (k : ∀ b H', (b = true ↔ ∃ t, Note a t) → Fr [] H H' → Q (.bl b) H') : spIn ([.str (S a)] ++ []) H Q E := by
  unfold spIn
  exact ⟨a, rfl, hl, k⟩
/-- read_datum of a note -/
theorem rdmN_step {K : PySem.W.Frag} {C : Addr} {a : List Nat} {t : T} {H : Hp} {Q : VK} {E : XK} (hl : a.length ≤ 100000) (n : Note a t) (h1 : ∀ v H', Den K H' v t → Fr [] H H' → Q v H') : spRdm K C ([.str (S a)] ++ []) H Q E :=
  rdm_step (by omega) (fun u hu v H' d f => by rw [Note.inj hu n] at d; exact h1 v H' d f) (fun h => absurd n (h t))
theorem fnp_cal {P : Program} {w : World} {K : PySem.W.Frag} {mg : Str → Option Value} {base : Heap} {m qual : Str} {st : Stmt} {N ps : List Str} {k : Nat} {sp : Sp} {f : Addr} {fd : FuncData} (F : FnP K m qual st f fd) (S : FnScope N ps (defScope st))
    (hb : ∀ (kV doc pm : Value) (an : Option Addr) (cdv ct : Value) (us : List Value), us.length = ps.length → bindArgs (PySem.W.fnOf m qual (defArgs st) (defBody st) (defScope st) .none kV doc pm an cdv ct) ⟨us, []⟩ = pure (ps.zip us))
    (len : ∀ vs H Q E, sp vs H Q E → vs.length = ps.length)
    (hbody : ∀ (f : Addr) (cdv : Value) (A : Around) (outer : List Env) (s : Shared) (H : Hp) (vs : List V) (Q : VK) (E : XK), Room k (A.deeper (envOfC qual (defScope st) s.heap.objs.size f cdv)) → sp vs H Q E →
      ∃ t, PSs (cxOf CX0 P w K mg base N qual (defScope st) f cdv A outer s H E).nox (defBody st) t ∧ t { nx := fun _ H' => Q .non H', rt := Q } (start N vs) H) : FnOk P w K mg base CX0 (k + 1) f fd ps sp ∧ Binds K fd ps [] := by
  refine ⟨F.ok S len fun cdv A outer s H vs Q E hr h => ?_, F.bindsN hb⟩
  obtain ⟨t, h1, h2⟩ := hbody f cdv A outer s H vs Q E hr h
  exact ⟨t, h1.nox, h2⟩
@[irreducible] def ZM (b x : Addr) (W : V) (s : V) (H0 : Hp) (_ : Nat) (σ : L2.St) (H' : Hp) : Prop := ∃ y : Option V, σ = [some s, some (.ref b), some (.ref x), some W, y] ∧ Box H' b ∧ Fr [] H0 H'
def spLaw (K : PySem.W.Frag) : Sp := fun vs H Q _ => ∃ (a : Addr) (ns : List Int), vs = [.ref a] ∧ SqL K H a (ns.map V.int) ∧ ∀ H', Q (.bl true) H'
section
variable {P : Program} {w : World} {K : PySem.W.Frag} {mg : Str → Option Value} {base : Heap}
set_option hygiene false
local macro_rules | `(tactic| tm_at "sc") => `(tactic| (first | omega | (simp only [List.length_cons, List.length_nil, List.length_map, List.length_set, List.length_append]; omega) | (simp only [List.length_map] at h1 ⊢; omega) | (simp only [List.length_map] at c ⊢; omega) | with_reducible assumption | exact And.intro (by omega) (by omega) | exact Or.inl (And.intro (by omega) (by omega)) | exact Or.inr (And.intro (by omega) (by omega)) | decide +kernel | exact len1000 (by simp) | rfl | fail "no way"))
local macro_rules | `(tactic| tm_at "sc1") => `(tactic| (focus (simp; done)))
local macro_rules | `(tactic| tm_at "ne") => `(tactic| (first | assumption | exact Ne.symm (by assumption) | (apply Box.ne2; assumption; tm_at "hp") | (apply Ne.symm; apply Box.ne2; assumption; tm_at "hp") | (apply ne_of_none2; assumption; tm_at "hp") | (apply Ne.symm; apply ne_of_none2; assumption; tm_at "hp") | fail "no way"))
local macro_rules | `(tactic| tm_at "f0") => `(tactic| (first | assumption | (apply Fr.new; assumption) | fail "no way"))
local macro_rules | `(tactic| tm_at "hp") => `(tactic| (first | assumption | exact upd_same | (apply SqL.of; first | assumption | exact upd_same) | (apply Fr.at0; tm_at "f0"; tm_at "hp") | (apply Fr.at1n; assumption; tm_at "ne"; tm_at "hp") | (apply sqFr0; tm_at "f0"; tm_at "hp") | (apply sqFr1; assumption; tm_at "ne"; tm_at "hp") | (apply Box.fr0; tm_at "f0"; tm_at "hp") | (apply Box.fr1; assumption; tm_at "ne"; tm_at "hp") | (apply Den.fr; tm_at "f0"; tm_at "hp") | (apply Dens.fr; tm_at "f0"; tm_at "hp") | fail "no way"))
local macro_rules | `(tactic| tm_at "free0") => `(tactic| (first | assumption | (apply updFree; assumption) | (apply updFree; apply updFree; assumption) | (apply updFree; apply updFree; apply updFree; assumption) | (apply updFree; apply updFree; apply updFree; apply updFree; assumption) | fail "no way"))
local macro_rules | `(tactic| tm_at "free") => `(tactic| (first | tm_at "free0" | (apply Fr.free; assumption; tm_at "free0") | (apply Box.free; assumption; tm_at "fr"; tm_at "free0") | (apply Fr.free; assumption; apply Fr.free; assumption; tm_at "free0") | fail "no way"))
local macro_rules | `(tactic| tm_at "fr") => `(tactic| (first | assumption | exact Fr.refl0 _ | exact Fr.refl (Box.nt (by assumption)) | (refine Fr.comp0 ?_ (by tm_at "f0"); tm_at "fr") | (refine Fr.comp ?_ (by assumption); tm_at "fr") | (refine Fr.compN ?_ (by assumption) (by tm_at "free"); tm_at "fr") | fail "no way"))
local macro_rules | `(tactic| tm_at "call") => `(tactic| fail "no call")
local macro_rules | `(tactic| tm_at "call") => `(tactic| (apply take_step; tm_at "hp"; tm_at "sc"; tm_at "sc"; intro r H1 h0 h1 hB fr))
local macro_rules | `(tactic| tm_at "ty") => `(tactic| (first | assumption | exact .base .non | exact .base (.bl _) | exact .base (.int _) | exact .base (.str _) | (apply TyX.base; apply TyOf.lst; tm_at "hp") | (apply TyX.base; apply TyOf.tup; tm_at "hp") | fail "no way"))
local macro_rules | `(tactic| tm_at "pre") => `(tactic| fail "none")
local macro_rules | `(tactic| tm_at "go1") => `(tactic| (first | tm_at "pre" | refine ⟨_, rfl, ?_⟩ | refine ⟨_, _, rfl, rfl, ?_⟩ | (apply set_step; tm_at "hp"; tm_at "sc"; tm_at "sc"; intro H1 hp fr) | (with_reducible refine iteDI ?_ ?_ <;> intro c) | (with_reducible refine iteDS ?_ ?_ <;> intro c) | (with_reducible refine iteD ?_ ?_ <;> intro c) | (with_reducible refine iteEM ?_ ?_ <;> intro c) | (with_reducible refine iteE ?_ ?_ <;> intro c) | with_reducible refine iteN ?_ | with_reducible refine iteF ?_ | with_reducible refine iteT ?_ | (refine fun (p : Addr) (np : _ = (none : Option HO)) => ?_; fail_if_success (refine ⟨fun (_ _ : Nat) (_ : Hp) => True, ?_⟩)) | (apply isi_tt; tm_at "ty"; focus (decide +kernel)) | (apply isi_ff; tm_at "ty"; focus (decide +kernel)) | (apply sl_step; tm_at "hp"; intro qq H1 ms nq hq fr) | (apply sum_step; tm_at "hp"; intro i) | (apply tru_step; tm_at "hp") | (apply len_step; tm_at "hp") | (apply lenq_step; assumption) | (apply ixq_step; assumption; tm_at "sc"; tm_at "sc"; intro v hv) | (apply lst_step; tm_at "hp") | (apply tupl_step; tm_at "hp") | (apply ixr_step; tm_at "hp"; exact rfl) | (apply ix0_step; tm_at "hp") | (apply ix1_step; tm_at "hp") | (apply ix2_step; tm_at "hp") | (apply ixi_step; tm_at "hp"; tm_at "sc"; tm_at "sc"; intro n hn hn') | (apply ixl_step; tm_at "hp"; tm_at "sc"; tm_at "sc"; intro v hv) | (apply ixt_step; tm_at "hp"; tm_at "sc"; tm_at "sc"; intro v hm hv) | (apply in_step; tm_at "hp"; rfl; rfl) | (apply cat_step; tm_at "hp"; tm_at "hp"; tm_at "sc") | (apply catT_step; tm_at "hp"; tm_at "hp"; tm_at "sc1") | (apply tyL_and; tm_at "hp") | (apply app_step; tm_at "hp"; tm_at "sc"; intro H1 hp fr) | tm_at "call" | refine ⟨⟨_, rfl⟩, ?_⟩ | (apply ixs_step; tm_at "sc"; tm_at "sc"; tm_at "sc"; intro ch) | refine .inl ⟨_, rfl, ?_⟩ | refine .inr ⟨_, rfl, ?_⟩ | (apply And.intro; tm_at "sc") | (with_reducible refine wayB ?_ ?_ <;> intro c) | fail "no way"))
local macro_rules | `(tactic| tm_at "go") => `(tactic| (repeat tm_at "go1"))
local macro_rules | `(tactic| tm_at "goo") => `(tactic| (repeat' tm_at "go1"))
local macro_rules | `(tactic| tm_at "den") => `(tactic| (first | assumption | exact Den.str _ | exact Den.int _ | exact Den.bl _ | exact Den.non | (apply Den.tups; tm_at "hp"; tm_at "dens") | (apply Den.fr; tm_at "f0"; tm_at "den") | fail "no way"))
local macro_rules | `(tactic| tm_at "dens") => `(tactic| (first | assumption | exact Dens.nil | (apply Dens.cons; tm_at "den"; tm_at "dens") | (apply Dens.fr; tm_at "f0"; tm_at "dens") | fail "no way"))
local macro_rules | `(tactic| tm_at "ix") => `(tactic| (apply Ix.mk; tm_at "hp"; tm_at "ne"; assumption; assumption))
local macro_rules | `(tactic| tm_at "dep") => `(tactic| (first | assumption | exact Dep.int | exact Dep.str | exact Dep.bl | exact Dep.non | (apply Dep.tup; tm_at "dlen"; tm_at "deps") | (apply Dep.mono; assumption; decide) | fail "no way"))
local macro_rules | `(tactic| tm_at "deps") => `(tactic| (first | assumption | exact memN | (apply memC; tm_at "dep"; tm_at "deps") | fail "no way"))
local macro_rules | `(tactic| tm_at "dlen") => `(tactic| (first | assumption | (focus (simp; done)) | omega | fail "no way"))
local macro_rules | `(tactic| tm_at "pre") => `(tactic| (apply rep_step; tm_at "hp"; tm_at "sc"; tm_at "sc"; intro rp H1 nrp hrp fr))

local macro_rules | `(tactic| tm_at "lits") => `(tactic| (try simp only [l_nl, l_open, l_close, l_sp, l_quo, l_bs, l_minus, l_zero, l_empty, l_n] at c))
local macro_rules | `(tactic| tm_at "pre") => `(tactic| (first | (apply slm_step; tm_at "sc"; tm_at "sc"; tm_at "sc") | (apply slf_step; tm_at "sc"; tm_at "sc") | (apply slt_step; tm_at "sc"; tm_at "sc") | (with_reducible refine iteEqZ ?_ ?_ <;> (intro c; tm_at "lits")) | (apply catS_step; tm_at "sc") | (apply inD_step) | (apply ordS_step) | (apply intS_step; assumption) | (apply sign_step) | (apply lenS_step; tm_at "sc")))
local macro_rules | `(tactic| tm_at "pre") => `(tactic| (apply while_go))
local macro_rules | `(tactic| tm_at "pre") => `(tactic| (apply ixS_step; tm_at "sc"; tm_at "sc"; assumption))
local macro_rules | `(tactic| tm_at "pre") => `(tactic| (apply appB_step; tm_at "hp"; tm_at "sc"; intro H1 hp fr))

set_option pp.deepTerms false
set_option pp.deepTerms.threshold 3
abbrev s_is_read : Stmt := top 44
theorem sc_is_read : FnScope ["_law_note_here", "_law_told", "_law_again"] ["_law_note_here"] (defScope s_is_read) := ⟨rfl, rfl, rfl, by decide +kernel, rfl, by decide +kernel, by decide +kernel⟩

theorem ok_is_read {C : Addr} (T : Bl mg) (G_is_note : Cal P w K mg base 4 "_law_is_note" ["_law_note_here"] spIn) (G_is_refused : Cal P w K mg base 6 "_law_is_refused" ["_law_note_here"] spRef) (G_p_read_datum : CalX P w K mg base 5 "read_datum" ["text"] (spRdm K C))
    (G_is_datum : Cal P w K mg base 62 "_law_is_datum" ["_law_told", "_law_room"] (spId K 61)) (G_note : Cal P w K mg base 62 "_law_note" ["_law_datum_here"] (spWr K 61)) (G_p_write_datum : Cal P w K mg base 62 "write_datum" ["datum"] (spWr K 61)) (D : Def1 K mg "_law_is_read" s_is_read) : Cal P w K mg base 63 "_law_is_read" ["_law_note_here"] spIrd := by
  refine D.cal sc_is_read (fun _ _ _ _ _ _ us hl => match us, hl with | [_], _ => rfl) (fun vs H Q E h => ?_) (fun f cdv A outer s H vs Q E hr h => ?_) <;> unfold spIrd at h
  · obtain ⟨a, rfl, _⟩ := h
    rfl
  · obtain ⟨a, rfl, hl, k⟩ := h
    refine ⟨_, (pss_cons (ps_if (pt_not (pt_val (pe_cal G_is_note (hr.mono (by omega)) (by rfl) (pa_cons (pv 0) pa_nil))))
      (pss_one (ps_ret (pe_cal G_is_refused (hr.mono (by omega)) (by rfl) (pa_cons (pv 0) pa_nil))))
      pss_nil)
    (pss_cons (ps_set (i := 1) sc_is_read.nd rfl (Or.inl rfl) (pe_calL G_p_read_datum (hr.mono (by omega)) (by rfl) (pa_cons (pv 0) pa_nil)))
    (pss_cons (ps_if (PW.pt (pw_or (pt_not (pt_val (pe_cal G_is_datum (hr.mono (by omega)) (by rfl) (pa_cons (pv 1) (pa_cons pe_int pa_nil))))) (pw_or1 (pt_cmpR op_ne (pe_cal G_note (hr.mono (by omega)) (by rfl) (pa_cons (pv 1) pa_nil)) (pv 0) (nomark _)))))
      (pss_one (ps_ret pe_bl))
      pss_nil)
    (pss_cons (ps_set (i := 2) sc_is_read.nd rfl (Or.inl rfl) (pe_cal G_p_write_datum (hr.mono (by omega)) (by rfl) (pa_cons (pv 1) pa_nil)))
    (pss_one (ps_ret (pe_and (pe_callB (cIsi K) (by rfl) T.z_isinstance (by decide +kernel) (pa_cons (pv 2) (pa_cons (pe_bltn (v := .ty "str") (by rfl) T.z_str (by decide +kernel) rfl) pa_nil))) (pe_one (pe_cmpR op_eq (pv 2) (pv 0) (nomark _)))))))))), ?_⟩
    tm_at "go1"
    refine in_stepB hl fun b H1 hb f1 => ?_
    cases b with
    | false =>
      have n : ∀ t, ¬ Note a t := fun t ht => Bool.false_ne_true (hb.mpr ⟨t, ht⟩)
      tm_at "goo"
      exact ref_step hl n fun H2 f2 => k _ (f1.comp0 f2)
    | true =>
      obtain ⟨t, ht⟩ := hb.mp rfl
      have e := ht.1
      have wf := ht.2
      tm_at "goo"
      refine rdmN_step hl ht fun v H2 hv f2 => ?_
      tm_at "goo"
      refine id_step hv wf (by decide) (by decide) ?_
      tm_at "goo"
      refine wr_step hv wf (by rw [← e]; exact hl) fun H3 f3 => ?_
      tm_at "goo"
      · refine wr_step (hv.fr f3) wf (by rw [← e]; exact hl) fun H4 f4 => ?_
        tm_at "goo"
        · subst e
          refine fin_bl (decide_eq_true rfl) ?_
          exact k _ (((f1.comp0 f2).comp0 f3).comp0 f4)
      · exact absurd e.symm c
abbrev s_law : Stmt := top 45
theorem sc_law : FnScope ["_law_script", "_law_bag_here", "_law_built", "_law_note_here", "_law_turn"] ["_law_script"] (defScope s_law) := ⟨rfl, rfl, rfl, by decide +kernel, rfl, by decide +kernel, by decide +kernel⟩

theorem fun_law {C : Addr} {f : Addr} {fd : FuncData} (T : Bl mg) (G_bag : Cal P w K mg base 1 "_law_bag" ["_law_script", "_law_at"] (spBag K)) (G_take : Cal P w K mg base 1 "_law_take" ["_law_bag_here", "_law_size"] spTake) (G_datum : Cal P w K mg base 4 "_law_datum" ["_law_bag_here"] (spDa K)) (G_p_write_datum : Cal P w K mg base 62 "write_datum" ["datum"] (spWr K 61)) (G_note : Cal P w K mg base 62 "_law_note" ["_law_datum_here"] (spWr K 61))
    (G_same : Cal P w K mg base 62 "_law_same" ["_law_told", "_law_due"] (spSa K 61)) (G_p_read_datum : CalX P w K mg base 5 "read_datum" ["text"] (spRdm K C)) (G_is_read : Cal P w K mg base 63 "_law_is_read" ["_law_note_here"] spIrd) (G_spoiled : Cal P w K mg base 64 "_law_spoiled" ["_law_bag_here", "_law_built"] (spSpo K)) (D : FnP K "law" "law" s_law f fd) : FnOk P w K mg base CX0 65 f fd ["_law_script"] (spLaw K) := by
  refine (fnp_cal D sc_law (fun _ _ _ _ _ _ us hl => match us, hl with | [_], _ => rfl) (fun vs H Q E h => ?_) (fun f cdv A outer s H vs Q E hr h => ?_)).1 <;> unfold spLaw at h
  · obtain ⟨a, ns, rfl, _⟩ := h
    rfl
  · obtain ⟨a, ns, rfl, hs, q⟩ := h
    refine ⟨_, (pss_cons (ps_set (i := 1) sc_law.nd rfl (Or.inl rfl) (pe_cal G_bag (hr.mono (by omega)) (by rfl) (pa_cons (pv 0) (pa_cons pe_int pa_nil))))
    (pss_cons (ps_set (i := 2) sc_law.nd rfl (Or.inl rfl) (pe_cal G_datum (hr.mono (by omega)) (by rfl) (pa_cons (pv 1) pa_nil)))
    (pss_cons (ps_set (i := 3) sc_law.nd rfl (Or.inl rfl) (pe_cal G_p_write_datum (hr.mono (by omega)) (by rfl) (pa_cons (pe_ix (ixL K) (pv 2) pe_int (fun _ _ => rfl)) pa_nil)))
    (pss_cons (ps_if (PW.pt (pw_or (pt_not (pt_val (pe_callB (cIsi K) (by rfl) T.z_isinstance (by decide +kernel) (pa_cons (pv 3) (pa_cons (pe_bltn (v := .ty "str") (by rfl) T.z_str (by decide +kernel) rfl) pa_nil))))) (pw_or1 (pt_cmpR op_ne (pv 3) (pe_cal G_note (hr.mono (by omega)) (by rfl) (pa_cons (pe_ix (ixL K) (pv 2) pe_int (fun _ _ => rfl)) pa_nil)) (nomark _)))))
      (pss_one (ps_ret pe_bl))
      pss_nil)
    (pss_cons (ps_if (PW.pt (pw_or (pt_not (pt_val (pe_cal G_same (hr.mono (by omega)) (by rfl) (pa_cons (pe_calL G_p_read_datum (hr.mono (by omega)) (by rfl) (pa_cons (pv 3) pa_nil)) (pa_cons (pe_ix (ixL K) (pv 2) pe_int (fun _ _ => rfl)) pa_nil))))) (pw_or1 (pt_not (pt_val (pe_cal G_is_read (hr.mono (by omega)) (by rfl) (pa_cons (pv 3) pa_nil)))))))
      (pss_one (ps_ret pe_bl))
      pss_nil)
    (pss_cons (ps_set (i := 1) sc_law.nd rfl (Or.inl rfl) (pe_cal G_bag (hr.mono (by omega)) (by rfl) (pa_cons (pv 0) (pa_cons pe_int pa_nil))))
    (pss_cons (ps_for PassesOwn.never rfl (pi_range1 (by rfl) T.z_range (pa_cons (pe_op op_add pe_int (pe_cal G_take (hr.mono (by omega)) (by rfl) (pa_cons (pv 1) (pa_cons pe_int pa_nil)))) pa_nil)) (pg_name (i := 4) sc_law.nd rfl (Or.inl rfl))
      (pss_one (ps_if (pt_not (pt_val (pe_cal G_is_read (hr.mono (by omega)) (by rfl) (pa_cons (pe_cal G_spoiled (hr.mono (by omega)) (by rfl) (pa_cons (pv 1) (pa_cons (pv 2) pa_nil))) pa_nil))))
        (pss_one (ps_ret pe_bl))
        pss_nil)))
    (pss_one (ps_ret pe_bl))))))))), ?_⟩
    refine ⟨_, rfl, ?_⟩
    refine bag_step hs (by decide) (by decide) fun b1 H1 nb1 hB1 f1 => ?_
    refine ⟨_, rfl, ?_⟩
    refine da_step hB1 fun x p H2 hx hp hw hB2 f2 => ?_
    have F2 : Fr [] H H2 := f1.compN f2 nb1
    have hx2 := hx
    obtain ⟨q0, v0, rfl, hq, hv, hwf⟩ := hx
    have wf : WF 60 p.1 := hwf.mono hp
    refine ⟨_, rfl, ?_⟩
    refine ixr_step (.of hq) (atI_nat (j := 0) rfl) ?_
    refine wr_step hv wf (by omega) fun H3 f3 => ?_
    tm_at "goo"
    refine wr_step (hv.fr f3) wf (by omega) fun H4 f4 => ?_
    tm_at "goo"
    · have hn : Note (wr p.1) p.1 := ⟨rfl, wf⟩
      refine rdmN_step (by omega) hn fun v2 H5 hv2 f5 => ?_
      have F24 : Fr [] H2 H5 := (f3.comp0 f4).comp0 f5
      have hq5 := F24.at0 hq
      tm_at "goo"
      refine sa_step hv2 (hv.fr F24) wf (by omega) ?_
      tm_at "goo"
      refine ird_step (by omega) fun H6 f6 => ?_
      have F26 : Fr [] H2 H6 := F24.comp0 f6
      have hs6 := sqFr0 F26 (sqFr0 F2 hs)
      tm_at "goo"
      refine bag_step hs6 (by decide) (by decide) fun b2 H7 nb2 hB7 f7 => ?_
      have F27 : Fr [] H2 H7 := F26.comp0 f7
      have nbH2 : H2 b2 = none := F26.free nb2
      tm_at "goo"
      refine forR (lo := 0) (ZM b2 q0 (.str (S (wr p.1))) (.ref a) H2) ?_ (fun i σ H8 hi hm => ?_) (fun σ H8 hm => ?_)
      · unfold ZM
        exact ⟨_, rfl, hB, F27.compN fr nbH2⟩
      · unfold ZM at hm
        obtain ⟨y, rfl, hB8, F8⟩ := hm
        show tIfS _ _ _ _ _ _
        tm_at "goo"
        refine spo_step hB8 (hx2.fr0 F8) hp hw fun z H9 hz hB9 f9 => ?_
        tm_at "goo"
        refine ird_step hz fun H10 f10 => ?_
        tm_at "goo"
        show ZM b2 q0 _ _ _ (i + 1) _ _
        unfold ZM
        exact ⟨_, rfl, hB9.fr0 f10, (F8.compN f9 nbH2).comp0 f10⟩
      · unfold ZM at hm
        obtain ⟨y, rfl, hB8, F8⟩ := hm
        tm_at "goo"
        exact q _
    · exact absurd rfl c
end
end K4
set_option Elab.async false
set_option linter.all false
set_option maxRecDepth 100000
set_option maxHeartbeats 4000000
namespace K4
open PySem PySem.Spec PyProof.Rows L2 M14 SX
abbrev kvEsc : List (Str × He.Dv) := [("\\", .str "\\"), ("\"", .str "\""), ("n", .str "\n")]
abbrev kvCon : List (Str × He.Dv) := [("none", .non), ("true", .bl true), ("false", .bl false)]
theorem litT {z : Str} {l : List Nat} (h : z.cps.toList = l) : z = S l := by rw [← h, S_tl]
theorem esc_tab {K : PySem.W.Frag} (z : Str) : match fEsc z with
    | none => z ∉ kvEsc.map (·.1)
    | some v => ∃ q ∈ kvEsc, q.1 = z ∧ q.2.v K = v := by
  by_cases h : z ∈ kvEsc.map (·.1)
  · simp only [kvEsc, List.map_cons, List.map_nil, List.mem_cons, List.not_mem_nil, or_false] at h
    rcases h with rfl | rfl | rfl
    · have e : fEsc (Str.ofString "\\") = some (.str (Str.ofString "\\")) := by
        rw [litT (z := Str.ofString "\\") (l := [92]) (by decide +kernel)]; rfl
      rw [e]
      exact ⟨("\\", .str "\\"), by simp, rfl, rfl⟩
    · have e : fEsc (Str.ofString "\"") = some (.str (Str.ofString "\"")) := by
        rw [litT (z := Str.ofString "\"") (l := [34]) (by decide +kernel)]; rfl
      rw [e]
      exact ⟨("\"", .str "\""), by simp, rfl, rfl⟩
    · have e : fEsc (Str.ofString "n") = some (.str (Str.ofString "\n")) := by
        rw [litT (z := Str.ofString "n") (l := [110]) (by decide +kernel), litT (z := Str.ofString "\n") (l := [10]) (by decide +kernel)]; rfl
      rw [e]
      exact ⟨("n", .str "\n"), by simp, rfl, rfl⟩
  · have e : fEsc z = none := by
      cases hf : fEsc z with
      | none => rfl
      | some v =>
        exfalso
        apply h
        unfold fEsc at hf
        split at hf
        · rename_i c hc
          split at hf
          · rename_i hi
            have ez : z = S [c] := litT hc
            unfold isE at hi
            simp at hi
            rcases hi with (rfl | rfl) | rfl
            · rw [ez, ← litT (z := Str.ofString "\\") (l := [92]) (by decide +kernel)]; simp
            · rw [ez, ← litT (z := Str.ofString "\"") (l := [34]) (by decide +kernel)]; simp
            · rw [ez, ← litT (z := Str.ofString "n") (l := [110]) (by decide +kernel)]; simp
          · cases hf
        · cases hf
    rw [e]
    exact h
theorem con_tab {K : PySem.W.Frag} (z : Str) : match fCon z with
    | none => z ∉ kvCon.map (·.1)
    | some v => ∃ q ∈ kvCon, q.1 = z ∧ q.2.v K = v := by
  by_cases h1 : z.cps.toList = cNon
  · have ez : z = Str.ofString "none" := by rw [litT h1, ← litT l_none]
    have e : fCon z = some .non := by unfold fCon; rw [if_pos h1]
    rw [e]
    exact ⟨("none", .non), by simp, ez.symm, rfl⟩
  by_cases h2 : z.cps.toList = cTru
  · have ez : z = Str.ofString "true" := by rw [litT h2, ← litT l_true]
    have e : fCon z = some (.bl true) := by unfold fCon; rw [if_neg h1, if_pos h2]
    rw [e]
    exact ⟨("true", .bl true), by simp, ez.symm, rfl⟩
  by_cases h3 : z.cps.toList = cFal
  · have ez : z = Str.ofString "false" := by rw [litT h3, ← litT l_false]
    have e : fCon z = some (.bl false) := by unfold fCon; rw [if_neg h1, if_neg h2, if_pos h3]
    rw [e]
    exact ⟨("false", .bl false), by simp, ez.symm, rfl⟩
  have e : fCon z = none := by unfold fCon; rw [if_neg h1, if_neg h2, if_neg h3]
  rw [e]
  intro h
  simp only [kvCon, List.map_cons, List.map_nil, List.mem_cons, List.not_mem_nil, or_false] at h
  rcases h with rfl | rfl | rfl
  · exact h1 l_none
  · exact h2 l_true
  · exact h3 l_false
end K4
set_option Elab.async false
set_option linter.all false
set_option maxRecDepth 100000
set_option maxHeartbeats 0
namespace K4
open PySem PySem.Spec PyProof.Rows L2 M14 SX
theorem facts {P : Program} {w : World} {K : PySem.W.Frag} {h : Heap} {mg : Str → Option Value} {f : Addr} (X : K.In h) (G : h.Ns mainGlobals mg) (hfa : mg ("law" : Str) = some (.ref f)) (c : SaysP Hd.fa Hd.fn Hd.ts Hd.own w K) :
    ∃ fd : FuncData, (∀ (s : Shared) (v : Value), BindsTo s fd ⟨[v], []⟩ [("_law_script", v)]) ∧ ∀ base : Heap, K.In base → base.Ns mainGlobals mg → FnOk P w K mg base CX0 65 f fd ["_law_script"] (spLaw K) := by
  have D_p_other_index : Def1 K mg "other_index" s_p_other_index := let ⟨fd, F⟩ := c.def_ 0 rfl; ⟨_, fd, F, He.glo_ok X G (c.fact 0 rfl)⟩
  have D_p_is_allowed : Def1 K mg "is_allowed" s_p_is_allowed := let ⟨fd, F⟩ := c.def_ 1 rfl; ⟨_, fd, F, He.glo_ok X G (c.fact 1 rfl)⟩
  have D_p_quoted : Def1 K mg "quoted" s_p_quoted := let ⟨fd, F⟩ := c.def_ 2 rfl; ⟨_, fd, F, He.glo_ok X G (c.fact 2 rfl)⟩
  have D_p_write_datum : Def1 K mg "write_datum" s_p_write_datum := let ⟨fd, F⟩ := c.def_ 3 rfl; ⟨_, fd, F, He.glo_ok X G (c.fact 3 rfl)⟩
  have D_p_read_datum : Def1 K mg "read_datum" s_p_read_datum := let ⟨fd, F⟩ := c.def_ 4 rfl; ⟨_, fd, F, He.glo_ok X G (c.fact 4 rfl)⟩
  have D_p_read_plain : Def1 K mg "_read_plain" s_p_read_plain := let ⟨fd, F⟩ := c.def_ 5 rfl; ⟨_, fd, F, He.glo_ok X G (c.fact 5 rfl)⟩
  have D_p_is_integer : Def1 K mg "_is_integer" s_p_is_integer := let ⟨fd, F⟩ := c.def_ 6 rfl; ⟨_, fd, F, He.glo_ok X G (c.fact 6 rfl)⟩
  have D_p_read_string : Def1 K mg "_read_string" s_p_read_string := let ⟨fd, F⟩ := c.def_ 7 rfl; ⟨_, fd, F, He.glo_ok X G (c.fact 7 rfl)⟩
  have D_bag : Def1 K mg "_law_bag" s_bag := let ⟨fd, F⟩ := c.def_ 8 rfl; ⟨_, fd, F, He.glo_ok X G (c.fact 8 rfl)⟩
  have D_take : Def1 K mg "_law_take" s_take := let ⟨fd, F⟩ := c.def_ 9 rfl; ⟨_, fd, F, He.glo_ok X G (c.fact 9 rfl)⟩
  have D_whole : Def1 K mg "_law_whole" s_whole := let ⟨fd, F⟩ := c.def_ 10 rfl; ⟨_, fd, F, He.glo_ok X G (c.fact 10 rfl)⟩
  have D_allowed : Def1 K mg "_law_allowed" s_allowed := let ⟨fd, F⟩ := c.def_ 11 rfl; ⟨_, fd, F, He.glo_ok X G (c.fact 11 rfl)⟩
  have D_integer : Def1 K mg "_law_integer" s_integer := let ⟨fd, F⟩ := c.def_ 12 rfl; ⟨_, fd, F, He.glo_ok X G (c.fact 12 rfl)⟩
  have D_string : Def1 K mg "_law_string" s_string := let ⟨fd, F⟩ := c.def_ 13 rfl; ⟨_, fd, F, He.glo_ok X G (c.fact 13 rfl)⟩
  have D_leaf : Def1 K mg "_law_leaf" s_leaf := let ⟨fd, F⟩ := c.def_ 14 rfl; ⟨_, fd, F, He.glo_ok X G (c.fact 14 rfl)⟩
  have D_grouped : Def1 K mg "_law_grouped" s_grouped := let ⟨fd, F⟩ := c.def_ 15 rfl; ⟨_, fd, F, He.glo_ok X G (c.fact 15 rfl)⟩
  have D_datum : Def1 K mg "_law_datum" s_datum := let ⟨fd, F⟩ := c.def_ 16 rfl; ⟨_, fd, F, He.glo_ok X G (c.fact 16 rfl)⟩
  have D_quoted : Def1 K mg "_law_quoted" s_quoted := let ⟨fd, F⟩ := c.def_ 17 rfl; ⟨_, fd, F, He.glo_ok X G (c.fact 17 rfl)⟩
  have D_note : Def1 K mg "_law_note" s_note := let ⟨fd, F⟩ := c.def_ 18 rfl; ⟨_, fd, F, He.glo_ok X G (c.fact 18 rfl)⟩
  have D_same : Def1 K mg "_law_same" s_same := let ⟨fd, F⟩ := c.def_ 19 rfl; ⟨_, fd, F, He.glo_ok X G (c.fact 19 rfl)⟩
  have D_is_datum : Def1 K mg "_law_is_datum" s_is_datum := let ⟨fd, F⟩ := c.def_ 20 rfl; ⟨_, fd, F, He.glo_ok X G (c.fact 20 rfl)⟩
  have D_string_end : Def1 K mg "_law_string_end" s_string_end := let ⟨fd, F⟩ := c.def_ 21 rfl; ⟨_, fd, F, He.glo_ok X G (c.fact 21 rfl)⟩
  have D_leaf_end : Def1 K mg "_law_leaf_end" s_leaf_end := let ⟨fd, F⟩ := c.def_ 22 rfl; ⟨_, fd, F, He.glo_ok X G (c.fact 22 rfl)⟩
  have D_is_note : Def1 K mg "_law_is_note" s_is_note := let ⟨fd, F⟩ := c.def_ 23 rfl; ⟨_, fd, F, He.glo_ok X G (c.fact 23 rfl)⟩
  have D_odd_note : Def1 K mg "_law_odd_note" s_odd_note := let ⟨fd, F⟩ := c.def_ 24 rfl; ⟨_, fd, F, He.glo_ok X G (c.fact 24 rfl)⟩
  have D_around : Def1 K mg "_law_around" s_around := let ⟨fd, F⟩ := c.def_ 25 rfl; ⟨_, fd, F, He.glo_ok X G (c.fact 25 rfl)⟩
  have D_spoiled : Def1 K mg "_law_spoiled" s_spoiled := let ⟨fd, F⟩ := c.def_ 26 rfl; ⟨_, fd, F, He.glo_ok X G (c.fact 26 rfl)⟩
  have D_is_refused : Def1 K mg "_law_is_refused" s_is_refused := let ⟨fd, F⟩ := c.def_ 27 rfl; ⟨_, fd, F, He.glo_ok X G (c.fact 27 rfl)⟩
  have D_is_read : Def1 K mg "_law_is_read" s_is_read := let ⟨fd, F⟩ := c.def_ 28 rfl; ⟨_, fd, F, He.glo_ok X G (c.fact 28 rfl)⟩
  have T : Bl mg := ⟨⟨He.free_ok X G (c.fact 36 rfl), He.free_ok X G (c.fact 37 rfl), He.free_ok X G (c.fact 38 rfl), He.free_ok X G (c.fact 39 rfl), He.free_ok X G (c.fact 40 rfl), He.free_ok X G (c.fact 41 rfl), He.free_ok X G (c.fact 42 rfl), He.free_ok X G (c.fact 43 rfl), He.free_ok X G (c.fact 44 rfl), He.free_ok X G (c.fact 45 rfl), He.free_ok X G (c.fact 46 rfl), He.free_ok X G (c.fact 47 rfl), He.free_ok X G (c.fact 48 rfl)⟩, He.free_ok X G (c.fact 49 rfl), He.free_ok X G (c.fact 50 rfl)⟩
  have g_SPACE_CODE : GV mg "SPACE_CODE" (.int 32) := gv_int X G (c.fact 51 rfl)
  have g_TILDE_CODE : GV mg "TILDE_CODE" (.int 126) := gv_int X G (c.fact 52 rfl)
  have g_PERCENT_CODE : GV mg "PERCENT_CODE" (.int 37) := gv_int X G (c.fact 53 rfl)
  have g_DEEPEST : GV mg "DEEPEST" (.int 60) := gv_int X G (c.fact 54 rfl)
  have g_MOST_DIGITS : GV mg "MOST_DIGITS" (.int 80) := gv_int X G (c.fact 55 rfl)
  have g_DIGITS : GV mg "DIGITS" (.str "0123456789") := gv_str X G (c.fact 56 rfl)
  have ow := c.own
  obtain ⟨o0, ow⟩ := He.ba ow
  obtain ⟨o1, ow⟩ := He.ba ow
  obtain ⟨o2, ow⟩ := He.ba ow
  obtain ⟨o3, ow⟩ := He.ba ow
  obtain ⟨o4, ow⟩ := He.ba ow
  obtain ⟨o5, ow⟩ := He.ba ow
  have g_CONSTANTS : GV mg "CONSTANTS" (.ref (He.ga K "CONSTANTS")) := gv_ref X G (c.fact 30 rfl)
  have D_CONSTANTS : KD K w (He.ga K "CONSTANTS") fCon := kd_of (kvs := [("none", .non), ("true", .bl true), ("false", .bl false)]) (c.tab 0 (t := (fun K => He.ga K "CONSTANTS", ["none", "true", "false"])) rfl) o5 con_tab
  have g_ESCAPES : GV mg "ESCAPES" (.ref (He.ga K "ESCAPES")) := gv_ref X G (c.fact 31 rfl)
  have D_ESCAPES : KD K w (He.ga K "ESCAPES") fEsc := kd_of (kvs := [("\\", .str "\\"), ("\"", .str "\""), ("n", .str "\n")]) (c.tab 1 (t := (fun K => He.ga K "ESCAPES", ["\\", "\"", "n"])) rfl) ow esc_tab
  obtain ⟨fd, FL⟩ := c.def_ 29 rfl
  have e := hfa.symm.trans (He.glo_ok X G (c.fact 29 rfl))
  have ef : f = He.ga K "law" := by injection e with e; injection e
  have b := FunD.bindsA (ps := ["_law_script"]) FL fun _ _ _ _ _ _ us hl => match us, hl with | [_], _ => rfl
  refine ⟨fd, fun s v => b s [v] rfl, fun base _ _ => ?_⟩
  have R : Errs K mg (He.ga K "BadDatum") (He.ga K "LikerunError") (He.ga K "BadSave") (He.ga K "SourceError") := ⟨excB_ok o0, He.glo_ok X G (c.fact 32 rfl), He.glo_ok X G (c.fact 33 rfl), He.glo_ok X G (c.fact 34 rfl), He.glo_ok X G (c.fact 35 rfl), He.free_ok X G (c.fact 57 rfl), He.exm_ok (c.fact 59 rfl), kitOB_ok o1, kitOB_ok o2, kitOB_ok o3, kitOB_ok o4⟩
  have X_BadDatum : XC K mg "BadDatum" (He.ga K "BadDatum") := xc_of X G (c.fact 32 rfl) (c.fact 58 rfl)
  have G_other := ok_other (P := P) (w := w) (base := base) T g_SPACE_CODE g_TILDE_CODE g_PERCENT_CODE D_p_other_index
  have G_all := ok_all T G_other D_p_is_allowed
  have G_pquo := ok_quo (P := P) (w := w) (mg := mg) (base := base) D_p_quoted
  have G_isint := ok_isint (P := P) (w := w) (base := base) T g_DIGITS g_MOST_DIGITS D_p_is_integer
  have G_rst := ok_rst T X_BadDatum g_ESCAPES D_ESCAPES G_all D_p_read_string
  have G_rpl := ok_rpl T X_BadDatum g_CONSTANTS D_CONSTANTS G_isint G_rst D_p_read_plain
  have G_rdm := ok_rdm T X_BadDatum g_DEEPEST G_rpl D_p_read_datum
  have G_wri := ok_wri T G_pquo D_p_write_datum 61
  have G_take := ok_tak (P := P) (w := w) (base := base) T D_take
  have G_bag := ok_bag (P := P) (w := w) (base := base) T D_bag
  have G_who := ok_who (P := P) (w := w) (base := base) T D_whole
  have G_al := ok_al (P := P) (w := w) (mg := mg) (base := base) D_allowed
  have G_int := ok_int T G_take D_integer
  have G_str := ok_str T G_take G_al D_string
  have G_leaf := ok_leaf T G_take G_int G_str D_leaf
  have G_gr := ok_grouped (P := P) (w := w) (base := base) T D_grouped
  have G_da := ok_datum T G_take G_leaf G_gr D_datum
  have G_lq := ok_lquo (P := P) (w := w) (base := base) T D_quoted
  have G_note := ok_note T G_lq D_note 61
  have G_same := ok_sam T G_who D_same 61
  have G_isd := ok_isd (P := P) (w := w) (base := base) T D_is_datum 61
  have G_send := ok_send T G_al D_string_end
  have G_lend := ok_lend T G_send D_leaf_end
  have G_isn := ok_isn T G_lend D_is_note
  have G_odd := ok_odd T G_take D_odd_note
  have G_aro := ok_around T G_take G_note D_around
  have G_spo := ok_spoiled T G_take G_note G_al G_aro G_odd D_spoiled
  have G_ref := ok_refused T R G_rdm D_is_refused
  have G_ird := ok_is_read T G_isn G_ref G_rdm G_isd G_note G_wri D_is_read
  have L := fun_law T G_bag G_take G_da G_wri G_note G_same G_rdm G_ird G_spo FL
  rw [ef]
  exact L
end K4
open PySem PySem.W PySem.Calls PyProof.Rows
theorem PySem.Challenge.cw_likerun_k04_whole_datum_notes_holds : PySem.Challenge.rw_likerun_k04_whole_datum_notes.Holds := by
  w_on; o_law
  refine HandSHeadRun.head_any (r := OpenLaw.row PySem.Challenge.rw_likerun_k04_whole_datum_notes) (q := view (OpenLaw.row PySem.Challenge.rw_likerun_k04_whole_datum_notes).prog [45]) (H := K4.Hd.hk) (ob := K4.Hd.ob) (M := 20000) (loose := K4.Hd.loose) (d := HandSHeadRun.topDef (OpenLaw.row PySem.Challenge.rw_likerun_k04_whole_datum_notes).prog 45) (kwd := []) K4.Hd.ob_eq
    (by kernel_rfl) (fun s => by kernel_rfl) K4.Hd.run (by kernel_rfl) (by kernel_rfl) (by kernel_rfl) (by rfl) (by first | assumption | decide +kernel) (by decide +kernel) ⟨rfl, rfl, rfl, rfl, rfl, by decide +kernel⟩ ?hw ?hc
  case hw => w_witness2
  case hc =>
    refine L2.walk_ofE (l := PySem.Challenge.rw_likerun_k04_whole_datum_notes) (n := 63) (k := 65) (x := "_law_script") (CX := L2.CX0) rfl (by decide) (by kernel_rfl) ⟨rfl, by decide, by decide⟩ ?F (fun _ _ _ _ z => z)
    intro w mg fa h Y G hmg0
    obtain ⟨K, KX, c⟩ := Y
    have hmg : mg ("law" : PySem.Str) = some (.ref fa) := by
      have e : (HandSHeadRun.topDef (OpenLaw.row PySem.Challenge.rw_likerun_k04_whole_datum_notes).prog 45).name = ("law" : PySem.Str) := by kernel_rfl
      rw [← e]
      exact hmg0
    obtain ⟨fd, hb, hF⟩ := K4.facts (P := (PySem.Challenge.rw_likerun_k04_whole_datum_notes).prog) (w := w) KX G hmg c
    exact ⟨K, fd, K4.spLaw K, KX, hb, fun H a ns hl _ hS => ⟨a, ns, rfl, hS, fun _ => rfl⟩, hF⟩
