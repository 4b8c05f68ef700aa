import PyProof.Rows.All
import Wide.All
import OpenK.AllK
import Wide.FinOn
import HandS.ForMost
import HandS.Wide
import HandS.EndBits
import HandS.Star
import HandS.ClsMeth
import HandS.Property
import HandS.RaiseMore
import HandS.Style
import HandS.TupAny
import HandS.Walk
import HandS.Codes
import HandS.IsInst
import HandS.TupLe
import KE.LtData
import PyProof.ListStr
import PyProof.ReprRoads
import PyProof.ReprLen
import HandS.Flow
import HandS.TryMany
import HandS.ExcInit
import HandS.Lambda
import PyProof.Rows.MatchSeqLen
import HandS.ExcField
import HandS.ExcIs
import KE.SortKeyHeap
import HandS.ExcValue
import HandS.Dict
import HandS.Deep
import HandS.Iter
import HandS.SortKw
import KE.DatumOrd
import HandS.DictComp
import HandS.SetKeys
import HandS.Defaults
import KE.KNestM
import HandS.EndTab
import HandS.TryOnly
import HandS.Strs
import PySem.Challenge.RW_tailtables_k00_errors_apart
set_option Elab.async false
set_option linter.all false
set_option maxRecDepth 100000
set_option exponentiation.threshold 20000
namespace TT
open PySem L2
/-! the heap but for some places; tuples stay as they are -/
structure Kp (S : List Addr) (H H' : Hp) : Prop where
  at_ : ∀ a o, a ∉ S → H a = some o → H' a = some o
  tup : ∀ a xs, H a = some (.tup xs) → H' a = some (.tup xs)
theorem Kp.refl (S : List Addr) (H : Hp) : Kp S H H := ⟨fun _ _ _ e => e, fun _ _ e => e⟩
theorem Kp.trans {S : List Addr} {H H1 H2 : Hp} (x : Kp S H H1) (y : Kp S H1 H2) : Kp S H H2 := ⟨fun a o n e => y.at_ a o n (x.at_ a o n e), fun a xs e => y.tup a xs (x.tup a xs e)⟩
theorem Kp.last {S : List Addr} {H H1 H2 : Hp} (y : Kp S H1 H2) (x : Kp S H H1) : Kp S H H2 := x.trans y
theorem Kp.get {S : List Addr} {H H' : Hp} {a : Addr} {o : HO} (x : Kp S H H') (n : a ∉ S) (e : H a = some o) : H' a = some o := x.at_ a o n e
theorem Kp.new {S : List Addr} {H H' : Hp} {p : Addr} {o : HO} (x : Kp S H H') (n : H' p = none) : Kp S H (upd H' p o) :=
  ⟨fun a u h e => (upd_ne (fun q => by have z := x.at_ a u h e; rw [q, n] at z; cases z)).trans (x.at_ a u h e),
   fun a xs e => (upd_ne (fun q => by have z := x.tup a xs e; rw [q, n] at z; cases z)).trans (x.tup a xs e)⟩
/-- what is not a tuple -/
def NoTup : HO → Prop
  | .tup _ => False
  | _ => True
theorem Kp.put {S : List Addr} {H H' : Hp} {p : Addr} {o u : HO} (x : Kp S H H') (n : p ∈ S) (e : H' p = some u) (t : NoTup u) : Kp S H (upd H' p o) :=
  ⟨fun a v h q => (upd_ne (fun z => h (by rw [z]; exact n))).trans (x.at_ a v h q),
   fun a xs q => (upd_ne (fun z => by have y := x.tup a xs q; rw [z, e] at y; cases y; exact t)).trans (x.tup a xs q)⟩
/-- a place that was free before -/
theorem Kp.old {S : List Addr} {H H' : Hp} {p : Addr} {o : HO} (x : Kp S H H') (n : H p = none) : Kp S H (upd H' p o) :=
  ⟨fun a u h e => (upd_ne (fun q => by rw [q, n] at e; cases e)).trans (x.at_ a u h e), fun a xs e => (upd_ne (fun q => by rw [q, n] at e; cases e)).trans (x.tup a xs e)⟩
theorem Kp.mono {S S' : List Addr} {H H' : Hp} (x : Kp S H H') (h : ∀ a ∈ S, a ∈ S') : Kp S' H H' := ⟨fun a o n e => x.at_ a o (fun z => n (h a z)) e, x.tup⟩
theorem Kp.drop {S : List Addr} {H H' : Hp} {b : Addr} (x : Kp (b :: S) H H') (n : H b = none) : Kp S H H' := ⟨fun a o h e => x.at_ a o (fun z => by
  rcases List.mem_cons.mp z with q | q
  · rw [q, n] at e; cases e
  · exact h q) e, x.tup⟩
theorem Kp.side {S : List Addr} {G Z W : Hp} {t : Addr} (x : Kp S G Z) (n : G t = none) (y : Kp [t] Z W) : Kp S G W := ⟨fun a o h e =>
  y.at_ a o (fun z => by rw [List.mem_singleton.mp z, n] at e; cases e) (x.at_ a o h e), fun a xs e => y.tup a xs (x.tup a xs e)⟩
theorem Kp.more {H H' : Hp} (S : List Addr) (x : Kp [] H H') : Kp S H H' := x.mono fun _ z => absurd z List.not_mem_nil
theorem Kp.same {H H' : Hp} (x : Kp [] H H') : Same H H' := fun a o e => x.at_ a o (fun z => nomatch z) e
theorem Kp.free {S : List Addr} {H H' : Hp} {p : Addr} (x : Kp S H H') (n : p ∉ S) (e : H' p = none) : H p = none := by
  cases q : H p with
  | none => rfl
  | some o => rw [x.at_ p o n q] at e; cases e
theorem Kp.of_same {H H' : Hp} (S : List Addr) (x : Same H H') : Kp S H H' := ⟨fun a o _ e => x a o e, fun a xs e => x a _ e⟩
theorem ne_new {H : Hp} {a b : Addr} {o : HO} (x : H b = none) (y : H a = some o) : a ≠ b := ne_of_none y x
theorem nin1 {a b : Addr} (h : a ≠ b) : a ∉ [b] := fun z => h (List.mem_singleton.mp z)
theorem nin2 {a b c : Addr} (h : a ≠ b) (h' : a ≠ c) : a ∉ [b, c] := fun z => by
  rcases List.mem_cons.mp z with q | q
  · exact h q
  · exact nin1 h' q
theorem nin0 {a : Addr} : a ∉ ([] : List Addr) := fun z => nomatch z
theorem in1 {a : Addr} {l : List Addr} : a ∈ a :: l := List.mem_cons_self
theorem in2 {a b : Addr} {l : List Addr} : a ∈ b :: a :: l := List.mem_cons_of_mem _ List.mem_cons_self
/-- a place where the stepping stops -/
inductive Stop (p : Prop) : Prop
  | a (h : p) : Stop p
  | b (h : p) : Stop p
theorem Stop.get {p : Prop} : Stop p → p
  | .a h => h
  | .b h => h
/-! fields by name -/
theorem lk_hit {f : Str} {v : V} {r : List (Str × V)} : List.lookup f ((f, v) :: r) = some v := by simp [List.lookup]
theorem lk_skip {f g : Str} {v : V} {r : List (Str × V)} (h : ¬ f = g) : List.lookup f ((g, v) :: r) = List.lookup f r := by
  have e : (f == g) = false := by simpa using h
  simp [List.lookup, e]
theorem put_nil {f : Str} {v : V} : putF f v [] = [(f, v)] := rfl
theorem put_hit {f : Str} {v x : V} {r : List (Str × V)} : putF f v ((f, x) :: r) = (f, v) :: r := if_pos rfl
theorem put_skip {f g : Str} {v x : V} {r r' : List (Str × V)} (h : ¬ g = f) (e : putF f v r = r') : putF f v ((g, x) :: r) = (g, x) :: r' := by
  rw [← e]
  exact if_neg h
/-! classes: made, their methods, their instances called -/
structure Mak (CX : CXT) (P : Program) (w : World) (K : PySem.W.Frag) (mg : Str → Option Value) (base : Heap) (k : Nat) (x : Str) (C : Addr) (sp : Sp) : Prop where
  ex : ∃ (f : Addr) (fd : FuncData) (ps : List Str), Mk K C f ∧ FnOk P w K mg base CX k f fd ps sp ∧ mg x = some (.ref C) ∧ Binds K fd ps []
section
variable {CX : CXT} {X : Cx} {E : XK} {k j : Nat} {x : Str} {C : Addr} {sp : Sp} {p pos : Pos} {e : Expr} {es : List Expr} {t : TA}
theorem pe_mkc (c : Mak CX X.prog X.w X.K X.mg X.base k x C sp) (hr : Room j X.A) (hx : Passes CX X E) (ha : PA X (e :: es) t) (hk : k + 1 ≤ j := by decide) (hg : Gl X x := by rfl)
    (hdb : (x == ("__debug__" : Str)) = false := by decide) (he : starEach (e :: es) X.env = (false, eval e X.env) :: starEach es X.env := by rfl) (hpl : (backTo pos (starEach es X.env)).any (·.1) = false := by rfl) :
    PE X (.Call (.Name x p) (e :: es) [] pos) (tMake C sp [] E t) := by
  obtain ⟨f, fd, ps, M, F, hm, b⟩ := c.ex
  exact pe_make M F (hr.mono hk) hg hm b .nil hx ha hdb he hpl
end
/-- a method (or any def of a class's text) at f -/
structure Mdef (K : PySem.W.Frag) (x qual : Str) (st : Stmt) (ps : List Str) (f : Addr) : Prop where
  ex : ∃ fd : FuncData, Fun K x qual st f fd ∧ Binds K fd ps []
/-! a def under its name -/
structure Cal (CX : CXT) (P : Program) (w : World) (K : PySem.W.Frag) (mg : Str → Option Value) (base : Heap) (k : Nat) (x : Str) (sp : Sp) : Prop where
  ex : ∃ (f : Addr) (fd : FuncData) (ps : List Str), FnOk P w K mg base CX k f fd ps sp ∧ mg x = some (.ref f) ∧ PySem.W.keepIn K (.ref f) = true ∧ Binds K fd ps []
/-- the def of the text, under its name -/
structure Def (K : PySem.W.Frag) (mg : Str → Option Value) (x : Str) (st : Stmt) (ps : List Str) : Prop where
  ex : ∃ (f : Addr) (fd : FuncData), Fun K x x st f fd ∧ mg x = some (.ref f) ∧ Binds K fd ps []
section
variable {P : Program} {w : World} {K : PySem.W.Frag} {mg : Str → Option Value} {base : Heap}
theorem Def.ok {x : Str} {st : Stmt} {N ps : List Str} {k : Nat} {sp : Sp} (D : Def K mg x st ps) (S : FnScope N ps (defScope st)) (len : ∀ vs H Q E, sp vs H Q E → vs.length = ps.length)
    (body : ∀ (f : Addr) (cdv : Value) (A : Around) (outer : List Env) (s : Shared) (H : Hp) (vs : List V) (Q : VK) (E : XK), Room k (A.deeper (PyProof.Rows.envOfC x (defScope st) s.heap.objs.size f cdv)) → sp vs H Q E →
      ∃ t, PSs (cxOf CX0 P w K mg base N x (defScope st) f cdv A outer s H E).nox (defBody st) t ∧ t { nx := fun _ H' => Q .non H', rt := Q } (start N vs) H) : Cal CX0 P w K mg base (k + 1) x sp := by
  obtain ⟨f, fd, F, hm, b⟩ := D.ex
  exact ⟨f, fd, ps, F.ok S len (fun cdv => body f cdv), hm, F.kp, b⟩
end
section
variable {CX : CXT} {X : Cx} {E : XK} {k j : Nat} {x : Str} {sp : Sp} {p pos : Pos} {e : Expr} {es : List Expr} {t : TA}
theorem pe_cl (c : Cal CX X.prog X.w X.K X.mg X.base k x sp) (hr : Room j X.A) (hx : Passes CX X E) (ha : PA X (e :: es) t) (hk : k ≤ j := by decide) (hg : Gl X x := by rfl)
    (hdb : (x == ("__debug__" : Str)) = false := by decide) (he : starEach (e :: es) X.env = (false, eval e X.env) :: starEach es X.env := by rfl) (hpl : (backTo pos (starEach es X.env)).any (·.1) = false := by rfl) :
    PE X (.Call (.Name x p) (e :: es) [] pos) (tCall sp [] E t) := by
  obtain ⟨f, fd, ps, F, hm, kp, b⟩ := c.ex
  exact pe_call F (hr.mono hk) hg hm kp b .nil hx ha hdb he hpl
end
/-! defs that may call repr: nothing is being shown around them -/
def FnG (P : Program) (w : World) (K : PySem.W.Frag) (mg : Str → Option Value) (base : Heap) (CX : CXT) (k : Nat) (f : Addr) (sp : Sp) : Prop :=
  ∀ (A : Around) (outer : List Env) (s : Shared) (H : Hp) (us : List Value) (vs : List V) (Q : VK) (E : XK), Room k A → A.guards = some [] →
    Env0 P w K mg base A outer s H → Vals vs us → sp vs H Q E → codeAny (model P w) A (.call (.ref f) ⟨us, []⟩) (CR CX outer P w H s Q E) s
section
variable {P : Program} {w : World} {K : PySem.W.Frag} {mg : Str → Option Value} {base : Heap} {CX : CXT} {k : Nat} {f : Addr} {sp : Sp}
theorem fn_g {x qual : Str} {st : Stmt} {fd : FuncData} {N ps : List Str} (F : Fun K x qual st f fd) (hb : Binds K fd ps []) (S : FnScope N ps (defScope st))
    (len : ∀ vs H Q E, sp vs H Q E → vs.length = ps.length)
    (body : ∀ (cdv : Value) (A : Around) (outer : List Env) (s : Shared) (H : Hp) (vs : List V) (Q : VK) (E : XK), (A.deeper (PyProof.Rows.envOfC qual (defScope st) s.heap.objs.size f cdv)).guards = some [] →
      Room k (A.deeper (PyProof.Rows.envOfC qual (defScope st) s.heap.objs.size f cdv)) → sp vs H Q E →
      ∃ t, PSs (cxOf CX P w K mg base N qual (defScope st) f cdv A outer s H E) (defBody st) t ∧ t { nx := fun _ H' => Q .non H', rt := Q } (start N vs) H) : FnG P w K mg base CX (k + 1) f sp := by
  obtain ⟨oc, od, kV, doc, pm, an, cdv, ct, osl, rfl, lk, hcd⟩ := F.ex
  intro A outer s H us vs Q E hr hg e0 r hsp
  have hl : vs.length = ps.length := len _ _ _ _ hsp
  have KX : K.In s.heap := e0.mod.kin.keeps fun b o e => (e0.bs b o e).1
  refine StX.run_bnd lk hcd S hr e0 (G := fun xs H2 => xs = vs ∧ H2 = H) (fun A' Ex Q' h => ?_) fun s2 H2 xs g hr' => ?_
  · have q := hb s us KX (by rw [List.append_nil, ← r.length]; exact hl)
    rw [List.append_nil] at q
    exact q _ _ _ _ (h s H vs us e0 Un.refl rfl (fun _ _ z => z) r hl ⟨rfl, rfl⟩)
  · obtain ⟨rfl, rfl⟩ := g
    exact body cdv A outer s2 _ _ Q E hg hr' hsp
end
structure CalG (CX : CXT) (P : Program) (w : World) (K : PySem.W.Frag) (mg : Str → Option Value) (base : Heap) (k : Nat) (x : Str) (sp : Sp) : Prop where
  ex : ∃ (f : Addr), FnG P w K mg base CX k f sp ∧ mg x = some (.ref f) ∧ PySem.W.keepIn K (.ref f) = true
section
variable {P : Program} {w : World} {K : PySem.W.Frag} {mg : Str → Option Value} {base : Heap} {CX : CXT}
theorem Def.okG {x : Str} {st : Stmt} {N ps : List Str} {k : Nat} {sp : Sp} (D : Def K mg x st ps) (S : FnScope N ps (defScope st)) (len : ∀ vs H Q E, sp vs H Q E → vs.length = ps.length)
    (body : ∀ (f : Addr) (cdv : Value) (A : Around) (outer : List Env) (s : Shared) (H : Hp) (vs : List V) (Q : VK) (E : XK), (A.deeper (PyProof.Rows.envOfC x (defScope st) s.heap.objs.size f cdv)).guards = some [] →
      Room k (A.deeper (PyProof.Rows.envOfC x (defScope st) s.heap.objs.size f cdv)) → sp vs H Q E →
      ∃ t, PSs (cxOf CX P w K mg base N x (defScope st) f cdv A outer s H E) (defBody st) t ∧ t { nx := fun _ H' => Q .non H', rt := Q } (start N vs) H) : CalG CX P w K mg base (k + 1) x sp := by
  obtain ⟨f, fd, F, hm, b⟩ := D.ex
  exact ⟨f, fn_g F b S len (fun cdv => body f cdv), hm, F.kp⟩
theorem Def.okG0 {x : Str} {st : Stmt} {N ps : List Str} {k : Nat} {sp : Sp} (D : Def K mg x st ps) (S : FnScope N ps (defScope st)) (len : ∀ vs H Q E, sp vs H Q E → vs.length = ps.length)
    (body : ∀ (f : Addr) (cdv : Value) (A : Around) (outer : List Env) (s : Shared) (H : Hp) (vs : List V) (Q : VK) (E : XK), (A.deeper (PyProof.Rows.envOfC x (defScope st) s.heap.objs.size f cdv)).guards = some [] →
      Room k (A.deeper (PyProof.Rows.envOfC x (defScope st) s.heap.objs.size f cdv)) → sp vs H Q E →
      ∃ t, PSs (cxOf CX0 P w K mg base N x (defScope st) f cdv A outer s H E).nox (defBody st) t ∧ t { nx := fun _ H' => Q .non H', rt := Q } (start N vs) H) : CalG CX0 P w K mg base (k + 1) x sp := by
  refine D.okG S len fun f cdv A outer s H vs Q E hg hr h => ?_
  obtain ⟨t, a, b⟩ := body f cdv A outer s H vs Q E hg hr h
  exact ⟨t, a.nox, b⟩
end
section
variable {CX : CXT} {X : Cx} {E : XK} {k j : Nat} {x : Str} {sp : Sp} {p pos : Pos} {e : Expr} {es : List Expr} {t : TA}
theorem pe_clG (c : CalG CX X.prog X.w X.K X.mg X.base k x sp) (hg : X.A.guards = some []) (hr : Room j X.A) (hx : Passes CX X E) (ha : PA X (e :: es) t) (hk : k ≤ j := by decide) (hgl : Gl X x := by rfl)
    (hdb : (x == ("__debug__" : Str)) = false := by decide) (he : starEach (e :: es) X.env = (false, eval e X.env) :: starEach es X.env := by rfl) (hpl : (backTo pos (starEach es X.env)).any (·.1) = false := by rfl) :
    PE X (.Call (.Name x p) (e :: es) [] pos) (tCall sp [] E t) := by
  obtain ⟨f, F, hm, kp⟩ := c.ex
  constructor
  intro pins s σ H Q I h
  refine PySem.wpAny_Call_Name_kw (ld_glob I hgl hm ?_ hdb)
  refine PySem.W.callWith_K (h₀ := X.base) I.ok.mod.kin kp (thn (ha.run pos pins s σ H _ I h) fun us s1 hh => ?_) he hpl
  obtain ⟨vs, H1, I1, r, q⟩ := hh
  rw [List.append_nil] at q
  refine ⟨I1.kIn, wpAny_call (codeAny_mono (F X.A X.stack s1 H1 us vs Q E (hr.mono hk) hg I1.env0 r q) fun z s' hq => ?_)⟩
  cases z with
  | error u => exact hx pins σ H1 s1 u s' I1 hq
  | ok fl => cases fl with
    | ret u => exact I1.after hq
    | _ => exact hq.elim
end
/-! data of this kind hold no dicts -/
mutual
theorem dp_noDict {K : PySem.W.Frag} {H : Hp} : ∀ (d : PyData) (v : V), Dp K H v d → d.hasDict = false
  | .none, _, _ => by simp only [PyData.hasDict]
  | .bool _, _, _ => by simp only [PyData.hasDict]
  | .int _, _, _ => by simp only [PyData.hasDict]
  | .str _, _, _ => by simp only [PyData.hasDict]
  | .list ds, _, h => by
    cases h with
    | lst _ h2 => simp only [PyData.hasDict]; exact dp_noDictAll ds _ h2
  | .tuple ds, _, h => by
    cases h with
    | tup _ h2 => simp only [PyData.hasDict]; exact dp_noDictAll ds _ h2
  | .dict _, _, h => by cases h
theorem dp_noDictAll {K : PySem.W.Frag} {H : Hp} : ∀ (ds : List PyData) (vs : List V), DpAll K H vs ds → PyData.hasDictAll ds = false
  | [], _, _ => by simp only [PyData.hasDictAll]
  | d :: ds, _, h => by
    cases h with
    | cons h1 h2 => simp only [PyData.hasDictAll, dp_noDict d _ h1, dp_noDictAll ds _ h2, Bool.or_self]
end
/-! repr of data -/
section
variable {X : Cx}
def rRepr (K : PySem.W.Frag) : List V → Hp → VK → Prop := fun xs H Q => ∃ (x : V) (d : PyData), xs = [x] ∧ Dp K H x d ∧ d.showable = true ∧ d.shown.length ≤ sizeLine ∧ d.depth ≤ 180 ∧ Q (.str d.shown) H
theorem call_repr (hg : X.A.guards = some []) (hu : X.A.units + 200 < cLine) : CallR X (.builtin "repr") (rRepr X.K) := by
  intro pins s σ H xs us Q I r h
  obtain ⟨x, d, rfl, hd, hs, hz, hp, q⟩ := h
  obtain ⟨u, rfl, ru⟩ := vals1 r
  cases hd with
  | non => cases ru; exact PySem.P.repr_of_none ⟨.str _, H, I.tok _, ⟨_, rfl⟩, q⟩
  | bl b => cases ru; exact PySem.P.repr_of_bool ⟨.str _, H, I.tok _, ⟨_, rfl⟩, by cases b <;> exact q⟩
  | int i =>
    obtain ⟨t, rfl⟩ := ru
    exact PySem.P.repr_of_int (of_decide_eq_true hs) ⟨.str _, H, I.tok _, ⟨_, rfl⟩, q⟩
  | str z =>
    obtain ⟨t, rfl⟩ := ru
    exact PySem.P.repr_of_str ⟨.str _, H, I.tok _, ⟨_, rfl⟩, q⟩ hz
  | lst h1 h2 =>
    obtain ⟨as, rd⟩ := Dp.reads I _ _ _ (Dp.lst h1 h2) ru
    cases ru
    refine PySem.repr_of_reads' rd hs ?_ hg (by omega) (fun _ _ e => e) (fun h' t tk hk => ⟨.str _, H, I.kept hk, ⟨_, rfl⟩, q⟩) hz
    exact PyData.noDict_hsm (dp_noDict _ _ (Dp.lst h1 h2))
  | tup h1 h2 =>
    obtain ⟨as, rd⟩ := Dp.reads I _ _ _ (Dp.tup h1 h2) ru
    cases ru
    refine PySem.repr_of_reads' rd hs ?_ hg (by omega) (fun _ _ e => e) (fun h' t tk hk => ⟨.str _, H, I.kept hk, ⟨_, rfl⟩, q⟩) hz
    exact PyData.noDict_hsm (dp_noDict _ _ (Dp.tup h1 h2))
end
/-! loops over range(n) -/
theorem for_rng {n : Nat} {g : TG} {tb : TS} {D : Ends} {σ : St} {H : Hp} (Pv : Nat → St → Hp → Prop) (h0 : Pv 0 σ H)
    (hs : ∀ (i : Nat) σ H, i < n → Pv i σ H → g (.int (i : Int)) σ H fun σ2 H2 => tb { D with nx := Pv (i + 1), ct := Pv (i + 1), bk := D.nx } σ2 H2) (hd : ∀ σ H, Pv n σ H → D.nx σ H) :
    ∃ W : Nat → Nat → St → Hp → Prop, (∃ m, W 0 m σ H) ∧ ∀ i m σ H, W i m σ H →
      ((Itr 0 n).stop i H ∧ D.nx σ H) ∨ ((Itr 0 n).go i H ∧ ∃ N : St → Hp → Prop, (∀ σ' H', N σ' H' → ∃ m', m' < m ∧ W (i + 1) m' σ' H') ∧ ∀ x H', (Itr 0 n).yld i H x H' → g x σ H' fun σ2 H2 => tb { D with nx := N, ct := N, bk := D.nx } σ2 H2) :=
  for_range Pv h0 (fun i σ H hi p => by rw [Int.zero_add]; exact hs i σ H hi p) hd
theorem lc_rng {n : Nat} {g : TG} {tt : TT} {te : TE} {vs : List Nat} {σ : St} {H1 : Hp} {D : Addr} {Qd : Hp → Prop} (Pv : Nat → Hp → Prop) (h0 : Pv 0 (upd H1 D (.lst [])))
    (hs : ∀ (i : Nat) H, i < n → Pv i H → g (.int (i : Int)) (wipe σ vs) H fun σ2 H2 => wipe σ2 vs = wipe σ vs ∧ tt σ2 H2 fun b H3 =>
      if b = true then te σ2 H3 fun y H4 => ∃ acc, H4 D = some (.lst acc) ∧ acc.length < sizeLine ∧ Pv (i + 1) (upd H4 D (.lst (acc ++ [y]))) else Pv (i + 1) H3) (hd : ∀ H, Pv n H → Qd H) :
    ∃ W : Nat → Nat → Hp → Prop, (∃ m, W 0 m (upd H1 D (.lst []))) ∧ ∀ i m H, W i m H →
      ((Itr 0 n).stop i H ∧ Qd H) ∨ ((Itr 0 n).go i H ∧ ∃ Nx : Hp → Prop, (∀ H', Nx H' → ∃ m', m' < m ∧ W (i + 1) m' H') ∧ ∀ x H', (Itr 0 n).yld i H x H' → g x (wipe σ vs) H' fun σ2 H2 => wipe σ2 vs = wipe σ vs ∧ tt σ2 H2 fun b H3 =>
        if b = true then te σ2 H3 fun y H4 => ∃ acc, H4 D = some (.lst acc) ∧ acc.length < sizeLine ∧ Nx (upd H4 D (.lst (acc ++ [y]))) else Nx H3) :=
  lc_range Pv h0 (fun i H hi p => by rw [Int.zero_add]; exact hs i H hi p) hd
/-! data of tuples, numbers, texts, truths and None: they stay what they are -/
mutual
inductive Pd (H : Hp) : V → PyData → Prop
  | non : Pd H .non .none
  | bl (b : Bool) : Pd H (.bl b) (.bool b)
  | int (i : Int) : Pd H (.int i) (.int i)
  | str (x : Str) : Pd H (.str x) (.str x)
  | tup {a : Addr} {xs : List V} {ds : List PyData} : H a = some (.tup xs) → PdAll H xs ds → Pd H (.ref a) (.tuple ds)
inductive PdAll (H : Hp) : List V → List PyData → Prop
  | nil : PdAll H [] []
  | cons {v : V} {vs : List V} {d : PyData} {ds : List PyData} : Pd H v d → PdAll H vs ds → PdAll H (v :: vs) (d :: ds)
end
mutual
theorem Pd.keep {H H' : Hp} (k : ∀ a xs, H a = some (.tup xs) → H' a = some (.tup xs)) : ∀ (d : PyData) (v : V), Pd H v d → Pd H' v d
  | .none, _, h => by cases h; exact .non
  | .bool b, _, h => by cases h; exact .bl b
  | .int i, _, h => by cases h; exact .int i
  | .str x, _, h => by cases h; exact .str x
  | .tuple ds, _, h => by
    cases h with
    | tup e r => exact .tup (k _ _ e) (PdAll.keep k ds _ r)
  | .list _, _, h => by cases h
  | .dict _, _, h => by cases h
theorem PdAll.keep {H H' : Hp} (k : ∀ a xs, H a = some (.tup xs) → H' a = some (.tup xs)) : ∀ (ds : List PyData) (vs : List V), PdAll H vs ds → PdAll H' vs ds
  | [], _, h => by cases h; exact .nil
  | d :: ds, _, h => by
    cases h with
    | cons a b => exact .cons (Pd.keep k d _ a) (PdAll.keep k ds _ b)
end
mutual
theorem Pd.dp {K : PySem.W.Frag} {H : Hp} : ∀ (d : PyData) (v : V), Pd H v d → Dp K H v d
  | .none, _, h => by cases h; exact .non
  | .bool b, _, h => by cases h; exact .bl b
  | .int i, _, h => by cases h; exact .int i
  | .str x, _, h => by cases h; exact .str x
  | .tuple ds, _, h => by
    cases h with
    | tup e r => exact .tup (SqT.of e) (PdAll.dp ds _ r)
  | .list _, _, h => by cases h
  | .dict _, _, h => by cases h
theorem PdAll.dp {K : PySem.W.Frag} {H : Hp} : ∀ (ds : List PyData) (vs : List V), PdAll H vs ds → DpAll K H vs ds
  | [], _, h => by cases h; exact .nil
  | d :: ds, _, h => by
    cases h with
    | cons a b => exact .cons (Pd.dp d _ a) (PdAll.dp ds _ b)
end
theorem Kp.pd {S : List Addr} {H H' : Hp} {v : V} {d : PyData} (k : Kp S H H') (h : Pd H v d) : Pd H' v d := Pd.keep k.tup d v h
theorem Kp.pds {S : List Addr} {H H' : Hp} {v : List V} {d : List PyData} (k : Kp S H H') (h : PdAll H v d) : PdAll H' v d := PdAll.keep k.tup d v h
theorem PdAll.ints {H : Hp} : ∀ ns : List Int, PdAll H (ns.map V.int) (ns.map PyData.int)
  | [] => .nil
  | n :: ns => .cons (.int n) (PdAll.ints ns)
theorem PdAll.snoc {H : Hp} {v : V} {d : PyData} : ∀ {vs : List V} {ds : List PyData}, PdAll H vs ds → Pd H v d → PdAll H (vs ++ [v]) (ds ++ [d])
  | _, _, .nil, h => .cons h .nil
  | _, _, .cons a b, h => .cons a (PdAll.snoc b h)
theorem PdAll.len {H : Hp} : ∀ {vs : List V} {ds : List PyData}, PdAll H vs ds → vs.length = ds.length
  | _, _, .nil => rfl
  | _, _, .cons _ b => congrArg (· + 1) (PdAll.len b)
/-! how long a text repr gives -/
structure Sh (d : PyData) (n k : Nat) : Prop where
  so : d.showable = true
  le : d.shown.length ≤ n
  dp : d.depth ≤ k
structure ShAll (ds : List PyData) (n k : Nat) : Prop where
  so : PyData.showableAll ds = true
  le : ((PyData.shownAll ds).map (·.length)).sum + 2 * ds.length ≤ n
  dp : PyData.depthAll ds ≤ k
theorem Sh.mono {d : PyData} {n k n' k' : Nat} (h : Sh d n k) (hn : n ≤ n') (hk : k ≤ k') : Sh d n' k' := ⟨h.so, Nat.le_trans h.le hn, Nat.le_trans h.dp hk⟩
theorem ShAll.mono {d : List PyData} {n k n' k' : Nat} (h : ShAll d n k) (hn : n ≤ n') (hk : k ≤ k') : ShAll d n' k' := ⟨h.so, Nat.le_trans h.le hn, Nat.le_trans h.dp hk⟩
theorem Sh.none : Sh .none 4 0 := ⟨rfl, by decide, Nat.le_refl _⟩
theorem Sh.bool (b : Bool) : Sh (.bool b) 5 0 := ⟨rfl, by cases b <;> decide, Nat.le_refl _⟩
theorem Sh.int {i : Int} (h : i.natAbs < 10 ^ 60) : Sh (.int i) 61 0 := by
  refine ⟨?_, ?_, Nat.le_refl _⟩
  · have h2 : i.natAbs < 2 ^ 200 := Nat.lt_of_lt_of_le h (by decide)
    have h3 := PySem.Flt.log2_lt_of (show 0 < 200 by decide) h2
    simp only [PyData.showable]
    exact decide_eq_true (by omega)
  · have e := int_text_length_le10 (k := 60) (by decide) h
    show (Str.ofString (toString i)).length ≤ 61
    rw [ofString_length]
    exact e
theorem Sh.str {x : Str} (h : ∀ c ∈ x.cps.toList, c < 16 ^ 8) : Sh (.str x) (10 * x.length + 2) 0 := by
  refine ⟨rfl, ?_, Nat.le_refl _⟩
  simp only [PyData.shown]
  exact StrLaws.reprText_len x h
theorem shownAll_len : ∀ ds : List PyData, (PyData.shownAll ds).length = ds.length
  | [] => by simp only [PyData.shownAll, List.length_nil]
  | d :: ds => by simp only [PyData.shownAll, List.length_cons, shownAll_len ds]
theorem ShAll.nil {k : Nat} : ShAll [] 0 k := ⟨by simp only [PyData.showableAll], by simp only [PyData.shownAll, List.map_nil, List.sum_nil, List.length_nil]; omega, by simp only [PyData.depthAll]; omega⟩
theorem ShAll.cons {d : PyData} {ds : List PyData} {n m k : Nat} (a : Sh d n k) (b : ShAll ds m k) : ShAll (d :: ds) (n + 2 + m) k := by
  refine ⟨by simp only [PyData.showableAll, a.so, b.so, Bool.and_self], ?_, ?_⟩
  · have h1 := a.le
    have h2 := b.le
    simp only [PyData.shownAll, List.map_cons, List.sum_cons, List.length_cons]
    omega
  · have h1 := a.dp
    have h2 := b.dp
    simp only [PyData.depthAll]
    omega
theorem ShAll.of {n k : Nat} : ∀ ds : List PyData, (∀ d ∈ ds, Sh d n k) → ShAll ds (ds.length * (n + 2)) k
  | [], _ => ShAll.nil.mono (Nat.zero_le _) (Nat.le_refl _)
  | d :: ds, h => (ShAll.cons (h d List.mem_cons_self) (ShAll.of ds fun e he => h e (List.mem_cons_of_mem _ he))).mono (by rw [List.length_cons, Nat.succ_mul]; omega) (Nat.le_refl _)
theorem Sh.list {ds : List PyData} {n k : Nat} (h : ShAll ds n k) : Sh (.list ds) (n + 3) (k + 1) := by
  refine ⟨by simp only [PyData.showable, h.so], ?_, by simp only [PyData.depth]; have := h.dp; omega⟩
  have h1 := listText_len_le (PyData.shownAll ds)
  have h2 := h.le
  rw [shownAll_len] at h1
  simp only [PyData.shown]
  omega
theorem Sh.tuple {ds : List PyData} {n k : Nat} (h : ShAll ds n k) : Sh (.tuple ds) (n + 3) (k + 1) := by
  refine ⟨by simp only [PyData.showable, h.so], ?_, by simp only [PyData.depth]; have := h.dp; omega⟩
  have h1 := tupleText_len_le (PyData.shownAll ds)
  have h2 := h.le
  rw [shownAll_len] at h1
  simp only [PyData.shown]
  omega
def rRepr2 (K : PySem.W.Frag) : List V → Hp → VK → Prop := fun xs H Q => ∃ (x : V) (d : PyData) (n k : Nat), xs = [x] ∧ Dp K H x d ∧ Sh d n k ∧ n ≤ sizeLine ∧ k ≤ 180 ∧ Q (.str d.shown) H
theorem call_reprD {X : Cx} (hg : X.A.guards = some []) (hu : X.A.units + 200 < cLine) : CallR X (.builtin "repr") (rRepr2 X.K) := fun pins s σ H xs us Q I r h => by
  obtain ⟨x, d, n, k, e, hd, hs, hn, hk, q⟩ := h
  exact call_repr hg hu pins s σ H xs us Q I r ⟨x, d, e, hd, hs.so, Nat.le_trans hs.le hn, Nat.le_trans hs.dp hk, q⟩
/-! list(text) -/
theorem paired_get {α β : Type} {R : α → β → Prop} : ∀ (xs : List α) (ys : List β), xs.length = ys.length → (∀ (j : Nat) a b, xs[j]? = some a → ys[j]? = some b → R a b) → Paired R xs ys
  | [], [], _, _ => .nil
  | [], _ :: _, h, _ => by cases h
  | _ :: _, [], h, _ => by cases h
  | x :: xs, y :: ys, h, k => .cons (k 0 x y rfl rfl) (paired_get xs ys (Nat.succ.inj h) fun j a b p q => k (j + 1) a b p q)
abbrev sgn (c : Nat) : V := .str ⟨#[c]⟩
theorem call_list_txt {X : Cx} (hc : X.calm = true) : CallR X (.type "list") (fun xs H Q => ∃ x : Str, xs = [.str x] ∧ x.length ≤ sizeLine ∧ ∀ l, H l = none → Q (.ref l) (upd H l (.lst (x.cps.toList.map sgn)))) := by
  intro pins s σ H xs us Q I r h
  obtain ⟨x, rfl, hz, q⟩ := h
  obtain ⟨u, rfl, t, rfl⟩ := vals1 r
  refine PySem.call_list_str (I.ok.hd hc) x t (hn := hz) fun h' tk acc c hk hS hacc => ?_
  have rel : Vals (x.cps.toList.map sgn) acc.toList := paired_get _ _ (by simp [hacc.1]) fun j a b p p' => by
    obtain ⟨cc, uu, e1, rfl⟩ := hacc.2 j b (by simpa using p')
    have p2 : (x.cps[j]?).map sgn = some a := by simpa using p
    rw [e1] at p2
    obtain rfl : sgn cc = a := Option.some.inj p2
    exact ⟨uu, rfl⟩
  refine ⟨.ref s.heap.objs.size, _, I.laid (t' := tk) hk (Nat.le_refl _) (show ObjOk X.prog X.w _ h' _ (.lst (x.cps.toList.map sgn)) from ⟨?_, acc.toList, c, rel, ?_⟩), rfl, q _ (I.hok.fresh (Nat.le_refl _))⟩
  · rw [List.length_map]; exact hz
  · simpa using hS
theorem _root_.L2.Room.units2 {k : Nat} {A : Around} (r : Room k A) : A.units + 200 < cLine := by have := r.un; omega
/-! the end of a law whose promise is told of a def that may call repr -/
section
open PySem.W PyProof.Rows
variable {P : Program} {w : World} {K : PySem.W.Frag} {mg mb : Str → Option Value} {CX : CXT} {k : Nat} {fa a : Addr} {sp : Sp} {s₁ : Shared} {vs : List Value} {ns : List Int}
theorem lawG (KX : K.In s₁.heap) (hns : s₁.heap.Ns mainGlobals mg) (hb : s₁.heap.Ns builtinsNs mb) (hbb : ∀ x : Str, x ≠ "__name__" → mb x = bootBuiltins x) (hlim : s₁.heap.NoLimit) (hg : s₁.gens = #[])
    (ha : s₁.heap.get? a = some { cls := .type "list", data := .seq vs.toArray }) (hi : IntsAre vs ns) (hl : ns.length ≤ sizeLine) (hr : Room k callerA)
    (F : ∀ base : Heap, K.In base → base.Ns mainGlobals mg → FnG P w K mg base CX k fa sp)
    (hsp : ∀ H : Hp, Only H → SqL K H a (ns.map V.int) → sp [.ref a] H (fun v _ => v = .bl true) fun _ _ _ => False)
    (hCX : ∀ H e s', CX [] H s₁ (fun _ _ _ => False) e s' → False) :
    codeAny (model P w) callerA (.call (.ref fa) ⟨[.ref a], []⟩) (fun r s' => r = .ok (.ret (.bool true)) ∧ OldK s₁.heap s'.heap ∧ s'.os = s₁.os ∧ AllBare s'.gens) s₁ := by
  -- one abstract heap that tracks at most the script
  suffices core : ∀ H : Hp, Only H → SqL K H a (ns.map V.int) → HOk P w H s₁.heap → (∀ b u, H b = some u → b = a ∧ K.lookup a = none) → _ by
    cases hk : K.lookup a with
    | some o =>
      obtain rfl : o = { cls := .type "list", data := .seq vs.toArray } := by have e := KX a o hk; rw [ha] at e; cases e; rfl
      refine core (fun _ => none) (fun _ => .inl rfl) (.inr ⟨_, vs.toArray, _, hk, rfl, rfl, rfl, ?_, ?_⟩) (fun b u z => ?_) fun b u z => ?_
      · rw [List.size_toArray, hi.length]; exact hl
      · simpa using vals_ints hi
      · cases (show (none : Option HO) = some u from z)
      · cases (show (none : Option HO) = some u from z)
    | none =>
      let G : Hp := fun b => if b = a then some (.frz { cls := .type "list", data := .seq vs.toArray } (.lst (ns.map V.int))) else none
      have gy : G a = some (.frz { cls := .type "list", data := .seq vs.toArray } (.lst (ns.map V.int))) := if_pos rfl
      have gn : ∀ b, b ≠ a → G b = none := fun b n => if_neg n
      refine core G (fun b => ?_) (.inl (.inr ⟨_, gy⟩)) (fun b u z => ?_) fun b u z => ?_
      · rcases Nat.decEq b a with n | n
        · exact .inl (gn b n)
        · subst n; exact .inr ⟨_, _, gy⟩
      · rcases Nat.decEq b a with n | n
        · rw [gn b n] at z; cases z
        · subst n; rw [gy] at z; cases z
          exact ⟨ha, by rw [List.length_map]; exact hl, vs, _, vals_ints hi, ha⟩
      · rcases Nat.decEq b a with n | n
        · rw [gn b n] at z; cases z
        · exact ⟨n, hk⟩
  intro H hO hS hok hA
  have off : ∀ {b : Addr} {o : Obj}, s₁.heap.get? b = some o → (b = a → K.lookup a = none → False) → H b = none := fun {b o} e n => by
    cases q : H b with
    | none => rfl
    | some u => exact (n (hA b u q).1 (hA b u q).2).elim
  have nsK : ∀ {b : Addr} {m : Str → Option Value}, s₁.heap.Ns b m → (hidT s₁.heap H).Ns b m := fun {b m} z => by
    obtain ⟨o, es, ep, e, d, r⟩ := z
    refine ⟨o, es, ep, hidT_get e (off e fun q _ => ?_), d, r⟩
    subst q
    rw [ha] at e; cases e
    cases (show Data.seq vs.toArray _ = Data.dict es ep from d)
  have kin : K.In (hidT s₁.heap H) := fun b o e => hidT_get (KX b o e) (off (KX b o e) fun q n => by
    subst q; rw [n] at e; cases e)
  have md : Mod K mg (hidT s₁.heap H) := by
    obtain ⟨mc, h1, h2⟩ := hlim
    exact ⟨kin, nsK hns, ⟨mb, nsK hb, hbb⟩, mc, nsK h1, h2⟩
  have e0 : Env0 P w K mg (hidT s₁.heap H) callerA [] s₁ H :=
    { frames := rfl, mod := md, bs := fun b o e => of_hidT e, bsz := Nat.le_of_eq (hidT_size _ _), funs := trivial
      frf := fun b z => absurd (show b ∈ ([] : List Addr) from z) List.not_mem_nil
      hok := hok
      bare := .of_eq hg }
  have run := F _ kin (nsK hns) callerA [] s₁ H [.ref a] [.ref a] _ _ hr rfl e0 (.cons rfl .nil) (hsp H hO hS)
  refine codeAny_mono run fun z s' h => ?_
  cases z with
  | error e => exact (hCX H e s' h).elim
  | ok fl => cases fl with
    | ret u =>
      obtain ⟨v, H', os, bare, un, hok', r', q⟩ := h
      obtain rfl : v = V.bl true := q
      obtain rfl : u = Value.bool true := r'
      refine ⟨rfl, OldK.of_keep fun b o e => ?_, os, bare⟩
      cases q : H b with
      | none => exact un.keep b o e q (fun z => absurd (show b ∈ ([] : List Addr) from z) List.not_mem_nil) List.not_mem_nil
      | some u =>
        rcases hO b with z | ⟨ob, xs, z⟩
        · rw [q] at z; cases z
        · have e1 := (hok b _ z).1
          have e2 := (hok' b _ (un.frzs b ob _ z)).1
          rw [e] at e1; cases e1
          exact e2
    | _ => exact h.elim
theorem walkG {l : OpenLaw} {n k : Nat} {q : Program} {loose : List Str} {XP : (Str → Option Value) → Heap → Prop} {YP : World → Heap → Prop} {d : DefRec} {K : Params → Frag} {CX : World → CXT} {sp : World → Sp}
    (hn : l.most = some n) (hn2 : n ≤ sizeLine) (hdf : d.params.defaults = []) (hr : Room k callerA) (hY : ∀ (w : World) (h : Heap), YP w h → (K w.params).In h)
    (F : ∀ (w : World) (mg : Str → Option Value) (fa : Addr) (h : Heap), (K w.params).In h → h.Ns mainGlobals mg → mg d.name = some (.ref fa) →
      ∀ base : Heap, (K w.params).In base → base.Ns mainGlobals mg → FnG l.prog w (K w.params) mg base (CX w) k fa (sp w))
    (hsp : ∀ (w : World) (H : Hp) (a : Addr) (ns : List Int), ns.length ≤ n → (∀ z ∈ ns, Builtin.Int.intBits z ≤ 1048576) → Only H → SqL (K w.params) H a (ns.map V.int) → sp w [.ref a] H (fun v _ => v = .bl true) fun _ _ _ => False)
    (hCX : ∀ (w : World) (H : Hp) (s : Shared) (e : Value) (s' : Shared), CX w [] H s (fun _ _ _ => False) e s' → False) : WalkO q loose XP YP l.row.toRowW d [] (fun f vs => PySem.call f vs) := by
  refine Att.attach_callB hn hdf fun w s₀ s₁ mg mb fa o pm cd doc a vs ns G Y ho hd hcd hmg hobj hints hlen hbits hg => ?_
  have kx := hY w _ Y
  exact lawG kx G.T.g G.T.b G.T.builtins G.T.nolimit hg hobj hints (Nat.le_trans hlen hn2) hr (F w mg fa _ kx G.T.g hmg) (fun H z => hsp w H a ns hlen hbits z) fun H => hCX w H s₁
end
end TT

namespace TT
open PySem L2
/-- the tables of code objects that stand in the heap, each with the name that its code objects bear -/
class TB where
  T : List (Addr × Str)
variable [TB]
/-! data, without the heap -/
inductive D where
  | non | bl (b : Bool) | int (i : Int) | str (x : Str) | ty (n : String) | gl (a : Addr)
  | tup (xs : List D) | lst (xs : List D) | fl (xs : List D) | dK (kvs : List (Key × D)) | dT (kvs : List (List Key × D)) | obj (C : Addr) (fs : List (Str × D))
  | exn (a d C : Addr) (fs : List (Str × D)) | err (C : Addr) (fs : List (Str × D))
/-- what a name holds: data, or an object that may change -/
inductive MV where
  | d (x : D) | ref (n : Nat)
/-- an object that may change -/
inductive MO where
  | lst (xs : List D) | dK (kvs : List (Key × D)) | dT (kvs : List (List Key × D)) | ins (C : Addr) (fs : List (Str × MV))
mutual
inductive DR (K : PySem.W.Frag) (F : Hp) : D → V → Prop
  | non : DR K F .non .non
  | bl (b : Bool) : DR K F (.bl b) (.bl b)
  | int (i : Int) : DR K F (.int i) (.int i)
  | str (x : Str) : DR K F (.str x) (.str x)
  | ty (n : String) : DR K F (.ty n) (.ty n)
  | gl (a : Addr) : DR K F (.gl a) (.ref a)
  | tup {a : Addr} {xs : List D} {vs : List V} : F a = some (.tup vs) → DRs K F xs vs → DR K F (.tup xs) (.ref a)
  | lst {a : Addr} {xs : List D} {vs : List V} : F a = some (.lst vs) → DRs K F xs vs → DR K F (.lst xs) (.ref a)
  | fl {a : Addr} {xs : List D} {vs : List V} : SqL K F a vs → DRs K F xs vs → DR K F (.fl xs) (.ref a)
  | dK {a : Addr} {xs : List (Key × D)} {vs : List (Key × V)} : F a = some (.dK vs) → DRk K F xs vs → DR K F (.dK xs) (.ref a)
  | dT {a : Addr} {xs : List (List Key × D)} {vs : List (List Key × V)} : F a = some (.dT vs) → DRt K F xs vs → DR K F (.dT xs) (.ref a)
  | obj {a C dx : Addr} {xs : List (Str × D)} {vs : List (Str × V)} : F a = some (.ins C dx vs) → DRf K F xs vs → DR K F (.obj C xs) (.ref a)
  | exn {a d C : Addr} {xs : List (Str × D)} {vs : List (Str × V)} : F d = some (.xd vs) → DRf K F xs vs → DR K F (.exn a d C xs) (.ref a)
  | err {a dx C : Addr} {xs : List (Str × D)} {vs : List (Str × V)} : F a = some (exo a C (some dx)) → F dx = some (exd dx vs) → DRf K F xs vs → DR K F (.err C xs) (.ref a)
inductive DRs (K : PySem.W.Frag) (F : Hp) : List D → List V → Prop
  | nil : DRs K F [] []
  | cons {d : D} {v : V} {ds : List D} {vs : List V} : DR K F d v → DRs K F ds vs → DRs K F (d :: ds) (v :: vs)
inductive DRk (K : PySem.W.Frag) (F : Hp) : List (Key × D) → List (Key × V) → Prop
  | nil : DRk K F [] []
  | cons {k : Key} {d : D} {v : V} {ds : List (Key × D)} {vs : List (Key × V)} : DR K F d v → DRk K F ds vs → DRk K F ((k, d) :: ds) ((k, v) :: vs)
inductive DRt (K : PySem.W.Frag) (F : Hp) : List (List Key × D) → List (List Key × V) → Prop
  | nil : DRt K F [] []
  | cons {k : List Key} {d : D} {v : V} {ds : List (List Key × D)} {vs : List (List Key × V)} : DR K F d v → DRt K F ds vs → DRt K F ((k, d) :: ds) ((k, v) :: vs)
inductive DRf (K : PySem.W.Frag) (F : Hp) : List (Str × D) → List (Str × V) → Prop
  | nil : DRf K F [] []
  | cons {k : Str} {d : D} {v : V} {ds : List (Str × D)} {vs : List (Str × V)} : DR K F d v → DRf K F ds vs → DRf K F ((k, d) :: ds) ((k, v) :: vs)
end
theorem same_t {K : PySem.W.Frag} {H H' : Hp} {a : Addr} {xs : List V} (e : Same H H') (h : SqT K H a xs) : SqT K H' a xs := by
  rcases h with (h | ⟨o, h⟩) | h
  · exact .inl (.inl (e a _ h))
  · exact .inl (.inr ⟨o, e a _ h⟩)
  · exact .inr h
section
variable {K : PySem.W.Frag} {F F' : Hp}
mutual
theorem DR.mono (e : Same F F') : ∀ (d : D) (v : V), DR K F d v → DR K F' d v
  | .non, _, h => by cases h; exact .non
  | .bl b, _, h => by cases h; exact .bl b
  | .int i, _, h => by cases h; exact .int i
  | .str x, _, h => by cases h; exact .str x
  | .ty n, _, h => by cases h; exact .ty n
  | .gl n, _, h => by cases h; exact .gl n
  | .tup xs, _, h => by cases h with | tup q r => exact .tup (e _ _ q) (DRs.mono e xs _ r)
  | .lst xs, _, h => by cases h with | lst q r => exact .lst (e _ _ q) (DRs.mono e xs _ r)
  | .fl xs, _, h => by cases h with | fl q r => exact .fl (e.seq q) (DRs.mono e xs _ r)
  | .dK xs, _, h => by cases h with | dK q r => exact .dK (e _ _ q) (DRk.mono e xs _ r)
  | .dT xs, _, h => by cases h with | dT q r => exact .dT (e _ _ q) (DRt.mono e xs _ r)
  | .obj C xs, _, h => by cases h with | obj q r => exact .obj (e _ _ q) (DRf.mono e xs _ r)
  | .exn a d C xs, _, h => by cases h with | exn q r => exact .exn (e _ _ q) (DRf.mono e xs _ r)
  | .err C xs, _, h => by cases h with | err q1 q2 r => exact .err (e _ _ q1) (e _ _ q2) (DRf.mono e xs _ r)
theorem DRs.mono (e : Same F F') : ∀ (d : List D) (v : List V), DRs K F d v → DRs K F' d v
  | [], _, h => by cases h; exact .nil
  | d :: ds, _, h => by cases h with | cons a b => exact .cons (DR.mono e d _ a) (DRs.mono e ds _ b)
theorem DRk.mono (e : Same F F') : ∀ (d : List (Key × D)) (v : List (Key × V)), DRk K F d v → DRk K F' d v
  | [], _, h => by cases h; exact .nil
  | (_, d) :: ds, _, h => by cases h with | cons a b => exact .cons (DR.mono e d _ a) (DRk.mono e ds _ b)
theorem DRt.mono (e : Same F F') : ∀ (d : List (List Key × D)) (v : List (List Key × V)), DRt K F d v → DRt K F' d v
  | [], _, h => by cases h; exact .nil
  | (_, d) :: ds, _, h => by cases h with | cons a b => exact .cons (DR.mono e d _ a) (DRt.mono e ds _ b)
theorem DRf.mono (e : Same F F') : ∀ (d : List (Str × D)) (v : List (Str × V)), DRf K F d v → DRf K F' d v
  | [], _, h => by cases h; exact .nil
  | (_, d) :: ds, _, h => by cases h with | cons a b => exact .cons (DR.mono e d _ a) (DRf.mono e ds _ b)
end
end
/-! the places that may change -/
/-- no table -/
def NT : HO → Prop
  | .tbl _ => False
  | _ => True
open Classical in
noncomputable def mask (H : Hp) (Z : List Addr) : Hp := fun a => if a ∈ Z ∨ ∃ ps, H a = some (.tbl ps) then none else H a
theorem mask_in {H : Hp} {Z : List Addr} {a : Addr} {o : HO} (n : a ∉ Z) (e : H a = some o) (t : NT o := by exact True.intro) : mask H Z a = some o := by
  unfold mask
  rw [if_neg]
  · exact e
  · rintro (q | ⟨ps, q⟩)
    · exact n q
    · rw [e] at q; cases q; exact t
theorem of_mask {H : Hp} {Z : List Addr} {a : Addr} {o : HO} (e : mask H Z a = some o) : a ∉ Z ∧ H a = some o := by
  unfold mask at e
  split at e
  · cases e
  · rename_i n; exact ⟨fun q => n (.inl q), e⟩
theorem mask_nt {H : Hp} {Z : List Addr} {a : Addr} {o : HO} (e : mask H Z a = some o) : NT o := by
  unfold mask at e
  split at e
  · cases e
  · rename_i n
    cases o with
    | tbl ps => exact (n (.inr ⟨ps, e⟩)).elim
    | _ => exact True.intro
theorem mask_same (H : Hp) (Z : List Addr) : Same (mask H Z) H := fun a o e => (of_mask e).2
inductive RM (K : PySem.W.Frag) (F : Hp) (ι : List Addr) : MV → V → Prop
  | d {x : D} {v : V} : DR K F x v → RM K F ι (.d x) v
  | ref {n : Nat} {a : Addr} : ι[n]? = some a → RM K F ι (.ref n) (.ref a)
inductive RMf (K : PySem.W.Frag) (F : Hp) (ι : List Addr) : List (Str × MV) → List (Str × V) → Prop
  | nil : RMf K F ι [] []
  | cons {k : Str} {d : MV} {v : V} {ds : List (Str × MV)} {vs : List (Str × V)} : RM K F ι d v → RMf K F ι ds vs → RMf K F ι ((k, d) :: ds) ((k, v) :: vs)
inductive RO (K : PySem.W.Frag) (F : Hp) (ι : List Addr) : MO → HO → Prop
  | lst {xs : List D} {vs : List V} : DRs K F xs vs → RO K F ι (.lst xs) (.lst vs)
  | dK {xs : List (Key × D)} {vs : List (Key × V)} : DRk K F xs vs → RO K F ι (.dK xs) (.dK vs)
  | dT {xs : List (List Key × D)} {vs : List (List Key × V)} : DRt K F xs vs → RO K F ι (.dT xs) (.dT vs)
  | ins {C dx : Addr} {xs : List (Str × MV)} {vs : List (Str × V)} : RMf K F ι xs vs → RO K F ι (.ins C xs) (.ins C dx vs)
theorem RO.nt {K : PySem.W.Frag} {F : Hp} {ι : List Addr} {m : MO} {v : HO} (h : RO K F ι m v) : NT v := by cases h <;> exact True.intro
def Pre (ι ι' : List Addr) : Prop := ∀ (n : Nat) a, ι[n]? = some a → ι'[n]? = some a
theorem RM.mono {K : PySem.W.Frag} {F F' : Hp} {ι ι' : List Addr} (e : Same F F') (p : Pre ι ι') {m : MV} {v : V} (h : RM K F ι m v) : RM K F' ι' m v := by
  cases h with
  | d h => exact .d (DR.mono e _ _ h)
  | ref h => exact .ref (p _ _ h)
theorem RMf.mono {K : PySem.W.Frag} {F F' : Hp} {ι ι' : List Addr} (e : Same F F') (p : Pre ι ι') : ∀ {m : List (Str × MV)} {v : List (Str × V)}, RMf K F ι m v → RMf K F' ι' m v
  | _, _, .nil => .nil
  | _, _, .cons a b => .cons (a.mono e p) (RMf.mono e p b)
theorem RO.mono {K : PySem.W.Frag} {F F' : Hp} {ι ι' : List Addr} (e : Same F F') (p : Pre ι ι') {m : MO} {v : HO} (h : RO K F ι m v) : RO K F' ι' m v := by
  cases h with
  | lst h => exact .lst (DRs.mono e _ _ h)
  | dK h => exact .dK (DRk.mono e _ _ h)
  | dT h => exact .dT (DRt.mono e _ _ h)
  | ins h => exact .ins (h.mono e p)
/-- the store -/
structure Sta (K : PySem.W.Frag) (Z ι : List Addr) (μ : List MO) (H : Hp) : Prop where
  sub : ∀ a ∈ ι, a ∈ Z
  nd : ι.Nodup
  len : ι.length = μ.length
  trk : ∀ a ∈ Z, ∃ o, H a = some o
  tab : LamX.Tabs TB.T H
  obj : ∀ (n : Nat) a o, ι[n]? = some a → μ[n]? = some o → ∃ ho, H a = some ho ∧ RO K (mask H Z) ι o ho
structure Ext (Z ι : List Addr) (H : Hp) (Z' ι' : List Addr) (H' : Hp) : Prop where
  sub : ∀ a ∈ ι, a ∈ Z
  z : ∀ a ∈ Z, a ∈ Z'
  i : Pre ι ι'
  keep : ∀ a o, a ∉ ι → NT o → H a = some o → H' a = some o
  tb : ∀ a ps, H a = some (.tbl ps) → ∃ qs, H' a = some (.tbl qs)
  new : ∀ a ∈ Z', a ∈ Z ∨ H a = none
  newi : ∀ a ∈ ι', a ∈ ι ∨ H a = none
theorem Ext.refl {Z ι : List Addr} {H : Hp} (s : ∀ a ∈ ι, a ∈ Z) : Ext Z ι H Z ι H := ⟨s, fun _ h => h, fun _ _ h => h, fun _ _ _ _ h => h, fun _ ps h => ⟨ps, h⟩, fun _ h => .inl h, fun _ h => .inl h⟩
theorem nt_or (o : HO) : NT o ∨ ∃ ps, o = .tbl ps := by
  cases o with
  | tbl ps => exact .inr ⟨ps, rfl⟩
  | _ => exact .inl True.intro
theorem Ext.free {Z ι Z' ι' : List Addr} {H H' : Hp} (x : Ext Z ι H Z' ι' H') {a : Addr} (n : a ∉ ι) (h : H' a = none) : H a = none := by
  cases e : H a with
  | none => rfl
  | some o =>
    rcases nt_or o with t | ⟨ps, rfl⟩
    · rw [x.keep a o n t e] at h; cases h
    · obtain ⟨qs, z⟩ := x.tb a ps e; rw [z] at h; cases h
theorem Ext.trans {Z ι Z1 ι1 Z2 ι2 : List Addr} {H H1 H2 : Hp} (x : Ext Z ι H Z1 ι1 H1) (y : Ext Z1 ι1 H1 Z2 ι2 H2) : Ext Z ι H Z2 ι2 H2 := by
  have b : ∀ a, H1 a = none → a ∈ ι ∨ H a = none := fun a h => by
    by_cases q : a ∈ ι
    · exact .inl q
    · cases e : H a with
      | none => exact .inr rfl
      | some o => exact .inr (e.symm.trans (x.free q h))
  refine ⟨x.sub, fun a h => y.z a (x.z a h), fun n a h => y.i n a (x.i n a h), fun a o n t e => y.keep a o (fun q => ?_) t (x.keep a o n t e), fun a ps e => ?_, fun a h => ?_, fun a h => ?_⟩
  · rcases x.newi a q with r | r
    · exact n r
    · rw [r] at e; cases e
  · obtain ⟨qs, z⟩ := x.tb a ps e
    exact y.tb a qs z
  · rcases y.new a h with r | r
    · exact x.new a r
    · rcases b a r with q | q
      · exact .inl (x.sub a q)
      · exact .inr q
  · rcases y.newi a h with r | r
    · exact x.newi a r
    · exact b a r
theorem Ext.same {Z ι Z' ι' : List Addr} {H H' : Hp} (x : Ext Z ι H Z' ι' H') : Same (mask H Z) (mask H' Z') := fun a o e => by
  have t := mask_nt e
  obtain ⟨n, e⟩ := of_mask e
  refine mask_in (fun q => ?_) (x.keep a o (fun q => n (x.sub a q)) t e) t
  rcases x.new a q with r | r
  · exact n r
  · rw [r] at e; cases e
/-- the heap grows, the store stays -/
theorem Sta.grow {K : PySem.W.Frag} {Z ι : List Addr} {μ : List MO} {H H' : Hp} (s : Sta K Z ι μ H) (e : Same H H') : Sta K Z ι μ H' ∧ Ext Z ι H Z ι H' := by
  have x : Ext Z ι H Z ι H' := ⟨s.sub, fun _ h => h, fun _ _ h => h, fun a o _ _ h => e a o h, fun a ps h => ⟨ps, e a _ h⟩, fun _ h => .inl h, fun _ h => .inl h⟩
  refine ⟨⟨s.sub, s.nd, s.len, fun a h => ?_, s.tab.ext e, fun n a o h1 h2 => ?_⟩, x⟩
  · obtain ⟨o, h⟩ := s.trk a h
    exact ⟨o, e a o h⟩
  · obtain ⟨ho, h, r⟩ := s.obj n a o h1 h2
    exact ⟨ho, e a ho h, r.mono x.same x.i⟩
/-! results -/
inductive Res (α : Type) where
  | ok (a : α) (μ : List MO) | exc (C : Addr) (fs : List (Str × D)) (μ : List MO) | bad
def Res.bind {α β : Type} : Res α → (α → List MO → Res β) → Res β
  | .ok a μ, k => k a μ
  | .exc C fs μ, _ => .exc C fs μ
  | .bad, _ => .bad
@[simp] theorem Res.bind_ok {α β : Type} (a : α) (μ : List MO) (k : α → List MO → Res β) : (Res.ok a μ).bind k = k a μ := rfl
@[simp] theorem Res.bind_exc {α β : Type} (C : Addr) (fs : List (Str × D)) (μ : List MO) (k : α → List MO → Res β) : (Res.exc C fs μ : Res α).bind k = .exc C fs μ := rfl
@[simp] theorem Res.bind_bad {α β : Type} (k : α → List MO → Res β) : (Res.bad : Res α).bind k = .bad := rfl
abbrev En := List (Option MV)
abbrev ME := En → List MO → Res MV
abbrev MT := En → List MO → Res Bool
abbrev MA := En → List MO → Res (List MV)
inductive RSo (K : PySem.W.Frag) (F : Hp) (ι : List Addr) : Option MV → Option V → Prop
  | none {v : Option V} : RSo K F ι none v
  | some {m : MV} {v : V} : RM K F ι m v → RSo K F ι (some m) (some v)
abbrev RS (K : PySem.W.Frag) (F : Hp) (ι : List Addr) : En → St → Prop := Paired (RSo K F ι)
theorem RS.mono {K : PySem.W.Frag} {F F' : Hp} {ι ι' : List Addr} (e : Same F F') (p : Pre ι ι') {m : En} {v : St} (h : RS K F ι m v) : RS K F' ι' m v :=
  Paired.mapP h fun a b r => by
    cases r with
    | none => exact .none
    | some r => exact .some (r.mono e p)
theorem RS.get {K : PySem.W.Frag} {F : Hp} {ι : List Addr} : ∀ {ρ : En} {σ : St}, RS K F ι ρ σ → ∀ {i : Nat} {m : MV}, ρ[i]? = some (some m) → ∃ v, σ[i]? = some (some v) ∧ RM K F ι m v
  | _, _, .nil, i, m, h => by simp at h
  | _, _, .cons r t, 0, m, h => by
    simp at h
    subst h
    cases r with
    | some r => exact ⟨_, rfl, r⟩
  | _, _, .cons r t, i + 1, m, h => by
    obtain ⟨v, h1, h2⟩ := RS.get t (i := i) (m := m) (by simpa using h)
    exact ⟨v, by simpa using h1, h2⟩
theorem RS.set {K : PySem.W.Frag} {F : Hp} {ι : List Addr} {m : MV} {v : V} (r : RM K F ι m v) : ∀ {ρ : En} {σ : St}, RS K F ι ρ σ → ∀ (i : Nat), RS K F ι (ρ.set i (some m)) (σ.set i (some v))
  | _, _, .nil, _ => .nil
  | _, _, .cons _ t, 0 => .cons (.some r) t
  | _, _, .cons q t, i + 1 => .cons q (RS.set r t i)
structure Rel (K : PySem.W.Frag) (Z ι : List Addr) (ρ : En) (μ : List MO) (σ : St) (H : Hp) : Prop where
  sta : Sta K Z ι μ H
  rs : RS K (mask H Z) ι ρ σ
theorem Rel.ext {K : PySem.W.Frag} {Z ι Z' ι' : List Addr} {ρ : En} {μ μ' : List MO} {σ : St} {H H' : Hp} (R : Rel K Z ι ρ μ σ H) (x : Ext Z ι H Z' ι' H') (s : Sta K Z' ι' μ' H') : Rel K Z' ι' ρ μ' σ H' := ⟨s, R.rs.mono x.same x.i⟩
def Out (K : PySem.W.Frag) (W : WX) (σ : St) (Z ι : List Addr) (H : Hp) {α : Type} (r : Res α) (P : α → List Addr → List Addr → Hp → Prop) : Prop :=
  match r with
  | .ok v μ' => ∀ Z' ι' H', Ext Z ι H Z' ι' H' → Sta K Z' ι' μ' H' → P v Z' ι' H'
  | .exc C fs μ' => ∀ Z' ι' H' d fs', Ext Z ι H Z' ι' H' → Sta K Z' ι' μ' H' → H' d = some (.xd fs') → d ∉ Z' → DRf K (mask H' Z') fs fs' → W (.ref C) (some d) σ H'
  | .bad => False
section
variable {K : PySem.W.Frag} {W : WX} {σ : St} {Z ι Z' ι' : List Addr} {H H' : Hp} {α β : Type}
theorem Out.base {r : Res α} {P : α → List Addr → List Addr → Hp → Prop} (o : Out K W σ Z ι H r P) (x : Ext Z ι H Z' ι' H') : Out K W σ Z' ι' H' r P := by
  cases r with
  | ok v μ' => exact fun Z2 ι2 H2 x2 s2 => o Z2 ι2 H2 (x.trans x2) s2
  | exc C fs μ' => exact fun Z2 ι2 H2 d fs' x2 s2 => o Z2 ι2 H2 d fs' (x.trans x2) s2
  | bad => exact o
theorem Out.imp {r : Res α} {P P' : α → List Addr → List Addr → Hp → Prop} (o : Out K W σ Z ι H r P) (h : ∀ v Z' ι' H', P v Z' ι' H' → P' v Z' ι' H') : Out K W σ Z ι H r P' := by
  cases r with
  | ok v μ' => exact fun Z2 ι2 H2 x2 s2 => h _ _ _ _ (o Z2 ι2 H2 x2 s2)
  | exc C fs μ' => exact o
  | bad => exact o
end
def Val (K : PySem.W.Frag) (Q : VK) : MV → List Addr → List Addr → Hp → Prop := fun v Z ι H => ∀ x, RM K (mask H Z) ι v x → Q x H
inductive RMs (K : PySem.W.Frag) (F : Hp) (ι : List Addr) : List MV → List V → Prop
  | nil : RMs K F ι [] []
  | cons {m : MV} {v : V} {ms : List MV} {vs : List V} : RM K F ι m v → RMs K F ι ms vs → RMs K F ι (m :: ms) (v :: vs)
theorem RMs.mono {K : PySem.W.Frag} {F F' : Hp} {ι ι' : List Addr} (e : Same F F') (p : Pre ι ι') : ∀ {m : List MV} {v : List V}, RMs K F ι m v → RMs K F' ι' m v
  | _, _, .nil => .nil
  | _, _, .cons a b => .cons (a.mono e p) (RMs.mono e p b)
def Vals' (K : PySem.W.Frag) (Q : List V → Hp → Prop) : List MV → List Addr → List Addr → Hp → Prop := fun v Z ι H => ∀ x, RMs K (mask H Z) ι v x → Q x H
def tM (K : PySem.W.Frag) (W : WX) (m : ME) : TE := fun σ H Q => ∃ Z ι ρ μ, Rel K Z ι ρ μ σ H ∧ Out K W σ Z ι H (m ρ μ) (Val K Q)
def tMT (K : PySem.W.Frag) (W : WX) (m : MT) : TT := fun σ H Q => ∃ Z ι ρ μ, Rel K Z ι ρ μ σ H ∧ Out K W σ Z ι H (m ρ μ) (fun b _ _ H' => Q b H')
def tMA (K : PySem.W.Frag) (W : WX) (m : MA) : TA := fun σ H Q => ∃ Z ι ρ μ, Rel K Z ι ρ μ σ H ∧ Out K W σ Z ι H (m ρ μ) (Vals' K Q)
abbrev FE (X : Cx) (W : WX) (e : Expr) (m : ME) : Prop := PE X e (tM X.K W m)
abbrev FT (X : Cx) (W : WX) (e : Expr) (m : MT) : Prop := PT X e (tMT X.K W m)
abbrev FA (X : Cx) (W : WX) (e : List Expr) (m : MA) : Prop := PA X e (tMA X.K W m)
section
variable {X : Cx}
theorem pe_imp {e : Expr} {t t' : TE} (h : PE X e t) (i : ∀ σ H Q, t' σ H Q → t σ H Q) : PE X e t' := ⟨fun pins s σ H Q I w => h.run pins s σ H Q I (i σ H Q w)⟩
theorem pt_imp {e : Expr} {t t' : TT} (h : PT X e t) (i : ∀ σ H Q, t' σ H Q → t σ H Q) : PT X e t' := ⟨fun pins s σ H Q I w => h.run pins s σ H Q I (i σ H Q w)⟩
theorem pw_imp {e : Expr} {t t' : TT} (h : PW X e t) (i : ∀ σ H Q, t' σ H Q → t σ H Q) : PW X e t' := ⟨fun wh pins s σ H Q I w => h.run wh pins s σ H Q I (i σ H Q w)⟩
theorem pa_imp {e : List Expr} {t t' : TA} (h : PA X e t) (i : ∀ σ H Q, t' σ H Q → t σ H Q) : PA X e t' := ⟨fun p pins s σ H Q I w => h.run p pins s σ H Q I (i σ H Q w)⟩
theorem ps_imp {e : Stmt} {t t' : TS} (h : PS X e t) (i : ∀ D σ H, t' D σ H → t D σ H) : PS X e t' := ⟨fun pins s σ H D I w => h.run pins s σ H D I (i D σ H w)⟩
theorem pss_imp {e : List Stmt} {t t' : TS} (h : PSs X e t) (i : ∀ D σ H, t' D σ H → t D σ H) : PSs X e t' := ⟨fun pins s σ H D I w => h.run pins s σ H D I (i D σ H w)⟩
end
section
variable {K : PySem.W.Frag} {W : WX} {σ : St} {Z ι Z' ι' : List Addr} {ρ : En} {μ : List MO} {H H' : Hp} {α β : Type}
/-- one expression, then the rest -/
theorem tM_bind {m : ME} {k : MV → List MO → Res β} {P : β → List Addr → List Addr → Hp → Prop} {Q : VK} (R : Rel K Z ι ρ μ σ H) (o : Out K W σ Z ι H ((m ρ μ).bind k) P)
    (h : ∀ v μ' Z' ι' H' x, Ext Z ι H Z' ι' H' → Rel K Z' ι' ρ μ' σ H' → RM K (mask H' Z') ι' v x → Out K W σ Z' ι' H' (k v μ') P → Q x H') : tM K W m σ H Q := by
  refine ⟨Z, ι, ρ, μ, R, ?_⟩
  cases e : m ρ μ with
  | ok v μ' =>
    rw [e] at o
    exact fun Z2 ι2 H2 x2 s2 x r => h v μ' Z2 ι2 H2 x x2 (R.ext x2 s2) r (Out.base o x2)
  | exc C fs μ' =>
    rw [e] at o
    exact o
  | bad =>
    rw [e] at o
    exact o
theorem tMT_bind {m : MT} {k : Bool → List MO → Res β} {P : β → List Addr → List Addr → Hp → Prop} {Q : Bool → Hp → Prop} (R : Rel K Z ι ρ μ σ H) (o : Out K W σ Z ι H ((m ρ μ).bind k) P)
    (h : ∀ v μ' Z' ι' H', Ext Z ι H Z' ι' H' → Rel K Z' ι' ρ μ' σ H' → Out K W σ Z' ι' H' (k v μ') P → Q v H') : tMT K W m σ H Q := by
  refine ⟨Z, ι, ρ, μ, R, ?_⟩
  cases e : m ρ μ with
  | ok v μ' =>
    rw [e] at o
    exact fun Z2 ι2 H2 x2 s2 => h v μ' Z2 ι2 H2 x2 (R.ext x2 s2) (Out.base o x2)
  | exc C fs μ' =>
    rw [e] at o
    exact o
  | bad =>
    rw [e] at o
    exact o
theorem tMA_bind {m : MA} {k : List MV → List MO → Res β} {P : β → List Addr → List Addr → Hp → Prop} {Q : List V → Hp → Prop} (R : Rel K Z ι ρ μ σ H) (o : Out K W σ Z ι H ((m ρ μ).bind k) P)
    (h : ∀ v μ' Z' ι' H' x, Ext Z ι H Z' ι' H' → Rel K Z' ι' ρ μ' σ H' → RMs K (mask H' Z') ι' v x → Out K W σ Z' ι' H' (k v μ') P → Q x H') : tMA K W m σ H Q := by
  refine ⟨Z, ι, ρ, μ, R, ?_⟩
  cases e : m ρ μ with
  | ok v μ' =>
    rw [e] at o
    exact fun Z2 ι2 H2 x2 s2 x r => h v μ' Z2 ι2 H2 x x2 (R.ext x2 s2) r (Out.base o x2)
  | exc C fs μ' =>
    rw [e] at o
    exact o
  | bad =>
    rw [e] at o
    exact o
/-- the end: a value that stands -/
theorem Out.ret {v : MV} {Q : VK} {x : V} (s : Sta K Z ι μ H) (o : Out K W σ Z ι H (.ok v μ) (Val K Q)) (r : RM K (mask H Z) ι v x) : Q x H := o Z ι H (Ext.refl s.sub) s x r
/-- .. in a heap that has grown -/
theorem Out.new {v : MV} {Q : VK} {x : V} (s : Sta K Z ι μ H) (o : Out K W σ Z ι H (.ok v μ) (Val K Q)) (e : Same H H') (r : RM K (mask H' Z) ι v x) : Q x H' :=
  o Z ι H' (s.grow e).2 (s.grow e).1 x r
end
/-! what stands for data, read: data itself, or an object that may change as it is now -/
def view (μ : List MO) : MV → Option D
  | .d x => some x
  | .ref n => match μ[n]? with
    | some (.lst xs) => some (.lst xs)
    | some (.dK xs) => some (.dK xs)
    | some (.dT xs) => some (.dT xs)
    | _ => none
inductive DV (K : PySem.W.Frag) (Z : List Addr) (H : Hp) : D → V → Prop
  | d {x : D} {v : V} : DR K (mask H Z) x v → DV K Z H x v
  | lst {a : Addr} {xs : List D} {vs : List V} : H a = some (.lst vs) → DRs K (mask H Z) xs vs → DV K Z H (.lst xs) (.ref a)
  | dK {a : Addr} {xs : List (Key × D)} {vs : List (Key × V)} : H a = some (.dK vs) → DRk K (mask H Z) xs vs → DV K Z H (.dK xs) (.ref a)
  | dT {a : Addr} {xs : List (List Key × D)} {vs : List (List Key × V)} : H a = some (.dT vs) → DRt K (mask H Z) xs vs → DV K Z H (.dT xs) (.ref a)
theorem view_ok {K : PySem.W.Frag} {Z ι : List Addr} {μ : List MO} {H : Hp} (s : Sta K Z ι μ H) {m : MV} {v : V} {x : D} (r : RM K (mask H Z) ι m v) (e : view μ m = some x) : DV K Z H x v := by
  cases r with
  | d r => cases e; exact .d r
  | ref r =>
    rename_i n a
    unfold view at e
    simp only at e
    split at e
    · rename_i xs q; cases e
      obtain ⟨ho, h1, h2⟩ := s.obj _ _ _ r q
      cases h2 with | lst h2 => exact .lst h1 h2
    · rename_i xs q; cases e
      obtain ⟨ho, h1, h2⟩ := s.obj _ _ _ r q
      cases h2 with | dK h2 => exact .dK h1 h2
    · rename_i xs q; cases e
      obtain ⟨ho, h1, h2⟩ := s.obj _ _ _ r q
      cases h2 with | dT h2 => exact .dT h1 h2
    · cases e
section
variable {K : PySem.W.Frag} {Z : List Addr} {H : Hp} {v : V}
theorem DV.int {i : Int} (h : DV K Z H (.int i) v) : v = .int i := by cases h with | d h => cases h; rfl
theorem DV.str {i : Str} (h : DV K Z H (.str i) v) : v = .str i := by cases h with | d h => cases h; rfl
theorem DV.bl {i : Bool} (h : DV K Z H (.bl i) v) : v = .bl i := by cases h with | d h => cases h; rfl
theorem DV.non (h : DV K Z H .non v) : v = .non := by cases h with | d h => cases h; rfl
theorem DV.tup {xs : List D} (h : DV K Z H (.tup xs) v) : ∃ a vs, v = .ref a ∧ H a = some (.tup vs) ∧ DRs K (mask H Z) xs vs := by
  cases h with | d h => cases h with | tup q r => exact ⟨_, _, rfl, mask_same _ _ _ _ q, r⟩
theorem DV.list {xs : List D} (h : DV K Z H (.lst xs) v) : ∃ a vs, v = .ref a ∧ H a = some (.lst vs) ∧ DRs K (mask H Z) xs vs := by
  cases h with
  | d h => cases h with | lst q r => exact ⟨_, _, rfl, mask_same _ _ _ _ q, r⟩
  | lst q r => exact ⟨_, _, rfl, q, r⟩
theorem DV.flist {xs : List D} (h : DV K Z H (.fl xs) v) : ∃ a vs, v = .ref a ∧ SqL K H a vs ∧ DRs K (mask H Z) xs vs := by
  cases h with
  | d h => cases h with | fl q r => exact ⟨_, _, rfl, (mask_same _ _).seq q, r⟩
end
theorem DRs.len {K : PySem.W.Frag} {F : Hp} : ∀ {xs : List D} {vs : List V}, DRs K F xs vs → xs.length = vs.length
  | _, _, .nil => rfl
  | _, _, .cons _ b => congrArg (· + 1) (DRs.len b)
theorem DRs.get {K : PySem.W.Frag} {F : Hp} : ∀ {xs : List D} {vs : List V}, DRs K F xs vs → ∀ {i : Nat} {d : D}, xs[i]? = some d → ∃ v, vs[i]? = some v ∧ DR K F d v
  | _, _, .nil, i, d, h => by simp at h
  | _, _, .cons a b, 0, d, h => by simp at h; subst h; exact ⟨_, rfl, a⟩
  | _, _, .cons a b, i + 1, d, h => by
    obtain ⟨v, h1, h2⟩ := DRs.get b (i := i) (d := d) (by simpa using h)
    exact ⟨v, by simpa using h1, h2⟩
theorem DRs.append {K : PySem.W.Frag} {F : Hp} {ys : List D} {ws : List V} (h2 : DRs K F ys ws) : ∀ {xs : List D} {vs : List V}, DRs K F xs vs → DRs K F (xs ++ ys) (vs ++ ws)
  | _, _, .nil => h2
  | _, _, .cons a b => .cons a (DRs.append h2 b)
/-- a new tuple, a new list -/
theorem new_tup {K : PySem.W.Frag} {Z : List Addr} {H : Hp} {p : Addr} {xs : List D} {vs : List V} (t : ∀ a ∈ Z, ∃ o, H a = some o) (n : H p = none) (r : DRs K (mask H Z) xs vs) :
    Same H (upd H p (.tup vs)) ∧ DR K (mask (upd H p (.tup vs)) Z) (.tup xs) (.ref p) := by
  have np : p ∉ Z := fun q => by obtain ⟨o, e⟩ := t p q; rw [n] at e; cases e
  have s : Same H (upd H p (.tup vs)) := fun a o e => (upd_ne (ne_of_none e n)).trans e
  refine ⟨s, .tup (mask_in np upd_same) (r.mono (fun a o e => ?_) _ _)⟩
  obtain ⟨n1, e1⟩ := of_mask e
  exact mask_in n1 (s a o e1) (mask_nt e)
theorem new_lst {K : PySem.W.Frag} {Z : List Addr} {H : Hp} {p : Addr} {xs : List D} {vs : List V} (t : ∀ a ∈ Z, ∃ o, H a = some o) (n : H p = none) (r : DRs K (mask H Z) xs vs) :
    Same H (upd H p (.lst vs)) ∧ DR K (mask (upd H p (.lst vs)) Z) (.lst xs) (.ref p) := by
  have np : p ∉ Z := fun q => by obtain ⟨o, e⟩ := t p q; rw [n] at e; cases e
  have s : Same H (upd H p (.lst vs)) := fun a o e => (upd_ne (ne_of_none e n)).trans e
  refine ⟨s, .lst (mask_in np upd_same) (r.mono (fun a o e => ?_) _ _)⟩
  obtain ⟨n1, e1⟩ := of_mask e
  exact mask_in n1 (s a o e1) (mask_nt e)
end TT

namespace TT
open PySem L2
variable [TB]
/-! operations upon data -/
def Trk (Z : List Addr) (H : Hp) : Prop := ∀ a ∈ Z, ∃ o, H a = some o
/-- what an operator upon values asks, answered by data -/
def OpD (K : PySem.W.Frag) (r : R2) (g : D → D → Option D) : Prop :=
  ∀ (Z : List Addr) (H : Hp) (a b c : D) (x y : V) (Q : VK), Trk Z H → DV K Z H a x → DV K Z H b y → g a b = some c → (∀ H' z, Same H H' → DR K (mask H' Z) c z → Q z H') → r x y H Q
def UnD (K : PySem.W.Frag) (r : V → Hp → VK → Prop) (g : D → Option D) : Prop :=
  ∀ (Z : List Addr) (H : Hp) (a c : D) (x : V) (Q : VK), Trk Z H → DV K Z H a x → g a = some c → (∀ H' z, Same H H' → DR K (mask H' Z) c z → Q z H') → r x H Q
inductive DVs (K : PySem.W.Frag) (Z : List Addr) (H : Hp) : List D → List V → Prop
  | nil : DVs K Z H [] []
  | cons {d : D} {v : V} {ds : List D} {vs : List V} : DV K Z H d v → DVs K Z H ds vs → DVs K Z H (d :: ds) (v :: vs)
def CallD (K : PySem.W.Frag) (r : List V → Hp → VK → Prop) (g : List D → Option D) : Prop :=
  ∀ (Z : List Addr) (H : Hp) (as : List D) (c : D) (xs : List V) (Q : VK), Trk Z H → DVs K Z H as xs → g as = some c → (∀ H' z, Same H H' → DR K (mask H' Z) c z → Q z H') → r xs H Q
def op1 (g : D → Option D) (a : MV) (μ : List MO) : Res MV :=
  match view μ a with
  | some x => match g x with
    | some z => .ok (.d z) μ
    | none => .bad
  | none => .bad
def op2 (g : D → D → Option D) (a b : MV) (μ : List MO) : Res MV :=
  match view μ a with
  | some x => match view μ b with
    | some y => match g x y with
      | some z => .ok (.d z) μ
      | none => .bad
    | none => .bad
  | none => .bad
def views (μ : List MO) : List MV → Option (List D)
  | [] => some []
  | a :: as => match view μ a with
    | some x => match views μ as with
      | some xs => some (x :: xs)
      | none => none
    | none => none
def opN (g : List D → Option D) (as : List MV) (μ : List MO) : Res MV :=
  match views μ as with
  | some xs => match g xs with
    | some z => .ok (.d z) μ
    | none => .bad
  | none => .bad
def mVar (i : Nat) : ME := fun ρ μ => match ρ[i]? with
  | some (some v) => .ok v μ
  | _ => .bad
def mC (x : D) : ME := fun _ μ => .ok (.d x) μ
def mUn (g : D → Option D) (ma : ME) : ME := fun ρ μ => (ma ρ μ).bind (op1 g)
def mBin (g : D → D → Option D) (ma mb : ME) : ME := fun ρ μ => (ma ρ μ).bind fun a μ1 => (mb ρ μ1).bind fun b μ2 => op2 g a b μ2
def mNil : MA := fun _ μ => .ok [] μ
def mCons (ma : ME) (mr : MA) : MA := fun ρ μ => (ma ρ μ).bind fun a μ1 => (mr ρ μ1).bind fun as μ2 => .ok (a :: as) μ2
def mN (g : List D → Option D) (ms : MA) : ME := fun ρ μ => (ms ρ μ).bind (opN g)
section
variable {K : PySem.W.Frag} {Z ι : List Addr} {μ : List MO} {H : Hp} {W : WX} {σ : St}
theorem views_ok (s : Sta K Z ι μ H) : ∀ {ms : List MV} {vs : List V} {xs : List D}, RMs K (mask H Z) ι ms vs → views μ ms = some xs → DVs K Z H xs vs
  | _, _, _, .nil, e => by cases e; exact .nil
  | _, _, _, .cons (m := m) (ms := ms) a b, e => by
    unfold views at e
    split at e
    · rename_i x h1
      split at e
      · rename_i ys h2
        cases e
        exact .cons (view_ok s a h1) (views_ok s b h2)
      · cases e
    · cases e
theorem op1_ok {r : V → Hp → VK → Prop} {g : D → Option D} (h : UnD K r g) {a : MV} {x : V} {Q : VK} (s : Sta K Z ι μ H) (ra : RM K (mask H Z) ι a x) (o : Out K W σ Z ι H (op1 g a μ) (Val K Q)) : r x H Q := by
  unfold op1 at o
  split at o
  · rename_i d hd
    split at o
    · rename_i z hz
      exact h Z H d z x Q s.trk (view_ok s ra hd) hz fun H' y e r => Out.new s o e (.d r)
    · exact o.elim
  · exact o.elim
theorem op2_ok {r : R2} {g : D → D → Option D} (h : OpD K r g) {a b : MV} {x y : V} {Q : VK} (s : Sta K Z ι μ H) (ra : RM K (mask H Z) ι a x) (rb : RM K (mask H Z) ι b y) (o : Out K W σ Z ι H (op2 g a b μ) (Val K Q)) : r x y H Q := by
  unfold op2 at o
  split at o
  · rename_i d hd
    split at o
    · rename_i e he
      split at o
      · rename_i z hz
        exact h Z H d e z x y Q s.trk (view_ok s ra hd) (view_ok s rb he) hz fun H' y e r => Out.new s o e (.d r)
      · exact o.elim
    · exact o.elim
  · exact o.elim
theorem opN_ok {r : List V → Hp → VK → Prop} {g : List D → Option D} (h : CallD K r g) {as : List MV} {xs : List V} {Q : VK} (s : Sta K Z ι μ H) (ra : RMs K (mask H Z) ι as xs) (o : Out K W σ Z ι H (opN g as μ) (Val K Q)) : r xs H Q := by
  unfold opN at o
  split at o
  · rename_i ds hd
    split at o
    · rename_i z hz
      exact h Z H ds z xs Q s.trk (views_ok s ra hd) hz fun H' y e r => Out.new s o e (.d r)
    · exact o.elim
  · exact o.elim
end
/-! expressions -/
section
variable {X : Cx} {W : WX} {a b c e : Expr} {es : List Expr} {pos : Pos} {ma mb mc : ME} {ms : MA}
theorem fe_var {i : Nat} {x : Str} (hN : X.N[i]? = some x) (hv : Vis X.env.scope x) (hd : (x == ("__debug__" : Str)) = false := by decide) (hcd : (x == ("__classdict__" : Str)) = false := by decide) : FE X W (.Name x pos) (mVar i) := by
  refine pe_imp (pe_var (i := i) hN hv hd hcd) fun σ H Q ⟨Z, ι, ρ, μ, R, o⟩ => ?_
  unfold mVar at o
  split at o
  · rename_i v h
    obtain ⟨x, h1, h2⟩ := RS.get R.rs h
    exact ⟨x, h1, Out.ret R.sta o h2⟩
  · exact o.elim
theorem fe_c {v : V} {d : D} (h : PE X e (tC v)) (r : ∀ F, DR X.K F d v) : FE X W e (mC d) := pe_imp h fun σ H Q ⟨Z, ι, ρ, μ, R, o⟩ => Out.ret R.sta o (.d (r _))
theorem fe_int {i j} : FE X W (.Constant (.int i) j pos) (mC (.int i)) := fe_c pe_int fun _ => .int i
theorem fe_bl {i j} : FE X W (.Constant (.bool i) j pos) (mC (.bl i)) := fe_c pe_bl fun _ => .bl i
theorem fe_non {j} : FE X W (.Constant .none j pos) (mC .non) := fe_c pe_non fun _ => .non
theorem fe_str {i j} : FE X W (.Constant (.str i) j pos) (mC (.str i)) := fe_c pe_str fun _ => .str i
theorem fe_un {op : UnaryOp} {r : V → Hp → VK → Prop} {g : D → Option D} (ho : UnR X (unaryOp op) r) (hg : UnD X.K r g) (ha : FE X W a ma) : FE X W (.UnaryOp op a pos) (mUn g ma) := by
  refine pe_imp (pe_un ho ha) fun σ H Q ⟨Z, ι, ρ, μ, R, o⟩ => ?_
  exact tM_bind R o fun v μ' Z' ι' H' x x1 R1 r1 o1 => op1_ok hg R1.sta r1 o1
theorem fe_op {op : Operator} {r : R2} {g : D → D → Option D} (ho : OpR X (binaryOp op) r) (hg : OpD X.K r g) (ha : FE X W a ma) (hb : FE X W b mb) : FE X W (.BinOp a op b pos) (mBin g ma mb) := by
  refine pe_imp (pe_op ho ha hb) fun σ H Q ⟨Z, ι, ρ, μ, R, o⟩ => ?_
  exact tM_bind R o fun v μ' Z' ι' H' x x1 R1 r1 o1 => tM_bind R1 o1 fun v2 μ2 Z2 ι2 H2 y x2 R2 r2 o2 => op2_ok hg R2.sta (r1.mono x2.same x2.i) r2 o2
theorem fe_cmp {op : CmpOp} {r : R2} {g : D → D → Option D} (ho : OpR X (compareOp op) r) (hg : OpD X.K r g) (ha : FE X W a ma) (hb : FE X W b mb) (hm : behindInMarks op b = false) : FE X W (.Compare a [op] [b] pos) (mBin g ma mb) := by
  refine pe_imp (pe_cmpR ho ha hb hm) fun σ H Q ⟨Z, ι, ρ, μ, R, o⟩ => ?_
  exact tM_bind R o fun v μ' Z' ι' H' x x1 R1 r1 o1 => tM_bind R1 o1 fun v2 μ2 Z2 ι2 H2 y x2 R2 r2 o2 => op2_ok hg R2.sta (r1.mono x2.same x2.i) r2 o2
theorem fe_ix {r : R2} {g : D → D → Option D} (hr : IxR X r) (hg : OpD X.K r g) (ha : FE X W a ma) (hb : FE X W b mb) (hs : PlainIx b) : FE X W (.Subscript a b pos) (mBin g ma mb) := by
  refine pe_imp (pe_ix hr ha hb hs) fun σ H Q ⟨Z, ι, ρ, μ, R, o⟩ => ?_
  exact tM_bind R o fun v μ' Z' ι' H' x x1 R1 r1 o1 => tM_bind R1 o1 fun v2 μ2 Z2 ι2 H2 y x2 R2 r2 o2 => op2_ok hg R2.sta (r1.mono x2.same x2.i) r2 o2
theorem fa_nil : FA X W [] mNil := pa_imp pa_nil fun σ H Q ⟨Z, ι, ρ, μ, R, o⟩ => o Z ι H (Ext.refl R.sta.sub) R.sta [] .nil
theorem fa_cons (ha : FE X W e ma) (hr : FA X W es ms) (hs : starEach (e :: es) X.env = (false, eval e X.env) :: starEach es X.env := by rfl) : FA X W (e :: es) (mCons ma ms) := by
  refine pa_imp (pa_cons ha hr hs) fun σ H Q ⟨Z, ι, ρ, μ, R, o⟩ => ?_
  exact tM_bind R o fun v μ' Z' ι' H' x x1 R1 r1 o1 => tMA_bind R1 o1 fun vs μ2 Z2 ι2 H2 xs x2 R2 r2 o2 => o2 Z2 ι2 H2 (Ext.refl R2.sta.sub) R2.sta _ (.cons (r1.mono x2.same x2.i) r2)
theorem fe_callB {x : Str} {p : Pos} {id : String} {r : List V → Hp → VK → Prop} {g : List D → Option D} (hc : CallR X (.builtin id) r) (hg : CallD X.K r g) (hgl : Gl X x) (hm : X.mg x = none) (hv : bootBuiltins x = some (.builtin id)) (ha : FA X W (e :: es) ms)
    (hn : x ≠ "__name__" := by decide) (hdb : (x == ("__debug__" : Str)) = false := by decide) (he : starEach (e :: es) X.env = (false, eval e X.env) :: starEach es X.env := by rfl) (hpl : (backTo pos (starEach es X.env)).any (·.1) = false := by rfl) :
    FE X W (.Call (.Name x p) (e :: es) [] pos) (mN g ms) := by
  refine pe_imp (pe_callB hc hgl hm hv ha hn hdb he hpl) fun σ H Q ⟨Z, ι, ρ, μ, R, o⟩ => ?_
  exact tMA_bind R o fun v μ' Z' ι' H' x x1 R1 r1 o1 => opN_ok hg R1.sta r1 o1
theorem fe_callTy {x : Str} {p : Pos} {T : String} {r : List V → Hp → VK → Prop} {g : List D → Option D} (hc : CallR X (.type T) r) (hg : CallD X.K r g) (hgl : Gl X x) (hm : X.mg x = none) (hv : bootBuiltins x = some (.type T)) (ha : FA X W (e :: es) ms)
    (hn : x ≠ "__name__" := by decide) (hdb : (x == ("__debug__" : Str)) = false := by decide) (he : starEach (e :: es) X.env = (false, eval e X.env) :: starEach es X.env := by rfl) (hpl : (backTo pos (starEach es X.env)).any (·.1) = false := by rfl) :
    FE X W (.Call (.Name x p) (e :: es) [] pos) (mN g ms) := by
  refine pe_imp (pe_callTy hc hgl hm hv ha hn hdb he hpl) fun σ H Q ⟨Z, ι, ρ, μ, R, o⟩ => ?_
  exact tMA_bind R o fun v μ' Z' ι' H' x x1 R1 r1 o1 => opN_ok hg R1.sta r1 o1
/-! displays -/
def datas : List MV → Option (List D)
  | [] => some []
  | .d x :: as => match datas as with
    | some xs => some (x :: xs)
    | none => none
  | .ref _ :: _ => none
theorem datas_ok {K : PySem.W.Frag} {F : Hp} {ι : List Addr} : ∀ {ms : List MV} {vs : List V} {xs : List D}, RMs K F ι ms vs → datas ms = some xs → DRs K F xs vs
  | _, _, _, .nil, e => by cases e; exact .nil
  | _, _, _, .cons (.d r) b, e => by
    unfold datas at e
    split at e
    · rename_i ys h
      cases e
      exact .cons r (datas_ok b h)
    · cases e
  | _, _, _, .cons (.ref r) b, e => by cases e
def mkTup (as : List MV) (μ : List MO) : Res MV :=
  match datas as with
  | some xs => if xs.length ≤ sizeLine then .ok (.d (.tup xs)) μ else .bad
  | none => .bad
def mTup (ms : MA) : ME := fun ρ μ => (ms ρ μ).bind mkTup
theorem fe_tup {x1} (h : FA X W es ms) : FE X W (.Tuple es x1 pos) (mTup ms) := by
  refine pe_imp (pe_tup h) fun σ H Q ⟨Z, ι, ρ, μ, R, o⟩ => ?_
  refine tMA_bind R o fun v μ' Z' ι' H' x x1 R1 r1 o1 => ?_
  unfold mkTup at o1
  split at o1
  · rename_i xs hx
    have hd := datas_ok r1 hx
    split at o1
    · rename_i hl
      refine ⟨by rw [← hd.len]; exact hl, fun p hp => ?_⟩
      obtain ⟨s, r⟩ := new_tup R1.sta.trk hp hd
      exact Out.new R1.sta o1 s (.d r)
    · exact o1.elim
  · exact o1.elim
/-! tests -/
def truD : D → Option Bool
  | .non => some false
  | .bl b => some b
  | .int i => some (i != 0)
  | .str y => if y.length ≤ sizeLine then some ((y.length : Int) != 0) else none
  | .tup xs => some (!xs.isEmpty)
  | .lst xs => some (!xs.isEmpty)
  | .fl xs => some (!xs.isEmpty)
  | .dK xs => some (!xs.isEmpty)
  | _ => none
theorem DRs.emp {K : PySem.W.Frag} {F : Hp} {xs : List D} {vs : List V} (h : DRs K F xs vs) : (!xs.isEmpty) = !vs.isEmpty := by cases h <;> rfl
theorem truD_ok {K : PySem.W.Frag} {Z : List Addr} {H : Hp} {d : D} {x : V} {b : Bool} (h : DV K Z H d x) (e : truD d = some b) : TruV K x H b := by
  cases d with
  | non => rw [h.non]; cases e; rfl
  | bl b => rw [h.bl]; cases e; rfl
  | int i => rw [h.int]; cases e; rfl
  | str y =>
    rw [h.str]
    simp only [truD] at e
    split at e
    · rename_i hl; cases e; exact ⟨hl, rfl⟩
    · cases e
  | tup xs => obtain ⟨a, vs, rfl, q, r⟩ := h.tup; cases e; exact .inr (.inl ⟨vs, SqT.of q, r.emp⟩)
  | lst xs => obtain ⟨a, vs, rfl, q, r⟩ := h.list; cases e; exact .inl ⟨vs, SqL.of q, r.emp⟩
  | fl xs => obtain ⟨a, vs, rfl, q, r⟩ := h.flist; cases e; exact .inl ⟨vs, q, r.emp⟩
  | dK xs =>
    cases e
    cases h with
    | d h => cases h with | dK q r => exact .inr (.inr ⟨_, mask_same _ _ _ _ q, by cases r <;> rfl⟩)
    | dK q r => exact .inr (.inr ⟨_, q, by cases r <;> rfl⟩)
  | _ => cases e
def tru (v : MV) (μ : List MO) : Res Bool :=
  match view μ v with
  | some x => match truD x with
    | some b => .ok b μ
    | none => .bad
  | none => .bad
def mT (m : ME) : MT := fun ρ μ => (m ρ μ).bind tru
theorem tru_rule {K : PySem.W.Frag} {Z ι : List Addr} {μ : List MO} {H : Hp} {σ : St} {v : MV} {x : V} {Q : Bool → Hp → Prop} (s : Sta K Z ι μ H) (r : RM K (mask H Z) ι v x) (o : Out K W σ Z ι H (tru v μ) (fun b _ _ H' => Q b H')) :
    ∃ k, TruV K x H k ∧ Q k H := by
  unfold tru at o
  split at o
  · rename_i d hd
    split at o
    · rename_i b hb
      exact ⟨b, truD_ok (view_ok s r hd) hb, o Z ι H (Ext.refl s.sub) s⟩
    · exact o.elim
  · exact o.elim
theorem ft_truth (ha : FE X W a ma) (he : ∀ whole, isTrue a X.env whole = (do let v ← whole; standAt a.pos; holding [v] (truthy v)) := by intro _; rfl) : FT X W a (mT ma) := by
  refine pt_imp (pt_truth ha he) fun σ H Q ⟨Z, ι, ρ, μ, R, o⟩ => ?_
  exact tM_bind R o fun v μ' Z' ι' H' x x1 R1 r1 o1 => tru_rule R1.sta r1 o1
/-- a comparison as a test -/
def bool? (v : MV) (μ : List MO) : Res Bool :=
  match v with
  | .d (.bl b) => .ok b μ
  | _ => .bad
def mB (m : ME) : MT := fun ρ μ => (m ρ μ).bind bool?
theorem bool_rule {K : PySem.W.Frag} {Z ι : List Addr} {μ : List MO} {H : Hp} {σ : St} {v : MV} {x : V} {Q : Bool → Hp → Prop} (s : Sta K Z ι μ H) (r : RM K (mask H Z) ι v x) (o : Out K W σ Z ι H (bool? v μ) (fun b _ _ H' => Q b H')) :
    ∃ k, x = .bl k ∧ Q k H := by
  cases r with
  | ref r => exact o.elim
  | d r => cases r with
    | bl b => exact ⟨b, rfl, o Z ι H (Ext.refl s.sub) s⟩
    | _ => exact o.elim
/-- the same, after an operation -/
theorem op2_bool {K : PySem.W.Frag} {Z ι : List Addr} {μ : List MO} {H : Hp} {σ : St} {r : R2} {g : D → D → Option D} (h : OpD K r g) {a b : MV} {x y : V} {Q : Bool → Hp → Prop} (s : Sta K Z ι μ H) (ra : RM K (mask H Z) ι a x) (rb : RM K (mask H Z) ι b y)
    (o : Out K W σ Z ι H ((op2 g a b μ).bind bool?) (fun b _ _ H' => Q b H')) : r x y H (fun z H3 => ∃ k, z = .bl k ∧ Q k H3) := by
  unfold op2 at o
  split at o
  · rename_i d hd
    split at o
    · rename_i e he
      split at o
      · rename_i z hz
        refine h Z H d e z x y _ s.trk (view_ok s ra hd) (view_ok s rb he) hz fun H' y e r => ?_
        cases r with
        | bl b => exact ⟨b, rfl, o Z ι H' (s.grow e).2 (s.grow e).1⟩
        | _ => exact o.elim
      · exact o.elim
    · exact o.elim
  · exact o.elim
theorem ft_cmp {op : CmpOp} {r : R2} {g : D → D → Option D} (ho : OpR X (compareOp op) r) (hg : OpD X.K r g) (ha : FE X W a ma) (hb : FE X W b mb) (hm : behindInMarks op b = false) : FT X W (.Compare a [op] [b] pos) (mB (mBin g ma mb)) := by
  refine pt_imp (pt_cmpR ho ha hb hm) fun σ H Q ⟨Z, ι, ρ, μ, R, o⟩ => ?_
  have e : ∀ ρ μ, mB (mBin g ma mb) ρ μ = (ma ρ μ).bind fun a μ1 => (mb ρ μ1).bind fun b μ2 => (op2 g a b μ2).bind bool? := fun ρ μ => by
    unfold mB mBin
    cases ma ρ μ with
    | ok v μ' => simp only [Res.bind_ok]; cases mb ρ μ' <;> rfl
    | exc C fs μ' => rfl
    | bad => rfl
  rw [e] at o
  exact tM_bind R o fun v μ' Z' ι' H' x x1 R1 r1 o1 => tM_bind R1 o1 fun v2 μ2 Z2 ι2 H2 y x2 R2 r2 o2 => op2_bool hg R2.sta (r1.mono x2.same x2.i) r2 o2
/-! and, or, not, if-expressions -/
abbrev FW (X : Cx) (W : WX) (e : Expr) (m : MT) : Prop := PW X e (tMT X.K W m)
variable {mA mB' : MT} {rest : List Expr}
def mAnd (m n : MT) : MT := fun ρ μ => (m ρ μ).bind fun c μ1 => if c = true then n ρ μ1 else .ok false μ1
def mOr (m n : MT) : MT := fun ρ μ => (m ρ μ).bind fun c μ1 => if c = true then .ok true μ1 else n ρ μ1
def mNot (m : MT) : MT := fun ρ μ => (m ρ μ).bind fun c μ1 => .ok (!c) μ1
theorem fw_and1 (ha : FT X W a mA) : FW X W (.BoolOp .And [a] pos) mA := pw_and1 ha
theorem fw_or1 (ha : FT X W a mA) : FW X W (.BoolOp .Or [a] pos) mA := pw_or1 ha
theorem fw_and (ha : FT X W a mA) (hb : FW X W (.BoolOp .And (b :: rest) pos) mB') : FW X W (.BoolOp .And (a :: b :: rest) pos) (mAnd mA mB') := by
  refine pw_imp (pw_and ha hb) fun σ H Q ⟨Z, ι, ρ, μ, R, o⟩ => ?_
  refine tMT_bind R o fun v μ' Z' ι' H' x1 R1 o1 => ?_
  cases v with
  | true => exact ⟨Z', ι', ρ, μ', R1, o1⟩
  | false => exact o1 Z' ι' H' (Ext.refl R1.sta.sub) R1.sta
theorem fw_or (ha : FT X W a mA) (hb : FW X W (.BoolOp .Or (b :: rest) pos) mB') : FW X W (.BoolOp .Or (a :: b :: rest) pos) (mOr mA mB') := by
  refine pw_imp (pw_or ha hb) fun σ H Q ⟨Z, ι, ρ, μ, R, o⟩ => ?_
  refine tMT_bind R o fun v μ' Z' ι' H' x1 R1 o1 => ?_
  cases v with
  | false => exact ⟨Z', ι', ρ, μ', R1, o1⟩
  | true => exact o1 Z' ι' H' (Ext.refl R1.sta.sub) R1.sta
theorem ft_not (ha : FT X W a mA) : FT X W (.UnaryOp .Not a pos) (mNot mA) := by
  refine pt_imp (pt_not ha) fun σ H Q ⟨Z, ι, ρ, μ, R, o⟩ => ?_
  exact tMT_bind R o fun v μ' Z' ι' H' x1 R1 o1 => o1 Z' ι' H' (Ext.refl R1.sta.sub) R1.sta
def mIf (c : MT) (m n : ME) : ME := fun ρ μ => (c ρ μ).bind fun k μ1 => if k = true then m ρ μ1 else n ρ μ1
theorem fe_ifExp (hc : FT X W c mA) (ha : FE X W a ma) (hb : FE X W b mb) : FE X W (.IfExp c a b pos) (mIf mA ma mb) := by
  refine pe_imp (pe_ifExp hc ha hb) fun σ H Q ⟨Z, ι, ρ, μ, R, o⟩ => ?_
  refine tMT_bind R o fun v μ' Z' ι' H' x1 R1 o1 => ?_
  cases v with
  | true => exact ⟨Z', ι', ρ, μ', R1, o1⟩
  | false => exact ⟨Z', ι', ρ, μ', R1, o1⟩
/-- as values: what stands ahead is True or False -/
def mAndV (m n : ME) : ME := fun ρ μ => (m ρ μ).bind fun v μ1 => match v with
  | .d (.bl true) => n ρ μ1
  | .d (.bl false) => .ok (.d (.bl false)) μ1
  | _ => .bad
def mOrV (m n : ME) : ME := fun ρ μ => (m ρ μ).bind fun v μ1 => match v with
  | .d (.bl true) => .ok (.d (.bl true)) μ1
  | .d (.bl false) => n ρ μ1
  | _ => .bad
def notD : D → Option D
  | .bl b => some (.bl !b)
  | d => match truD d with
    | some b => some (.bl !b)
    | none => none
theorem fe_one {op} (h : FE X W a ma) : FE X W (.BoolOp op [a] pos) ma := pe_one h
theorem fe_and (ha : FE X W a ma) (hb : FE X W (.BoolOp .And (b :: rest) pos) mb) : FE X W (.BoolOp .And (a :: b :: rest) pos) (mAndV ma mb) := by
  refine pe_imp (pe_and ha hb) fun σ H Q ⟨Z, ι, ρ, μ, R, o⟩ => ?_
  refine tM_bind R o fun v μ' Z' ι' H' x x1 R1 r1 o1 => ?_
  cases r1 with
  | ref r => exact o1.elim
  | d r => cases r with
    | bl c =>
      refine ⟨c, rfl, ?_⟩
      cases c with
      | true => exact ⟨Z', ι', ρ, μ', R1, o1⟩
      | false => exact Out.ret R1.sta o1 (.d (.bl false))
    | _ => exact o1.elim
theorem fe_or (ha : FE X W a ma) (hb : FE X W (.BoolOp .Or (b :: rest) pos) mb) : FE X W (.BoolOp .Or (a :: b :: rest) pos) (mOrV ma mb) := by
  refine pe_imp (pe_or ha hb) fun σ H Q ⟨Z, ι, ρ, μ, R, o⟩ => ?_
  refine tM_bind R o fun v μ' Z' ι' H' x x1 R1 r1 o1 => ?_
  cases r1 with
  | ref r => exact o1.elim
  | d r => cases r with
    | bl c =>
      refine ⟨c, rfl, ?_⟩
      cases c with
      | false => exact ⟨Z', ι', ρ, μ', R1, o1⟩
      | true => exact Out.ret R1.sta o1 (.d (.bl true))
    | _ => exact o1.elim
theorem fe_not (ha : FE X W a ma) : FE X W (.UnaryOp .Not a pos) (mUn notD ma) := by
  refine pe_imp (pe_notT ha) fun σ H Q ⟨Z, ι, ρ, μ, R, o⟩ => ?_
  refine tM_bind R o fun v μ' Z' ι' H' x x1 R1 r1 o1 => ?_
  refine op1_ok (r := fun x H1 Q => ∃ k, TruV X.K x H1 k ∧ Q (.bl !k) H1) (fun Z H a c x Q t h e q => ?_) R1.sta r1 o1
  have key : ∀ b, truD a = some b → c = .bl !b → ∃ k, TruV X.K x H k ∧ Q (.bl !k) H := fun b hb hc => ⟨b, truD_ok h hb, q H _ (Same.refl _) (by rw [hc]; exact .bl _)⟩
  unfold notD at e
  split at e
  · cases e; exact key _ rfl rfl
  · split at e
    · rename_i b hb; cases e; exact key _ hb rfl
    · cases e
/-- a < b < c -/
def mChain (g g' : D → D → Option D) (ma mb mc : ME) : ME := fun ρ μ => (ma ρ μ).bind fun a μ1 => (mb ρ μ1).bind fun b μ2 => (op2 g a b μ2).bind fun k μ3 => match k with
  | .d (.bl true) => (mc ρ μ3).bind fun c μ4 => op2 g' b c μ4
  | .d (.bl false) => .ok (.d (.bl false)) μ3
  | _ => .bad
end
end TT

namespace TT
open PySem L2
variable [TB]
/-! statements -/
inductive SR where
  | nx (ρ : En) (μ : List MO) | rt (v : MV) (μ : List MO) | bk (ρ : En) (μ : List MO) | ct (ρ : En) (μ : List MO) | exc (C : Addr) (fs : List (Str × D)) (ρ : En) (μ : List MO) | bad
abbrev MS := En → List MO → SR
def OutS (K : PySem.W.Frag) (W : WX) (Z ι : List Addr) (H : Hp) (r : SR) (E : Ends) : Prop :=
  match r with
  | .nx ρ' μ' => ∀ Z' ι' H' σ', Ext Z ι H Z' ι' H' → Rel K Z' ι' ρ' μ' σ' H' → E.nx σ' H'
  | .bk ρ' μ' => ∀ Z' ι' H' σ', Ext Z ι H Z' ι' H' → Rel K Z' ι' ρ' μ' σ' H' → E.bk σ' H'
  | .ct ρ' μ' => ∀ Z' ι' H' σ', Ext Z ι H Z' ι' H' → Rel K Z' ι' ρ' μ' σ' H' → E.ct σ' H'
  | .rt v μ' => ∀ Z' ι' H', Ext Z ι H Z' ι' H' → Sta K Z' ι' μ' H' → Val K E.rt v Z' ι' H'
  | .exc C fs ρ' μ' => ∀ Z' ι' H' σ' d fs', Ext Z ι H Z' ι' H' → Rel K Z' ι' ρ' μ' σ' H' → H' d = some (.xd fs') → d ∉ Z' → DRf K (mask H' Z') fs fs' → W (.ref C) (some d) σ' H'
  | .bad => False
def tMS (K : PySem.W.Frag) (W : WX) (m : MS) : TS := fun E σ H => ∃ Z ι ρ μ, Rel K Z ι ρ μ σ H ∧ OutS K W Z ι H (m ρ μ) E
abbrev FS (X : Cx) (W : WX) (st : Stmt) (m : MS) : Prop := PS X st (tMS X.K W m)
abbrev FSs (X : Cx) (W : WX) (st : List Stmt) (m : MS) : Prop := PSs X st (tMS X.K W m)
section
variable {K : PySem.W.Frag} {W : WX} {Z ι Z' ι' : List Addr} {H H' : Hp} {E : Ends}
theorem OutS.base {r : SR} (o : OutS K W Z ι H r E) (x : Ext Z ι H Z' ι' H') : OutS K W Z' ι' H' r E := by
  cases r with
  | nx ρ μ => exact fun Z2 ι2 H2 σ2 x2 R2 => o Z2 ι2 H2 σ2 (x.trans x2) R2
  | bk ρ μ => exact fun Z2 ι2 H2 σ2 x2 R2 => o Z2 ι2 H2 σ2 (x.trans x2) R2
  | ct ρ μ => exact fun Z2 ι2 H2 σ2 x2 R2 => o Z2 ι2 H2 σ2 (x.trans x2) R2
  | rt v μ => exact fun Z2 ι2 H2 x2 s2 => o Z2 ι2 H2 (x.trans x2) s2
  | exc C fs ρ μ => exact fun Z2 ι2 H2 σ2 d fs' x2 R2 => o Z2 ι2 H2 σ2 d fs' (x.trans x2) R2
  | bad => exact o
end
/-- an expression's end within a statement -/
def Res.stm {α : Type} (r : Res α) (ρ : En) (k : α → List MO → SR) : SR :=
  match r with
  | .ok a μ => k a μ
  | .exc C fs μ => .exc C fs ρ μ
  | .bad => .bad
@[simp] theorem Res.stm_ok {α : Type} (a : α) (μ : List MO) (ρ : En) (k : α → List MO → SR) : (Res.ok a μ).stm ρ k = k a μ := rfl
@[simp] theorem Res.stm_exc {α : Type} (C : Addr) (fs : List (Str × D)) (μ : List MO) (ρ : En) (k : α → List MO → SR) : (Res.exc C fs μ : Res α).stm ρ k = .exc C fs ρ μ := rfl
@[simp] theorem Res.stm_bad {α : Type} (ρ : En) (k : α → List MO → SR) : (Res.bad : Res α).stm ρ k = .bad := rfl
section
variable {K : PySem.W.Frag} {W : WX} {σ : St} {Z ι Z' ι' : List Addr} {ρ : En} {μ : List MO} {H H' : Hp} {E : Ends}
theorem Out.exc_of {β : Type} {C : Addr} {fs : List (Str × D)} {P : β → List Addr → List Addr → Hp → Prop} (R : Rel K Z ι ρ μ σ H) {μ' : List MO} (o : OutS K W Z ι H (.exc C fs ρ μ') E) : Out K W σ Z ι H (.exc C fs μ' : Res β) P :=
  fun Z2 ι2 H2 d fs' x2 s2 => o Z2 ι2 H2 σ d fs' x2 (R.ext x2 s2)
theorem tM_stm {m : ME} {k : MV → List MO → SR} {Q : VK} (R : Rel K Z ι ρ μ σ H) (o : OutS K W Z ι H ((m ρ μ).stm ρ k) E)
    (h : ∀ v μ' Z' ι' H' x, Ext Z ι H Z' ι' H' → Rel K Z' ι' ρ μ' σ H' → RM K (mask H' Z') ι' v x → OutS K W Z' ι' H' (k v μ') E → Q x H') : tM K W m σ H Q := by
  refine ⟨Z, ι, ρ, μ, R, ?_⟩
  cases e : m ρ μ with
  | ok v μ' =>
    rw [e] at o
    exact fun Z2 ι2 H2 x2 s2 x r => h v μ' Z2 ι2 H2 x x2 (R.ext x2 s2) r (OutS.base o x2)
  | exc C fs μ' => rw [e] at o; exact Out.exc_of R o
  | bad => rw [e] at o; exact o
theorem tMT_stm {m : MT} {k : Bool → List MO → SR} {Q : Bool → Hp → Prop} (R : Rel K Z ι ρ μ σ H) (o : OutS K W Z ι H ((m ρ μ).stm ρ k) E)
    (h : ∀ v μ' Z' ι' H', Ext Z ι H Z' ι' H' → Rel K Z' ι' ρ μ' σ H' → OutS K W Z' ι' H' (k v μ') E → Q v H') : tMT K W m σ H Q := by
  refine ⟨Z, ι, ρ, μ, R, ?_⟩
  cases e : m ρ μ with
  | ok v μ' =>
    rw [e] at o
    exact fun Z2 ι2 H2 x2 s2 => h v μ' Z2 ι2 H2 x2 (R.ext x2 s2) (OutS.base o x2)
  | exc C fs μ' => rw [e] at o; exact Out.exc_of R o
  | bad => rw [e] at o; exact o
theorem tMA_stm {m : MA} {k : List MV → List MO → SR} {Q : List V → Hp → Prop} (R : Rel K Z ι ρ μ σ H) (o : OutS K W Z ι H ((m ρ μ).stm ρ k) E)
    (h : ∀ v μ' Z' ι' H' x, Ext Z ι H Z' ι' H' → Rel K Z' ι' ρ μ' σ H' → RMs K (mask H' Z') ι' v x → OutS K W Z' ι' H' (k v μ') E → Q x H') : tMA K W m σ H Q := by
  refine ⟨Z, ι, ρ, μ, R, ?_⟩
  cases e : m ρ μ with
  | ok v μ' =>
    rw [e] at o
    exact fun Z2 ι2 H2 x2 s2 x r => h v μ' Z2 ι2 H2 x x2 (R.ext x2 s2) r (OutS.base o x2)
  | exc C fs μ' => rw [e] at o; exact Out.exc_of R o
  | bad => rw [e] at o; exact o
theorem OutS.next (R : Rel K Z ι ρ μ σ H) (o : OutS K W Z ι H (.nx ρ μ) E) : E.nx σ H := o Z ι H σ (Ext.refl R.sta.sub) R
end
section
variable {X : Cx} {W : WX} {a b c e : Expr} {es : List Expr} {pos : Pos} {ma mb mc : ME} {ms : MA} {st : Stmt} {rest : List Stmt} {m n : MS}
def mNext : MS := fun ρ μ => .nx ρ μ
def mSeq (m n : MS) : MS := fun ρ μ => match m ρ μ with
  | .nx ρ' μ' => n ρ' μ'
  | r => r
theorem fss_nil : FSs X W [] mNext := pss_imp pss_nil fun E σ H ⟨Z, ι, ρ, μ, R, o⟩ => o.next R
theorem fss_one (h : FS X W st m) : FSs X W [st] m := pss_one h
theorem fss_cons (h1 : FS X W st m) (h2 : FSs X W rest n) : FSs X W (st :: rest) (mSeq m n) := by
  refine pss_imp (pss_cons h1 h2) fun E σ H ⟨Z, ι, ρ, μ, R, o⟩ => ⟨Z, ι, ρ, μ, R, ?_⟩
  unfold mSeq at o
  cases e : m ρ μ with
  | nx ρ' μ' =>
    rw [e] at o
    exact fun Z2 ι2 H2 σ2 x2 R2 => ⟨Z2, ι2, ρ', μ', R2, OutS.base o x2⟩
  | bk ρ' μ' => rw [e] at o; exact o
  | ct ρ' μ' => rw [e] at o; exact o
  | rt ρ' μ' => rw [e] at o; exact o
  | exc C fs ρ' μ' => rw [e] at o; exact o
  | bad => rw [e] at o; exact o
theorem fs_pass : FS X W (.Pass pos) mNext := ps_imp ps_pass fun E σ H ⟨Z, ι, ρ, μ, R, o⟩ => o.next R
theorem fs_break : FS X W (.Break pos) (fun ρ μ => .bk ρ μ) := ps_imp ps_break fun E σ H ⟨Z, ι, ρ, μ, R, o⟩ => o Z ι H σ (Ext.refl R.sta.sub) R
theorem fs_continue : FS X W (.Continue pos) (fun ρ μ => .ct ρ μ) := ps_imp ps_continue fun E σ H ⟨Z, ι, ρ, μ, R, o⟩ => o Z ι H σ (Ext.refl R.sta.sub) R
theorem fs_doc {x j pos'} : FS X W (.Expr (.Constant (.str x) j pos) pos') mNext := ps_imp ps_doc fun E σ H ⟨Z, ι, ρ, μ, R, o⟩ => o.next R
def mExpr (ma : ME) : MS := fun ρ μ => (ma ρ μ).stm ρ fun _ μ1 => .nx ρ μ1
theorem fs_expr (he : FE X W e ma) (hs : swapsWith e none pos.line X.env = pure false := by rfl) : FS X W (.Expr e pos) (mExpr ma) :=
  ps_imp (ps_expr he hs) fun E σ H ⟨Z, ι, ρ, μ, R, o⟩ => tM_stm R o fun v μ' Z' ι' H' x x1 R1 r1 o1 => o1.next R1
def mRet (ma : ME) : MS := fun ρ μ => (ma ρ μ).stm ρ fun v μ1 => .rt v μ1
theorem fs_ret (he : FE X W e ma) : FS X W (.Return (some e) pos) (mRet ma) :=
  ps_imp (ps_ret he) fun E σ H ⟨Z, ι, ρ, μ, R, o⟩ => tM_stm R o fun v μ' Z' ι' H' x x1 R1 r1 o1 => o1 Z' ι' H' (Ext.refl R1.sta.sub) R1.sta x r1
def mRetN : MS := fun _ μ => .rt (.d .non) μ
theorem fs_retN : FS X W (.Return none pos) mRetN := ps_imp ps_retN fun E σ H ⟨Z, ι, ρ, μ, R, o⟩ => o Z ι H (Ext.refl R.sta.sub) R.sta .non (.d .non)
def mIfS (c : MT) (m n : MS) : MS := fun ρ μ => (c ρ μ).stm ρ fun k μ1 => if k = true then m ρ μ1 else n ρ μ1
theorem fs_if {p q : List Stmt} {mt : MT} (hc : FT X W c mt) (ha : FSs X W p m) (hb : FSs X W q n) : FS X W (.If c p q pos) (mIfS mt m n) := by
  refine ps_imp (ps_if hc ha hb) fun E σ H ⟨Z, ι, ρ, μ, R, o⟩ => tMT_stm R o fun v μ' Z' ι' H' x1 R1 o1 => ?_
  cases v with
  | true => exact ⟨Z', ι', ρ, μ', R1, o1⟩
  | false => exact ⟨Z', ι', ρ, μ', R1, o1⟩
/-! targets -/
/-- names and tuples of them -/
abbrev MG := MV → En → Option En
abbrev MGs := List D → En → Option En
def tMG (K : PySem.W.Frag) (g : MG) : TG := fun v σ H Q => ∃ Z ι ρ μ x ρ', Rel K Z ι ρ μ σ H ∧ RM K (mask H Z) ι x v ∧ g x ρ = some ρ' ∧ ∀ σ', Rel K Z ι ρ' μ σ' H → Q σ' H
def tMGs (K : PySem.W.Frag) (g : MGs) : TGs := fun vs σ H Q => ∃ Z ι ρ μ xs ρ', Rel K Z ι ρ μ σ H ∧ DRs K (mask H Z) xs vs ∧ g xs ρ = some ρ' ∧ ∀ σ', Rel K Z ι ρ' μ σ' H → Q σ' H
abbrev FG (X : Cx) (tg : Expr) (g : MG) : Prop := PG X tg (tMG X.K g)
abbrev FGs (X : Cx) (tg : List Expr) (g : MGs) : Prop := PGs X tg (tMGs X.K g)
theorem pg_imp {tg : Expr} {t t' : TG} (h : PG X tg t) (i : ∀ v σ H Q, t' v σ H Q → t v σ H Q) : PG X tg t' := ⟨fun pins s σ H v u Q I r w => h.run pins s σ H v u Q I r (i v σ H Q w)⟩
theorem pgs_imp {tg : List Expr} {t t' : TGs} (h : PGs X tg t) (i : ∀ v σ H Q, t' v σ H Q → t v σ H Q) : PGs X tg t' := ⟨fun pins s σ H v u Q I r w => h.run pins s σ H v u Q I r (i v σ H Q w)⟩
def gN (i : Nat) : MG := fun v ρ => some (ρ.set i (some v))
def gE : MGs := fun xs ρ => match xs with
  | [] => some ρ
  | _ => none
def gC (g : MG) (gs : MGs) : MGs := fun xs ρ => match xs with
  | x :: r => match g (.d x) ρ with
    | some ρ1 => gs r ρ1
    | none => none
  | _ => none
def gT (n : Nat) (gs : MGs) : MG := fun v ρ => match v with
  | .d (.tup xs) => if xs.length = n then gs xs ρ else none
  | _ => none
theorem fg_name {i : Nat} {x : Str} (hN : X.N.Nodup) (hi : X.N[i]? = some x) (hx : Loc X.env.scope x) (hf : X.fn x = true ∨ X.env.scope.names.lookup x = some .local := by first | exact .inl rfl | exact .inr rfl | assumption) : FG X (.Name x pos) (gN i) := by
  refine pg_imp (pg_name (i := i) hN hi hx hf) fun v σ H Q ⟨Z, ι, ρ, μ, x, ρ', R, r, e, h⟩ => ?_
  cases e
  exact h _ ⟨R.sta, R.rs.set r i⟩
theorem fgs_nil : FGs X [] gE := by
  refine pgs_imp pgs_nil fun v σ H Q ⟨Z, ι, ρ, μ, xs, ρ', R, r, e, h⟩ => ?_
  cases r with
  | nil => cases e; exact ⟨rfl, h _ R⟩
  | cons a b => cases e
theorem fgs_cons {e : Expr} {es : List Expr} {g : MG} {gs : MGs} (h1 : FG X e g) (h2 : FGs X es gs) (hs : (assignEach (e :: es) X.env).map (·.2) = assign e X.env :: (assignEach es X.env).map (·.2) := by rfl) : FGs X (e :: es) (gC g gs) := by
  refine pgs_imp (pgs_cons h1 h2 hs) fun v σ H Q ⟨Z, ι, ρ, μ, xs, ρ', R, r, e, h⟩ => ?_
  cases r with
  | nil => cases e
  | cons a b =>
    simp only [gC] at e
    split at e
    · rename_i ρ1 h3
      exact ⟨_, _, rfl, Z, ι, ρ, μ, _, ρ1, R, .d a, h3, fun σ' R' => ⟨Z, ι, ρ1, μ, _, ρ', R', b, e, h⟩⟩
    · cases e
theorem fg_tup {es : List Expr} {k : Nat} {gs : MGs} {n : Nat} (hc : X.calm = true) (h : FGs X es gs) (hn : (assignEach es X.env).length = n := by rfl) (hst : (assignEach es X.env).findIdx? (·.1) = none := by rfl) : FG X (.Tuple es k pos) (gT n gs) := by
  refine pg_imp (pg_tup hc h hn hst) fun v σ H Q ⟨Z, ι, ρ, μ, x, ρ', R, r, e, q⟩ => ?_
  cases r with
  | ref r => cases e
  | d r => cases r with
    | tup h1 h2 =>
      simp only [gT] at e
      split at e
      · rename_i hl
        exact ⟨_, _, rfl, SqT.of (mask_same _ _ _ _ h1), by rw [← h2.len]; exact hl, Z, ι, ρ, μ, _, ρ', R, h2, e, q⟩
      · cases e
    | _ => cases e
/-! assignments -/
def mAsg (ma : ME) (g : MG) : MS := fun ρ μ => (ma ρ μ).stm ρ fun v μ1 => match g v ρ with
  | some ρ' => .nx ρ' μ1
  | none => .bad
theorem asg_rule {K : PySem.W.Frag} {Z ι : List Addr} {ρ : En} {μ : List MO} {σ : St} {H : Hp} {E : Ends} {v : MV} {x : V} {g : MG} (R : Rel K Z ι ρ μ σ H) (r : RM K (mask H Z) ι v x)
    (o : OutS K W Z ι H (match g v ρ with | some ρ' => .nx ρ' μ | none => .bad) E) : tMG K g x σ H E.nx := by
  split at o
  · rename_i ρ' h
    exact ⟨Z, ι, ρ, μ, v, ρ', R, r, h, fun σ' R' => o Z ι H σ' (Ext.refl R.sta.sub) R'⟩
  · exact o.elim
theorem fs_set {i : Nat} {x : Str} {pos' : Pos} (hN : X.N.Nodup) (hi : X.N[i]? = some x) (hx : Loc X.env.scope x) (he : FE X W e ma) (hs : swapsWith e (some (.Name x pos')) pos.line X.env = pure false := by rfl)
    (hf : X.fn x = true ∨ X.env.scope.names.lookup x = some .local := by first | exact .inl rfl | exact .inr rfl | assumption) : FS X W (.Assign [.Name x pos'] e pos) (mAsg ma (gN i)) := by
  refine ps_imp (ps_set (i := i) hN hi hx he hs hf) fun E σ H ⟨Z, ι, ρ, μ, R, o⟩ => tM_stm R o fun v μ' Z' ι' H' x x1 R1 r1 o1 => ?_
  exact o1 Z' ι' H' _ (Ext.refl R1.sta.sub) ⟨R1.sta, R1.rs.set r1 i⟩
theorem fs_asg {tg : Expr} {g : MG} (he : FE X W e ma) (hg : FG X tg g) (hs : swapsWithSole [tg] e pos.line X.env = pure false := by rfl) (hw : swappedStores [tg] e X.env = pure none := by rfl)
    (h1 : (assignEach [tg] X.env).map (·.2) = [assign tg X.env] := by rfl) : FS X W (.Assign [tg] e pos) (mAsg ma g) := by
  refine ps_imp (ps_asg he hg hs hw h1) fun E σ H ⟨Z, ι, ρ, μ, R, o⟩ => tM_stm R o fun v μ' Z' ι' H' x x1 R1 r1 o1 => asg_rule R1 r1 o1
/-- a, b = x, y -/
def mPar2 (i j : Nat) (ms : MA) : MS := fun ρ μ => (ms ρ μ).stm ρ fun vs μ1 => match vs with
  | [v, w] => .nx ((ρ.set i (some v)).set j (some w)) μ1
  | _ => .bad
theorem fs_par {i j : Nat} {x y : Str} {px py pt : Pos} {kt k2 pt2} (hc : X.calm = true) (hN : X.N.Nodup) (hi : X.N[i]? = some x) (hj : X.N[j]? = some y) (hij : i ≠ j)
    (hx : X.env.scope.names.lookup x = some .local) (hy : X.env.scope.names.lookup y = some .local) (ha : FA X W [a, b] ms)
    (hw : swappedStores [.Tuple [.Name x px, .Name y py] kt pt] (.Tuple [a, b] k2 pt2) X.env = pure (some [x, y]))
    (hs : swapsWithSole [.Tuple [.Name x px, .Name y py] kt pt] (.Tuple [a, b] k2 pt2) pos.line X.env = pure false := by rfl) : FS X W (.Assign [.Tuple [.Name x px, .Name y py] kt pt] (.Tuple [a, b] k2 pt2) pos) (mPar2 i j ms) := by
  refine ps_imp (ps_par (i := i) (j := j) hc hN hi hj hij hx hy ha hw hs) fun E σ H ⟨Z, ι, ρ, μ, R, o⟩ => tMA_stm R o fun v μ' Z' ι' H' x x1 R1 r1 o1 => ?_
  cases r1 with
  | nil => exact o1.elim
  | cons r1 rr => cases rr with
    | nil => exact o1.elim
    | cons r2 rr => cases rr with
      | cons _ _ => exact o1.elim
      | nil => exact ⟨_, _, rfl, o1 Z' ι' H' _ (Ext.refl R1.sta.sub) ⟨R1.sta, (R1.rs.set r1 i).set r2 j⟩⟩
def mPar3 (i j l : Nat) (ms : MA) : MS := fun ρ μ => (ms ρ μ).stm ρ fun vs μ1 => match vs with
  | [v, w, z] => .nx (((ρ.set i (some v)).set j (some w)).set l (some z)) μ1
  | _ => .bad
theorem fs_par3 {i j l : Nat} {x y z : Str} {px py pz pt : Pos} {kt k2 pt2} (hc : X.calm = true) (hN : X.N.Nodup) (hi : X.N[i]? = some x) (hj : X.N[j]? = some y) (hl : X.N[l]? = some z) (hij : i ≠ j) (hil : i ≠ l) (hjl : j ≠ l)
    (hx : X.env.scope.names.lookup x = some .local) (hy : X.env.scope.names.lookup y = some .local) (hz : X.env.scope.names.lookup z = some .local) (ha : FA X W [a, b, c] ms)
    (hw : swappedStores [.Tuple [.Name x px, .Name y py, .Name z pz] kt pt] (.Tuple [a, b, c] k2 pt2) X.env = pure (some [x, y, z]))
    (hs : swapsWithSole [.Tuple [.Name x px, .Name y py, .Name z pz] kt pt] (.Tuple [a, b, c] k2 pt2) pos.line X.env = pure false := by rfl) :
    FS X W (.Assign [.Tuple [.Name x px, .Name y py, .Name z pz] kt pt] (.Tuple [a, b, c] k2 pt2) pos) (mPar3 i j l ms) := by
  refine ps_imp (ps_par3 (i := i) (j := j) (l := l) hc hN hi hj hl hij hil hjl hx hy hz ha hw hs) fun E σ H ⟨Z, ι, ρ, μ, R, o⟩ => tMA_stm R o fun v μ' Z' ι' H' x x1 R1 r1 o1 => ?_
  cases r1 with
  | nil => exact o1.elim
  | cons r1 rr => cases rr with
    | nil => exact o1.elim
    | cons r2 rr => cases rr with
      | nil => exact o1.elim
      | cons r3 rr => cases rr with
        | cons _ _ => exact o1.elim
        | nil => exact ⟨_, _, _, rfl, o1 Z' ι' H' _ (Ext.refl R1.sta.sub) ⟨R1.sta, ((R1.rs.set r1 i).set r2 j).set r3 l⟩⟩
/-- x op= e -/
def mAug (i : Nat) (g : D → D → Option D) (ma : ME) : MS := fun ρ μ => match ρ[i]? with
  | some (some x) => (ma ρ μ).stm ρ fun y μ1 => (op2 g x y μ1).stm ρ fun z μ2 => .nx (ρ.set i (some z)) μ2
  | _ => .bad
theorem fs_aug {i : Nat} {x : Str} {op : Operator} {r : R2} {g : D → D → Option D} {pos' : Pos} (hN : X.N.Nodup) (hi : X.N[i]? = some x) (hx : Loc X.env.scope x) (he : FE X W e ma) (ho : PIp X op r) (hg : OpD X.K r g)
    (hf : X.fn x = true ∨ X.env.scope.names.lookup x = some .local := by first | exact .inl rfl | exact .inr rfl | assumption) : FS X W (.AugAssign (.Name x pos') op e pos) (mAug i g ma) := by
  refine ps_imp (ps_aug (i := i) hN hi hx he ho hf) fun E σ H ⟨Z, ι, ρ, μ, R, o⟩ => ?_
  unfold mAug at o
  split at o
  · rename_i v hv
    obtain ⟨y, h1, h2⟩ := RS.get R.rs hv
    refine ⟨y, h1, tM_stm R o fun w μ' Z' ι' H' z x1 R1 r1 o1 => ?_⟩
    have o2 : Out X.K W σ Z' ι' H' (op2 g v w μ') (Val X.K fun z H2 => E.nx (σ.set i (some z)) H2) := by
      cases q : op2 g v w μ' with
      | ok u μ2 => rw [q] at o1; exact fun Z2 ι2 H2 x2 s2 z r => o1 Z2 ι2 H2 _ x2 ⟨s2, (R1.ext x2 s2).rs.set r i⟩
      | exc C fs μ2 => rw [q] at o1; exact Out.exc_of R1 o1
      | bad => rw [q] at o1; exact o1
    exact op2_ok hg R1.sta (h2.mono x1.same x1.i) r1 o2
  · exact o.elim
/-! while -/
/-- n: at most so many turns -/
def whileM (n : Nat) (c : MT) (b : MS) : MS := match n with
  | 0 => fun _ _ => .bad
  | n + 1 => fun ρ μ => (c ρ μ).stm ρ fun k μ1 => if k = true then (match b ρ μ1 with
    | .nx ρ2 μ2 => whileM n c b ρ2 μ2
    | .ct ρ2 μ2 => whileM n c b ρ2 μ2
    | .bk ρ2 μ2 => .nx ρ2 μ2
    | r => r) else .nx ρ μ1
theorem fs_while {body : List Stmt} {mt : MT} (n : Nat) (hp : PassesOwn (model X.prog X.w) X.A X.env X.xe) (hc : FT X W c mt) (hb : FSs X W body m) : FS X W (.While c body [] pos) (whileM n mt m) := by
  refine ps_imp (ps_while hp hc hb) fun E σ H ⟨Z, ι, ρ, μ, R, o⟩ => ?_
  refine ⟨fun k σ H => ∃ Z ι ρ μ, Rel X.K Z ι ρ μ σ H ∧ OutS X.K W Z ι H (whileM k mt m ρ μ) E, ⟨n, Z, ι, ρ, μ, R, o⟩, ?_⟩
  rintro k σ H ⟨Z, ι, ρ, μ, R, o⟩
  cases k with
  | zero => exact o.elim
  | succ k =>
    unfold whileM at o
    refine tMT_stm R o fun v μ' Z' ι' H' x1 R1 o1 => ?_
    cases v with
    | false => exact o1.next R1
    | true =>
      refine ⟨fun σ H => ∃ Z ι ρ μ, Rel X.K Z ι ρ μ σ H ∧ OutS X.K W Z ι H (whileM k mt m ρ μ) E, fun σ' H' h => ⟨k, Nat.lt_succ_self _, h⟩, Z', ι', ρ, μ', R1, ?_⟩
      simp only [if_true] at o1
      cases q : m ρ μ' with
      | nx ρ2 μ2 => rw [q] at o1; exact fun Z2 ι2 H2 σ2 x2 R2 => ⟨Z2, ι2, ρ2, μ2, R2, OutS.base o1 x2⟩
      | ct ρ2 μ2 => rw [q] at o1; exact fun Z2 ι2 H2 σ2 x2 R2 => ⟨Z2, ι2, ρ2, μ2, R2, OutS.base o1 x2⟩
      | bk ρ2 μ2 => rw [q] at o1; exact o1
      | rt v μ2 => rw [q] at o1; exact o1
      | exc C fs ρ2 μ2 => rw [q] at o1; exact o1
      | bad => rw [q] at o1; exact o1
/-! what is walked -/
/-- items, and the store's list that they are of -/
abbrev MI := En → List MO → Res (List D × Option Nat)
open Classical in
noncomputable def chk (q : List D × Option Nat) (μ : List MO) : Bool := match q.2 with
  | none => true
  | some n => decide (μ[n]? = some (.lst q.1))
/-- .. stands while the store bears it -/
def Its (K : PySem.W.Frag) (R : It → Hp → Prop) : List D × Option Nat → List Addr → List Addr → Hp → Prop := fun q Z ι H =>
  ∀ J G Y, Walk J q.1.length G Y → (∀ Z2 ι2 μ2 H2, Ext Z ι H Z2 ι2 H2 → Sta K Z2 ι2 μ2 H2 → chk q μ2 = true → G H2) →
    (∀ Z2 ι2 μ2 H2 i d x H3, Ext Z ι H Z2 ι2 H2 → Sta K Z2 ι2 μ2 H2 → chk q μ2 = true → q.1[i]? = some d → Y i H2 x H3 → Same H2 H3 ∧ DR K (mask H3 Z2) d x) → R J H
def tMI (K : PySem.W.Frag) (W : WX) (m : MI) : TI := fun σ H R => ∃ Z ι ρ μ, Rel K Z ι ρ μ σ H ∧ Out K W σ Z ι H (m ρ μ) (Its K R)
abbrev FI (X : Cx) (W : WX) (tg e : Expr) (m : MI) : Prop := PI X tg e (tMI X.K W m)
theorem pi_imp {tg e : Expr} {t t' : TI} (h : PI X tg e t) (i : ∀ σ H R, t' σ H R → t σ H R) : PI X tg e t' := ⟨fun pins s σ H R I w => h.run pins s σ H R I (i σ H R w)⟩
noncomputable def forD (q : List D × Option Nat) (g : MG) (b : MS) : List D → En → List MO → SR
  | [], ρ, μ => if chk q μ = true then .nx ρ μ else .bad
  | x :: xs, ρ, μ => if chk q μ = true then (match g (.d x) ρ with
    | none => .bad
    | some ρ1 => match b ρ1 μ with
      | .nx ρ2 μ2 => forD q g b xs ρ2 μ2
      | .ct ρ2 μ2 => forD q g b xs ρ2 μ2
      | .bk ρ2 μ2 => .nx ρ2 μ2
      | r => r) else .bad
noncomputable def mFor (mi : MI) (g : MG) (b : MS) : MS := fun ρ μ => (mi ρ μ).stm ρ fun q μ1 => forD q g b q.1 ρ μ1
theorem forD_chk {K : PySem.W.Frag} {Z ι : List Addr} {H : Hp} {E : Ends} {q : List D × Option Nat} {g : MG} {b : MS} {xs : List D} {ρ : En} {μ : List MO} (o : OutS K W Z ι H (forD q g b xs ρ μ) E) : chk q μ = true := by
  cases xs <;> (unfold forD at o; split at o; assumption; exact o.elim)
theorem fs_for {iter tg : Expr} {body : List Stmt} {mi : MI} {g : MG} (hp : PassesOwn (model X.prog X.w) X.A X.env X.xe) (hc : X.calm = true) (hi : FI X W tg iter mi) (hg : FG X tg g) (hb : FSs X W body m)
    (hs : ∀ x, foldedSetIterable iter X.env x = pure x := by intro _; rfl) : FS X W (.For tg iter body [] pos) (mFor mi g m) := by
  refine ps_imp (ps_for hp hc hi hg hb hs) fun E σ H ⟨Z, ι, ρ, μ, R, o⟩ => ⟨Z, ι, ρ, μ, R, ?_⟩
  unfold mFor at o
  cases eq : mi ρ μ with
  | exc C fs μ' => rw [eq] at o; exact Out.exc_of R o
  | bad => rw [eq] at o; exact o
  | ok q μ' =>
    rw [eq] at o
    intro Z1 ι1 H1 x1 s1 J G Y w hG hY
    have R1 := R.ext x1 s1
    have o1 : OutS X.K W Z1 ι1 H1 (forD q g m q.1 ρ μ') E := OutS.base o x1
    refine for_it w (fun i σ H2 => ∃ Z2 ι2 ρ2 μ2, Ext Z1 ι1 H1 Z2 ι2 H2 ∧ Rel X.K Z2 ι2 ρ2 μ2 σ H2 ∧ OutS X.K W Z2 ι2 H2 (forD q g m (q.1.drop i) ρ2 μ2) E) ⟨Z1, ι1, ρ, μ', Ext.refl s1.sub, R1, o1⟩ ?_ ?_ ?_
    · rintro i σ2 H2 hi ⟨Z2, ι2, ρ2, μ2, x2, R2, o2⟩
      exact hG Z2 ι2 μ2 H2 x2 R2.sta (forD_chk o2)
    · rintro i x σ2 H2 H3 hi ⟨Z2, ι2, ρ2, μ2, x2, R2, o2⟩ hy
      have hx : q.1[i]? = some q.1[i] := by simp [hi]
      obtain ⟨sm, dr⟩ := hY Z2 ι2 μ2 H2 i _ x H3 x2 R2.sta (forD_chk o2) hx hy
      rw [List.drop_eq_getElem_cons hi] at o2
      have hck := forD_chk o2
      unfold forD at o2
      rw [if_pos hck] at o2
      obtain ⟨s3, x3⟩ := R2.sta.grow sm
      have R3 := R2.ext x3 s3
      split at o2
      · exact o2.elim
      · rename_i ρ3 hg3
        refine ⟨Z2, ι2, ρ2, μ2, _, ρ3, R3, .d dr, hg3, fun σ4 R4 => ⟨Z2, ι2, ρ3, μ2, R4, ?_⟩⟩
        have o3 := OutS.base o2 x3
        cases eb : m ρ3 μ2 with
        | nx ρ5 μ5 => rw [eb] at o3; exact fun Z5 ι5 H5 σ5 x5 R5 => ⟨Z5, ι5, ρ5, μ5, (x2.trans x3).trans x5, R5, OutS.base o3 x5⟩
        | ct ρ5 μ5 => rw [eb] at o3; exact fun Z5 ι5 H5 σ5 x5 R5 => ⟨Z5, ι5, ρ5, μ5, (x2.trans x3).trans x5, R5, OutS.base o3 x5⟩
        | bk ρ5 μ5 => rw [eb] at o3; exact o3
        | rt ρ5 μ5 => rw [eb] at o3; exact o3
        | exc C fs ρ5 μ5 => rw [eb] at o3; exact o3
        | bad => rw [eb] at o3; exact o3
    · rintro σ2 H2 ⟨Z2, ι2, ρ2, μ2, x2, R2, o2⟩
      rw [List.drop_length] at o2
      have hck := forD_chk o2
      unfold forD at o2
      rw [if_pos hck] at o2
      exact o2.next R2
end
end TT

namespace TT
open PySem L2
variable [TB]
/-- a place that bears no table and no code object is written -/
theorem tabs_upd {T : List (Addr × Str)} {H : Hp} (t : LamX.Tabs T H) {a : Addr} {u o : HO} (e : H a = some u) (n1 : ∀ ps, u ≠ .tbl ps) (n2 : ∀ c q, u ≠ LamX.CodeO c q) : LamX.Tabs T (upd H a o) := fun p hp => by
  obtain ⟨ps, h1, h2, h3⟩ := t p hp
  have ne : p.1 ≠ a := fun z => by rw [z, e] at h1; cases h1; exact n1 _ rfl
  refine ⟨ps, (upd_ne ne).trans h1, h2, fun pos cv hc => ?_⟩
  obtain ⟨c, e1, e2⟩ := h3 pos cv hc
  refine ⟨c, e1, (upd_ne fun z => ?_).trans e2⟩
  rw [z, e] at e2
  exact n2 _ _ (Option.some.inj e2)
/-! new lists: data, or objects of the store -/
abbrev ML := En → List MO → Res (List D)
def tFr (K : PySem.W.Frag) (W : WX) (m : ML) : TE := fun σ H Q => ∃ Z ι ρ μ, Rel K Z ι ρ μ σ H ∧ Out K W σ Z ι H (m ρ μ) (fun xs Z' ι' H' => ∀ a vs, H a = none → a ∈ Z' → a ∉ ι' → H' a = some (.lst vs) → DRs K (mask H' Z') xs vs → Q (.ref a) H')
abbrev FL (X : Cx) (W : WX) (e : Expr) (m : ML) : Prop := PE X e (tFr X.K W m)
def mFz (m : ML) : ME := fun ρ μ => (m ρ μ).bind fun xs μ1 => .ok (.d (.lst xs)) μ1
def mOwn (m : ML) : ME := fun ρ μ => (m ρ μ).bind fun xs μ1 => .ok (.ref μ1.length) (μ1 ++ [.lst xs])
theorem mask_less {H : Hp} {Z Z' : List Addr} (h : ∀ a ∈ Z', a ∈ Z) : Same (mask H Z) (mask H Z') := fun a o e => by
  have t := mask_nt e
  obtain ⟨n, e⟩ := of_mask e
  exact mask_in (fun q => n (h a q)) e t
section
variable {K : PySem.W.Frag} {W : WX} {σ : St} {Z ι Z' ι' : List Addr} {ρ : En} {μ μ' : List MO} {H H' : Hp}
/-- a place leaves those that may change -/
theorem Sta.freeze (s : Sta K Z ι μ H) {a : Addr} (n : a ∉ ι) : Sta K (Z.filter (· ≠ a)) ι μ H := by
  have m : ∀ b ∈ Z.filter (· ≠ a), b ∈ Z := fun b h => (List.mem_filter.mp h).1
  refine ⟨fun b h => List.mem_filter.mpr ⟨s.sub b h, decide_eq_true fun q => n (by rw [← q]; exact h)⟩, s.nd, s.len, fun b h => s.trk b (m b h), s.tab, fun k b o h1 h2 => ?_⟩
  obtain ⟨ho, h3, h4⟩ := s.obj k b o h1 h2
  exact ⟨ho, h3, h4.mono (mask_less m) (fun _ _ h => h)⟩
theorem Ext.freeze (x : Ext Z ι H Z' ι' H') (t : ∀ a ∈ Z, ∃ o, H a = some o) {a : Addr} (h : H a = none) : Ext Z ι H (Z'.filter (· ≠ a)) ι' H' := by
  refine ⟨x.sub, fun b hb => List.mem_filter.mpr ⟨x.z b hb, decide_eq_true fun q => ?_⟩, x.i, x.keep, x.tb, fun b hb => x.new b (List.mem_filter.mp hb).1, x.newi⟩
  obtain ⟨o, e⟩ := t b hb
  rw [q, h] at e; cases e
/-- a place comes to the store -/
theorem Sta.own (s : Sta K Z ι μ H) {a : Addr} {o : MO} {ho : HO} (hz : a ∈ Z) (n : a ∉ ι) (e : H a = some ho) (r : RO K (mask H Z) ι o ho) : Sta K Z (ι ++ [a]) (μ ++ [o]) H := by
  have p : Pre ι (ι ++ [a]) := fun n b h => by
    have := (List.getElem?_eq_some_iff.mp h).1
    rw [List.getElem?_append_left this]; exact h
  refine ⟨fun b h => ?_, ?_, by simp [s.len], s.trk, s.tab, fun k b o' h1 h2 => ?_⟩
  · rcases List.mem_append.mp h with h | h
    · exact s.sub b h
    · rw [List.mem_singleton.mp h]; exact hz
  · rw [List.nodup_append]
    refine ⟨s.nd, by simp, fun b hb c hc => ?_⟩
    rw [List.mem_singleton.mp hc]
    intro q
    exact n (by rw [← q]; exact hb)
  · by_cases hk : k < ι.length
    · rw [List.getElem?_append_left hk] at h1
      rw [List.getElem?_append_left (by rw [← s.len]; exact hk)] at h2
      obtain ⟨ho, h3, h4⟩ := s.obj k b o' h1 h2
      exact ⟨ho, h3, h4.mono (Same.refl _) p⟩
    · have hk2 : k = ι.length := by
        have := (List.getElem?_eq_some_iff.mp h1).1
        rw [List.length_append] at this
        have : k < ι.length + 1 := this
        omega
      subst hk2
      rw [List.getElem?_concat_length] at h1
      rw [s.len, List.getElem?_concat_length] at h2
      cases h1
      cases h2
      exact ⟨ho, e, r.mono (Same.refl _) p⟩
theorem Ext.own (x : Ext Z ι H Z' ι' H') {a : Addr} (h : H a = none) : Ext Z ι H Z' (ι' ++ [a]) H' := by
  refine ⟨x.sub, x.z, fun n b hb => ?_, x.keep, x.tb, x.new, fun b hb => ?_⟩
  · have := x.i n b hb
    rw [List.getElem?_append_left (List.getElem?_eq_some_iff.mp this).1]; exact this
  · rcases List.mem_append.mp hb with q | q
    · exact x.newi b q
    · rw [List.mem_singleton.mp q]; exact .inr h
theorem tFr_bind {m : ML} {β : Type} {k : List D → List MO → Res β} {P : β → List Addr → List Addr → Hp → Prop} {Q : VK} (R : Rel K Z ι ρ μ σ H) (o : Out K W σ Z ι H ((m ρ μ).bind k) P)
    (h : ∀ xs μ' Z' ι' H' a vs, Ext Z ι H Z' ι' H' → Sta K Z' ι' μ' H' → H a = none → a ∈ Z' → a ∉ ι' → H' a = some (.lst vs) → DRs K (mask H' Z') xs vs → Out K W σ Z ι H (k xs μ') P → Q (.ref a) H') : tFr K W m σ H Q := by
  refine ⟨Z, ι, ρ, μ, R, ?_⟩
  cases e : m ρ μ with
  | ok xs μ' =>
    rw [e] at o
    exact fun Z2 ι2 H2 x2 s2 a vs h1 h2 h3 h4 h5 => h xs μ' Z2 ι2 H2 a vs x2 s2 h1 h2 h3 h4 h5 o
  | exc C fs μ' => rw [e] at o; exact o
  | bad => rw [e] at o; exact o
end
section
variable {X : Cx} {W : WX} {a b c e : Expr} {es : List Expr} {pos : Pos} {ma mb mc : ME} {ms : MA} {ml : ML}
theorem fe_fz (h : FL X W e ml) : FE X W e (mFz ml) := by
  refine pe_imp h fun σ H Q ⟨Z, ι, ρ, μ, R, o⟩ => tFr_bind R o fun xs μ' Z' ι' H' a vs x s h1 h2 h3 h4 h5 o1 => ?_
  refine o1 _ ι' H' (x.freeze R.sta.trk h1) (s.freeze h3) _ (.d (.lst (mask_in (fun q => ?_) h4) (h5.mono (mask_less fun b hb => (List.mem_filter.mp hb).1) _ _)))
  exact of_decide_eq_true (List.mem_filter.mp q).2 rfl
theorem fe_own (h : FL X W e ml) : FE X W e (mOwn ml) := by
  refine pe_imp h fun σ H Q ⟨Z, ι, ρ, μ, R, o⟩ => tFr_bind R o fun xs μ' Z' ι' H' a vs x s h1 h2 h3 h4 h5 o1 => ?_
  refine o1 Z' (ι' ++ [a]) H' (x.own h1) (s.own h2 h3 h4 (.lst h5)) _ (.ref ?_)
  rw [← s.len, List.getElem?_concat_length]
/-- a heap in which a new list stands -/
theorem fr_new {K : PySem.W.Frag} {σ : St} {Z ι Z' ι' : List Addr} {μ' : List MO} {H H' : Hp} {xs : List D} {vs : List V} {Q : VK} (x : Ext Z ι H Z' ι' H') (s : Sta K Z' ι' μ' H') (d : DRs K (mask H' Z') xs vs)
    (o : Out K W σ Z ι H (.ok xs μ') (fun xs Z' ι' H' => ∀ a vs, H a = none → a ∈ Z' → a ∉ ι' → H' a = some (.lst vs) → DRs K (mask H' Z') xs vs → Q (.ref a) H')) {p : Addr} (hp : H' p = none) : Q (.ref p) (upd H' p (.lst vs)) := by
  have sm : Same H' (upd H' p (.lst vs)) := fun b o e => (upd_ne (ne_of_none e hp)).trans e
  obtain ⟨s2, x2⟩ := s.grow sm
  have np : p ∉ Z' := fun q => by obtain ⟨o, e⟩ := s.trk p q; rw [hp] at e; cases e
  have hH : H p = none := by
    cases q : H p with
    | none => rfl
    | some o1 =>
      by_cases h2 : p ∈ ι
      · exact (np (x.z p (x.sub p h2))).elim
      · exact q.symm.trans (x.free h2 hp)
  have ms : Same (mask H' Z') (mask (upd H' p (.lst vs)) (p :: Z')) := fun b o e => by
    have t := mask_nt e
    obtain ⟨n, e⟩ := of_mask e
    refine mask_in (fun q => ?_) (sm b o e) t
    rcases List.mem_cons.mp q with z | z
    · rw [z, hp] at e; cases e
    · exact n z
  refine o (p :: Z') ι' _ ⟨x.sub, fun b hb => List.mem_cons_of_mem _ (x.z b hb), x.i, fun b o n t e => sm b o (x.keep b o n t e), fun b ps e => (let ⟨qs, z⟩ := x.tb b ps e; ⟨qs, sm b _ z⟩), fun b hb => ?_, x.newi⟩ ⟨fun b hb => List.mem_cons_of_mem _ (s.sub b hb), s.nd, s.len, fun b hb => ?_, s.tab.ext sm, fun k b o h1 h2 => ?_⟩ p vs hH List.mem_cons_self
    (fun q => np (s.sub p q)) upd_same (d.mono ms _ _)
  · rcases List.mem_cons.mp hb with z | z
    · rw [z]; exact .inr hH
    · exact x.new b z
  · rcases List.mem_cons.mp hb with z | z
    · rw [z]; exact ⟨_, upd_same⟩
    · obtain ⟨o, e⟩ := s.trk b z; exact ⟨o, sm b o e⟩
  · obtain ⟨ho, h3, h4⟩ := s.obj k b o h1 h2
    exact ⟨ho, sm b ho h3, h4.mono ms (fun _ _ h => h)⟩
/-- [a, b] -/
def mLst (ms : MA) : ML := fun ρ μ => (ms ρ μ).bind fun as μ1 => match datas as with
  | some xs => if xs.length ≤ sizeLine then .ok xs μ1 else .bad
  | none => .bad
theorem fl_lst (h : FA X W es ms) : FL X W (.List es pos) (mLst ms) := by
  refine pe_imp (pe_lst h) fun σ H Q ⟨Z, ι, ρ, μ, R, o⟩ => ?_
  refine ⟨Z, ι, ρ, μ, R, ?_⟩
  unfold mLst at o
  cases q : ms ρ μ with
  | exc C fs μ' => rw [q] at o; exact o
  | bad => rw [q] at o; exact o
  | ok as μ' =>
    rw [q] at o
    intro Z1 ι1 H1 x1 s1 vs rv
    simp only [Res.bind_ok] at o
    split at o
    · rename_i xs hx
      have hd := datas_ok rv hx
      split at o
      · rename_i hl
        exact ⟨by rw [← hd.len]; exact hl, fun p hp => fr_new x1 s1 hd o hp⟩
      · exact o.elim
    · exact o.elim
/-- an operation that gives a new list -/
def op2L (g : D → D → Option (List D)) (a b : MV) (μ : List MO) : Res (List D) :=
  match view μ a with
  | some x => match view μ b with
    | some y => match g x y with
      | some z => .ok z μ
      | none => .bad
    | none => .bad
  | none => .bad
def opNL (g : List D → Option (List D)) (as : List MV) (μ : List MO) : Res (List D) :=
  match views μ as with
  | some xs => match g xs with
    | some z => .ok z μ
    | none => .bad
  | none => .bad
def mBinL (g : D → D → Option (List D)) (ma mb : ME) : ML := fun ρ μ => (ma ρ μ).bind fun a μ1 => (mb ρ μ1).bind fun b μ2 => op2L g a b μ2
def mNL (g : List D → Option (List D)) (ms : MA) : ML := fun ρ μ => (ms ρ μ).bind (opNL g)
def OpL (K : PySem.W.Frag) (r : R2) (g : D → D → Option (List D)) : Prop :=
  ∀ (Z : List Addr) (H : Hp) (a b : D) (c : List D) (x y : V) (Q : VK), Trk Z H → DV K Z H a x → DV K Z H b y → g a b = some c → (∀ p vs, H p = none → DRs K (mask H Z) c vs → Q (.ref p) (upd H p (.lst vs))) → r x y H Q
def CallL (K : PySem.W.Frag) (r : List V → Hp → VK → Prop) (g : List D → Option (List D)) : Prop :=
  ∀ (Z : List Addr) (H : Hp) (as : List D) (c : List D) (xs : List V) (Q : VK), Trk Z H → DVs K Z H as xs → g as = some c → (∀ p vs, H p = none → DRs K (mask H Z) c vs → Q (.ref p) (upd H p (.lst vs))) → r xs H Q
theorem fl_op {op : Operator} {r : R2} {g : D → D → Option (List D)} (ho : OpR X (binaryOp op) r) (hg : OpL X.K r g) (ha : FE X W a ma) (hb : FE X W b mb) : FL X W (.BinOp a op b pos) (mBinL g ma mb) := by
  refine pe_imp (pe_op ho ha hb) fun σ H Q ⟨Z, ι, ρ, μ, R, o⟩ => ?_
  refine ⟨Z, ι, ρ, μ, R, ?_⟩
  unfold mBinL at o
  cases q : ma ρ μ with
  | exc C fs μ' => rw [q] at o; exact o
  | bad => rw [q] at o; exact o
  | ok v μ1 =>
    rw [q] at o
    intro Z1 ι1 H1 x1 s1 x rx
    have R1 := R.ext x1 s1
    refine ⟨Z1, ι1, ρ, μ1, R1, ?_⟩
    simp only [Res.bind_ok] at o
    cases q2 : mb ρ μ1 with
    | exc C fs μ' => rw [q2] at o; exact fun Z2 ι2 H2 d fs' x2 s2 => o Z2 ι2 H2 d fs' (x1.trans x2) s2
    | bad => rw [q2] at o; exact o
    | ok w μ2 =>
      rw [q2] at o
      intro Z2 ι2 H2 x2 s2 y ry
      simp only [Res.bind_ok, op2L] at o
      split at o
      · rename_i d hd
        split at o
        · rename_i e he
          split at o
          · rename_i z hz
            exact hg Z2 H2 d e z x y Q s2.trk (view_ok s2 (rx.mono x2.same x2.i) hd) (view_ok s2 ry he) hz fun p vs hp d => fr_new (x1.trans x2) s2 d o hp
          · exact o.elim
        · exact o.elim
      · exact o.elim
theorem fl_callTy {x : Str} {p : Pos} {T : String} {r : List V → Hp → VK → Prop} {g : List D → Option (List D)} (hc : CallR X (.type T) r) (hg : CallL X.K r g) (hgl : Gl X x) (hm : X.mg x = none) (hv : bootBuiltins x = some (.type T)) (ha : FA X W (e :: es) ms)
    (hn : x ≠ "__name__" := by decide) (hdb : (x == ("__debug__" : Str)) = false := by decide) (he : starEach (e :: es) X.env = (false, eval e X.env) :: starEach es X.env := by rfl) (hpl : (backTo pos (starEach es X.env)).any (·.1) = false := by rfl) :
    FL X W (.Call (.Name x p) (e :: es) [] pos) (mNL g ms) := by
  refine pe_imp (pe_callTy hc hgl hm hv ha hn hdb he hpl) fun σ H Q ⟨Z, ι, ρ, μ, R, o⟩ => ⟨Z, ι, ρ, μ, R, ?_⟩
  unfold mNL at o
  cases q : ms ρ μ with
  | exc C fs μ' => rw [q] at o; exact o
  | bad => rw [q] at o; exact o
  | ok as μ' =>
    rw [q] at o
    intro Z1 ι1 H1 x1 s1 vs rv
    simp only [Res.bind_ok, opNL] at o
    split at o
    · rename_i xs hx
      split at o
      · rename_i z hz
        exact hg Z1 H1 xs z vs Q s1.trk (views_ok s1 rv hx) hz fun p vs hp d => fr_new x1 s1 d o hp
      · exact o.elim
    · exact o.elim
theorem fl_callB {x : Str} {p : Pos} {id : String} {r : List V → Hp → VK → Prop} {g : List D → Option (List D)} (hc : CallR X (.builtin id) r) (hg : CallL X.K r g) (hgl : Gl X x) (hm : X.mg x = none) (hv : bootBuiltins x = some (.builtin id)) (ha : FA X W (e :: es) ms)
    (hn : x ≠ "__name__" := by decide) (hdb : (x == ("__debug__" : Str)) = false := by decide) (he : starEach (e :: es) X.env = (false, eval e X.env) :: starEach es X.env := by rfl) (hpl : (backTo pos (starEach es X.env)).any (·.1) = false := by rfl) :
    FL X W (.Call (.Name x p) (e :: es) [] pos) (mNL g ms) := by
  refine pe_imp (pe_callB hc hgl hm hv ha hn hdb he hpl) fun σ H Q ⟨Z, ι, ρ, μ, R, o⟩ => ⟨Z, ι, ρ, μ, R, ?_⟩
  unfold mNL at o
  cases q : ms ρ μ with
  | exc C fs μ' => rw [q] at o; exact o
  | bad => rw [q] at o; exact o
  | ok as μ' =>
    rw [q] at o
    intro Z1 ι1 H1 x1 s1 vs rv
    simp only [Res.bind_ok, opNL] at o
    split at o
    · rename_i xs hx
      split at o
      · rename_i z hz
        exact hg Z1 H1 xs z vs Q s1.trk (views_ok s1 rv hx) hz fun p vs hp d => fr_new x1 s1 d o hp
      · exact o.elim
    · exact o.elim
end
/-! comprehensions -/
def Res.calm {α : Type} : Res α → Res α
  | .exc _ _ _ => .bad
  | r => r
@[simp] theorem Res.calm_ok {α : Type} (a : α) (μ : List MO) : (Res.ok a μ).calm = .ok a μ := rfl
@[simp] theorem Res.calm_bad {α : Type} : (Res.bad : Res α).calm = .bad := rfl
abbrev W0 : WX := fun _ _ _ _ => False
def wipeM (ρ : En) : List Nat → En
  | [] => ρ
  | v :: vs => (wipeM ρ vs).set v none
theorem RS.setN {K : PySem.W.Frag} {F : Hp} {ι : List Addr} : ∀ {ρ : En} {σ : St}, RS K F ι ρ σ → ∀ (i : Nat) (v : Option V), RS K F ι (ρ.set i none) (σ.set i v)
  | _, _, .nil, _, _ => .nil
  | _, _, .cons _ t, 0, _ => .cons .none t
  | _, _, .cons q t, i + 1, v => .cons q (RS.setN t i v)
theorem RS.wipe {K : PySem.W.Frag} {F : Hp} {ι : List Addr} {ρ : En} {σ : St} (h : RS K F ι ρ σ) : ∀ vs : List Nat, RS K F ι (wipeM ρ vs) (L2.wipe σ vs)
  | [] => h
  | v :: vs => (RS.wipe h vs).setN v none
noncomputable def lcD (q : List D × Option Nat) (g : MG) (c : MT) (el : ME) (ρ : En) : List D → List D → List MO → Res (List D)
  | [], acc, μ => if chk q μ = true then .ok acc μ else .bad
  | x :: xs, acc, μ => if chk q μ = true then (match g (.d x) ρ with
    | none => .bad
    | some ρ1 => (c ρ1 μ).calm.bind fun k μ1 => if k = true then (el ρ1 μ1).calm.bind fun v μ2 => (match v with
        | .d y => lcD q g c el ρ xs (acc ++ [y]) μ2
        | .ref _ => .bad) else lcD q g c el ρ xs acc μ1) else .bad
noncomputable def mLC (mi : MI) (g : MG) (c : MT) (el : ME) (vs : List Nat) : ML := fun ρ μ => (mi ρ μ).bind fun q μ1 => if q.1.length ≤ sizeLine then lcD q g c el (wipeM ρ vs) q.1 [] μ1 else .bad
/-- a target that stores names at vs alone -/
def GOk (K : PySem.W.Frag) (g : TG) (gm : MG) (vs : List Nat) : Prop := ∀ Z ι ρ μ σ H x v ρ' (Q : St → Hp → Prop), Rel K Z ι ρ μ σ H → RM K (mask H Z) ι x v → gm x ρ = some ρ' → (∀ σ', Rel K Z ι ρ' μ σ' H → wipe σ' vs = wipe σ vs → Q σ' H) → g v σ H Q
def GOks (K : PySem.W.Frag) (g : TGs) (gm : MGs) (vs : List Nat) : Prop := ∀ Z ι ρ μ σ H x v ρ' (Q : St → Hp → Prop), Rel K Z ι ρ μ σ H → DRs K (mask H Z) x v → gm x ρ = some ρ' → (∀ σ', Rel K Z ι ρ' μ σ' H → wipe σ' vs = wipe σ vs → Q σ' H) → g v σ H Q
theorem set_wipe {v : Option V} : ∀ {vs : List Nat} {σ : St} {i : Nat}, i ∈ vs → wipe (σ.set i v) vs = wipe σ vs
  | [], _, _, h => by cases h
  | w :: vs, σ, i, h => by
    unfold wipe
    by_cases e : i ∈ vs
    · rw [set_wipe e]
    · have hw : i = w := by
        rcases List.mem_cons.mp h with q | q
        · exact q
        · exact (e q).elim
      subst hw
      have : ∀ (us : List Nat) (τ : St), i ∉ us → wipe (τ.set i v) us = (wipe τ us).set i v := by
        intro us
        induction us with
        | nil => intro τ _; rfl
        | cons u us ih =>
          intro τ hn
          unfold wipe
          rw [ih τ (fun q => hn (List.mem_cons_of_mem _ q)), List.set_comm _ _ (fun q => hn (by rw [q]; exact List.mem_cons_self))]
      rw [this vs σ e, List.set_set]
section
variable {K : PySem.W.Frag} {vs : List Nat}
theorem cg_name {i : Nat} (h : i ∈ vs) : GOk K (gName i) (gN i) vs := fun Z ι ρ μ σ H x v ρ' Q R r e q => by
  cases e
  exact q _ ⟨R.sta, R.rs.set r i⟩ (set_wipe h)
theorem cgs_nil : GOks K gNil gE vs := fun Z ι ρ μ σ H x v ρ' Q R r e q => by
  cases r with
  | nil => cases e; exact ⟨rfl, q _ R rfl⟩
  | cons a b => cases e
theorem cgs_cons {t : TG} {u : TGs} {g : MG} {gs : MGs} (h1 : GOk K t g vs) (h2 : GOks K u gs vs) : GOks K (gCons t u) (gC g gs) vs := fun Z ι ρ μ σ H x v ρ' Q R r e q => by
  cases r with
  | nil => cases e
  | cons a b =>
    simp only [gC] at e
    split at e
    · rename_i ρ1 h3
      exact ⟨_, _, rfl, h1 Z ι ρ μ σ H _ _ ρ1 _ R (.d a) h3 fun σ1 R1 w1 => h2 Z ι ρ1 μ σ1 H _ _ ρ' Q R1 b e fun σ2 R2 w2 => q σ2 R2 (w2.trans w1)⟩
    · cases e
theorem cg_tup {n : Nat} {t : TGs} {gs : MGs} (h : GOks K t gs vs) : GOk K (gTup K n t) (gT n gs) vs := fun Z ι ρ μ σ H x v ρ' Q R r e q => by
  cases r with
  | ref r => cases e
  | d r => cases r with
    | tup h1 h2 =>
      simp only [gT] at e
      split at e
      · rename_i hl
        exact ⟨_, _, rfl, SqT.of (mask_same _ _ _ _ h1), by rw [← h2.len]; exact hl, h Z ι ρ μ σ H _ _ ρ' Q R h2 e q⟩
      · cases e
    | _ => cases e
end
section
variable {X : Cx} {W : WX}
def mYes : MT := fun _ μ => .ok true μ
abbrev FTs (X : Cx) (W : WX) (ifs : List Expr) (m : MT) : Prop := PTs X ifs (tMT X.K W m)
theorem fts_nil : FTs X W [] mYes := ⟨fun pins s σ H Q I ⟨Z, ι, ρ, μ, R, o⟩ => pts_nil.run pins s σ H Q I (o Z ι H (Ext.refl R.sta.sub) R.sta)⟩
theorem fts_one {c : Expr} {m : MT} (h : FT X W c m) : FTs X W [c] m := pts_one h
theorem lcD_chk {K : PySem.W.Frag} {σ : St} {Z ι : List Addr} {H : Hp} {P : List D → List Addr → List Addr → Hp → Prop} {q : List D × Option Nat} {g : MG} {c : MT} {el : ME} {ρ : En} {xs acc : List D} {μ : List MO} (o : Out K W σ Z ι H (lcD q g c el ρ xs acc μ) P) : chk q μ = true := by
  cases xs <;> (unfold lcD at o; split at o; assumption; exact o.elim)
/-- a place within Z that is no object of the store is written -/
theorem Sta.side {K : PySem.W.Frag} {Z ι : List Addr} {μ : List MO} {H : Hp} (s : Sta K Z ι μ H) {a : Addr} {o : HO} {as : List V} (he : H a = some (.lst as)) (hz : a ∈ Z) (n : a ∉ ι) : Sta K Z ι μ (upd H a o) := by
  have ms : Same (mask H Z) (mask (upd H a o) Z) := fun b u e => by
    obtain ⟨n1, e1⟩ := of_mask e
    exact mask_in n1 ((upd_ne fun q => n1 (by rw [q]; exact hz)).trans e1) (mask_nt e)
  refine ⟨s.sub, s.nd, s.len, fun b hb => ?_, tabs_upd s.tab he (fun ps z => by cases z) (fun c q z => by cases z), fun k b o' h1 h2 => ?_⟩
  · by_cases q : b = a
    · rw [q]; exact ⟨o, upd_same⟩
    · obtain ⟨u, e⟩ := s.trk b hb; exact ⟨u, (upd_ne q).trans e⟩
  · obtain ⟨ho, h3, h4⟩ := s.obj k b o' h1 h2
    refine ⟨ho, (upd_ne fun q => n ?_).trans h3, h4.mono ms (fun _ _ h => h)⟩
    rw [← q]
    exact List.mem_of_getElem? h1
theorem lc_read {K : PySem.W.Frag} {mi : MI} {g : TG} {gm : MG} {c : MT} {el : ME} {vs0 : List Nat} (hgo : GOk K g gm vs0) {σ : St} {H : Hp} {Q : VK} (h : tFr K W (mLC mi gm c el vs0) σ H Q) : tLc (tMI K W mi) g (tMT K W0 c) (tM K W0 el) vs0 σ H Q := by
  obtain ⟨Z, ι, ρ, μ, R, o⟩ := h
  refine ⟨Z, ι, ρ, μ, R, ?_⟩
  unfold mLC at o
  cases eq : mi ρ μ with
  | exc C fs μ' => rw [eq] at o; exact o
  | bad => rw [eq] at o; exact o
  | ok q μ1 =>
    rw [eq] at o
    simp only [Res.bind_ok] at o
    split at o
    · rename_i hsz
      intro Z1 ι1 H1 x1 s1 J G Y w hG hY L hL
      have R1 := R.ext x1 s1
      have nL : L ∉ Z1 := fun z => by obtain ⟨u, e⟩ := s1.trk L z; rw [hL] at e; cases e
      have nH : H L = none := by
        cases qq : H L with
        | none => rfl
        | some u =>
          by_cases h2 : L ∈ ι
          · exact (nL (x1.z L (x1.sub L h2))).elim
          · exact qq.symm.trans (x1.free h2 hL)
      generalize vs0 = vs at o hgo ⊢
      refine lc_it w (fun i H2 => ∃ Z2 ι2 μ2 acc as, Ext Z1 ι1 H1 Z2 ι2 H2 ∧ Sta K Z2 ι2 μ2 H2 ∧ L ∈ Z2 ∧ L ∉ ι2 ∧ H2 L = some (.lst as) ∧ DRs K (mask H2 Z2) acc as ∧ acc.length ≤ i ∧
          Out K W σ Z ι H (lcD q gm c el (wipeM ρ vs) (q.1.drop i) acc μ2) (fun xs Z' ι' H' => ∀ a vs, H a = none → a ∈ Z' → a ∉ ι' → H' a = some (.lst vs) → DRs K (mask H' Z') xs vs → Q (.ref a) H')) ?_ ?_ ?_ ?_
      · have sm : Same H1 (upd H1 L (.lst [])) := fun b o e => (upd_ne (ne_of_none e hL)).trans e
        have ms : Same (mask H1 Z1) (mask (upd H1 L (.lst [])) (L :: Z1)) := fun b o e => by
          have t := mask_nt e
          obtain ⟨n, e⟩ := of_mask e
          refine mask_in (fun q => ?_) (sm b o e) t
          rcases List.mem_cons.mp q with z | z
          · rw [z, hL] at e; cases e
          · exact n z
        refine ⟨L :: Z1, ι1, μ1, [], [], ⟨s1.sub, fun b hb => List.mem_cons_of_mem _ hb, fun _ _ h => h, fun b o _ _ e => sm b o e, fun b ps e => ⟨ps, sm b _ e⟩, fun b hb => ?_, fun b hb => .inl hb⟩, ⟨fun b hb => List.mem_cons_of_mem _ (s1.sub b hb), s1.nd, s1.len, fun b hb => ?_, s1.tab.ext sm, fun k b o' h1 h2 => ?_⟩,
          List.mem_cons_self, fun z => nL (s1.sub L z), upd_same, .nil, Nat.le_refl _, o⟩
        · rcases List.mem_cons.mp hb with z | z
          · rw [z]; exact .inr hL
          · exact .inl z
        · rcases List.mem_cons.mp hb with z | z
          · rw [z]; exact ⟨_, upd_same⟩
          · obtain ⟨u, e⟩ := s1.trk b z; exact ⟨u, sm b u e⟩
        · obtain ⟨ho, h3, h4⟩ := s1.obj k b o' h1 h2
          exact ⟨ho, sm b ho h3, h4.mono ms (fun _ _ h => h)⟩
      · rintro i H2 hi ⟨Z2, ι2, μ2, acc, as, x2, s2, l1, l2, l3, l4, l5, o2⟩
        exact hG Z2 ι2 μ2 H2 x2 s2 (lcD_chk o2)
      · rintro i x H2 H3 hi ⟨Z2, ι2, μ2, acc, as, x2, s2, l1, l2, l3, l4, l5, o2⟩ hy
        have hx : q.1[i]? = some q.1[i] := by simp [hi]
        obtain ⟨sm, dr⟩ := hY Z2 ι2 μ2 H2 i _ x H3 x2 s2 (lcD_chk o2) hx hy
        rw [List.drop_eq_getElem_cons hi] at o2
        have hck := lcD_chk o2
        unfold lcD at o2
        rw [if_pos hck] at o2
        obtain ⟨s3, x3⟩ := s2.grow sm
        split at o2
        · exact o2.elim
        · rename_i ρ1 hg1
          have R3 : Rel K Z2 ι2 (wipeM ρ vs) μ2 (wipe σ vs) H3 := ⟨s3, ((R1.rs.mono x2.same x2.i).mono x3.same x3.i).wipe vs⟩
          refine hgo Z2 ι2 _ μ2 _ H3 _ x ρ1 _ R3 (.d dr) hg1 fun σ4 R4 w4 => ⟨?_, Z2, ι2, ρ1, μ2, R4, ?_⟩
          · rw [w4]
            -- wiping twice
            have ww : ∀ (us : List Nat) (τ : St), wipe (wipe τ us) us = wipe τ us := by
              intro us τ
              have key : ∀ (ws : List Nat) (τ : St) (i : Nat), i ∈ ws → (wipe τ ws).set i none = wipe τ ws := by
                intro ws
                induction ws with
                | nil => intro τ i h; cases h
                | cons u us ih =>
                  intro τ i h
                  unfold wipe
                  by_cases e : i = u
                  · subst e; rw [List.set_set]
                  · have h2 : i ∈ us := by
                      rcases List.mem_cons.mp h with z | z
                      · exact (e z).elim
                      · exact z
                    rw [List.set_comm _ _ (fun z => e z.symm), ih τ i h2]
              have key2 : ∀ (ws us : List Nat) (τ : St), (∀ i ∈ ws, i ∈ us) → wipe (wipe τ us) ws = wipe τ us := by
                intro ws
                induction ws with
                | nil => intro us τ _; rfl
                | cons u ws ih =>
                  intro us τ h
                  show (wipe (wipe τ us) ws).set u none = wipe τ us
                  rw [ih us τ fun i hi => h i (List.mem_cons_of_mem _ hi), key us τ u (h u List.mem_cons_self)]
              exact key2 us us τ fun _ h => h
            exact ww vs σ
          · cases ec : c ρ1 μ2 with
            | exc C fs μ' => rw [ec] at o2; exact o2.elim
            | bad => rw [ec] at o2; exact o2
            | ok k μ3 =>
              rw [ec] at o2
              simp only [Res.calm_ok, Res.bind_ok] at o2
              intro Z4 ι4 H4 x4 s4
              have xa : Ext Z1 ι1 H1 Z4 ι4 H4 := (x2.trans x3).trans x4
              have l4' : DRs K (mask H4 Z4) acc as := (l4.mono x3.same _ _).mono x4.same _ _
              have l3' : H4 L = some (.lst as) := x4.keep L _ l2 True.intro (sm L _ l3)
              have l2' : L ∉ ι4 := fun z => by
                rcases x4.newi L z with z | z
                · exact l2 z
                · rw [sm L _ l3] at z; cases z
              cases k with
              | false => exact ⟨Z4, ι4, μ3, acc, as, xa, s4, x4.z L l1, l2', l3', l4', by omega, o2⟩
              | true =>
                refine ⟨Z4, ι4, ρ1, μ3, R4.ext x4 s4, ?_⟩
                simp only [if_true] at o2
                cases ee : el ρ1 μ3 with
                | exc C fs μ' => rw [ee] at o2; exact o2.elim
                | bad => rw [ee] at o2; exact o2
                | ok v μ5 =>
                  rw [ee] at o2
                  simp only [Res.calm_ok, Res.bind_ok] at o2
                  intro Z5 ι5 H5 x5 s5 y ry
                  cases ry with
                  | ref r => exact o2.elim
                  | d ry =>
                    have m5 : H5 L = some (.lst as) := x5.keep L _ l2' True.intro l3'
                    have n5 : L ∉ ι5 := fun z => by
                      rcases x5.newi L z with z | z
                      · exact l2' z
                      · rw [l3'] at z; cases z
                    have z5 : L ∈ Z5 := x5.z L (x4.z L l1)
                    have xb : Ext Z1 ι1 H1 Z5 ι5 H5 := xa.trans x5
                    refine ⟨as, m5, ?_, Z5, ι5, μ5, acc ++ [_], as ++ [y], ⟨xb.sub, xb.z, xb.i, fun b u n t e => ?_, fun b ps e => ?_, xb.new, xb.newi⟩, s5.side m5 z5 n5, z5, n5, upd_same, ?_, ?_, o2⟩
                    · rw [← l4'.len]; omega
                    · rw [upd_ne (ne_of_none e hL)]; exact xb.keep b u n t e
                    · obtain ⟨qs, z⟩ := xb.tb b ps e
                      exact ⟨qs, (upd_ne (ne_of_none e hL)).trans z⟩
                    · have ms : Same (mask H5 Z5) (mask (upd H5 L (.lst (as ++ [y]))) Z5) := fun b u e => by
                        obtain ⟨n1, e1⟩ := of_mask e
                        exact mask_in n1 ((upd_ne fun q => n1 (by rw [q]; exact z5)).trans e1) (mask_nt e)
                      exact DRs.append (.cons (DR.mono ms _ _ ry) .nil) ((l4'.mono x5.same _ _).mono ms _ _)
                    · rw [List.length_append]; show acc.length + 1 ≤ i + 1; omega
      · rintro H2 ⟨Z2, ι2, μ2, acc, as, x2, s2, l1, l2, l3, l4, l5, o2⟩
        rw [List.drop_length] at o2
        have hck := lcD_chk o2
        unfold lcD at o2
        rw [if_pos hck] at o2
        exact o2 Z2 ι2 H2 (x1.trans x2) s2 L as nH l1 l2 l3 l4
    · exact o.elim
theorem fl_lc {elt tg iter : Expr} {ifs : List Expr} {scope : Scope} {own : List (Str × Nat)} {pos : Pos} {mi : MI} {g : TG} {gm : MG} {c : MT} {el : ME} (hc : X.calm = true) (hN : X.N.Nodup) (hi : FI X W tg iter mi) (ok : BlkOk X.N X.env.scope scope own)
    (hgo : GOk X.K g gm (own.map (·.2)))
    (hg : ∀ (s : Shared) (H : Hp) (C : Addr) (cl : List (Str × Addr)) (fp : List Addr), PG (X.blk s H scope (compEnvC scope cl C X.env) fp) tg g)
    (ht : ∀ (s : Shared) (H : Hp) (C : Addr) (cl : List (Str × Addr)) (fp : List Addr), FTs (X.blk s H scope (compEnvC scope cl C X.env) fp) W0 ifs c)
    (he : ∀ (s : Shared) (H : Hp) (C : Addr) (cl : List (Str × Addr)) (fp : List Addr), FE (X.blk s H scope (compEnvC scope cl C X.env) fp) W0 elt el) (hs : ∀ x, foldedSetIterable iter X.env x = pure x := by intro _; rfl) :
    FL X W (.ListComp elt [⟨tg, iter, ifs, 0⟩] scope pos) (mLC mi gm c el (own.map (·.2))) :=
  pe_imp (pe_lc (g := g) (tt := tMT X.K W0 c) (te := tM X.K W0 el) hc hN hi ok hg ht he hs) fun σ H Q h => lc_read hgo h
/-- y = [..] on one line -/
theorem setLc {i : Nat} {y : Str} {py : Pos} {elt tg iter : Expr} {ifs : List Expr} {scope : Scope} {own : List (Str × Nat)} {pos spos : Pos} {mi : MI} {g : TG} {gm : MG} {c : MT} {el : ME} (hc : X.calm = true) (hN : X.N.Nodup) (hy : X.N[i]? = some y) (hyl : X.env.scope.names.lookup y = some .local)
    (hsw : swapsWith (.ListComp elt [⟨tg, iter, ifs, 0⟩] scope pos) (some (.Name y py)) spos.line X.env = pure true) (hi : FI X W tg iter mi) (ok : BlkOk X.N X.env.scope scope own)
    (hgo : GOk X.K g gm (own.map (·.2)))
    (hg : ∀ (s : Shared) (H : Hp) (C : Addr) (cl : List (Str × Addr)) (fp : List Addr), PG (X.blk s H scope (compEnvC scope cl C X.env) fp) tg g)
    (ht : ∀ (s : Shared) (H : Hp) (C : Addr) (cl : List (Str × Addr)) (fp : List Addr), FTs (X.blk s H scope (compEnvC scope cl C X.env) fp) W0 ifs c)
    (he : ∀ (s : Shared) (H : Hp) (C : Addr) (cl : List (Str × Addr)) (fp : List Addr), FE (X.blk s H scope (compEnvC scope cl C X.env) fp) W0 elt el) (hs : ∀ x, foldedSetIterable iter X.env x = pure x := by intro _; rfl) :
    PS X (.Assign [.Name y py] (.ListComp elt [⟨tg, iter, ifs, 0⟩] scope pos) spos) (tAsg (tFr X.K W (mLC mi gm c el (own.map (·.2)))) (gName i)) :=
  ps_imp (ps_setLc (i := i) (g := g) (tt := tMT X.K W0 c) (te := tM X.K W0 el) hc hN hy hyl hsw hi ok hg ht he hs) fun D σ H h => lc_read hgo h
theorem fs_lcF {i : Nat} {st : Stmt} {ml : ML} (h : PS X st (tAsg (tFr X.K W ml) (gName i))) : FS X W st (mAsg (mFz ml) (gN i)) := by
  refine ps_imp h fun E σ H ⟨Z, ι, ρ, μ, R, o⟩ => ⟨Z, ι, ρ, μ, R, ?_⟩
  unfold mAsg mFz at o
  cases q : ml ρ μ with
  | exc C fs μ' => rw [q] at o; exact Out.exc_of R o
  | bad => rw [q] at o; exact o
  | ok xs μ' =>
    rw [q] at o
    intro Z' ι' H' x s a vs h1 h2 h3 h4 h5
    have s2 := s.freeze h3
    have x2 := x.freeze R.sta.trk h1
    have d : DR X.K (mask H' (Z'.filter (· ≠ a))) (.lst xs) (.ref a) := .lst (mask_in (fun q => of_decide_eq_true (List.mem_filter.mp q).2 rfl) h4) (h5.mono (mask_less fun b hb => (List.mem_filter.mp hb).1) _ _)
    exact o _ ι' H' _ x2 ⟨s2, (R.ext x2 s2).rs.set (.d d) i⟩
theorem fs_lcO {i : Nat} {st : Stmt} {ml : ML} (h : PS X st (tAsg (tFr X.K W ml) (gName i))) : FS X W st (mAsg (mOwn ml) (gN i)) := by
  refine ps_imp h fun E σ H ⟨Z, ι, ρ, μ, R, o⟩ => ⟨Z, ι, ρ, μ, R, ?_⟩
  unfold mAsg mOwn at o
  cases q : ml ρ μ with
  | exc C fs μ' => rw [q] at o; exact Out.exc_of R o
  | bad => rw [q] at o; exact o
  | ok xs μ' =>
    rw [q] at o
    intro Z' ι' H' x s a vs h1 h2 h3 h4 h5
    have s2 := s.own h2 h3 h4 (.lst h5)
    have x2 := x.own h1
    exact o Z' _ H' _ x2 ⟨s2, (R.ext x2 s2).rs.set (.ref (by rw [← s.len, List.getElem?_concat_length])) i⟩
end
end TT

namespace TT
open PySem L2
variable [TB]
section
variable {X : Cx} {W : WX} {tg a b c e : Expr} {es : List Expr} {pos : Pos} {ma mb mc : ME} {ms : MA}
theorem pi_or {t t' : TI} (h : PI X tg e t) (h' : PI X tg e t') : PI X tg e (fun σ H R => t σ H R ∨ t' σ H R) := ⟨fun pins s σ H R I w => w.elim (h.run pins s σ H R I) (h'.run pins s σ H R I)⟩
def chars (z : Str) : List D := z.cps.toList.map fun c => .str ⟨#[c]⟩
def itemsOf (v : MV) (μ : List MO) : Res (List D × Option Nat) := match v with
  | .d (.lst xs) => .ok (xs, none) μ
  | .d (.tup xs) => .ok (xs, none) μ
  | .d (.fl xs) => .ok (xs, none) μ
  | .d (.str z) => .ok (chars z, none) μ
  | .ref n => match μ[n]? with
    | some (.lst xs) => .ok (xs, some n) μ
    | _ => .bad
  | _ => .bad
def mIt (ma : ME) : MI := fun ρ μ => (ma ρ μ).bind itemsOf
theorem its_list {K : PySem.W.Frag} {Z ι : List Addr} {μ : List MO} {H : Hp} {σ : St} {a : Addr} {xs : List D} {vs : List V} {R : It → Hp → Prop} (s : Sta K Z ι μ H) (h : SqL K (mask H Z) a vs) (d : DRs K (mask H Z) xs vs)
    (o : Out K W σ Z ι H (.ok (xs, none) μ) (Its K R)) : R (Itl K a) H := by
  refine o Z ι H (Ext.refl s.sub) s (Itl K a) _ _ (by rw [show xs.length = vs.length from d.len]; exact walk_list) (fun Z2 ι2 μ2 H2 x2 s2 _ => (mask_same _ _).seq (x2.same.seq h)) fun Z2 ι2 μ2 H2 i d' x H3 x2 s2 _ hd hy => ?_
  obtain ⟨rfl, hx⟩ := hy
  obtain ⟨v, h1, h2⟩ := d.get hd
  rw [hx] at h1
  cases h1
  exact ⟨Same.refl _, DR.mono x2.same _ _ h2⟩
theorem its_tup {K : PySem.W.Frag} {Z ι : List Addr} {μ : List MO} {H : Hp} {σ : St} {a : Addr} {xs : List D} {vs : List V} {R : It → Hp → Prop} (s : Sta K Z ι μ H) (h : SqT K (mask H Z) a vs) (d : DRs K (mask H Z) xs vs)
    (o : Out K W σ Z ι H (.ok (xs, none) μ) (Its K R)) : R (Itt K a) H := by
  refine o Z ι H (Ext.refl s.sub) s (Itt K a) _ _ (by rw [show xs.length = vs.length from d.len]; exact walk_tup) (fun Z2 ι2 μ2 H2 x2 s2 _ => same_t (mask_same _ _) (same_t x2.same h)) fun Z2 ι2 μ2 H2 i d' x H3 x2 s2 _ hd hy => ?_
  obtain ⟨rfl, hx⟩ := hy
  obtain ⟨v, h1, h2⟩ := d.get hd
  rw [hx] at h1
  cases h1
  exact ⟨Same.refl _, DR.mono x2.same _ _ h2⟩
theorem its_str {K : PySem.W.Frag} {Z ι : List Addr} {μ : List MO} {H : Hp} {σ : St} {z : Str} {R : It → Hp → Prop} (s : Sta K Z ι μ H) (o : Out K W σ Z ι H (.ok (chars z, none) μ) (Its K R)) : R (L2.Its z) H := by
  refine o Z ι H (Ext.refl s.sub) s (L2.Its z) _ _ (by rw [show (chars z).length = z.cps.size by simp [chars]]; exact walk_str) (fun _ _ _ _ _ _ _ => trivial) fun Z2 ι2 μ2 H2 i d' x H3 x2 s2 _ hd hy => ?_
  obtain ⟨rfl, c, hc, rfl⟩ := hy
  refine ⟨Same.refl _, ?_⟩
  simp only [chars, List.getElem?_map, Array.getElem?_toList, hc, Option.map_some, Option.some.injEq] at hd
  subst hd
  exact .str _
theorem its_ref {K : PySem.W.Frag} {Z ι : List Addr} {μ : List MO} {H : Hp} {σ : St} {a : Addr} {n : Nat} {xs : List D} {R : It → Hp → Prop} (s : Sta K Z ι μ H) (h : ι[n]? = some a) (e : μ[n]? = some (.lst xs))
    (o : Out K W σ Z ι H (.ok (xs, some n) μ) (Its K R)) : (∃ vs, SqL K H a vs) ∧ R (Itl K a) H := by
  obtain ⟨ho, h1, h2⟩ := s.obj n a _ h e
  cases h2 with
  | lst d =>
    rename_i vs
    refine ⟨⟨vs, SqL.of h1⟩, ?_⟩
    have key : ∀ Z2 ι2 μ2 H2, Ext Z ι H Z2 ι2 H2 → Sta K Z2 ι2 μ2 H2 → chk (xs, some n) μ2 = true → ∃ ws, H2 a = some (.lst ws) ∧ DRs K (mask H2 Z2) xs ws := fun Z2 ι2 μ2 H2 x2 s2 c => by
      simp only [chk, decide_eq_true_eq] at c
      obtain ⟨ho, h3, h4⟩ := s2.obj n a _ (x2.i n a h) c
      cases h4 with | lst d => exact ⟨_, h3, d⟩
    refine o Z ι H (Ext.refl s.sub) s (Itl K a) (fun H2 => ∃ ws, H2 a = some (.lst ws) ∧ ws.length = xs.length) (fun i H2 x H3 => H3 = H2 ∧ ∃ ws, H2 a = some (.lst ws) ∧ ws[i]? = some x) ?_ ?_ ?_
    · refine ⟨fun i H2 hi ⟨ws, q, hl⟩ => ?_, fun H2 ⟨ws, q, hl⟩ => ?_, fun i H2 x H3 hi ⟨ws, q, hl⟩ y => ?_⟩
      · exact ⟨ws, ws[i]'(by rw [hl]; exact hi), SqL.of q, by simp⟩
      · exact ⟨ws, SqL.of q, by rw [hl]; exact Nat.le_refl _⟩
      · exact ⟨y.1, ws, q, y.2 ws (SqL.of q)⟩
    · intro Z2 ι2 μ2 H2 x2 s2 c
      obtain ⟨ws, q, d2⟩ := key Z2 ι2 μ2 H2 x2 s2 c
      exact ⟨ws, q, d2.len.symm⟩
    · intro Z2 ι2 μ2 H2 i d' x H3 x2 s2 c hd hy
      obtain ⟨ws, q, d2⟩ := key Z2 ι2 μ2 H2 x2 s2 c
      obtain ⟨rfl, ws', q', hx⟩ := hy
      rw [q] at q'
      cases q'
      obtain ⟨v, h1, h2⟩ := d2.get hd
      rw [hx] at h1
      cases h1
      exact ⟨Same.refl _, h2⟩
theorem fi_val (ha : FE X W e ma) : FI X W tg e (mIt ma) := by
  refine pi_imp (pi_or (pi_list ha) (pi_or (pi_tup ha) (pi_str ha))) fun σ H R ⟨Z, ι, ρ, μ, R0, o⟩ => ?_
  unfold mIt at o
  cases q : ma ρ μ with
  | exc C fs μ' => rw [q] at o; exact .inl ⟨Z, ι, ρ, μ, R0, by rw [q]; exact o⟩
  | bad => rw [q] at o; exact o.elim
  | ok v μ1 =>
    rw [q] at o
    simp only [Res.bind_ok] at o
    have go : ∀ {P : V → Hp → Prop}, (∀ Z1 ι1 H1 x, Ext Z ι H Z1 ι1 H1 → Sta X.K Z1 ι1 μ1 H1 → RM X.K (mask H1 Z1) ι1 v x → P x H1) → tM X.K W ma σ H P := fun h => ⟨Z, ι, ρ, μ, R0, by rw [q]; exact fun Z1 ι1 H1 x1 s1 x r => h Z1 ι1 H1 x x1 s1 r⟩
    cases v with
    | ref n =>
      simp only [itemsOf] at o
      split at o
      · rename_i xs hx
        refine .inl (go fun Z1 ι1 H1 x x1 s1 r => ?_)
        cases r with | ref r =>
          obtain ⟨h1, h2⟩ := its_ref s1 r hx (Out.base o x1)
          exact ⟨_, rfl, h1, h2⟩
      · exact o.elim
    | d d => cases d with
      | lst xs =>
        refine .inl (go fun Z1 ι1 H1 x x1 s1 r => ?_)
        cases r with | d r => cases r with | lst h1 h2 => exact ⟨_, rfl, ⟨_, SqL.of (mask_same _ _ _ _ h1)⟩, its_list s1 (SqL.of h1) h2 (Out.base o x1)⟩
      | fl xs =>
        refine .inl (go fun Z1 ι1 H1 x x1 s1 r => ?_)
        cases r with | d r => cases r with | fl h1 h2 => exact ⟨_, rfl, ⟨_, (mask_same _ _).seq h1⟩, its_list s1 h1 h2 (Out.base o x1)⟩
      | tup xs =>
        refine .inr (.inl (go fun Z1 ι1 H1 x x1 s1 r => ?_))
        cases r with | d r => cases r with | tup h1 h2 => exact ⟨_, rfl, ⟨_, SqT.of (mask_same _ _ _ _ h1)⟩, its_tup s1 (SqT.of h1) h2 (Out.base o x1)⟩
      | str z =>
        refine .inr (.inr (go fun Z1 ι1 H1 x x1 s1 r => ?_))
        cases r with | d r => cases r with | str => exact ⟨_, rfl, its_str s1 (Out.base o x1)⟩
      | _ => exact o.elim
/-! ranges -/
def intsD (lo : Int) (n : Nat) : List D := (List.range n).map fun (i : Nat) => D.int (lo + (i : Int))
theorem ints_len (lo : Int) (n : Nat) : (intsD lo n).length = n := by simp [intsD]
theorem ints_get {lo : Int} {n i : Nat} {d : D} (h : (intsD lo n)[i]? = some d) : d = .int (lo + (i : Int)) := by
  simp only [intsD, List.getElem?_map, Option.map_eq_some_iff] at h
  obtain ⟨j, h1, h2⟩ := h
  obtain ⟨_, h3⟩ := List.getElem?_eq_some_iff.mp h1
  simp at h3
  rw [← h2, ← h3]
def rng1 (as : List MV) (μ : List MO) : Res (List D × Option Nat) := match as with
  | [.d (.int j)] => if -(2 ^ 62) ≤ j ∧ j < 2 ^ 62 then .ok (intsD 0 j.toNat, none) μ else .bad
  | _ => .bad
def rng2 (as : List MV) (μ : List MO) : Res (List D × Option Nat) := match as with
  | [.d (.int i), .d (.int j)] => if -(2 ^ 62) ≤ i ∧ i < 2 ^ 62 ∧ -(2 ^ 62) ≤ j ∧ j < 2 ^ 62 then .ok (intsD i (j - i).toNat, none) μ else .bad
  | _ => .bad
def mItA (k : List MV → List MO → Res (List D × Option Nat)) (ms : MA) : MI := fun ρ μ => (ms ρ μ).bind k
theorem tMA_it {K : PySem.W.Frag} {Z ι : List Addr} {ρ : En} {μ : List MO} {σ : St} {H : Hp} {k : List MV → List MO → Res (List D × Option Nat)} {Q : List V → Hp → Prop} {R : It → Hp → Prop} (R0 : Rel K Z ι ρ μ σ H) (o : Out K W σ Z ι H ((ms ρ μ).bind k) (Its K R))
    (h : ∀ v μ' Z' ι' H' x, Ext Z ι H Z' ι' H' → Rel K Z' ι' ρ μ' σ H' → RMs K (mask H' Z') ι' v x → Out K W σ Z' ι' H' (k v μ') (Its K R) → Q x H') : tMA K W ms σ H Q := tMA_bind R0 o h
theorem its_rng {K : PySem.W.Frag} {Z ι : List Addr} {μ : List MO} {H : Hp} {σ : St} {lo : Int} {n : Nat} {R : It → Hp → Prop} (s : Sta K Z ι μ H) (o : Out K W σ Z ι H (.ok (intsD lo n, none) μ) (Its K R)) : R (Itr lo n) H := by
  refine o Z ι H (Ext.refl s.sub) s (Itr lo n) _ _ (by rw [show (intsD lo n, (none : Option Nat)).1.length = n from ints_len lo n]; exact walk_range) (fun _ _ _ _ _ _ _ => trivial) fun Z2 ι2 μ2 H2 i d' x H3 x2 s2 _ hd hy => ?_
  obtain ⟨rfl, rfl⟩ := hy
  rw [ints_get hd]
  exact ⟨Same.refl _, .int _⟩
theorem fi_range1 {p : Pos} (hg : Gl X "range") (hm : X.mg "range" = none) (ha : FA X W [a] ms) (hs : starEach [a] X.env = [(false, eval a X.env)] := by rfl) : FI X W tg (.Call (.Name "range" p) [a] [] pos) (mItA rng1 ms) := by
  refine pi_imp (pi_range1 hg hm ha hs) fun σ H R ⟨Z, ι, ρ, μ, R0, o⟩ => tMA_it R0 o fun v μ' Z' ι' H' x x1 R1 r1 o1 => ?_
  unfold rng1 at o1
  split at o1
  · rename_i j
    split at o1
    · rename_i hb
      cases r1 with | cons a b => cases b with | nil => cases a with | d a => cases a with | int => exact ⟨j, rfl, hb.1, hb.2, its_rng R1.sta o1⟩
    · exact o1.elim
  · exact o1.elim
theorem fi_range2 {p : Pos} (hg : Gl X "range") (hm : X.mg "range" = none) (ha : FA X W [a, b] ms) (hs : starEach [a, b] X.env = [(false, eval a X.env), (false, eval b X.env)] := by rfl) (hs2 : starEach [b] X.env = [(false, eval b X.env)] := by rfl) :
    FI X W tg (.Call (.Name "range" p) [a, b] [] pos) (mItA rng2 ms) := by
  refine pi_imp (pi_range2 hg hm ha hs hs2) fun σ H R ⟨Z, ι, ρ, μ, R0, o⟩ => tMA_it R0 o fun v μ' Z' ι' H' x x1 R1 r1 o1 => ?_
  unfold rng2 at o1
  split at o1
  · rename_i i j
    split at o1
    · rename_i hb
      cases r1 with | cons a b => cases b with | cons b c => cases c with | nil => cases a with | d a => cases a with | int => cases b with | d b => cases b with | int => exact ⟨i, j, rfl, hb, its_rng R1.sta o1⟩
    · exact o1.elim
  · exact o1.elim
/-! enumerate -/
def enumD (xs : List D) : List D := xs.mapIdx fun i x => .tup [.int (i : Int), x]
def enumOf (as : List MV) (μ : List MO) : Res (List D × Option Nat) := match as with
  | [.d (.lst xs)] => .ok (enumD xs, none) μ
  | [.d (.fl xs)] => .ok (enumD xs, none) μ
  | _ => .bad
theorem its_enum {K : PySem.W.Frag} {Z ι : List Addr} {μ : List MO} {H : Hp} {σ : St} {a : Addr} {xs : List D} {vs : List V} {R : It → Hp → Prop} (s : Sta K Z ι μ H) (h : SqL K (mask H Z) a vs) (d : DRs K (mask H Z) xs vs)
    (o : Out K W σ Z ι H (.ok (enumD xs, none) μ) (Its K R)) : R (Ite K a) H := by
  refine o Z ι H (Ext.refl s.sub) s (Ite K a) _ _ (by rw [show (enumD xs, (none : Option Nat)).1.length = vs.length by simp [enumD, d.len]]; exact walk_enum) (fun Z2 ι2 μ2 H2 x2 s2 _ => (mask_same _ _).seq (x2.same.seq h)) fun Z2 ι2 μ2 H2 i d' x H3 x2 s2 _ hd hy => ?_
  obtain ⟨T, y, z, rfl, hT, rfl, e1, e2⟩ := hy
  cases e1
  simp only [enumD, List.getElem?_mapIdx, Option.map_eq_some_iff] at hd
  obtain ⟨d0, h1, h2⟩ := hd
  obtain ⟨v, h3, h4⟩ := d.get h1
  have e2' : vs[i]? = some z := e2
  rw [e2'] at h3
  cases h3
  rw [← h2]
  exact new_tup s2.trk hT (.cons (.int _) (.cons (DR.mono x2.same _ _ h4) .nil))
theorem fi_enum {p tpos : Pos} {elts : List Expr} {kk : Nat} (hg : Gl X "enumerate") (hm : X.mg "enumerate" = none) (ha : FA X W [e] ms) (hs : starEach [e] X.env = [(false, eval e X.env)] := by rfl) :
    FI X W (.Tuple elts kk tpos) (.Call (.Name "enumerate" p) [e] [] pos) (mItA enumOf ms) := by
  refine pi_imp (pi_enum hg hm ha hs) fun σ H R ⟨Z, ι, ρ, μ, R0, o⟩ => tMA_it R0 o fun v μ' Z' ι' H' x x1 R1 r1 o1 => ?_
  unfold enumOf at o1
  split at o1
  · cases r1 with | cons a b => cases b with | nil => cases a with | d a => cases a with | lst h1 h2 => exact ⟨_, _, rfl, SqL.of (mask_same _ _ _ _ h1), its_enum R1.sta (SqL.of h1) h2 o1⟩
  · cases r1 with | cons a b => cases b with | nil => cases a with | d a => cases a with | fl h1 h2 => exact ⟨_, _, rfl, (mask_same _ _).seq h1, its_enum R1.sta h1 h2 o1⟩
  · exact o1.elim
end
/-! defs -/
abbrev MF := List MV → List MO → Res MV
def spF (K : PySem.W.Frag) (n : Nat) (F : MF) : Sp := fun vs H Q E => vs.length = n ∧ ∃ Z ι as μ, Sta K Z ι μ H ∧ RMs K (mask H Z) ι as vs ∧ Out K (fun c d _ H' => E c d H') [] Z ι H (F as μ) (Val K Q)
/-- a body's end is the def's end -/
def SR.fin : SR → Res MV
  | .nx _ μ => .ok (.d .non) μ
  | .rt v μ => .ok v μ
  | .exc C fs _ μ => .exc C fs μ
  | _ => .bad
def fnM (n : Nat) (m : MS) : MF := fun as μ => (m (as.map some ++ List.replicate (n - as.length) none) μ).fin
theorem RS.start {K : PySem.W.Frag} {F : Hp} {ι : List Addr} (k : Nat) : ∀ {as : List MV} {vs : List V}, RMs K F ι as vs → RS K F ι (as.map some ++ List.replicate k none) (vs.map some ++ List.replicate k none)
  | _, _, .nil => by
    induction k with
    | zero => exact .nil
    | succ k ih => exact .cons .none ih
  | _, _, .cons a b => .cons (.some a) (RS.start k b)
theorem RMs.len {K : PySem.W.Frag} {F : Hp} {ι : List Addr} : ∀ {as : List MV} {vs : List V}, RMs K F ι as vs → as.length = vs.length
  | _, _, .nil => rfl
  | _, _, .cons _ b => congrArg (· + 1) (RMs.len b)
/-- what a def's body must show, and what it hands to its callers -/
theorem body_ok {K : PySem.W.Frag} {X : Cx} {N : List Str} {m : MS} {vs : List V} {H : Hp} {Q : VK} {E : XK} {n : Nat} (h : spF K n (fnM N.length m) vs H Q E) :
    tMS K (fun c d _ H' => E c d H') m { nx := fun _ H' => Q .non H', rt := Q } (L2.start N vs) H := by
  obtain ⟨hn, Z, ι, as, μ, s, r, o⟩ := h
  refine ⟨Z, ι, as.map some ++ List.replicate (N.length - as.length) none, μ, ⟨s, ?_⟩, ?_⟩
  · unfold L2.start
    rw [← r.len]
    exact RS.start _ r
  · unfold fnM at o
    cases q : m (as.map some ++ List.replicate (N.length - as.length) none) μ with
    | nx ρ' μ' => rw [q] at o; exact fun Z2 ι2 H2 σ2 x2 R2 => o Z2 ι2 H2 x2 R2.sta .non (.d .non)
    | rt v μ' => rw [q] at o; exact o
    | exc C fs ρ' μ' => rw [q] at o; exact fun Z2 ι2 H2 σ2 d fs' x2 R2 => o Z2 ι2 H2 d fs' x2 R2.sta
    | bk ρ' μ' => rw [q] at o; exact o.elim
    | ct ρ' μ' => rw [q] at o; exact o.elim
    | bad => rw [q] at o; exact o.elim
end TT

namespace TT
open PySem L2
variable [TB]
/-! a def's end: its own objects go, a list of its own is handed out as data -/
def MV.refs : MV → List Nat
  | .ref n => [n]
  | .d _ => []
def fieldRefs : List (Str × MV) → List Nat
  | [] => []
  | (_, v) :: r => v.refs ++ fieldRefs r
def MO.refs : MO → List Nat
  | .ins _ fs => fieldRefs fs
  | _ => []
def trimmable (n : Nat) (v : MV) (μ : List MO) : Bool := v.refs.all (fun k => decide (k < n)) && (μ.take n).all fun o => o.refs.all fun k => decide (k < n)
def trim (n : Nat) (v : MV) (μ : List MO) : Res MV := if trimmable n v μ = true then .ok v (μ.take n) else .ok v μ
def trimX (n : Nat) (C : Addr) (fs : List (Str × D)) (μ : List MO) : Res MV := if trimmable n (.d .non) μ = true then .exc C fs (μ.take n) else .exc C fs μ
def trimB (n : Nat) (v : MV) (μ : List MO) : Res MV := if trimmable n v μ = true then .ok v (μ.take n) else .bad
/-- fz: a new list that is returned is data from then on -/
def SR.finT (fz : Bool) (n : Nat) : SR → Res MV
  | .nx _ μ => trim n (.d .non) μ
  | .rt (.d x) μ => trim n (.d x) μ
  | .rt (.ref k) μ => if fz = true ∧ n ≤ k then (match μ[k]? with
    | some (.lst xs) => trimB n (.d (.lst xs)) μ
    | some (.dK xs) => trimB n (.d (.dK xs)) μ
    | some (.dT xs) => trimB n (.d (.dT xs)) μ
    | _ => .bad) else trim n (.ref k) μ
  | .exc C fs _ μ => trimX n C fs μ
  | _ => .bad
def fnT (fz : Bool) (n : Nat) (m : MS) : MF := fun as μ => (m (as.map some ++ List.replicate (n - as.length) none) μ).finT fz μ.length
section
variable {K : PySem.W.Frag} {F : Hp} {ι ι' : List Addr}
theorem RM.cut {n : Nat} (h : ∀ k < n, ∀ a, ι'[k]? = some a → ι[k]? = some a) {v : MV} {x : V} (r : RM K F ι' v x) (t : v.refs.all (fun k => decide (k < n)) = true) : RM K F ι v x := by
  cases r with
  | d r => exact .d r
  | ref r =>
    simp only [MV.refs, List.all_cons, List.all_nil, Bool.and_true, decide_eq_true_eq] at t
    exact .ref (h _ t _ r)
theorem RMf.cut {n : Nat} (h : ∀ k < n, ∀ a, ι'[k]? = some a → ι[k]? = some a) : ∀ {v : List (Str × MV)} {x : List (Str × V)}, RMf K F ι' v x → (fieldRefs v).all (fun k => decide (k < n)) = true → RMf K F ι v x
  | _, _, .nil, _ => .nil
  | _, _, .cons a b, t => by
    simp only [fieldRefs, List.all_append, Bool.and_eq_true] at t
    exact .cons (a.cut h t.1) (RMf.cut h b t.2)
theorem RO.cut {n : Nat} (h : ∀ k < n, ∀ a, ι'[k]? = some a → ι[k]? = some a) {v : MO} {x : HO} (r : RO K F ι' v x) (t : v.refs.all (fun k => decide (k < n)) = true) : RO K F ι v x := by
  cases r with
  | lst r => exact .lst r
  | dK r => exact .dK r
  | dT r => exact .dT r
  | ins r => exact .ins (r.cut h t)
end
/-- the state behind a def that drops its own objects -/
theorem Sta.cut {K : PySem.W.Frag} {Z ι Z' ι' : List Addr} {μ' : List MO} {H H' : Hp} {v : MV} {n : Nat} (x : Ext Z ι H Z' ι' H') (s : Sta K Z' ι' μ' H') (hn : ι.length = n) (t : trimmable n v μ' = true) :
    Sta K Z' ι (μ'.take n) H' ∧ Ext Z ι H Z' ι H' ∧ ∀ w, RM K (mask H' Z') ι' v w → RM K (mask H' Z') ι v w := by
  simp only [trimmable, Bool.and_eq_true] at t
  have hle : n ≤ ι'.length := by
    rw [← hn]
    cases hk : ι.length with
    | zero => exact Nat.zero_le _
    | succ k =>
      have h1 : ι[k]? = some (ι[k]'(by omega)) := by simp
      have := (List.getElem?_eq_some_iff.mp (x.i k _ h1)).1
      omega
  have back : ∀ k < n, ∀ a, ι'[k]? = some a → ι[k]? = some a := fun k hk a e => by
    have h1 : ι[k]? = some (ι[k]'(by omega)) := by simp [show k < ι.length by omega]
    have h2 := x.i k _ h1
    rw [h2] at e
    rw [h1]; exact e
  refine ⟨⟨fun a h => x.z a (x.sub a h), ?_, ?_, s.trk, s.tab, fun k a o h1 h2 => ?_⟩, ⟨x.sub, x.z, fun _ _ h => h, x.keep, x.tb, x.new, fun a h => .inl h⟩, fun w r => r.cut back t.1⟩
  · have e : ι = ι'.take n := by
      apply List.ext_getElem?
      intro k
      by_cases hk : k < n
      · rw [List.getElem?_take_of_lt hk]
        have h1 : ι[k]? = some (ι[k]'(by omega)) := by simp [show k < ι.length by omega]
        rw [h1, x.i k _ h1]
      · rw [List.getElem?_eq_none (by omega), List.getElem?_eq_none (by rw [List.length_take]; omega)]
    rw [e]
    exact s.nd.sublist (List.take_sublist _ _)
  · rw [List.length_take, ← s.len, hn]; omega
  · have hk : k < n := by rw [← hn]; exact (List.getElem?_eq_some_iff.mp h1).1
    rw [List.getElem?_take_of_lt hk] at h2
    obtain ⟨ho, h3, h4⟩ := s.obj k a o (x.i k a h1) h2
    refine ⟨ho, h3, h4.cut back ?_⟩
    have := t.2
    rw [List.all_eq_true] at this
    exact this o (List.mem_of_getElem? (by rw [List.getElem?_take_of_lt hk]; exact h2))
theorem trim_ok {K : PySem.W.Frag} {W : WX} {σ : St} {Z ι : List Addr} {H : Hp} {v : MV} {μ' : List MO} {n : Nat} {Q : VK} (hn : ι.length = n) (o : Out K W σ Z ι H (trim n v μ') (Val K Q)) : Out K W σ Z ι H (.ok v μ') (Val K Q) := by
  unfold trim at o
  split at o
  · rename_i t
    intro Z2 ι2 H2 x2 s2 w r
    obtain ⟨s3, x3, c⟩ := Sta.cut x2 s2 hn t
    exact o Z2 ι H2 x3 s3 w (c w r)
  · exact o
theorem trimX_ok {K : PySem.W.Frag} {W : WX} {σ : St} {Z ι : List Addr} {H : Hp} {C : Addr} {fs : List (Str × D)} {μ' : List MO} {n : Nat} {Q : VK} (hn : ι.length = n) (o : Out K W σ Z ι H (trimX n C fs μ') (Val K Q)) : Out K W σ Z ι H (.exc C fs μ' : Res MV) (Val K Q) := by
  unfold trimX at o
  split at o
  · rename_i t
    intro Z2 ι2 H2 d fs' x2 s2
    obtain ⟨s3, x3, c⟩ := Sta.cut x2 s2 hn t
    exact o Z2 ι H2 d fs' x3 s3
  · exact o
/-- a new list is handed out as data: its place leaves the store -/
theorem Sta.drop {K : PySem.W.Frag} {Z ι Z' ι' : List Addr} {μ' : List MO} {H H' : Hp} {n k : Nat} {a : Addr} {d : D} (x : Ext Z ι H Z' ι' H') (s : Sta K Z' ι' μ' H') (tr : ∀ a ∈ Z, ∃ o, H a = some o) (hn : ι.length = n) (hk : n ≤ k) (ha : ι'[k]? = some a)
    (t : trimmable n (.d d) μ' = true) : Sta K (Z'.filter (· ≠ a)) ι (μ'.take n) H' ∧ Ext Z ι H (Z'.filter (· ≠ a)) ι H' := by
  obtain ⟨s3, x3, _⟩ := Sta.cut x s hn t
  have na : a ∉ ι := fun q => by
    obtain ⟨j, hj, e⟩ := List.mem_iff_getElem.mp q
    have h1 : ι[j]? = some a := by rw [← e]; simp
    have h2 := x.i j a h1
    have := (List.getElem?_inj (List.getElem?_eq_some_iff.mp h2).1 s.nd).mp (h2.trans ha.symm)
    omega
  have hH : H a = none := by
    rcases x.newi a (List.mem_of_getElem? ha) with q | q
    · exact (na q).elim
    · exact q
  exact ⟨s3.freeze na, x3.freeze tr hH⟩
theorem bodyT_ok {K : PySem.W.Frag} {N : List Str} {m : MS} {vs : List V} {H : Hp} {Q : VK} {E : XK} {n : Nat} {fz : Bool} (h : spF K n (fnT fz N.length m) vs H Q E) :
    tMS K (fun c d _ H' => E c d H') m { nx := fun _ H' => Q .non H', rt := Q } (L2.start N vs) H := by
  obtain ⟨hn, Z, ι, as, μ, s, r, o⟩ := h
  refine ⟨Z, ι, as.map some ++ List.replicate (N.length - as.length) none, μ, ⟨s, ?_⟩, ?_⟩
  · unfold L2.start
    rw [← r.len]
    exact RS.start _ r
  · unfold fnT at o
    cases q : m (as.map some ++ List.replicate (N.length - as.length) none) μ with
    | nx ρ' μ' =>
      rw [q] at o
      have o' := trim_ok s.len o
      exact fun Z2 ι2 H2 σ2 x2 R2 => o' Z2 ι2 H2 x2 R2.sta .non (.d .non)
    | rt v μ' =>
      rw [q] at o
      cases v with
      | d x => exact trim_ok s.len o
      | ref k =>
        simp only [SR.finT] at o
        split at o
        · rename_i hk
          intro Z2 ι2 H2 x2 s2 w r2
          cases r2 with
          | ref r2 =>
            rename_i a
            have fin : ∀ d : D, Out K (fun c d _ H' => E c d H') [] Z ι H (trimB μ.length (.d d) μ') (Val K Q) → (∀ Z3, (∀ b ∈ Z3, b ∈ Z2) → a ∉ Z3 → DR K (mask H2 Z3) d (.ref a)) → Q (.ref a) H2 := fun d o hd => by
              unfold trimB at o
              split at o
              · rename_i t
                obtain ⟨s3, x3⟩ := Sta.drop x2 s2 s.trk s.len hk.2 r2 t
                refine o _ ι H2 x3 s3 _ (.d (hd _ (fun b hb => (List.mem_filter.mp hb).1) fun z => ?_))
                exact of_decide_eq_true (List.mem_filter.mp z).2 rfl
              · exact o.elim
            split at o
            · rename_i xs hx
              obtain ⟨ho, h1, h2⟩ := s2.obj _ _ _ r2 hx
              cases h2 with | lst d => exact fin _ o fun Z3 hz na => .lst (mask_in na h1) (d.mono (mask_less hz) _ _)
            · rename_i xs hx
              obtain ⟨ho, h1, h2⟩ := s2.obj _ _ _ r2 hx
              cases h2 with | dK d => exact fin _ o fun Z3 hz na => .dK (mask_in na h1) (d.mono (mask_less hz) _ _)
            · rename_i xs hx
              obtain ⟨ho, h1, h2⟩ := s2.obj _ _ _ r2 hx
              cases h2 with | dT d => exact fin _ o fun Z3 hz na => .dT (mask_in na h1) (d.mono (mask_less hz) _ _)
            · exact o.elim
        · exact trim_ok s.len o
    | exc C fs ρ' μ' =>
      rw [q] at o
      have o' := trimX_ok s.len o
      exact fun Z2 ι2 H2 σ2 d fs' x2 R2 => o' Z2 ι2 H2 d fs' x2 R2.sta
    | bk ρ' μ' => rw [q] at o; exact o.elim
    | ct ρ' μ' => rw [q] at o; exact o.elim
    | bad => rw [q] at o; exact o.elim
/-! calls: the callee sees the objects that its arguments lead to -/
def addAll (acc new : List Nat) : List Nat := new.foldl (fun a n => if n ∈ a then a else a ++ [n]) acc
def leads (μ : List MO) : List Nat → List Nat
  | [] => []
  | n :: r => (match μ[n]? with
    | some o => o.refs
    | none => []) ++ leads μ r
def argRefs : List MV → List Nat
  | [] => []
  | v :: r => v.refs ++ argRefs r
def selOf (μ : List MO) (as : List MV) : List Nat :=
  let a := addAll [] (argRefs as)
  let b := addAll a (leads μ a)
  addAll b (leads μ b)
theorem addAll_nodup : ∀ (new acc : List Nat), acc.Nodup → (addAll acc new).Nodup
  | [], acc, h => h
  | n :: new, acc, h => by
    unfold addAll
    rw [List.foldl_cons]
    refine addAll_nodup new _ ?_
    split
    · exact h
    · rename_i hn
      rw [List.nodup_append]
      refine ⟨h, by simp, fun a ha b hb => ?_⟩
      rw [List.mem_singleton.mp hb]
      intro q
      exact hn (by rw [← q]; exact ha)
theorem selOf_nodup (μ : List MO) (as : List MV) : (selOf μ as).Nodup := addAll_nodup _ _ (addAll_nodup _ _ (addAll_nodup _ _ .nil))
def toC (sel : List Nat) : MV → Option MV
  | .d x => some (.d x)
  | .ref n => if n ∈ sel then some (.ref (sel.idxOf n)) else none
def toCs (sel : List Nat) : List MV → Option (List MV)
  | [] => some []
  | v :: r => match toC sel v, toCs sel r with
    | some v', some r' => some (v' :: r')
    | _, _ => none
def toCf (sel : List Nat) : List (Str × MV) → Option (List (Str × MV))
  | [] => some []
  | (f, v) :: r => match toC sel v, toCf sel r with
    | some v', some r' => some ((f, v') :: r')
    | _, _ => none
def toCO (sel : List Nat) : MO → Option MO
  | .ins C fs => match toCf sel fs with
    | some fs' => some (.ins C fs')
    | none => none
  | o => some o
def pick (μ : List MO) (sel : List Nat) : List Nat → Option (List MO)
  | [] => some []
  | n :: r => match μ[n]? with
    | some o => match toCO sel o, pick μ sel r with
      | some o', some r' => some (o' :: r')
      | _, _ => none
    | none => none
def back (sel : List Nat) (L : Nat) : MV → MV
  | .d x => .d x
  | .ref k => match sel[k]? with
    | some n => .ref n
    | none => .ref (L + (k - sel.length))
def backF (sel : List Nat) (L : Nat) : List (Str × MV) → List (Str × MV)
  | [] => []
  | (f, v) :: r => (f, back sel L v) :: backF sel L r
def backO (sel : List Nat) (L : Nat) : MO → MO
  | .ins C fs => .ins C (backF sel L fs)
  | o => o
def putAll (μ : List MO) : List Nat → List MO → List MO
  | n :: sel, o :: os => putAll (μ.set n o) sel os
  | _, _ => μ
def wb (μ : List MO) (sel : List Nat) (os : List MO) : List MO := putAll μ sel (os.map (backO sel μ.length)) ++ (os.drop sel.length).map (backO sel μ.length)
def callF (F : MF) (as : List MV) (μ : List MO) : Res MV :=
  let sel := selOf μ as
  match toCs sel as, pick μ sel sel with
  | some as', some μc => match F as' μc with
    | .ok v os => .ok (back sel μ.length v) (wb μ sel os)
    | .exc C fs os => .exc C fs (wb μ sel os)
    | .bad => .bad
  | _, _ => .bad
theorem putAll_len : ∀ (sel : List Nat) (os μ : List MO), (putAll μ sel os).length = μ.length
  | [], _, _ => by unfold putAll; rfl
  | _ :: _, [], _ => by unfold putAll; rfl
  | n :: sel, o :: os, μ => by unfold putAll; rw [putAll_len sel os]; simp
theorem putAll_out {n : Nat} : ∀ (sel : List Nat) (os μ : List MO), n ∉ sel → (putAll μ sel os)[n]? = μ[n]?
  | [], _, _, _ => by unfold putAll; rfl
  | _ :: _, [], _, _ => by unfold putAll; rfl
  | m :: sel, o :: os, μ, h => by
    unfold putAll
    rw [putAll_out sel os _ fun q => h (List.mem_cons_of_mem _ q), List.getElem?_set_ne fun q => h (by rw [q]; exact List.mem_cons_self)]
theorem putAll_in {n k : Nat} : ∀ (sel : List Nat) (os μ : List MO), sel.Nodup → sel[k]? = some n → n < μ.length → k < os.length → (putAll μ sel os)[n]? = os[k]?
  | [], _, _, _, h, _, _ => by simp at h
  | _ :: _, [], _, _, _, _, h => by simp at h
  | m :: sel, o :: os, μ, nd, h, hl, hk => by
    unfold putAll
    cases k with
    | zero =>
      simp at h
      subst h
      rw [putAll_out sel os _ (List.nodup_cons.mp nd).1]
      simp [hl]
    | succ k =>
      rw [putAll_in sel os _ (List.nodup_cons.mp nd).2 (by simpa using h) (by simpa using hl) (by simpa using hk)]
      simp
section
variable {K : PySem.W.Frag} {F : Hp} {ι ιc ι' : List Addr} {sel : List Nat}
def SelOk (ι : List Addr) (sel : List Nat) (ιc : List Addr) : Prop := ∀ (k n : Nat), sel[k]? = some n → ∃ a, ιc[k]? = some a ∧ ι[n]? = some a
theorem toC_ok (so : SelOk ι sel ιc) {v v' : MV} {x : V} (r : RM K F ι v x) (e : toC sel v = some v') : RM K F ιc v' x := by
  cases r with
  | d r => cases e; exact .d r
  | ref r =>
    rename_i n a0
    simp only [toC] at e
    split at e
    · rename_i hs
      cases e
      obtain ⟨a, h1, h2⟩ := so (sel.idxOf n) n (by rw [List.getElem?_eq_getElem (List.idxOf_lt_length_of_mem hs)]; simp)
      rw [r] at h2
      cases h2
      exact .ref h1
    · cases e
theorem toCs_ok (so : SelOk ι sel ιc) : ∀ {v v' : List MV} {x : List V}, RMs K F ι v x → toCs sel v = some v' → RMs K F ιc v' x
  | _, _, _, .nil, e => by cases e; exact .nil
  | _, _, _, .cons a b, e => by
    unfold toCs at e
    split at e
    · rename_i h1 h2
      cases e
      exact .cons (toC_ok so a h1) (toCs_ok so b h2)
    · cases e
theorem toCf_ok (so : SelOk ι sel ιc) : ∀ {v v' : List (Str × MV)} {x : List (Str × V)}, RMf K F ι v x → toCf sel v = some v' → RMf K F ιc v' x
  | _, _, _, .nil, e => by cases e; exact .nil
  | _, _, _, .cons a b, e => by
    unfold toCf at e
    split at e
    · rename_i h1 h2
      cases e
      exact .cons (toC_ok so a h1) (toCf_ok so b h2)
    · cases e
theorem toCO_ok (so : SelOk ι sel ιc) {v v' : MO} {x : HO} (r : RO K F ι v x) (e : toCO sel v = some v') : RO K F ιc v' x := by
  cases r with
  | lst r => cases e; exact .lst r
  | dK r => cases e; exact .dK r
  | dT r => cases e; exact .dT r
  | ins r =>
    simp only [toCO] at e
    split at e
    · rename_i fs' h; cases e; exact .ins (toCf_ok so r h)
    · cases e
theorem pick_get {μ : List MO} : ∀ {l : List Nat} {os : List MO}, pick μ sel l = some os → os.length = l.length ∧ ∀ (k n : Nat), l[k]? = some n → ∃ o o', μ[n]? = some o ∧ toCO sel o = some o' ∧ os[k]? = some o'
  | [], os, e => by cases e; exact ⟨rfl, fun k n h => by simp at h⟩
  | m :: l, os, e => by
    unfold pick at e
    split at e
    · rename_i o ho
      split at e
      · rename_i o' r' h1 h2
        cases e
        obtain ⟨hl, hg⟩ := pick_get h2
        refine ⟨by simp [hl], fun k n h => ?_⟩
        cases k with
        | zero => simp at h; subst h; exact ⟨o, o', ho, h1, rfl⟩
        | succ k =>
          obtain ⟨o2, o2', a, b, c⟩ := hg k n (by simpa using h)
          exact ⟨o2, o2', a, b, by simpa using c⟩
      · cases e
    · cases e
def BackOk (sel : List Nat) (L : Nat) (ιc' ι' : List Addr) : Prop := ∀ k a, ιc'[k]? = some a → ι'[match sel[k]? with
  | some n => n
  | none => L + (k - sel.length)]? = some a
theorem back_ok {L : Nat} (bo : BackOk sel L ιc ι') {v : MV} {x : V} (r : RM K F ιc v x) : RM K F ι' (back sel L v) x := by
  cases r with
  | d r => exact .d r
  | ref r =>
    rename_i k a
    have h := bo k a r
    simp only [back]
    cases q : sel[k]? with
    | some n => rw [q] at h; exact .ref h
    | none => rw [q] at h; exact .ref h
theorem backF_ok {L : Nat} (bo : BackOk sel L ιc ι') : ∀ {v : List (Str × MV)} {x : List (Str × V)}, RMf K F ιc v x → RMf K F ι' (backF sel L v) x
  | _, _, .nil => .nil
  | _, _, .cons a b => .cons (back_ok bo a) (backF_ok bo b)
theorem backO_ok {L : Nat} (bo : BackOk sel L ιc ι') {v : MO} {x : HO} (r : RO K F ιc v x) : RO K F ι' (backO sel L v) x := by
  cases r with
  | lst r => exact .lst r
  | dK r => exact .dK r
  | dT r => exact .dT r
  | ins r => exact .ins (backF_ok bo r)
end
end TT

namespace TT
open PySem L2
variable [TB]
section
variable {K : PySem.W.Frag} {Z ι : List Addr} {μ μc : List MO} {H : Hp} {sel : List Nat}
theorem nodup_at {l : List Addr} (nd : l.Nodup) {i j : Nat} {a : Addr} (h1 : l[i]? = some a) (h2 : l[j]? = some a) : i = j :=
  (List.getElem?_inj (List.getElem?_eq_some_iff.mp h1).1 nd).mp (h1.trans h2.symm)
theorem frame_in (s : Sta K Z ι μ H) (nd : sel.Nodup) (p : pick μ sel sel = some μc) : ∃ ιc, SelOk ι sel ιc ∧ ιc.length = sel.length ∧ Sta K Z ιc μc H := by
  obtain ⟨hl, hg⟩ := pick_get p
  have lt : ∀ n ∈ sel, n < ι.length := fun n hn => by
    obtain ⟨k, hk, e⟩ := List.mem_iff_getElem.mp hn
    obtain ⟨o, o', h1, _⟩ := hg k n (by rw [← e]; simp)
    rw [s.len]
    exact (List.getElem?_eq_some_iff.mp h1).1
  refine ⟨sel.map fun n => ι.getD n 0, fun k n h => ?_, by simp, ?_⟩
  · have hn := lt n (List.mem_of_getElem? h)
    exact ⟨ι[n], by simp [h, List.getD_eq_getElem?_getD, hn], by simp [hn]⟩
  · have gt : ∀ (k : Nat) a, (sel.map fun n => ι.getD n 0)[k]? = some a → ∃ n, sel[k]? = some n ∧ ι[n]? = some a := fun k a h => by
      rw [List.getElem?_map, Option.map_eq_some_iff] at h
      obtain ⟨n, h1, h2⟩ := h
      have hn := lt n (List.mem_of_getElem? h1)
      refine ⟨n, h1, ?_⟩
      rw [← h2, List.getD_eq_getElem?_getD, List.getElem?_eq_getElem hn]
      rfl
    have so : SelOk ι sel (sel.map fun n => ι.getD n 0) := fun k n h => by
      have hn := lt n (List.mem_of_getElem? h)
      exact ⟨ι[n], by simp [h, List.getD_eq_getElem?_getD, hn], by simp [hn]⟩
    refine ⟨fun a ha => ?_, ?_, by rw [List.length_map, hl], s.trk, s.tab, fun k a o h1 h2 => ?_⟩
    · obtain ⟨k, hk, e⟩ := List.mem_iff_getElem.mp ha
      obtain ⟨n, _, h3⟩ := gt k a (List.getElem?_eq_some_iff.mpr ⟨hk, e⟩)
      exact s.sub a (List.mem_of_getElem? h3)
    · unfold List.Nodup
      rw [List.pairwise_map]
      refine List.Pairwise.imp_of_mem (fun {a b} ha hb hab e => ?_) nd
      have h1 : ι[a]? = some (ι.getD a 0) := by rw [List.getD_eq_getElem?_getD, List.getElem?_eq_getElem (lt a ha)]; rfl
      have h2 : ι[b]? = some (ι.getD b 0) := by rw [List.getD_eq_getElem?_getD, List.getElem?_eq_getElem (lt b hb)]; rfl
      rw [← e] at h2
      exact hab (nodup_at s.nd h1 h2)
    · obtain ⟨n, h3, h4⟩ := gt k a h1
      obtain ⟨o1, o2, h5, h6, h7⟩ := hg k n h3
      rw [h2] at h7
      cases h7
      obtain ⟨ho, h8, h9⟩ := s.obj n a o1 h4 h5
      exact ⟨ho, h8, toCO_ok so h9 h6⟩
theorem frame_out {ιc Z' ιc' : List Addr} {os : List MO} {H' : Hp} (s : Sta K Z ι μ H) (nd : sel.Nodup) (so : SelOk ι sel ιc) (hl : ιc.length = sel.length) (x : Ext Z ιc H Z' ιc' H') (sc : Sta K Z' ιc' os H') :
    ∃ ι', Ext Z ι H Z' ι' H' ∧ Sta K Z' ι' (wb μ sel os) H' ∧ BackOk sel μ.length ιc' ι' := by
  have cin : ∀ a ∈ ιc, ∃ k n, sel[k]? = some n ∧ ιc[k]? = some a ∧ ι[n]? = some a := fun a ha => by
    obtain ⟨k, hk, e⟩ := List.mem_iff_getElem.mp ha
    have h1 : ιc[k]? = some a := by rw [← e]; simp
    have h2 : sel[k]? = some (sel[k]'(by rw [← hl]; exact hk)) := by simp
    obtain ⟨b, h3, h4⟩ := so k _ h2
    rw [h1] at h3; cases h3
    exact ⟨k, _, h2, h1, h4⟩
  have csub : ∀ a ∈ ιc, a ∈ ι := fun a ha => by obtain ⟨k, n, _, _, h⟩ := cin a ha; exact List.mem_of_getElem? h
  have hle : sel.length ≤ ιc'.length := by
    rw [← hl]
    cases hk : ιc.length with
    | zero => exact Nat.zero_le _
    | succ k =>
      have h1 : ιc[k]? = some (ιc[k]'(by omega)) := by simp
      have := (List.getElem?_eq_some_iff.mp (x.i k _ h1)).1
      omega
  have keepι : ∀ a o, a ∉ ι → NT o → H a = some o → H' a = some o := fun a o n t e => x.keep a o (fun q => n (csub a q)) t e
  -- the new ones
  have newH : ∀ a ∈ ιc'.drop sel.length, H a = none := fun a ha => by
    obtain ⟨j, hj, e⟩ := List.mem_iff_getElem.mp ha
    have h1 : ιc'[sel.length + j]? = some a := by rw [← List.getElem?_drop, ← e]; simp
    rcases x.newi a (List.mem_of_getElem? h1) with q | q
    · obtain ⟨k, n, h2, h3, _⟩ := cin a q
      have := nodup_at sc.nd h1 (x.i k a h3)
      have h4 := (List.getElem?_eq_some_iff.mp h2).1
      omega
    · exact q
  have ex : Ext Z ι H Z' (ι ++ ιc'.drop sel.length) H' := by
    refine ⟨s.sub, x.z, fun n a h => ?_, keepι, x.tb, x.new, fun a ha => ?_⟩
    · rw [List.getElem?_append_left (List.getElem?_eq_some_iff.mp h).1]; exact h
    · rcases List.mem_append.mp ha with q | q
      · exact .inl q
      · exact .inr (newH a q)
  have bo : BackOk sel μ.length ιc' (ι ++ ιc'.drop sel.length) := fun k a h => by
    cases q : sel[k]? with
    | some n =>
      obtain ⟨b, h1, h2⟩ := so k n q
      have h3 := x.i k b h1
      rw [h] at h3; cases h3
      show (ι ++ ιc'.drop sel.length)[n]? = some a
      rw [List.getElem?_append_left (List.getElem?_eq_some_iff.mp h2).1]; exact h2
    | none =>
      have hk : sel.length ≤ k := List.getElem?_eq_none_iff.mp q
      show (ι ++ ιc'.drop sel.length)[μ.length + (k - sel.length)]? = some a
      rw [← s.len, List.getElem?_append_right (by omega), List.getElem?_drop, ← h]
      congr 1
      omega
  have hos : os.length = ιc'.length := sc.len.symm
  refine ⟨ι ++ ιc'.drop sel.length, ex, ⟨fun a ha => ?_, ?_, ?_, sc.trk, sc.tab, fun n a o h1 h2 => ?_⟩, bo⟩
  · rcases List.mem_append.mp ha with q | q
    · exact x.z a (s.sub a q)
    · exact sc.sub a (List.mem_of_mem_drop q)
  · rw [List.nodup_append]
    refine ⟨s.nd, sc.nd.sublist (List.drop_sublist _ _), fun a ha b hb e => ?_⟩
    obtain ⟨o, h⟩ := s.trk a (s.sub a ha)
    rw [e, newH b hb] at h
    cases h
  · unfold wb
    rw [List.length_append, List.length_append, putAll_len, List.length_map, List.length_drop, List.length_drop, s.len, hos]
  · unfold wb at h2
    have hpl : (putAll μ sel (os.map (backO sel μ.length))).length = ι.length := by rw [putAll_len, s.len]
    by_cases hn : n < ι.length
    · rw [List.getElem?_append_left hn] at h1
      rw [List.getElem?_append_left (by rw [hpl]; exact hn)] at h2
      by_cases hs : n ∈ sel
      · obtain ⟨k, hk, e⟩ := List.mem_iff_getElem.mp hs
        have h3 : sel[k]? = some n := by rw [← e]; simp
        have hko : k < os.length := by omega
        rw [putAll_in sel _ μ nd h3 (by rw [← s.len]; exact hn) (by simpa using hko), List.getElem?_map, Option.map_eq_some_iff] at h2
        obtain ⟨o', h4, h5⟩ := h2
        obtain ⟨b, h6, h7⟩ := so k n h3
        rw [h1] at h7; cases h7
        obtain ⟨ho, h8, h9⟩ := sc.obj k a o' (x.i k a h6) h4
        rw [← h5]
        exact ⟨ho, h8, backO_ok bo h9⟩
      · rw [putAll_out sel _ μ hs] at h2
        obtain ⟨ho, h8, h9⟩ := s.obj n a o h1 h2
        have na : a ∉ ιc := fun q => by
          obtain ⟨k, m, h3, h4, h5⟩ := cin a q
          have := nodup_at s.nd h1 h5
          subst this
          exact hs (List.mem_of_getElem? h3)
        exact ⟨ho, x.keep a ho na h9.nt h8, h9.mono ex.same ex.i⟩
    · have hn2 : ι.length ≤ n := by omega
      rw [List.getElem?_append_right hn2, List.getElem?_drop] at h1
      rw [List.getElem?_append_right (by rw [hpl]; exact hn2), hpl, List.getElem?_map, Option.map_eq_some_iff] at h2
      obtain ⟨o', h4, h5⟩ := h2
      rw [List.getElem?_drop] at h4
      obtain ⟨ho, h8, h9⟩ := sc.obj _ a o' h1 h4
      rw [← h5]
      exact ⟨ho, h8, backO_ok bo h9⟩
theorem call_frame {W : WX} {σ : St} {F : MF} {as : List MV} {vs : List V} {Q : VK} {n : Nat} (s : Sta K Z ι μ H) (r : RMs K (mask H Z) ι as vs) (hn : vs.length = n) (o : Out K W σ Z ι H (callF F as μ) (Val K Q)) : spF K n F vs H Q (WE W σ) := by
  unfold callF at o
  have nd := selOf_nodup μ as
  generalize selOf μ as = sel at o nd
  simp only at o
  split at o
  · rename_i as' μc h1 h2
    obtain ⟨ιc, so, hl, sc⟩ := frame_in s nd h2
    refine ⟨hn, Z, ιc, as', μc, sc, toCs_ok so r h1, ?_⟩
    cases q : F as' μc with
    | ok v os =>
      rw [q] at o
      intro Z2 ι2 H2 x2 s2 w rw'
      obtain ⟨ι', ex, sw, bo⟩ := frame_out s nd so hl x2 s2
      exact o Z2 ι' H2 ex sw w (back_ok bo rw')
    | exc C fs os =>
      rw [q] at o
      intro Z2 ι2 H2 d fs' x2 s2
      obtain ⟨ι', ex, sw, bo⟩ := frame_out s nd so hl x2 s2
      exact o Z2 ι' H2 d fs' ex sw
    | bad => rw [q] at o; exact o
  · exact o.elim
end
/-! a def of the text, called by its name -/
def mCall (F : MF) (n : Nat) (ms : MA) : ME := fun ρ μ => (ms ρ μ).bind fun as μ1 => if as.length = n then callF F as μ1 else .bad
/-- the def under x keeps F, by calls of at most k -/
abbrev Fn (P : Program) (w : World) (K : PySem.W.Frag) (mg : Str → Option Value) (base : Heap) (k : Nat) (x : Str) (n : Nat) (F : MF) : Prop := CalG (L2.CX P w) P w K mg base k x (spF K n F)
section
variable {X : Cx} {W : WX} {k j n : Nat} {x : Str} {F : MF} {p pos : Pos} {e : Expr} {es : List Expr} {ms : MA}
theorem fe_call (c : Fn X.prog X.w X.K X.mg X.base k x n F) (tk : Takes X W) (hg : X.A.guards = some []) (hr : Room j X.A) (ha : FA X W (e :: es) ms) (hk : k ≤ j := by decide) (hgl : Gl X x := by rfl)
    (hdb : (x == ("__debug__" : Str)) = false := by decide) (he : starEach (e :: es) X.env = (false, eval e X.env) :: starEach es X.env := by rfl) (hpl : (backTo pos (starEach es X.env)).any (·.1) = false := by rfl) :
    FE X W (.Call (.Name x p) (e :: es) [] pos) (mCall F n ms) := by
  obtain ⟨f, G, hm, kp⟩ := c.ex
  refine pe_imp (t := tCallS (spF X.K n F) (WE W) (tMA X.K W ms)) ⟨?_⟩ ?_
  · intro pins s σ H Q I h
    refine PySem.wpAny_Call_Name_kw (ld_glob I hgl hm ?_ hdb)
    refine PySem.W.callWith_K (h₀ := X.base) I.ok.mod.kin kp (thn (ha.run pos pins s σ H _ I h) fun us s1 hh => ?_) he hpl
    obtain ⟨vs, H1, I1, r, q⟩ := hh
    refine ⟨I1.kIn, wpAny_call (codeAny_mono (G X.A X.stack s1 H1 us vs Q (WE W σ) (hr.mono hk) hg I1.env0 r q) fun z s' hq => ?_)⟩
    cases z with
    | error u => exact passAt tk σ pins H1 s1 u s' I1 hq
    | ok fl => cases fl with
      | ret u => exact I1.after hq
      | _ => exact hq.elim
  · rintro σ H Q ⟨Z, ι, ρ, μ, R, o⟩
    refine tMA_bind R o fun v μ' Z' ι' H' x x1 R1 r1 o1 => ?_
    split at o1
    · rename_i hl
      exact call_frame R1.sta r1 (by rw [← r1.len]; exact hl) o1
    · exact o1.elim
theorem fe_call0 (c : Fn X.prog X.w X.K X.mg X.base k x 0 F) (tk : Takes X W) (hg : X.A.guards = some []) (hr : Room j X.A) (hk : k ≤ j := by decide) (hgl : Gl X x := by rfl)
    (hdb : (x == ("__debug__" : Str)) = false := by decide) : FE X W (.Call (.Name x p) [] [] pos) (mCall F 0 mNil) := by
  obtain ⟨f, G, hm, kp⟩ := c.ex
  refine pe_imp (t := tCallS (spF X.K 0 F) (WE W) (tMA X.K W mNil)) ⟨?_⟩ ?_
  · intro pins s σ H Q I ⟨Z, ι, ρ, μ, R, o⟩
    refine PySem.wpAny_Call_Name_kw (ld_glob I hgl hm ?_ hdb)
    refine PySem.W.callWith_K0 I.kIn kp ?_
    have q : spF X.K 0 F [] H Q (WE W σ) := o Z ι H (Ext.refl R.sta.sub) R.sta [] .nil
    refine wpAny_call (codeAny_mono (G X.A X.stack s H [] [] Q (WE W σ) (hr.mono hk) hg I.env0 .nil q) fun z s' hq => ?_)
    cases z with
    | error u => exact passAt tk σ pins H s u s' I hq
    | ok fl => cases fl with
      | ret u => exact I.after hq
      | _ => exact hq.elim
  · rintro σ H Q ⟨Z, ι, ρ, μ, R, o⟩
    refine ⟨Z, ι, ρ, μ, R, ?_⟩
    intro Z1 ι1 H1 x1 s1 vs rv
    cases rv
    exact call_frame s1 .nil rfl (Out.base o x1)
end
section
variable {P : Program} {w : World} {K : PySem.W.Frag} {mg : Str → Option Value} {base : Heap}
/-- a def of the text, from its body -/
theorem Def.mini {x : Str} {st : Stmt} {N ps : List Str} {k n : Nat} {fz : Bool} {m : MS} (D : Def K mg x st ps) (S : FnScope N ps (defScope st)) (hn : ps.length = n)
    (body : ∀ (f : Addr) (cdv : Value) (A : Around) (outer : List Env) (s : Shared) (H : Hp) (E : XK), (A.deeper (PyProof.Rows.envOfC x (defScope st) s.heap.objs.size f cdv)).guards = some [] →
      Room k (A.deeper (PyProof.Rows.envOfC x (defScope st) s.heap.objs.size f cdv)) →
      FSs (cxOf (L2.CX P w) P w K mg base N x (defScope st) f cdv A outer s H E) (fun c d _ H' => E c d H') (defBody st) m) : Fn P w K mg base (k + 1) x n (fnT fz N.length m) :=
  D.okG S (fun vs H Q E h => h.1.trans hn.symm) fun f cdv A outer s H vs Q E hg hr h => ⟨_, body f cdv A outer s H E hg hr, bodyT_ok h⟩
end
end TT

namespace TT
open PySem L2
variable [TB]
section
variable {K : PySem.W.Frag} {X : Cx}
theorem opd_or {r r' : R2} {g g' : D → D → Option D} (h : OpD K r g) (h' : OpD K r' g') : OpD K (fun x y H Q => r x y H Q ∨ r' x y H Q) (fun a b => (g a b).or (g' a b)) := fun Z H a b c x y Q t ha hb e q => by
  have e : (g a b).or (g' a b) = some c := e
  cases hg : g a b with
  | some z => rw [hg] at e; exact .inl (h Z H a b c x y Q t ha hb (hg.trans e) q)
  | none => rw [hg] at e; exact .inr (h' Z H a b c x y Q t ha hb e q)
theorem same_ok {Z : List Addr} {H : Hp} {c : D} {Q : VK} {z : V} (q : ∀ H' z, Same H H' → DR K (mask H' Z) c z → Q z H') (r : DR K (mask H Z) c z) : Q z H := q H z (Same.refl _) r
/-! numbers -/
def intOp (f : Int → Int → Option D) : D → D → Option D
  | .int i, .int j => f i j
  | _, _ => none
theorem opd_int {C : Int → Int → Prop} [∀ i j, Decidable (C i j)] {g : Int → Int → V} {h : Int → Int → D} (e : ∀ i j F, DR K F (h i j) (g i j)) : OpD K (rI C g) (intOp fun i j => if C i j then some (h i j) else none) := fun Z H a b c x y Q t ha hb eq q => by
  unfold intOp at eq
  split at eq
  · rename_i i j
    simp only at eq
    split at eq
    · rename_i hc
      cases eq
      exact ⟨i, j, ha.int, hb.int, hc, same_ok q (e i j _)⟩
    · cases eq
  · cases eq
theorem opd_int0 {g : Int → Int → V} {h : Int → Int → D} (e : ∀ i j F, DR K F (h i j) (g i j)) : OpD K (rI0 g) (intOp fun i j => some (h i j)) := fun Z H a b c x y Q t ha hb eq q => by
  unfold intOp at eq
  split at eq
  · rename_i i j
    cases eq
    exact ⟨i, j, ha.int, hb.int, same_ok q (e i j _)⟩
  · cases eq
instance : ∀ i j, Decidable (CMul i j) := fun i j => inferInstanceAs (Decidable ((-(2 ^ 64) < i ∧ i < 2 ^ 64) ∨ (-(2 ^ 64) < j ∧ j < 2 ^ 64)))
instance : ∀ i j, Decidable (CPow i j) := fun i j => inferInstanceAs (Decidable (0 ≤ j ∧ j ≤ 1000000 ∧ i.natAbs < 2 ^ 64))
instance : ∀ i j, Decidable (CDivW i j) := fun i j => by unfold CDivW; infer_instance
def mulD : D → D → Option D := intOp fun i j => if CMul i j then some (.int (i * j)) else none
def fdivD : D → D → Option D := intOp fun i j => if CDivW i j then some (.int (i / j)) else none
def modD : D → D → Option D := intOp fun i j => if 0 < j then some (.int (i % j)) else none
def powD : D → D → Option D := intOp fun i j => if CPow i j then some (.int (i ^ j.toNat)) else none
def subD : D → D → Option D := intOp fun i j => some (.int (i - j))
def addI : D → D → Option D := intOp fun i j => some (.int (i + j))
theorem d_mul : OpD K (rI CMul fun i j => .int (i * j)) mulD := opd_int fun i j F => .int _
theorem d_fdiv : OpD K (rI CDivW fun i j => .int (i / j)) fdivD := opd_int fun i j F => .int _
theorem d_mod : OpD K (rI (fun _ j => 0 < j) fun i j => .int (i % j)) modD := opd_int fun i j F => .int _
theorem d_pow : OpD K (rI CPow fun i j => .int (i ^ j.toNat)) powD := opd_int fun i j F => .int _
theorem d_sub : OpD K (rI0 fun i j => .int (i - j)) subD := opd_int0 fun i j F => .int _
theorem d_addI : OpD K (rI0 fun i j => .int (i + j)) addI := opd_int0 fun i j F => .int _
/-! adding -/
def rAddS : R2 := fun x y H Q => ∃ i j, x = .str i ∧ y = .str j ∧ i.length + j.length ≤ sizeLine ∧ Q (.str (i ++ j)) H
def addS : D → D → Option D
  | .str a, .str b => if a.length + b.length ≤ sizeLine then some (.str (a ++ b)) else none
  | _, _ => none
theorem d_addS : OpD K rAddS addS := fun Z H a b c x y Q t ha hb eq q => by
  unfold addS at eq
  split at eq
  · rename_i i j
    split at eq
    · rename_i hc; cases eq; exact ⟨i, j, ha.str, hb.str, hc, same_ok q (.str _)⟩
    · cases eq
  · cases eq
def addT : D → D → Option D
  | .tup a, .tup b => if a.length + b.length ≤ sizeLine then some (.tup (a ++ b)) else none
  | _, _ => none
theorem DV.tupR {Z : List Addr} {H : Hp} {v : V} {xs : List D} (h : DV K Z H (.tup xs) v) : DR K (mask H Z) (.tup xs) v := by cases h with | d h => exact h
theorem d_addT : OpD K (rCatA K) addT := fun Z H a b c x y Q t ha hb eq q => by
  unfold addT at eq
  split at eq
  · rename_i xs ys
    split at eq
    · rename_i hc
      cases eq
      obtain ⟨p, vs, rfl, h1, r1⟩ := ha.tup
      obtain ⟨p2, ws, rfl, h2, r2⟩ := hb.tup
      refine ⟨p, p2, vs, ws, rfl, rfl, SqT.of h1, SqT.of h2, by rw [← r1.len, ← r2.len]; exact hc, fun e => ?_, fun e1 e2 => ?_, fun e1 e2 p hp => ?_⟩
      · subst e; cases r1; exact same_ok q hb.tupR
      · subst e2; cases r2; rw [List.append_nil] at q; exact same_ok q ha.tupR
      · obtain ⟨s, r⟩ := new_tup t hp (DRs.append r2 r1)
        exact q _ _ s r
    · cases eq
  · cases eq
def addLL : D → D → Option (List D)
  | .lst a, .lst b => if a.length + b.length ≤ sizeLine then some (a ++ b) else none
  | _, _ => none
theorem l_add : OpL K rCat addLL := fun Z H a b c x y Q t ha hb eq q => by
  unfold addLL at eq
  split at eq
  · rename_i xs ys
    split at eq
    · rename_i hc
      cases eq
      obtain ⟨p, vs, rfl, h1, r1⟩ := ha.list
      obtain ⟨p2, ws, rfl, h2, r2⟩ := hb.list
      exact ⟨p, p2, vs, ws, rfl, rfl, h1, h2, by rw [← r1.len, ← r2.len]; exact hc, fun p hp => q p _ hp (DRs.append r2 r1)⟩
    · cases eq
  · cases eq
def addL (a b : D) : Option D := (addLL a b).map .lst
theorem d_addL : OpD K rCat addL := fun Z H a b c x y Q t ha hb eq q => by
  unfold addL at eq
  obtain ⟨zs, h1, rfl⟩ := Option.map_eq_some_iff.mp eq
  exact l_add Z H a b zs x y Q t ha hb h1 fun p vs hp r => by
    obtain ⟨s, r⟩ := new_lst t hp r
    exact q _ _ s r
def addD (a b : D) : Option D := (addI a b).or ((addS a b).or ((addT a b).or (addL a b)))
abbrev rAddD (K : PySem.W.Frag) : R2 := fun x y H Q => rI0 (fun i j => .int (i + j)) x y H Q ∨ rAddS x y H Q ∨ rCatA K x y H Q ∨ rCat x y H Q
theorem d_add : OpD K (rAddD K) addD := opd_or d_addI (opd_or d_addS (opd_or d_addT d_addL))
theorem o_add : OpR X (binaryOp .Add) (rAddD X.K) := op_add.or (op_add_str.or (op_catA.or op_cat))
@[simp] theorem addD_int (i j : Int) : addD (.int i) (.int j) = some (.int (i + j)) := rfl
theorem addD_str {a b : Str} (h : a.length + b.length ≤ sizeLine) : addD (.str a) (.str b) = some (.str (a ++ b)) := by simp [addD, addI, intOp, addS, h]
theorem addD_tup {a b : List D} (h : a.length + b.length ≤ sizeLine) : addD (.tup a) (.tup b) = some (.tup (a ++ b)) := by simp [addD, addI, intOp, addS, addT, h]
theorem addD_lst {a b : List D} (h : a.length + b.length ≤ sizeLine) : addD (.lst a) (.lst b) = some (.lst (a ++ b)) := by simp [addD, addI, intOp, addS, addT, addL, addLL, h]
/-! comparing -/
def ltI : D → D → Option D := intOp fun i j => some (.bl (decide (i < j)))
def leI : D → D → Option D := intOp fun i j => some (.bl (decide (i ≤ j)))
def gtI : D → D → Option D := intOp fun i j => some (.bl (decide (j < i)))
def geI : D → D → Option D := intOp fun i j => some (.bl (decide (j ≤ i)))
theorem d_lt : OpD K (rI0 fun i j => .bl (decide (i < j))) ltI := opd_int0 fun i j F => .bl _
theorem d_le : OpD K (rI0 fun i j => .bl (decide (i ≤ j))) leI := opd_int0 fun i j F => .bl _
theorem d_gt : OpD K (rI0 fun i j => .bl (decide (j < i))) gtI := opd_int0 fun i j F => .bl _
theorem d_ge : OpD K (rI0 fun i j => .bl (decide (j ≤ i))) geI := opd_int0 fun i j F => .bl _
/-! data of the model's own kind -/
mutual
def toPy : D → Option PyData
  | .non => some .none
  | .bl b => some (.bool b)
  | .int i => some (.int i)
  | .str x => some (.str x)
  | .tup xs => (toPys xs).map .tuple
  | .lst xs => (toPys xs).map .list
  | _ => none
def toPys : List D → Option (List PyData)
  | [] => some []
  | d :: ds => match toPy d, toPys ds with
    | some p, some ps => some (p :: ps)
    | _, _ => none
end
mutual
theorem DR.dp {F : Hp} : ∀ (d : D) (v : V) (p : PyData), DR K F d v → toPy d = some p → Dp K F v p
  | .non, _, _, h, e => by cases h; cases e; exact .non
  | .bl b, _, _, h, e => by cases h; cases e; exact .bl b
  | .int b, _, _, h, e => by cases h; cases e; exact .int b
  | .str b, _, _, h, e => by cases h; cases e; exact .str b
  | .tup xs, _, _, h, e => by
    cases h with | tup q r =>
      simp only [toPy, Option.map_eq_some_iff] at e
      obtain ⟨ps, h1, rfl⟩ := e
      exact .tup (SqT.of q) (DRs.dp xs _ ps r h1)
  | .lst xs, _, _, h, e => by
    cases h with | lst q r =>
      simp only [toPy, Option.map_eq_some_iff] at e
      obtain ⟨ps, h1, rfl⟩ := e
      exact .lst (SqL.of q) (DRs.dp xs _ ps r h1)
  | .ty _, _, _, _, e => by cases e
  | .gl _, _, _, _, e => by cases e
  | .fl _, _, _, _, e => by cases e
  | .dK _, _, _, _, e => by cases e
  | .dT _, _, _, _, e => by cases e
  | .obj _ _, _, _, _, e => by cases e
  | .exn _ _ _ _, _, _, _, e => by cases e
  | .err _ _, _, _, _, e => by cases e
theorem DRs.dp {F : Hp} : ∀ (d : List D) (v : List V) (p : List PyData), DRs K F d v → toPys d = some p → DpAll K F v p
  | [], _, _, h, e => by cases h; cases e; exact .nil
  | d :: ds, _, _, h, e => by
    cases h with | cons a b =>
      simp only [toPys] at e
      split at e
      · rename_i p ps h1 h2
        cases e
        exact .cons (DR.dp d _ p a h1) (DRs.dp ds _ ps b h2)
      · cases e
end
mutual
theorem Dp.mono {F F' : Hp} (e : Same F F') : ∀ (p : PyData) (v : V), Dp K F v p → Dp K F' v p
  | .none, _, h => by cases h; exact .non
  | .bool b, _, h => by cases h; exact .bl b
  | .int i, _, h => by cases h; exact .int i
  | .str x, _, h => by cases h; exact .str x
  | .tuple ds, _, h => by cases h with | tup q r => exact .tup (same_t e q) (DpAll.mono e ds _ r)
  | .list ds, _, h => by cases h with | lst q r => exact .lst (e.seq q) (DpAll.mono e ds _ r)
  | .dict _, _, h => by cases h
theorem DpAll.mono {F F' : Hp} (e : Same F F') : ∀ (p : List PyData) (v : List V), DpAll K F v p → DpAll K F' v p
  | [], _, h => by cases h; exact .nil
  | d :: ds, _, h => by cases h with | cons a b => exact .cons (Dp.mono e d _ a) (DpAll.mono e ds _ b)
end
theorem DV.dp {Z : List Addr} {H : Hp} {d : D} {v : V} {p : PyData} (h : DV K Z H d v) (e : toPy d = some p) : Dp K H v p := by
  cases h with
  | d h => exact Dp.mono (mask_same _ _) _ _ (DR.dp d v p h e)
  | lst q r =>
    simp only [toPy, Option.map_eq_some_iff] at e
    obtain ⟨ps, h1, rfl⟩ := e
    exact .lst (SqL.of q) (DpAll.mono (mask_same _ _) _ _ (DRs.dp _ _ ps r h1))
  | dK q r => cases e
  | dT q r => cases e
/-- == -/
def eqL (a b : D) : Option Bool := match toPy a, toPy b with
  | some p, some q => if SeqAt.shaped p = true ∧ SeqAt.shaped q = true then some (PyData.eqv p q) else none
  | _, _ => none
def eqB : D → D → Option Bool
  | .int i, .int j => some (decide (i = j))
  | .str i, .str j => some (decide (i = j))
  | .bl i, .bl j => some (decide (i = j))
  | .non, .non => some true
  | .non, .int _ => some false
  | .int _, .non => some false
  | .non, .str _ => some false
  | .str _, .non => some false
  | .non, .bl _ => some false
  | .bl _, .non => some false
  | .int _, .str _ => some false
  | .str _, .int _ => some false
  | .bl _, .str _ => some false
  | .str _, .bl _ => some false
  | .lst xs, .lst ys => if xs.length = ys.length then eqL (.lst xs) (.lst ys) else some false
  | a, b => eqL a b
def eqD (a b : D) : Option D := (eqB a b).map .bl
def neD (a b : D) : Option D := (eqB a b).map fun b => .bl !b
def rLen (K : PySem.W.Frag) (k : Bool) : R2 := fun x y H Q => ∃ a b xs ys, x = .ref a ∧ y = .ref b ∧ SqL K H a xs ∧ SqL K H b ys ∧ xs.length ≠ ys.length ∧ Q (.bl k) H
theorem len_size {K : PySem.W.Frag} {xs ys : List V} {us vs : List Value} (r1 : Vals xs us) (r2 : Vals ys vs) (h : xs.length ≠ ys.length) : (us.toArray.size != vs.toArray.size) = true := by
  rw [List.size_toArray, List.size_toArray, ← r1.length, ← r2.length]
  simpa using h
theorem op_eqLen (hu : X.A.units + 64 < cLine) : OpR X (compareOp .Eq) (rLen X.K false) := by
  intro pins s σ H x y v u Q I rx ry ⟨a, b, xs, ys, ex, ey, h1, h2, hn, q⟩
  subst ex ey
  cases (show v = Value.ref a from rx)
  cases (show u = Value.ref b from ry)
  obtain ⟨us, r1, p1, _⟩ := I.list h1
  obtain ⟨vs, r2, p2, _⟩ := I.list h2
  exact SeqAt.eq_list_lengthsAt p1.isList p2.isList (len_size (K := X.K) r1 r2 hn) (by omega) ⟨.bl false, H, I, rfl, q⟩
theorem op_neLen (hu : X.A.units + 64 < cLine) : OpR X (compareOp .NotEq) (rLen X.K true) := by
  intro pins s σ H x y v u Q I rx ry ⟨a, b, xs, ys, ex, ey, h1, h2, hn, q⟩
  subst ex ey
  cases (show v = Value.ref a from rx)
  cases (show u = Value.ref b from ry)
  obtain ⟨us, r1, p1, _⟩ := I.list h1
  obtain ⟨vs, r2, p2, _⟩ := I.list h2
  exact SeqAt.RcNeAt.lists_lengths p1.isList p2.isList (len_size (K := X.K) r1 r2 hn) (by omega) _ _ _ _ ⟨.bl true, H, I, rfl, q⟩
theorem eqL_ok {Z : List Addr} {H : Hp} {a b : D} {x y : V} {k : Bool} (ha : DV K Z H a x) (hb : DV K Z H b y) (e : eqL a b = some k) : ∃ d e, Dp K H x d ∧ Dp K H y e ∧ SeqAt.shaped d = true ∧ SeqAt.shaped e = true ∧ PyData.eqv d e = k := by
  unfold eqL at e
  split at e
  · rename_i p q h1 h2
    split at e
    · rename_i hs; cases e; exact ⟨p, q, ha.dp h1, hb.dp h2, hs.1, hs.2, rfl⟩
    · cases e
  · cases e
theorem eqB_ok {Z : List Addr} {H : Hp} {a b : D} {x y : V} {k : Bool} (ha : DV K Z H a x) (hb : DV K Z H b y) (e : eqB a b = some k) : (scal x y = true ∧ decide (x = y) = k) ∨ (∃ d e, Dp K H x d ∧ Dp K H y e ∧ SeqAt.shaped d = true ∧ SeqAt.shaped e = true ∧ PyData.eqv d e = k) ∨
    (k = false ∧ ∃ a b xs ys, x = .ref a ∧ y = .ref b ∧ SqL K H a xs ∧ SqL K H b ys ∧ xs.length ≠ ys.length) := by
  unfold eqB at e
  split at e
  · cases e; rw [ha.int, hb.int]; exact .inl ⟨rfl, by simp⟩
  · cases e; rw [ha.str, hb.str]; exact .inl ⟨rfl, by simp⟩
  · cases e; rw [ha.bl, hb.bl]; exact .inl ⟨rfl, by simp⟩
  · cases e; rw [ha.non, hb.non]; exact .inl ⟨rfl, by simp⟩
  · cases e; rw [ha.non, hb.int]; exact .inl ⟨rfl, by simp⟩
  · cases e; rw [ha.int, hb.non]; exact .inl ⟨rfl, by simp⟩
  · cases e; rw [ha.non, hb.str]; exact .inl ⟨rfl, by simp⟩
  · cases e; rw [ha.str, hb.non]; exact .inl ⟨rfl, by simp⟩
  · cases e; rw [ha.non, hb.bl]; exact .inl ⟨rfl, by simp⟩
  · cases e; rw [ha.bl, hb.non]; exact .inl ⟨rfl, by simp⟩
  · cases e; rw [ha.int, hb.str]; exact .inl ⟨rfl, by simp⟩
  · cases e; rw [ha.str, hb.int]; exact .inl ⟨rfl, by simp⟩
  · cases e; rw [ha.bl, hb.str]; exact .inl ⟨rfl, by simp⟩
  · cases e; rw [ha.str, hb.bl]; exact .inl ⟨rfl, by simp⟩
  · rename_i xs ys
    split at e
    · exact .inr (.inl (eqL_ok ha hb e))
    · rename_i hn
      cases e
      obtain ⟨p, us, rfl, h1, h2⟩ := ha.list
      obtain ⟨q, vs, rfl, h3, h4⟩ := hb.list
      exact .inr (.inr ⟨rfl, p, q, us, vs, rfl, rfl, SqL.of h1, SqL.of h3, by rw [← h2.len, ← h4.len]; exact hn⟩)
  · exact .inr (.inl (eqL_ok ha hb e))
abbrev rEqX (K : PySem.W.Frag) : R2 := fun x y H Q => rEq x y H Q ∨ rEqD K x y H Q ∨ rLen K false x y H Q
abbrev rNeX (K : PySem.W.Frag) : R2 := fun x y H Q => rNe x y H Q ∨ rNeD K x y H Q ∨ rLen K true x y H Q
theorem d_eq : OpD K (rEqX K) eqD := fun Z H a b c x y Q t ha hb eq q => by
  obtain ⟨k, h1, rfl⟩ := Option.map_eq_some_iff.mp eq
  rcases eqB_ok ha hb h1 with ⟨h2, h3⟩ | ⟨d, e, h2, h3, h4, h5, h6⟩ | ⟨rfl, p, r, xs, ys, h2, h3, h4, h5, h6⟩
  · exact .inl ⟨h2, by rw [h3]; exact same_ok q (.bl _)⟩
  · exact .inr (.inl ⟨d, e, h2, h3, h4, h5, by rw [h6]; exact same_ok q (.bl _)⟩)
  · exact .inr (.inr ⟨p, r, xs, ys, h2, h3, h4, h5, h6, same_ok q (.bl _)⟩)
theorem d_ne : OpD K (rNeX K) neD := fun Z H a b c x y Q t ha hb eq q => by
  obtain ⟨k, h1, rfl⟩ := Option.map_eq_some_iff.mp eq
  rcases eqB_ok ha hb h1 with ⟨h2, h3⟩ | ⟨d, e, h2, h3, h4, h5, h6⟩ | ⟨rfl, p, r, xs, ys, h2, h3, h4, h5, h6⟩
  · exact .inl ⟨h2, by rw [h3]; exact same_ok q (.bl _)⟩
  · exact .inr (.inl ⟨d, e, h2, h3, h4, h5, by rw [h6]; exact same_ok q (.bl _)⟩)
  · exact .inr (.inr ⟨p, r, xs, ys, h2, h3, h4, h5, h6, same_ok q (.bl _)⟩)
theorem o_eq (hu : X.A.units + 64 < cLine) : OpR X (compareOp .Eq) (rEqX X.K) := op_eq.or ((op_eqD hu).or (op_eqLen hu))
theorem o_ne (hu : X.A.units + 64 < cLine) : OpR X (compareOp .NotEq) (rNeX X.K) := op_ne.or ((op_neD hu).or (op_neLen hu))
/-! is None -/
def isN : D → D → Option D
  | .non, .non => some (.bl true)
  | .gl _, .non => none
  | _, .non => some (.bl false)
  | _, _ => none
def notN : D → D → Option D
  | .non, .non => some (.bl false)
  | .gl _, .non => none
  | _, .non => some (.bl true)
  | _, _ => none
theorem DV.isnon {Z : List Addr} {H : Hp} {d : D} {v : V} (h : DV K Z H d v) : decide (v = .non) = (match d with | .non => true | _ => false) := by
  cases h with
  | d h => cases h <;> simp
  | _ => simp
theorem d_isN : OpD K (fun x y H Q => y = .non ∧ Q (.bl (decide (x = .non))) H) isN := fun Z H a b c x y Q t ha hb eq q => by
  have hx := ha.isnon
  cases b with
  | non =>
    refine ⟨hb.non, ?_⟩
    rw [hx]
    cases a <;> simp only [isN] at eq <;> cases eq <;> exact same_ok q (.bl _)
  | _ => cases a <;> cases eq
theorem d_notN : OpD K (fun x y H Q => y = .non ∧ Q (.bl (!decide (x = .non))) H) notN := fun Z H a b c x y Q t ha hb eq q => by
  have hx := ha.isnon
  cases b with
  | non =>
    refine ⟨hb.non, ?_⟩
    rw [hx]
    cases a <;> simp only [notN] at eq <;> cases eq <;> exact same_ok q (.bl _)
  | _ => cases a <;> cases eq
/-! items -/
def ixD : D → D → Option D
  | .lst xs, .int i => atI xs i
  | .tup xs, .int i => atI xs i
  | .fl xs, .int i => atI xs i
  | .str z, .int i => if z.length ≤ sizeLine then (atI z.cps.toList i).map fun c => .str ⟨#[c]⟩ else none
  | _, _ => none
theorem DRs.atI {F : Hp} {xs : List D} {vs : List V} (h : DRs K F xs vs) {i : Int} {d : D} (e : atI xs i = some d) : ∃ v, L2.atI vs i = some v ∧ DR K F d v := by
  unfold L2.atI at e ⊢
  rw [← h.len]
  cases q : ixN xs.length i with
  | none => rw [q] at e; cases e
  | some j =>
    rw [q] at e
    obtain ⟨v, h1, h2⟩ := h.get (i := j) e
    exact ⟨v, h1, h2⟩
theorem d_ix : OpD K (rIx K) ixD := fun Z H a b c x y Q t ha hb eq q => by
  unfold ixD at eq
  split at eq
  · rename_i xs i
    obtain ⟨p, vs, rfl, h1, r1⟩ := ha.list
    obtain ⟨v, h2, h3⟩ := r1.atI eq
    exact .inl ⟨p, vs, i, v, rfl, hb.int, SqL.of h1, h2, same_ok q h3⟩
  · rename_i xs i
    obtain ⟨p, vs, rfl, h1, r1⟩ := ha.tup
    obtain ⟨v, h2, h3⟩ := r1.atI eq
    exact .inr (.inl ⟨p, vs, i, v, rfl, hb.int, SqT.of h1, h2, same_ok q h3⟩)
  · rename_i xs i
    obtain ⟨p, vs, rfl, h1, r1⟩ := ha.flist
    obtain ⟨v, h2, h3⟩ := r1.atI eq
    exact .inl ⟨p, vs, i, v, rfl, hb.int, h1, h2, same_ok q h3⟩
  · rename_i z i
    split at eq
    · rename_i hz
      obtain ⟨c, h1, rfl⟩ := Option.map_eq_some_iff.mp eq
      exact .inr (.inr ⟨z, i, c, ha.str, hb.int, hz, h1, same_ok q (.str _)⟩)
    · cases eq
  · cases eq
/-! calls of built-ins -/
theorem dvs1 {Z : List Addr} {H : Hp} {a : D} {xs : List V} (h : DVs K Z H [a] xs) : ∃ x, xs = [x] ∧ DV K Z H a x := by
  cases h with | cons h r => cases r; exact ⟨_, rfl, h⟩
theorem dvs2 {Z : List Addr} {H : Hp} {a b : D} {xs : List V} (h : DVs K Z H [a, b] xs) : ∃ x y, xs = [x, y] ∧ DV K Z H a x ∧ DV K Z H b y := by
  cases h with | cons h r => obtain ⟨y, rfl, h2⟩ := dvs1 r; exact ⟨_, y, rfl, h, h2⟩
def one (g : D → Option D) : List D → Option D
  | [a] => g a
  | _ => none
def lenD : D → Option D
  | .str y => if y.length ≤ sizeLine then some (.int y.length) else none
  | .lst xs => some (.int xs.length)
  | .fl xs => some (.int xs.length)
  | .tup xs => some (.int xs.length)
  | _ => none
theorem c_len : CallD K (fun xs H Q => ∃ x n, xs = [x] ∧ LenV K x H n ∧ Q (.int n) H) (one lenD) := fun Z H as c xs Q t ha eq q => by
  unfold one at eq
  split at eq
  · rename_i a
    obtain ⟨x, rfl, h⟩ := dvs1 ha
    cases a with
    | str y =>
      simp only [lenD] at eq
      split at eq
      · rename_i hl; cases eq; exact ⟨x, y.length, rfl, by rw [h.str]; exact ⟨hl, rfl⟩, same_ok q (.int _)⟩
      · cases eq
    | lst ys => obtain ⟨p, vs, rfl, h1, r1⟩ := h.list; cases eq; exact ⟨_, ys.length, rfl, .inl ⟨vs, SqL.of h1, r1.len⟩, same_ok q (.int _)⟩
    | fl ys => obtain ⟨p, vs, rfl, h1, r1⟩ := h.flist; cases eq; exact ⟨_, ys.length, rfl, .inl ⟨vs, h1, r1.len⟩, same_ok q (.int _)⟩
    | tup ys => obtain ⟨p, vs, rfl, h1, r1⟩ := h.tup; cases eq; exact ⟨_, ys.length, rfl, .inr ⟨vs, SqT.of h1, r1.len⟩, same_ok q (.int _)⟩
    | _ => cases eq
  · cases eq
def absD : D → Option D
  | .int i => some (.int (if i < 0 then -i else i))
  | _ => none
theorem c_abs : CallD K (fun xs H Q => ∃ i, xs = [.int i] ∧ Q (.int (if i < 0 then -i else i)) H) (one absD) := fun Z H as c xs Q t ha eq q => by
  unfold one at eq
  split at eq
  · rename_i a
    obtain ⟨x, rfl, h⟩ := dvs1 ha
    cases a with
    | int i => cases eq; exact ⟨i, by rw [h.int], same_ok q (.int _)⟩
    | _ => cases eq
  · cases eq
def intD : D → Option D
  | .int i => some (.int i)
  | .bl k => some (.int (if k then 1 else 0))
  | _ => none
theorem c_int : CallD K (fun xs H Q => (∃ i, xs = [.int i] ∧ Q (.int i) H) ∨ ∃ k, xs = [.bl k] ∧ Q (.int (if k then 1 else 0)) H) (one intD) := fun Z H as c xs Q t ha eq q => by
  unfold one at eq
  split at eq
  · rename_i a
    obtain ⟨x, rfl, h⟩ := dvs1 ha
    cases a with
    | int i => cases eq; exact .inl ⟨i, by rw [h.int], same_ok q (.int _)⟩
    | bl i => cases eq; exact .inr ⟨i, by rw [h.bl], same_ok q (.int _)⟩
    | _ => cases eq
  · cases eq
def boolD : D → Option D
  | .int i => some (.bl (i != 0))
  | .bl k => some (.bl k)
  | _ => none
theorem c_bool : CallD K (fun xs H Q => (∃ i, xs = [.int i] ∧ Q (.bl (i != 0)) H) ∨ ∃ k, xs = [.bl k] ∧ Q (.bl k) H) (one boolD) := fun Z H as c xs Q t ha eq q => by
  unfold one at eq
  split at eq
  · rename_i a
    obtain ⟨x, rfl, h⟩ := dvs1 ha
    cases a with
    | int i => cases eq; exact .inl ⟨i, by rw [h.int], same_ok q (.bl _)⟩
    | bl i => cases eq; exact .inr ⟨i, by rw [h.bl], same_ok q (.bl _)⟩
    | _ => cases eq
  · cases eq
def max2 : List D → Option D
  | [.int i, .int j] => some (.int (if j > i then j else i))
  | _ => none
def min2 : List D → Option D
  | [.int i, .int j] => some (.int (if j < i then j else i))
  | _ => none
theorem c_max2 : CallD K (fun xs H Q => ∃ i j, xs = [.int i, .int j] ∧ Q (.int (if j > i then j else i)) H) max2 := fun Z H as c xs Q t ha eq q => by
  unfold max2 at eq
  split at eq
  · rename_i i j
    obtain ⟨x, y, rfl, h1, h2⟩ := dvs2 ha
    cases eq
    exact ⟨i, j, by rw [h1.int, h2.int], same_ok q (.int _)⟩
  · cases eq
theorem c_min2 : CallD K (fun xs H Q => ∃ i j, xs = [.int i, .int j] ∧ Q (.int (if j < i then j else i)) H) min2 := fun Z H as c xs Q t ha eq q => by
  unfold min2 at eq
  split at eq
  · rename_i i j
    obtain ⟨x, y, rfl, h1, h2⟩ := dvs2 ha
    cases eq
    exact ⟨i, j, by rw [h1.int, h2.int], same_ok q (.int _)⟩
  · cases eq
/-- list(..), tuple(..) -/
def listL : List D → Option (List D)
  | [.lst xs] => some xs
  | [.fl xs] => some xs
  | [.tup xs] => some xs
  | _ => none
theorem cl_list : CallL K (fun xs H Q => ∃ p ys, xs = [.ref p] ∧ (SqL K H p ys ∨ SqT K H p ys) ∧ ∀ l, H l = none → Q (.ref l) (upd H l (.lst ys))) listL := fun Z H as c xs Q t ha eq q => by
  unfold listL at eq
  split at eq
  · obtain ⟨x, rfl, h⟩ := dvs1 ha; cases eq; obtain ⟨p, vs, rfl, h1, r1⟩ := h.list; exact ⟨p, vs, rfl, .inl (SqL.of h1), fun l hl => q l vs hl r1⟩
  · obtain ⟨x, rfl, h⟩ := dvs1 ha; cases eq; obtain ⟨p, vs, rfl, h1, r1⟩ := h.flist; exact ⟨p, vs, rfl, .inl h1, fun l hl => q l vs hl r1⟩
  · obtain ⟨x, rfl, h⟩ := dvs1 ha; cases eq; obtain ⟨p, vs, rfl, h1, r1⟩ := h.tup; exact ⟨p, vs, rfl, .inr (SqT.of h1), fun l hl => q l vs hl r1⟩
  · cases eq
def listS : List D → Option (List D)
  | [.str x] => if x.length ≤ sizeLine then some (chars x) else none
  | _ => none
theorem sgn_drs {F : Hp} : ∀ cs : List Nat, DRs K F (cs.map fun c => D.str ⟨#[c]⟩) (cs.map sgn)
  | [] => .nil
  | c :: cs => .cons (.str _) (sgn_drs cs)
theorem cl_listS : CallL K (fun xs H Q => ∃ x : Str, xs = [.str x] ∧ x.length ≤ sizeLine ∧ ∀ l, H l = none → Q (.ref l) (upd H l (.lst (x.cps.toList.map sgn)))) listS := fun Z H as c xs Q t ha eq q => by
  unfold listS at eq
  split at eq
  · rename_i z
    obtain ⟨x, rfl, h⟩ := dvs1 ha
    split at eq
    · rename_i hz; cases eq; exact ⟨z, by rw [h.str], hz, fun l hl => q l _ hl (sgn_drs _)⟩
    · cases eq
  · cases eq
def tupD : D → Option D
  | .lst xs => some (.tup xs)
  | .fl xs => some (.tup xs)
  | .tup xs => some (.tup xs)
  | _ => none
theorem c_tuple : CallD K (fun xs H Q => ∃ p ys, xs = [.ref p] ∧ ((SqL K H p ys ∧ ∀ l, H l = none → Q (.ref l) (upd H l (.tup ys))) ∨ (SqT K H p ys ∧ Q (.ref p) H))) (one tupD) := fun Z H as c xs Q t ha eq q => by
  unfold one at eq
  split at eq
  · rename_i a
    obtain ⟨x, rfl, h⟩ := dvs1 ha
    have new : ∀ {vs : List V} {ys : List D}, DRs K (mask H Z) ys vs → c = .tup ys → ∀ l, H l = none → Q (.ref l) (upd H l (.tup vs)) := fun r e l hl => by
      obtain ⟨s, r⟩ := new_tup t hl r
      exact q _ _ s (by rw [e]; exact r)
    cases a with
    | lst ys => cases eq; obtain ⟨p, vs, rfl, h1, r1⟩ := h.list; exact ⟨p, vs, rfl, .inl ⟨SqL.of h1, new r1 rfl⟩⟩
    | fl ys => cases eq; obtain ⟨p, vs, rfl, h1, r1⟩ := h.flist; exact ⟨p, vs, rfl, .inl ⟨h1, new r1 rfl⟩⟩
    | tup ys =>
      cases eq
      have hr := h.tupR
      obtain ⟨p, vs, rfl, h1, r1⟩ := h.tup
      exact ⟨p, vs, rfl, .inr ⟨SqT.of h1, same_ok q hr⟩⟩
    | _ => cases eq
  · cases eq
/-- repr -/
def reprD (d : D) : Option D := match toPy d with
  | some p => if p.showable = true ∧ p.shown.length ≤ sizeLine ∧ p.depth ≤ 180 then some (.str p.shown) else none
  | none => none
theorem c_repr : CallD K (rRepr K) (one reprD) := fun Z H as c xs Q t ha eq q => by
  unfold one at eq
  split at eq
  · rename_i a
    obtain ⟨x, rfl, h⟩ := dvs1 ha
    unfold reprD at eq
    split at eq
    · rename_i p hp
      split at eq
      · rename_i hs; cases eq; exact ⟨x, p, rfl, h.dp hp, hs.1, hs.2.1, hs.2.2, same_ok q (.str _)⟩
      · cases eq
    · cases eq
  · cases eq
/-- isinstance with built-in classes -/
def tyD : D → Option String
  | .non => some "NoneType"
  | .bl _ => some "bool"
  | .int _ => some "int"
  | .str _ => some "str"
  | .tup _ => some "tuple"
  | .lst _ => some "list"
  | .dK _ => some "dict"
  | .dT _ => some "dict"
  | _ => none
def isTy (t n : String) : Bool := t == n || (t == "bool" && n == "int")
def tys : List String := ["NoneType", "bool", "int", "str", "tuple", "list", "dict"]
theorem kit_is : ∀ t ∈ tys, ∀ n ∈ tys, kitB t n = some (isTy t n) := by decide +kernel
theorem tyD_mem {d : D} {t : String} (e : tyD d = some t) : t ∈ tys := by cases d <;> cases e <;> decide
theorem tyD_ok {Z : List Addr} {H : Hp} {d : D} {x : V} {t : String} (h : DV K Z H d x) (e : tyD d = some t) : TyX K H x (.type t) := by
  cases h with
  | d h => cases h with
    | non => cases e; exact .base .non
    | bl b => cases e; exact .base (.bl b)
    | int b => cases e; exact .base (.int b)
    | str b => cases e; exact .base (.str b)
    | tup q r => cases e; exact .base (.tup (mask_same _ _ _ _ q))
    | lst q r => cases e; exact .base (.lst (mask_same _ _ _ _ q))
    | dK q r => cases e; exact .base (.dK (mask_same _ _ _ _ q))
    | dT q r => cases e; exact .base (.dT (mask_same _ _ _ _ q))
    | _ => cases e
  | lst q r => cases e; exact .base (.lst q)
  | dK q r => cases e; exact .base (.dK q)
  | dT q r => cases e; exact .base (.dT q)
def isiD : List D → Option D
  | [d, .ty n] => match tyD d with
    | some t => if n ∈ tys then some (.bl (isTy t n)) else none
    | none => none
  | _ => none
theorem c_isi : CallD K (rIsi K) isiD := fun Z H as c xs Q t ha eq q => by
  unfold isiD at eq
  split at eq
  · rename_i d n
    obtain ⟨x, y, rfl, h1, h2⟩ := dvs2 ha
    split at eq
    · rename_i ty hty
      split at eq
      · rename_i hn
        cases eq
        cases h2 with | d h2 => cases h2 with | ty => exact ⟨x, _, _, _, _, rfl, .ty n, tyD_ok h1 hty, kit_ty (kit_is ty (tyD_mem hty) n hn), same_ok q (.bl _)⟩
      · cases eq
    · cases eq
  · cases eq
/-- .. with a tuple of two -/
def isiD2 : List D → Option D
  | [d, .tup [.ty n, .ty m]] => match tyD d with
    | some t => if n ∈ tys ∧ m ∈ tys then some (.bl (isTy t n || isTy t m)) else none
    | none => none
  | _ => none
theorem c_isi2 : CallD K (rIsiT K) isiD2 := fun Z H as c xs Q t ha eq q => by
  unfold isiD2 at eq
  split at eq
  · rename_i d n m
    obtain ⟨x, y, rfl, h1, h2⟩ := dvs2 ha
    split at eq
    · rename_i ty hty
      split at eq
      · rename_i hn
        cases eq
        obtain ⟨a, vs, rfl, h3, r⟩ := h2.tup
        cases r with | cons r1 r => cases r with | cons r2 r => cases r with | nil => cases r1 with | ty => cases r2 with | ty =>
          refine ⟨x, a, _, _, [.type n, .type m], _, rfl, h3, .cons (.ty n) (.cons (.ty m) .nil), tyD_ok h1 hty, ?_, same_ok q (.bl _)⟩
          refine kitAny_cons (kit_ty (kit_is ty (tyD_mem hty) n hn.1)) (fun e => ?_) (fun e => by rw [e]; rfl)
          rw [e, Bool.false_or]
          exact kitAny_cons (kit_ty (kit_is ty (tyD_mem hty) m hn.2)) (fun e => by rw [e]; rfl) (fun e => e)
      · cases eq
    · cases eq
  · cases eq
/-- all, any, sum of a list -/
def bools : List D → Option (List Bool)
  | [] => some []
  | .bl b :: r => (bools r).map (b :: ·)
  | _ => none
def nums : List D → Option (List Int)
  | [] => some []
  | .int b :: r => (nums r).map (b :: ·)
  | _ => none
theorem bools_ok {F : Hp} : ∀ {xs : List D} {vs : List V} {bs : List Bool}, DRs K F xs vs → bools xs = some bs → vs = bs.map V.bl
  | _, _, _, .nil, e => by cases e; rfl
  | _, _, _, .cons a b, e => by
    cases a <;> simp only [bools] at e <;> first | cases e | skip
    obtain ⟨r, h1, rfl⟩ := Option.map_eq_some_iff.mp e
    rw [bools_ok b h1]; rfl
theorem nums_ok {F : Hp} : ∀ {xs : List D} {vs : List V} {bs : List Int}, DRs K F xs vs → nums xs = some bs → vs = bs.map V.int
  | _, _, _, .nil, e => by cases e; rfl
  | _, _, _, .cons a b, e => by
    cases a <;> simp only [nums] at e <;> first | cases e | skip
    obtain ⟨r, h1, rfl⟩ := Option.map_eq_some_iff.mp e
    rw [nums_ok b h1]; rfl
def allD : D → Option D
  | .lst xs => (bools xs).map fun bs => .bl (bs.all id)
  | _ => none
def anyD : D → Option D
  | .lst xs => (bools xs).map fun bs => .bl (bs.any id)
  | _ => none
def sumD : D → Option D
  | .lst xs => (nums xs).map fun bs => .int bs.sum
  | _ => none
theorem c_all : CallD K (rAll K) (one allD) := fun Z H as c xs Q t ha eq q => by
  unfold one at eq
  split at eq
  · rename_i a
    obtain ⟨x, rfl, h⟩ := dvs1 ha
    cases a with
    | lst ys =>
      obtain ⟨p, vs, rfl, h1, r1⟩ := h.list
      obtain ⟨bs, h2, rfl⟩ := Option.map_eq_some_iff.mp eq
      exact ⟨p, bs, rfl, by rw [← bools_ok r1 h2]; exact SqL.of h1, same_ok q (.bl _)⟩
    | _ => cases eq
  · cases eq
theorem c_any : CallD K (rAny K) (one anyD) := fun Z H as c xs Q t ha eq q => by
  unfold one at eq
  split at eq
  · rename_i a
    obtain ⟨x, rfl, h⟩ := dvs1 ha
    cases a with
    | lst ys =>
      obtain ⟨p, vs, rfl, h1, r1⟩ := h.list
      obtain ⟨bs, h2, rfl⟩ := Option.map_eq_some_iff.mp eq
      exact ⟨p, bs, rfl, by rw [← bools_ok r1 h2]; exact SqL.of h1, same_ok q (.bl _)⟩
    | _ => cases eq
  · cases eq
theorem c_sum : CallD K (rSum K) (one sumD) := fun Z H as c xs Q t ha eq q => by
  unfold one at eq
  split at eq
  · rename_i a
    obtain ⟨x, rfl, h⟩ := dvs1 ha
    cases a with
    | lst ys =>
      obtain ⟨p, vs, rfl, h1, r1⟩ := h.list
      obtain ⟨bs, h2, rfl⟩ := Option.map_eq_some_iff.mp eq
      exact ⟨p, bs, rfl, by rw [← nums_ok r1 h2]; exact SqL.of h1, same_ok q (.int _)⟩
    | _ => cases eq
  · cases eq
def negD : D → Option D
  | .int i => some (.int (-i))
  | _ => none
theorem u_neg : UnD K (rU fun i => .int (-i)) negD := fun Z H a c x Q t ha eq q => by
  cases a with
  | int i => cases eq; exact ⟨i, ha.int, same_ok q (.int _)⟩
  | _ => cases eq
end
end TT

namespace TT
open PySem L2
variable [TB]
/-! match over tuples whose first item is a text -/
inductive Caps (X : Cx) : List Pattern → List Str → List Nat → Prop
  | nil : Caps X [] [] []
  | cons {ps : List Pattern} {ns : List Str} {is : List Nat} {n : Str} {i : Nat} {pos : Pos} : X.N[i]? = some n → Loc X.env.scope n → (X.fn n = true ∨ X.env.scope.names.lookup n = some .local) → Caps X ps ns is → Caps X (.MatchAs none (some n) pos :: ps) (n :: ns) (i :: is)
theorem caps_cons {X : Cx} {ps : List Pattern} {ns : List Str} {is : List Nat} {n : Str} {i : Nat} {pos : Pos} (h1 : X.N[i]? = some n) (h2 : Loc X.env.scope n) (h : Caps X ps ns is) (h3 : X.fn n = true ∨ X.env.scope.names.lookup n = some .local := by first | exact .inl rfl | exact .inr rfl) : Caps X (.MatchAs none (some n) pos :: ps) (n :: ns) (i :: is) := .cons h1 h2 h3 h
def setAll (ρ : En) : List Nat → List D → En
  | i :: is, d :: ds => setAll (ρ.set i (some (.d d))) is ds
  | _, _ => ρ
theorem Caps.len {X : Cx} : ∀ {ps : List Pattern} {ns : List Str} {is : List Nat}, Caps X ps ns is → ns.length = ps.length ∧ is.length = ps.length
  | _, _, _, .nil => ⟨rfl, rfl⟩
  | _, _, _, .cons _ _ _ h => ⟨congrArg (· + 1) h.len.1, congrArg (· + 1) h.len.2⟩
theorem caps_each {X : Cx} {M : Model} {A : Around} {E : Value → Shared → Prop} {s : Shared} : ∀ {ps : List Pattern} {ns : List Str} {is : List Nat} {us : List Value} {Q : Option (List (Str × Value)) → Shared → Prop}, Caps X ps ns is → us.length = ps.length → Q (some (ns.zip us)) s → wpAny M A (matchEach ps X.env us) Q E s
  | _, _, _, [], Q, .nil, _, q => wpAny_matchEach_nil q
  | _, _, _, _ :: _, Q, .nil, h, q => by cases h
  | _, _, _, [], Q, .cons _ _ _ c, h, q => by cases h
  | _, _, _, u :: us, Q, .cons _ _ _ c, h, q => by
    refine wpAny_matchEach_cons (wpAny_matchPattern_Capture ?_)
    refine caps_each c (Nat.succ.inj h) ?_
    exact q
theorem caps_store {X : Cx} {M : Model} {A : Around} {E : Value → Shared → Prop} (hN : X.N.Nodup) : ∀ {ps : List Pattern} {ns : List Str} {is : List Nat} {us : List Value} {vs : List V} {ds : List D} {pins : List (Addr × Obj)} {s : Shared} {σ : St} {H : Hp} {Z ι : List Addr} {ρ : En} {μ : List MO} {Q : Unit → Shared → Prop},
    Caps X ps ns is → Inv X pins σ H s → Vals vs us → DRs X.K (mask H Z) ds vs → ds.length = ps.length → Rel X.K Z ι ρ μ σ H → (∀ s' σ', Inv X pins σ' H s' → Rel X.K Z ι (setAll ρ is ds) μ σ' H → Q () s') →
    wpAny M A (assignInOrder ((ns.zip us).map fun (n, _) => bindName X.env n) ((ns.zip us).map (·.2))) Q E s
  | _, _, _, us, vs, [], _, _, _, _, _, _, _, _, Q, .nil, I, r, d, h, R, q => wpAny_assignInOrder_none (q _ _ I R)
  | _, _, _, us, vs, _ :: _, _, _, _, _, _, _, _, _, Q, .nil, I, r, d, h, R, q => by cases h
  | _, _, _, us, vs, [], _, _, _, _, _, _, _, _, Q, .cons _ _ _ c, I, r, d, h, R, q => by cases h
  | _, _, _, us, vs, x :: ds, _, _, _, _, _, _, _, _, Q, .cons h1 h2 h3 c, I, r, d, h, R, q => by
    cases d with | cons d dr =>
      cases r with | cons r rr =>
        refine wpAny_assignInOrder_more (wpAny_bindName (store_ok I hN h1 h2 r (fun s' I' => ?_) h3))
        exact caps_store hN c I' rr dr (Nat.succ.inj h) ⟨R.sta, R.rs.set (.d d) _⟩ q
/-- the cases of a match, by the subject -/
abbrev MM := D → MS
def FMs (X : Cx) (W : WX) (cs : List MatchCase) (mm : MM) : Prop := ∀ (pins : List (Addr × Obj)) (s : Shared) (σ : St) (H : Hp) (E : Ends) (first : Bool) (u : Value) (v : V) (d : D) Z ι ρ μ, Inv X pins σ H s → RelV v u → Rel X.K Z ι ρ μ σ H → DR X.K (mask H Z) d v → OutS X.K W Z ι H (mm d ρ μ) E →
  wpAny (model X.prog X.w) X.A (matchCases cs X.env u first) (SP X pins E) X.xe s
def cNo : MM := fun _ ρ μ => .nx ρ μ
def cAny (m : MS) : MM := fun _ => m
def cSeq (tag : Str) (is : List Nat) (m : MS) (r : MM) : MM := fun d ρ μ => match d with
  | .tup xs => if xs.length = is.length + 1 then (match xs with
    | y :: ys => match eqB y (.str tag) with
      | some true => m (setAll ρ is ys) μ
      | some false => r d ρ μ
      | none => .bad
    | [] => .bad) else r d ρ μ
  | _ => .bad
section
variable {X : Cx} {W : WX} {body : List Stmt} {m : MS} {r : MM} {rest : List MatchCase}
theorem fm_nil : FMs X W [] cNo := fun pins s σ H E first u v d Z ι ρ μ I rv R dr o => wpAny_matchCases_nil ⟨σ, H, I, o.next R⟩
theorem fm_any {pos : Pos} (hb : FSs X W body m) : FMs X W (⟨.MatchAs none none pos, none, body⟩ :: rest) (cAny m) := fun pins s σ H E first u v d Z ι ρ μ I rv R dr o => by
  refine wpAny_matchCases_cons (wpAny_matchPattern_Capture ?_)
  exact wpAny_assignInOrder_none (hb.run pins s σ H E I ⟨Z, ι, ρ, μ, R, o⟩)
theorem fm_seq {tag : Str} {j : Nat} {p1 p2 pos : Pos} {ps : List Pattern} {ns : List Str} {is : List Nat} {j1} (hc : X.calm = true) (hu : X.A.units + 64 < cLine) (hN : X.N.Nodup) (cp : Caps X ps ns is) (hb : FSs X W body m) (hr : FMs X W rest r)
    (hstar : (Pattern.MatchValue (.Constant (.str tag) j1 p1) p2 :: ps).findIdx? (·.isStar) = none := by rfl) (hwild : ((Pattern.MatchValue (.Constant (.str tag) j1 p1) p2 :: ps).all fun p => p.isWildcard || (p.isStar && p.names.isEmpty)) = false := by rfl) :
    FMs X W (⟨.MatchSequence (.MatchValue (.Constant (.str tag) j1 p1) p2 :: ps) pos, none, body⟩ :: rest) (cSeq tag is m r) := fun pins s σ H E first u v d Z ι ρ μ I rv R dr o => by
  cases d with
  | tup xs =>
    have hd := dr
    cases dr with | tup h1 h2 =>
      rename_i a vs
      have h3 := mask_same _ _ _ _ h1
      have hl := cp.len
      cases rv
      obtain ⟨its, r1, p1', hz⟩ := I.tuple (SqT.of (K := X.K) h3)
      have hsz : its.toArray.size = xs.length := by rw [List.size_toArray, ← r1.length, h2.len]
      have hfit : (its.toArray.size : Int) < 2 ^ 63 := by
        have : vs.length ≤ 16777216 := hz
        rw [hsz, h2.len]
        omega
      simp only [cSeq] at o
      split at o
      · rename_i hn
        cases xs with
        | nil => exact o.elim
        | cons y ys =>
          cases h2 with | cons hy hys =>
            rename_i w ws
            cases r1 with | cons ry rys =>
              rename_i uy uys
              have hlen : uys.length = ps.length := by
                rw [← rys.length, ← hys.len]
                have : ys.length + 1 = is.length + 1 := hn
                omega
              refine wpAny_matchCases_cons (PyProof.Rows.matchSeq_tuple_hit (items := (uy :: uys).toArray) p1' hfit (by simp [hlen]) ?_ hstar hwild)
              have hcount : (Pattern.MatchValue (.Constant (.str tag) j1 p1) p2 :: ps).length = (uy :: uys).toArray.size := by simp [hlen]
              rw [hcount]
              refine PyProof.Rows.unpackItems_tuple (I.ok.hd hc) p1' fun h' hx => ?_
              have I1 : Inv X pins σ H { s with heap := h', toks := s.toks + 1 + 1 } := I.kept fun b ob e => hx b ob (Nat.ne_of_lt (Heap.lt_size e)) e
              refine wpAny_matchEach_cons (wpAny_matchPattern_Value (Calls.Constant_str ?_))
              simp only at o
              -- the comparison
              have key : ∀ k, eqB y (.str tag) = some k → ∀ (tk : Tok) (s2 : Shared), Inv X pins σ H s2 → ∀ Q : Value → Shared → Prop, (∀ s3, Inv X pins σ H s3 → Q (.bool k) s3) → wpAny (model X.prog X.w) X.A (compareOp .Eq uy (.str tag tk)) Q X.xe s2 := fun k hk tk s2 I2 Q q => by
                have fin : ∀ c s3, EP X pins σ (fun z H' => z = .bl k ∧ H' = H) c s3 → Q c s3 := fun c s3 ⟨z, H3, I3, r3, e1, e2⟩ => by
                  subst e1; subst e2; cases r3; exact q s3 I3
                rcases eqB_ok (K := X.K) (Z := Z) (H := H) (.d hy) (.d (.str tag)) hk with ⟨h4, h5⟩ | ⟨d1, d2, h4, h5, h6, h7, h8⟩ | ⟨_, _, _, _, _, _, h4, _⟩
                · exact thn (op_eq pins s2 σ H w (.str tag) uy (.str tag tk) _ I2 ry ⟨tk, rfl⟩ ⟨h4, by rw [h5]; exact ⟨rfl, rfl⟩⟩) fin
                · exact thn (op_eqD hu pins s2 σ H w (.str tag) uy (.str tag tk) _ I2 ry ⟨tk, rfl⟩ ⟨d1, d2, h4, h5, h6, h7, by rw [h8]; exact ⟨rfl, rfl⟩⟩) fin
                · cases h4
              cases hk : eqB y (.str tag) with
              | none => rw [hk] at o; exact o.elim
              | some k =>
                rw [hk] at o
                refine key k hk _ _ (I1.tok _) _ fun s3 I3 => wpAny_truthy_bool ?_
                cases k with
                | false => exact hr pins s3 σ H E false _ (.ref a) _ Z ι ρ μ I3 rfl R hd o
                | true =>
                  refine caps_each cp hlen ?_
                  refine caps_store hN cp I3 rys hys (by rw [hys.len, rys.length]; exact hlen) R fun s' σ' I' R' => ?_
                  exact hb.run pins s' σ' H E I' ⟨Z, ι, _, μ, R', o⟩
      · rename_i hn
        refine wpAny_matchCases_cons (PyProof.Rows.matchSeq_tuple_miss (items := its.toArray) p1' hfit ?_ ?_ hstar hwild)
        · rw [hsz]
          show xs.length ≠ ps.length + 1
          rw [← hl.2]; exact hn
        · exact hr pins _ σ H E false _ (.ref a) _ Z ι ρ μ ((I.tok (s.toks + 1 + 1))) rfl R hd o
  | _ => exact o.elim
/-- match e: -/
def mMatch (ma : ME) (r : MM) : MS := fun ρ μ => (ma ρ μ).stm ρ fun v μ1 => match v with
  | .d d => r d ρ μ1
  | .ref _ => .bad
theorem fs_match {e : Expr} {pos : Pos} {ma : ME} {cs : List MatchCase} (he : FE X W e ma) (hc : FMs X W cs r) : FS X W (.Match e cs pos) (mMatch ma r) := by
  refine ⟨fun pins s σ H E I ⟨Z, ι, ρ, μ, R, o⟩ => wpAny_Match (thn (he.run pins s σ H (fun x H1 => ∃ Z1 ι1 μ1 d, Rel X.K Z1 ι1 ρ μ1 σ H1 ∧ DR X.K (mask H1 Z1) d x ∧ OutS X.K W Z1 ι1 H1 (r d ρ μ1) E) I (tM_stm R o fun v μ' Z' ι' H' x x1 R1 r1 o1 => ?_)) fun u s1 ⟨x, H1, I1, r1, Z1, ι1, μ1, d, R1, d1, o1⟩ => ?_)⟩
  · cases r1 with
    | d r1 => exact ⟨Z', ι', μ', _, R1, r1, o1⟩
    | ref r1 => exact o1.elim
  · exact hc pins s1 σ H1 E true u x d Z1 ι1 ρ μ1 I1 r1 R1 d1 o1
end
end TT

namespace TT
open PySem L2
variable [TB]
/-! objects of the store written -/
theorem Sta.put {K : PySem.W.Frag} {Z ι : List Addr} {μ : List MO} {H : Hp} (s : Sta K Z ι μ H) {n : Nat} {a : Addr} {o : MO} {ho : HO} (h : ι[n]? = some a) (r : RO K (mask H Z) ι o ho) : Sta K Z ι (μ.set n o) (upd H a ho) ∧ Ext Z ι H Z ι (upd H a ho) := by
  have hz : a ∈ Z := s.sub a (List.mem_of_getElem? h)
  have ms : Same (mask H Z) (mask (upd H a ho) Z) := fun b u e => by
    obtain ⟨n1, e1⟩ := of_mask e
    exact mask_in n1 ((upd_ne fun q => n1 (by rw [q]; exact hz)).trans e1) (mask_nt e)
  have hl0 : n < μ.length := by rw [← s.len]; exact (List.getElem?_eq_some_iff.mp h).1
  obtain ⟨o0, ho0⟩ : ∃ o0, μ[n]? = some o0 := ⟨μ[n], by simp [hl0]⟩
  obtain ⟨h0, e0, r0⟩ := s.obj n a o0 h ho0
  refine ⟨⟨s.sub, s.nd, by rw [List.length_set]; exact s.len, fun b hb => ?_, tabs_upd s.tab e0 (fun ps z => ?_) (fun c q z => ?_), fun k b o' h1 h2 => ?_⟩, ⟨s.sub, fun _ h => h, fun _ _ h => h, fun b u nb _ e => (upd_ne fun q => nb (by rw [q]; exact List.mem_of_getElem? h)).trans e, fun b ps e => ⟨ps, (upd_ne fun q => ?_).trans e⟩, fun _ h => .inl h, fun _ h => .inl h⟩⟩
  · by_cases q : b = a
    · rw [q]; exact ⟨ho, upd_same⟩
    · obtain ⟨u, e⟩ := s.trk b hb; exact ⟨u, (upd_ne q).trans e⟩
  · have := r0.nt; rw [z] at this; exact this
  · rw [z] at r0; cases r0
  rotate_left
  · rw [q, e0] at e; cases e; exact r0.nt
  · by_cases hk : k = n
    · subst hk
      rw [h] at h1; cases h1
      have hl : k < μ.length := by rw [← s.len]; exact (List.getElem?_eq_some_iff.mp h).1
      rw [List.getElem?_set_self hl] at h2
      cases h2
      exact ⟨ho, upd_same, r.mono ms (fun _ _ h => h)⟩
    · rw [List.getElem?_set_ne (Ne.symm hk)] at h2
      obtain ⟨hb, h3, h4⟩ := s.obj k b o' h1 h2
      refine ⟨hb, (upd_ne fun q => hk ?_).trans h3, h4.mono ms (fun _ _ h => h)⟩
      subst q
      exact nodup_at s.nd h1 h
/-- a method that changes a list: by its items and the arguments the answer and the items behind it -/
abbrev Mut1 := List D → List D → Option (D × List D)
def MutOk (K : PySem.W.Frag) (r : V → List V → Hp → VK → Prop) (f : Mut1) : Prop := ∀ (Z : List Addr) (H : Hp) (l : Addr) (vs : List V) (xs as : List D) (ws : List V) (ret : D) (xs' : List D) (Q : VK), Trk Z H → H l = some (.lst vs) → DRs K (mask H Z) xs vs → DRs K (mask H Z) as ws →
  f xs as = some (ret, xs') → (∀ vs' x, DRs K (mask H Z) xs' vs' → DR K (mask H Z) ret x → Q x (upd H l (.lst vs'))) → r (.ref l) ws H Q
def isLst (μ : List MO) (n : Nat) : Bool := match μ[n]? with
  | some (.lst _) => true
  | _ => false
def mutL (f : Mut1) (n : Nat) (as : List MV) (μ : List MO) : Res MV := match datas as with
  | some ds => match μ[n]? with
    | some (.lst xs) => match f xs ds with
      | some (ret, xs') => .ok (.d ret) (μ.set n (.lst xs'))
      | none => .bad
    | _ => .bad
  | none => .bad
def mMut (f : Mut1) (ma : ME) (ms : MA) : ME := fun ρ μ => (ma ρ μ).bind fun v μ1 => match v with
  | .ref n => if isLst μ1 n = true then (ms ρ μ1).bind fun as μ2 => mutL f n as μ2 else .bad
  | .d _ => .bad
section
variable {X : Cx} {W : WX} {o e : Expr} {es : List Expr} {name : Str} {apos cpos : Pos} {id : String} {r : V → List V → Hp → VK → Prop} {f : Mut1} {ma : ME} {ms : MA}
theorem mutL_ok {K : PySem.W.Frag} {Z ι : List Addr} {μ : List MO} {H : Hp} {σ : St} {a : Addr} {n : Nat} {as : List MV} {ws : List V} {Q : VK} (hf : MutOk K r f) (s : Sta K Z ι μ H) (ha : ι[n]? = some a) (rw' : RMs K (mask H Z) ι as ws) (o : Out K W σ Z ι H (mutL f n as μ) (Val K Q)) : r (.ref a) ws H Q := by
  unfold mutL at o
  split at o
  · rename_i ds hd
    split at o
    · rename_i xs hx
      split at o
      · rename_i ret xs' hf2
        obtain ⟨ho, h1, h2⟩ := s.obj n a _ ha hx
        cases h2 with
        | lst d =>
          refine hf Z H a _ xs ds ws ret xs' Q s.trk h1 d (datas_ok rw' hd) hf2 fun vs' x d' dx => ?_
          obtain ⟨s2, x2⟩ := s.put ha (.lst d')
          exact o Z ι _ x2 s2 x (.d (DR.mono x2.same _ _ dx))
      · exact o.elim
    · exact o.elim
  · exact o.elim
theorem lst_ty {K : PySem.W.Frag} {Z ι : List Addr} {μ : List MO} {H : Hp} {a : Addr} {n : Nat} (s : Sta K Z ι μ H) (ha : ι[n]? = some a) (hl : isLst μ n = true) : tyV K "list" (.ref a) H := by
  unfold isLst at hl
  split at hl
  · rename_i xs hx
    obtain ⟨ho, h1, h2⟩ := s.obj n a _ ha hx
    cases h2 with | lst d => exact .inl ⟨rfl, _, SqL.of h1⟩
  · cases hl
theorem fe_mut (pa : PlainAttrs "list") (slot : Slot "list" name id) (hty : typeOf (.builtin id) = pure (.type "method_descriptor")) (hm : MtM X id r) (hf : MutOk X.K r f) (ho : FE X W o ma) (ha : FA X W (e :: es) ms)
    (hbase : attributeBase o name X.env (eval o X.env) = eval o X.env := by rfl)
    (hfew : ((backTo cpos (starEach (e :: es) X.env)).all (fun x => !x.1) && (backToKw cpos (keywordEach [] X.env)).all (fun x => x.1.isSome)
      && decide ((e :: es).length + ([] : List Keyword).length + (if ([] : List Keyword).isEmpty then 0 else 1) < 30)) = true := by rfl)
    (hline : (apos.endLine == cpos.line) = true := by rfl) (hs : starEach (e :: es) X.env = (false, eval e X.env) :: starEach es X.env := by rfl) (hplain : (backTo cpos (starEach es X.env)).any (·.1) = false := by rfl) :
    FE X W (.Call (.Attribute o name apos) (e :: es) [] cpos) (mMut f ma ms) := by
  refine pe_imp (pe_bm pa slot hty hm ho ha hbase hfew hline hs hplain) fun σ H Q ⟨Z, ι, ρ, μ, R, o⟩ => ?_
  refine tM_bind R o fun v μ' Z' ι' H' x x1 R1 r1 o1 => ?_
  cases r1 with
  | d r1 => exact o1.elim
  | ref r1 =>
    simp only at o1
    split at o1
    · rename_i hl
      refine ⟨lst_ty R1.sta r1 hl, tMA_bind R1 o1 fun v2 μ2 Z2 ι2 H2 x2 x2' R2 r2 o2 => ?_⟩
      exact mutL_ok hf R2.sta (x2'.i _ _ r1) r2 o2
    · exact o1.elim
theorem fe_mut0 (pa : PlainAttrs "list") (slot : Slot "list" name id) (hty : typeOf (.builtin id) = pure (.type "method_descriptor")) (hm : MtM X id r) (hf : MutOk X.K r f) (ho : FE X W o ma)
    (hbase : attributeBase o name X.env (eval o X.env) = eval o X.env := by rfl) (hline : (apos.endLine == cpos.line) = true := by rfl) : FE X W (.Call (.Attribute o name apos) [] [] cpos) (mMut f ma mNil) := by
  refine pe_imp (pe_bm0 pa slot hty hm ho hbase hline) fun σ H Q ⟨Z, ι, ρ, μ, R, o⟩ => ?_
  refine tM_bind R o fun v μ' Z' ι' H' x x1 R1 r1 o1 => ?_
  cases r1 with
  | d r1 => exact o1.elim
  | ref r1 =>
    simp only at o1
    split at o1
    · rename_i hl
      exact ⟨lst_ty R1.sta r1 hl, mutL_ok hf R1.sta r1 .nil o1⟩
    · exact o1.elim
end
section
variable {K : PySem.W.Frag}
def apD : Mut1 := fun xs as => match as with
  | [y] => if xs.length < sizeLine then some (.non, xs ++ [y]) else none
  | _ => none
theorem m_append : MutOk K rAppend apD := fun Z H l vs xs as ws ret xs' Q t h d da e q => by
  unfold apD at e
  split at e
  · split at e
    · rename_i hl
      cases e
      cases da with | cons da r => cases r; exact ⟨l, vs, _, rfl, rfl, h, by rw [← d.len]; exact hl, q _ _ (DRs.append (.cons da .nil) d) .non⟩
    · cases e
  · cases e
theorem DRs.dropLast {F : Hp} : ∀ {xs : List D} {vs : List V}, DRs K F xs vs → DRs K F xs.dropLast vs.dropLast
  | _, _, .nil => .nil
  | _, _, .cons a .nil => .nil
  | _, _, .cons a (.cons b c) => .cons a (DRs.dropLast (.cons b c))
theorem DRs.erase {F : Hp} : ∀ {xs : List D} {vs : List V}, DRs K F xs vs → ∀ k, DRs K F (xs.eraseIdx k) (vs.eraseIdx k)
  | _, _, .nil, _ => .nil
  | _, _, .cons a b, 0 => b
  | _, _, .cons a b, k + 1 => .cons a (DRs.erase b k)
theorem DRs.setL {F : Hp} {d : D} {v : V} (r : DR K F d v) : ∀ {xs : List D} {vs : List V}, DRs K F xs vs → ∀ k, DRs K F (xs.set k d) (vs.set k v)
  | _, _, .nil, _ => .nil
  | _, _, .cons a b, 0 => .cons r b
  | _, _, .cons a b, k + 1 => .cons a (DRs.setL r b k)
theorem DRs.take {F : Hp} : ∀ {xs : List D} {vs : List V}, DRs K F xs vs → ∀ k, DRs K F (xs.take k) (vs.take k)
  | _, _, .nil, k => by simp; exact .nil
  | _, _, .cons a b, 0 => .nil
  | _, _, .cons a b, k + 1 => .cons a (DRs.take b k)
theorem DRs.drop {F : Hp} : ∀ {xs : List D} {vs : List V}, DRs K F xs vs → ∀ k, DRs K F (xs.drop k) (vs.drop k)
  | _, _, .nil, k => by simp; exact .nil
  | _, _, .cons a b, 0 => .cons a b
  | _, _, .cons a b, k + 1 => DRs.drop b k
theorem DRs.rev {F : Hp} : ∀ {xs : List D} {vs : List V}, DRs K F xs vs → DRs K F xs.reverse vs.reverse
  | _, _, .nil => .nil
  | _, _, .cons a b => by rw [List.reverse_cons, List.reverse_cons]; exact DRs.append (.cons a .nil) (DRs.rev b)
def popD : Mut1 := fun xs as => match as with
  | [] => match xs[xs.length - 1]? with
    | some y => some (y, xs.dropLast)
    | none => none
  | _ => none
theorem m_pop : MutOk K rPop popD := fun Z H l vs xs as ws ret xs' Q t h d da e q => by
  unfold popD at e
  split at e
  · split at e
    · rename_i y hy
      cases e
      cases da
      obtain ⟨v, h1, h2⟩ := d.get hy
      exact ⟨l, vs, v, rfl, rfl, h, by rw [← d.len]; exact h1, q _ _ d.dropLast h2⟩
    · cases e
  · cases e
def popAt : Mut1 := fun xs as => match as with
  | [.int i] => if -(2 ^ 63) ≤ i ∧ i < 2 ^ 63 then (match seqIndex? i xs.length with
    | some k => match xs[k]? with
      | some y => some (y, xs.eraseIdx k)
      | none => none
    | none => none) else none
  | _ => none
theorem m_popAt : MutOk K rPopAt popAt := fun Z H l vs xs as ws ret xs' Q t h d da e q => by
  unfold popAt at e
  split at e
  · rename_i i
    split at e
    · rename_i hb
      split at e
      · rename_i k hk
        split at e
        · rename_i y hy
          cases e
          obtain ⟨v, h1, h2⟩ := d.get hy
          cases da with | cons da r => cases r; cases da; exact ⟨l, vs, i, k, v, rfl, rfl, h, hb.1, hb.2, by rw [← d.len]; exact hk, h1, q _ _ (d.erase k) h2⟩
        · cases e
      · cases e
    · cases e
  · cases e
def extD : Mut1 := fun xs as => match as with
  | [.lst ys] => if xs.length + ys.length ≤ sizeLine then some (.non, xs ++ ys) else none
  | _ => none
theorem m_extend : MutOk K rExtend extD := fun Z H l vs xs as ws ret xs' Q t h d da e q => by
  unfold extD at e
  split at e
  · rename_i ys
    split at e
    · rename_i hl
      cases e
      cases da with | cons da r =>
        cases r
        cases da with | lst h1 h2 => exact ⟨l, _, vs, _, rfl, rfl, h, mask_same _ _ _ _ h1, by rw [← d.len, ← h2.len]; exact hl, q _ _ (DRs.append h2 d) .non⟩
    · cases e
  · cases e
def clearD : Mut1 := fun xs as => match as with
  | [] => some (.non, [])
  | _ => none
theorem m_clear : MutOk K rClear clearD := fun Z H l vs xs as ws ret xs' Q t h d da e q => by
  unfold clearD at e
  split at e
  · cases e; cases da; exact ⟨l, vs, rfl, rfl, h, q _ _ .nil .non⟩
  · cases e
end
/-! xs[i] = e -/
def putL (o i v : MV) (μ : List MO) : Option (List MO) := match o, i, v with
  | .ref n, .d (.int k), .d x => match μ[n]? with
    | some (.lst xs) => match ixN xs.length k with
      | some j => some (μ.set n (.lst (xs.set j x)))
      | none => none
    | _ => none
  | _, _, _ => none
def mSetIx (mv mo mi : ME) : MS := fun ρ μ => (mv ρ μ).stm ρ fun v μ1 => (mo ρ μ1).stm ρ fun o μ2 => (mi ρ μ2).stm ρ fun i μ3 => match putL o i v μ3 with
  | some μ4 => .nx ρ μ4
  | none => .bad
section
variable {X : Cx} {W : WX} {o i e : Expr} {pos p2 : Pos} {mv mo mi : ME}
theorem fs_setix (he : FE X W e mv) (ho : FE X W o mo) (hi : FE X W i mi)
    (ha : ∀ v, assign (.Subscript o i p2) X.env v = (do
      let ov ← holding [v] (eval o X.env)
      let iv ← holding [v, ov] (eval i X.env)
      standAt p2
      holding [v, ov, iv] (setItem ov iv v)
      release [v, ov, iv] []) := by intro _; rfl)
    (hs : swapsWithSole [.Subscript o i p2] e pos.line X.env = pure false := by rfl) (hw : swappedStores [.Subscript o i p2] e X.env = pure none := by rfl)
    (h1 : (assignEach [.Subscript o i p2] X.env).map (·.2) = [assign (.Subscript o i p2) X.env] := by rfl) : FS X W (.Assign [.Subscript o i p2] e pos) (mSetIx mv mo mi) := by
  refine ps_imp (ps_asg he (pg_sub ho hi set_list ha) hs hw h1) fun E σ H ⟨Z, ι, ρ, μ, R, o⟩ => tM_stm R o fun v μ' Z' ι' H' x x1 R1 r1 o1 => ?_
  refine tM_stm R1 o1 fun v2 μ2 Z2 ι2 H2 y x2 R2 r2 o2 => tM_stm R2 o2 fun v3 μ3 Z3 ι3 H3 z x3 R3 r3 o3 => ?_
  split at o3
  · rename_i μ4 hp
    unfold putL at hp
    split at hp
    · rename_i n k d
      split at hp
      · rename_i xs hx
        split at hp
        · rename_i j hj
          cases hp
          have r2' := r2.mono x3.same x3.i
          cases r2' with | ref r2' =>
            cases r3 with | d r3 => cases r3 with | int =>
              have r1' := (r1.mono x2.same x2.i).mono x3.same x3.i
              cases r1' with | d r1' =>
                obtain ⟨ho, h3, h4⟩ := R3.sta.obj n _ _ r2' hx
                cases h4 with | lst dl =>
                  obtain ⟨s4, x4⟩ := R3.sta.put r2' (.lst (DRs.setL r1' dl j))
                  exact ⟨_, _, k, j, rfl, rfl, h3, by rw [← dl.len]; exact hj, o3 Z3 ι3 _ σ x4 (R3.ext x4 s4)⟩
        · cases hp
      · cases hp
    · cases hp
  · exact o3.elim
end
/-! slices -/
abbrev MP := En → List MO → Res (Option Int)
def tMP (K : PySem.W.Frag) (W : WX) (m : MP) : TO := fun σ H Q => ∃ Z ι ρ μ, Rel K Z ι ρ μ σ H ∧ Out K W σ Z ι H (m ρ μ) (fun i _ _ H' => Q i H')
abbrev FP (X : Cx) (W : WX) (e : Option Expr) (m : MP) : Prop := PO X e (tMP X.K W m)
def pNone : MP := fun _ μ => .ok none μ
def pSome (ma : ME) : MP := fun ρ μ => (ma ρ μ).bind fun v μ1 => match v with
  | .d (.int i) => .ok (some i) μ1
  | _ => .bad
section
variable {X : Cx} {W : WX} {e : Expr} {lo hi : Option Expr} {pos p2 : Pos} {ma : ME} {ml mh : MP}
theorem po_imp {e : Option Expr} {t t' : TO} (h : PO X e t) (i : ∀ σ H Q, t' σ H Q → t σ H Q) : PO X e t' := ⟨fun pins s σ H Q I w => h.run pins s σ H Q I (i σ H Q w)⟩
theorem fp_none : FP X W none pNone := po_imp po_none fun σ H Q ⟨Z, ι, ρ, μ, R, o⟩ => o Z ι H (Ext.refl R.sta.sub) R.sta
theorem fp_some (h : FE X W e ma) : FP X W (some e) (pSome ma) := by
  refine po_imp (po_some h) fun σ H Q ⟨Z, ι, ρ, μ, R, o⟩ => tM_bind R o fun v μ' Z' ι' H' x x1 R1 r1 o1 => ?_
  cases r1 with
  | ref r => exact o1.elim
  | d r => cases r with
    | int i => exact ⟨i, rfl, o1 Z' ι' H' (Ext.refl R1.sta.sub) R1.sta⟩
    | _ => exact o1.elim
theorem tMP_bind {K : PySem.W.Frag} {σ : St} {Z ι : List Addr} {ρ : En} {μ : List MO} {H : Hp} {β : Type} {m : MP} {k : Option Int → List MO → Res β} {P : β → List Addr → List Addr → Hp → Prop} {Q : Option Int → Hp → Prop} (R : Rel K Z ι ρ μ σ H) (o : Out K W σ Z ι H ((m ρ μ).bind k) P)
    (h : ∀ v μ' Z' ι' H', Ext Z ι H Z' ι' H' → Rel K Z' ι' ρ μ' σ H' → Out K W σ Z' ι' H' (k v μ') P → Q v H') : tMP K W m σ H Q := by
  refine ⟨Z, ι, ρ, μ, R, ?_⟩
  cases e : m ρ μ with
  | ok v μ' =>
    rw [e] at o
    exact fun Z2 ι2 H2 x2 s2 => h v μ' Z2 ι2 H2 x2 (R.ext x2 s2) (Out.base o x2)
  | exc C fs μ' => rw [e] at o; exact o
  | bad => rw [e] at o; exact o
def cutD (xs : List D) (lo hi : Option Int) : List D := (xs.drop (HT.sIx xs.length 0 lo)).take (HT.sIx xs.length xs.length hi - HT.sIx xs.length 0 lo)
theorem DRs.cut {K : PySem.W.Frag} {F : Hp} {xs : List D} {vs : List V} (h : DRs K F xs vs) (lo hi : Option Int) : DRs K F (cutD xs lo hi) (cutV vs lo hi) := by
  unfold cutD cutV
  rw [h.len]
  exact (h.drop _).take _
def sliceD (d : D) (lo hi : Option Int) : Option D := match d with
  | .lst xs => some (.lst (cutD xs lo hi))
  | .fl xs => some (.lst (cutD xs lo hi))
  | .tup xs => some (.tup (cutD xs lo hi))
  | .str z => if z.length ≤ sizeLine then some (.str (cutS z lo hi)) else none
  | _ => none
def mSlice (ma : ME) (ml mh : MP) : ME := fun ρ μ => (ma ρ μ).bind fun v μ1 => (ml ρ μ1).bind fun l μ2 => (mh ρ μ2).bind fun h μ3 => op1 (fun d => sliceD d l h) v μ3
abbrev rSlX (K : PySem.W.Frag) : V → Option Int → Option Int → Hp → VK → Prop := fun x lo hi H Q => rSlL K x lo hi H Q ∨ rSlA K x lo hi H Q ∨ rSlS x lo hi H Q
theorem u_slice {K : PySem.W.Frag} (lo hi : Option Int) : UnD K (fun x H Q => rSlX K x lo hi H Q) (fun d => sliceD d lo hi) := fun Z H a c x Q t ha eq q => by
  have newL : ∀ {vs : List V} {ys : List D}, DRs K (mask H Z) ys vs → c = .lst (cutD ys lo hi) → ∀ l, H l = none → Q (.ref l) (upd H l (.lst (cutV vs lo hi))) := fun r e l hl => by
    obtain ⟨s, r⟩ := new_lst t hl (r.cut lo hi)
    exact q _ _ s (by rw [e]; exact r)
  cases a with
  | lst xs => cases eq; obtain ⟨p, vs, rfl, h1, r1⟩ := ha.list; exact .inl ⟨p, vs, rfl, SqL.of h1, newL r1 rfl⟩
  | fl xs => cases eq; obtain ⟨p, vs, rfl, h1, r1⟩ := ha.flist; exact .inl ⟨p, vs, rfl, h1, newL r1 rfl⟩
  | tup xs =>
    cases eq
    have hr := ha.tupR
    obtain ⟨p, vs, rfl, h1, r1⟩ := ha.tup
    refine .inr (.inl ⟨p, vs, rfl, SqT.of h1, fun hw => ?_, fun _ l hl => ?_⟩)
    · have e : cutD xs lo hi = xs := by
        unfold cutD
        rw [r1.len, hw.1, hw.2, List.drop_zero, Nat.sub_zero, ← r1.len, List.take_length]
      rw [e] at q
      exact same_ok q hr
    · obtain ⟨s, r⟩ := new_tup t hl (r1.cut lo hi)
      exact q _ _ s r
  | str z =>
    simp only [sliceD] at eq
    split at eq
    · rename_i hz; cases eq; exact .inr (.inr ⟨z, ha.str, hz, same_ok q (.str _)⟩)
    · cases eq
  | _ => cases eq
theorem fe_slice (he : FE X W e ma) (hl : FP X W lo ml) (hh : FP X W hi mh) : FE X W (.Subscript e (.Slice lo hi none p2) pos) (mSlice ma ml mh) := by
  refine pe_imp (pe_slice (sl_list.or (sl_tupA.or sl_str)) he hl hh) fun σ H Q ⟨Z, ι, ρ, μ, R, o⟩ => ?_
  exact tM_bind R o fun v μ1 Z1 ι1 H1 x x1 R1 r1 o1 => tMP_bind R1 o1 fun l μ2 Z2 ι2 H2 x2 R2 o2 => tMP_bind R2 o2 fun h μ3 Z3 ι3 H3 x3 R3 o3 =>
    op1_ok (u_slice l h) R3.sta ((r1.mono x2.same x2.i).mono x3.same x3.i) o3
/-- a list's slice as a new list -/
def mSliceL (ma : ME) (ml mh : MP) : ML := fun ρ μ => (ma ρ μ).bind fun v μ1 => (ml ρ μ1).bind fun l μ2 => (mh ρ μ2).bind fun h μ3 => match view μ3 v with
  | some (.lst xs) => .ok (cutD xs l h) μ3
  | some (.fl xs) => .ok (cutD xs l h) μ3
  | _ => .bad
theorem fl_slice (he : FE X W e ma) (hl : FP X W lo ml) (hh : FP X W hi mh) : FL X W (.Subscript e (.Slice lo hi none p2) pos) (mSliceL ma ml mh) := by
  refine pe_imp (pe_slice sl_list he hl hh) fun σ H Q ⟨Z, ι, ρ, μ, R, o⟩ => ⟨Z, ι, ρ, μ, R, ?_⟩
  unfold mSliceL at o
  cases q : ma ρ μ with
  | exc C fs μ' => rw [q] at o; exact o
  | bad => rw [q] at o; exact o
  | ok v μ1 =>
    rw [q] at o
    intro Z1 ι1 H1 x1 s1 x rx
    have R1 := R.ext x1 s1
    refine ⟨Z1, ι1, ρ, μ1, R1, ?_⟩
    simp only [Res.bind_ok] at o
    cases q2 : ml ρ μ1 with
    | exc C fs μ' => rw [q2] at o; exact fun Z2 ι2 H2 d fs' x2 s2 => o Z2 ι2 H2 d fs' (x1.trans x2) s2
    | bad => rw [q2] at o; exact o
    | ok l μ2 =>
      rw [q2] at o
      intro Z2 ι2 H2 x2 s2
      have R2 := R1.ext x2 s2
      refine ⟨Z2, ι2, ρ, μ2, R2, ?_⟩
      simp only [Res.bind_ok] at o
      cases q3 : mh ρ μ2 with
      | exc C fs μ' => rw [q3] at o; exact fun Z3 ι3 H3 d fs' x3 s3 => o Z3 ι3 H3 d fs' ((x1.trans x2).trans x3) s3
      | bad => rw [q3] at o; exact o
      | ok h μ3 =>
        rw [q3] at o
        intro Z3 ι3 H3 x3 s3
        simp only [Res.bind_ok] at o
        have rx3 := (rx.mono x2.same x2.i).mono x3.same x3.i
        split at o
        · rename_i xs hx
          obtain ⟨p, vs, rfl, h1, r1⟩ := (view_ok s3 rx3 hx).list
          exact ⟨p, vs, rfl, SqL.of h1, fun p hp => fr_new ((x1.trans x2).trans x3) s3 (r1.cut l h) o hp⟩
        · rename_i xs hx
          obtain ⟨p, vs, rfl, h1, r1⟩ := (view_ok s3 rx3 hx).flist
          exact ⟨p, vs, rfl, h1, fun p hp => fr_new ((x1.trans x2).trans x3) s3 (r1.cut l h) o hp⟩
        · exact o.elim
/-- xs[::-1] -/
def revD : D → Option D
  | .lst xs => some (.lst xs.reverse)
  | _ => none
theorem fe_rev {k : Nat} {p1 p2 p3 : Pos} (he : FE X W e ma) : FE X W (.Subscript e (.Slice none none (some (.UnaryOp .USub (.Constant (.int 1) k p1) p2)) p3) pos) (mUn revD ma) := by
  refine pe_imp (pe_revL he) fun σ H Q ⟨Z, ι, ρ, μ, R, o⟩ => tM_bind R o fun v μ' Z' ι' H' x x1 R1 r1 o1 => ?_
  refine op1_ok (r := fun x H1 Q => ∃ a xs, x = .ref a ∧ SqL X.K H1 a xs ∧ ∀ p, H1 p = none → Q (.ref p) (upd H1 p (.lst xs.reverse))) (fun Z H a c x Q t ha eq q => ?_) R1.sta r1 o1
  cases a with
  | lst xs =>
    cases eq
    obtain ⟨p, vs, rfl, h1, r1⟩ := ha.list
    refine ⟨p, vs, rfl, SqL.of h1, fun l hl => ?_⟩
    obtain ⟨s, r⟩ := new_lst t hl r1.rev
    exact q _ _ s r
  | _ => cases eq
/-! chains of comparisons -/
theorem chain_ok {K : PySem.W.Frag} {σ : St} {Z ι : List Addr} {ρ : En} {μ : List MO} {H : Hp} {g g' : D → D → Option D} {ma mb mc : ME} {r r' : R2} {Q : VK} (hg : OpD K r g) (hg' : OpD K r' g') (R : Rel K Z ι ρ μ σ H) (o : Out K W σ Z ι H (mChain g g' ma mb mc ρ μ) (Val K Q)) :
    tChain r r' (tM K W ma) (tM K W mb) (tM K W mc) σ H Q := by
  refine tM_bind R o fun v μ1 Z1 ι1 H1 x x1 R1 r1 o1 => tM_bind R1 o1 fun w μ2 Z2 ι2 H2 y x2 R2 r2 o2 => ?_
  have r1' := r1.mono x2.same x2.i
  unfold op2 at o2
  split at o2
  · rename_i d hd
    split at o2
    · rename_i e he
      split at o2
      · rename_i z hz
        refine hg Z2 H2 d e z x y _ R2.sta.trk (view_ok R2.sta r1' hd) (view_ok R2.sta r2 he) hz fun H3 u sm du => ?_
        obtain ⟨s3, x3⟩ := R2.sta.grow sm
        have R3 := R2.ext x3 s3
        have o3 := Out.base o2 x3
        simp only [Res.bind_ok] at o3
        cases du with
        | bl k =>
          refine ⟨k, rfl, ?_⟩
          cases k with
          | false => exact Out.ret R3.sta o3 (.d (.bl false))
          | true =>
            exact tM_bind R3 o3 fun c μ4 Z4 ι4 H4 w4 x4 R4 r4 o4 => op2_ok hg' R4.sta ((r2.mono x3.same x3.i).mono x4.same x4.i) r4 o4
        | _ => exact o3.elim
      · exact o2.elim
    · exact o2.elim
  · exact o2.elim
theorem fe_chain {op op' : CmpOp} {r r' : R2} {g g' : D → D → Option D} {a b c : Expr} {ma mb mc : ME} (ho : OpR X (compareOp op) r) (hg : OpD X.K r g) (ho' : OpR X (compareOp op') r') (hg' : OpD X.K r' g') (ha : FE X W a ma) (hb : FE X W b mb) (hc : FE X W c mc)
    (hm : lastMarks [op, op'] [b, c] = false := by with_unfolding_all rfl) : FE X W (.Compare a [op, op'] [b, c] pos) (mChain g g' ma mb mc) :=
  pe_imp (pe_chain ho ho' ha hb hc hm) fun σ H Q ⟨Z, ι, ρ, μ, R, o⟩ => chain_ok hg hg' R o
theorem ft_chain {op op' : CmpOp} {r r' : R2} {g g' : D → D → Option D} {a b c : Expr} {ma mb mc : ME} (ho : OpR X (compareOp op) r) (hg : OpD X.K r g) (ho' : OpR X (compareOp op') r') (hg' : OpD X.K r' g') (ha : FE X W a ma) (hb : FE X W b mb) (hc : FE X W c mc)
    (hm : lastMarks [op, op'] [b, c] = false := by with_unfolding_all rfl) : FT X W (.Compare a [op, op'] [b, c] pos) (mB (mChain g g' ma mb mc)) := by
  refine pt_imp (pt_chain ho ho' ha hb hc hm) fun σ H Q ⟨Z, ι, ρ, μ, R, o⟩ => chain_ok hg hg' R ?_
  unfold mB at o
  cases q : mChain g g' ma mb mc ρ μ with
  | exc C fs μ' => rw [q] at o; exact o
  | bad => rw [q] at o; exact o
  | ok v μ' =>
    rw [q] at o
    intro Z1 ι1 H1 x1 s1 x rx
    exact bool_rule s1 rx (Out.base o x1)
end
end TT

namespace TT
open PySem L2
variable [TB]
section
variable {X : Cx} {W : WX}
theorem mv (i : Nat) {x : Str} {pos : Pos} (hN : X.N[i]? = some x := by rfl) (hv : Vis X.env.scope x := by first | exact Or.inl rfl | exact Or.inr (Or.inl rfl) | exact Or.inr (Or.inr rfl)) (hd : (x == ("__debug__" : Str)) = false := by decide)
    (hcd : (x == ("__classdict__" : Str)) = false := by decide) : FE X W (.Name x pos) (mVar i) := fe_var hN hv hd hcd
theorem fe_gint {x : Str} {pos : Pos} {i : Int} (h : ∃ t, X.mg x = some (.int i t)) (hg : Gl X x := by rfl) (hd : (x == ("__debug__" : Str)) = false := by decide) : FE X W (.Name x pos) (mC (.int i)) := by
  obtain ⟨t, h⟩ := h
  exact fe_c (pe_glob (v := .int i) hg h ⟨t, rfl⟩ hd) fun _ => .int i
theorem fe_gstr {x : Str} {pos : Pos} {i : Str} (h : ∃ t, X.mg x = some (.str i t)) (hg : Gl X x := by rfl) (hd : (x == ("__debug__" : Str)) = false := by decide) : FE X W (.Name x pos) (mC (.str i)) := by
  obtain ⟨t, h⟩ := h
  exact fe_c (pe_glob (v := .str i) hg h ⟨t, rfl⟩ hd) fun _ => .str i
theorem fe_gfn {x : Str} {pos : Pos} {a : Addr} (h : X.mg x = some (.ref a)) (hg : Gl X x := by rfl) (hd : (x == ("__debug__" : Str)) = false := by decide) : FE X W (.Name x pos) (mC (.gl a)) :=
  fe_c (pe_glob (v := .ref a) hg h rfl hd) fun _ => .gl a
theorem fe_ty {x : Str} {pos : Pos} {n : String} (h : X.mg x = none) (hv : bootBuiltins x = some (.type n)) (hg : Gl X x := by rfl) (hn : x ≠ "__name__" := by decide) (hd : (x == ("__debug__" : Str)) = false := by decide) : FE X W (.Name x pos) (mC (.ty n)) :=
  fe_c (pe_bltn (v := .ty n) hg h hv rfl hn hd) fun _ => .ty n
end
theorem d_ipadd {K : PySem.W.Frag} : OpD K (ipI fun i j => i + j) addI := fun Z H a b c x y Q t ha hb eq q => by
  unfold addI intOp at eq
  split at eq
  · rename_i i j; cases eq; exact ⟨i, j, ha.int, hb.int, same_ok q (.int _)⟩
  · cases eq
theorem d_ipsub {K : PySem.W.Frag} : OpD K (ipI fun i j => i - j) subD := fun Z H a b c x y Q t ha hb eq q => by
  unfold subD intOp at eq
  split at eq
  · rename_i i j; cases eq; exact ⟨i, j, ha.int, hb.int, same_ok q (.int _)⟩
  · cases eq
/-- how many turns a while may make -/
def fuelW : Nat := 1000000
theorem CalG.mono {CX : CXT} {P : Program} {w : World} {K : PySem.W.Frag} {mg : Str → Option Value} {base : Heap} {j k : Nat} {x : Str} {sp : Sp} (c : CalG CX P w K mg base j x sp) (h : j ≤ k) : CalG CX P w K mg base k x sp := by
  obtain ⟨f, G, hm, kp⟩ := c.ex
  exact ⟨f, fun A outer s H us vs Q E hr hg => G A outer s H us vs Q E (hr.mono h) hg, hm, kp⟩
end TT

namespace TT
open PySem L2
variable [TB]
/-! try with clauses of both kinds: except X and except X as n -/
abbrev Cl := Value × Option Nat × (Addr → Value → Option Addr → TS)
/-- where a clause's own name goes behind its suite -/
def offI (i : Option Nat) (τ : St) : St := match i with
  | some j => τ.set j none
  | none => τ
def offE (i : Option Nat) (E : Ends) : Ends := { nx := fun τ G => E.nx (offI i τ) G, rt := E.rt, bk := fun τ G => E.bk (offI i τ) G, ct := fun τ G => E.ct (offI i τ) G }
def onI (i : Option Nat) (a : Addr) (τ : St) : St := match i with
  | some j => τ.set j (some (.ref a))
  | none => τ
def wMix (K : PySem.W.Frag) (Wo : WX) (E : Ends) : List Cl → WX
  | [] => Wo
  | (c, i, ts) :: r => fun cls d τ G => ∃ b, PySem.W.exmOne K cls c = some b ∧ (b = true → ∀ a, G a = none → ts a cls d (offE i E) (onI i a τ) G) ∧ (b = false → wMix K Wo E r cls d τ G)
inductive ClsOk (X : Cx) : List ExceptHandler → List Cl → Prop
  | nil : ClsOk X [] []
  | plain {x : Str} {c : Value} {ts : Addr → Value → Option Addr → TS} {st : Stmt} {sts : List Stmt} {np hp : Pos} {hs : List ExceptHandler} {l : List Cl} (hc : Names X x c)
      (su : ∀ (a : Addr) (oe : Obj) (cls : Value) (d : Option Addr) (pn : List (Addr × Obj)), Zc cls d oe → (∃ vs, oe.data = .fields vs) → PSs (X.suite a ((a, oe) :: pn)) (st :: sts) (ts a cls d)) (r : ClsOk X hs l) :
      ClsOk X (.ExceptHandler (some (.Name x np)) none (st :: sts) hp :: hs) ((c, none, ts) :: l)
  | named {x n : Str} {i : Nat} {c : Value} {ts : Addr → Value → Option Addr → TS} {st : Stmt} {sts : List Stmt} {np hp : Pos} {hs : List ExceptHandler} {l : List Cl} (hc : Names X x c) (hi : X.N[i]? = some n) (hl : X.env.kindOf n = some .local)
      (su : ∀ (a : Addr) (oe : Obj) (cls : Value) (d : Option Addr) (pn : List (Addr × Obj)), Zc cls d oe → (∃ vs, oe.data = .fields vs) → PSs (X.suite a ((a, oe) :: pn)) (st :: sts) (ts a cls d)) (r : ClsOk X hs l) :
      ClsOk X (.ExceptHandler (some (.Name x np)) (some n) (st :: sts) hp :: hs) ((c, some i, ts) :: l)
section
variable {X : Cx} {body : List Stmt} {h0 : ExceptHandler} {hs : List ExceptHandler} {l : List Cl} {pos : Pos} {tb : WX → TS} {Wo : WX}
theorem ps_tryM (es : X.stack = X.env :: X.outer) (ef : X.env.frame = some X.env.locals) (hN : X.N.Nodup) (tk : Takes X Wo)
    (hb : ∀ (W : WX) (pn : List (Addr × Obj)) (xe : Value → Shared → Prop), Takes (X.tr pn xe) W → PassesOwn (model X.prog X.w) X.A X.env xe → PSs (X.tr pn xe) body (tb W))
    (ho : ClsOk X (h0 :: hs) l) : PS X (.Try body (h0 :: hs) [] [] pos) (fun E τ G => tb (wMix X.K Wo E l) E τ G) := by
  refine ⟨fun pins s τ G E I hw => ?_⟩
  have iok := I.ok
  have hfr : X.A.frames = some (X.env :: X.outer) := iok.frames.trans (congrArg some es)
  refine wpAny_Try_except (wpAny_mono ((hb _ (X.pn ++ pins) (fun e s1 => wpAny (model X.prog X.w) X.A (noteFrame e X.env) (fun _ s2 => wpAny (model X.prog X.w) X.A (setFlight e none) (fun _ s3 =>
    wpAny (model X.prog X.w) X.A (handleBy e X.env (h0 :: hs)) (SP X pins E) X.xe s3) X.xe s2) X.xe s1) (fun u t' up => ?_) PassesOwn.looking).run [] s τ G E (I.toTry _) hw) (fun fl t1 hp => ?_) (fun _ _ z => z))
  · obtain ⟨a, B, sI, pins1, τ1, G1, cls, d, rfl, J0, nb, upx, sky, na, eos, ag, w⟩ := up
    have J : Inv X pins τ1 G1 sI := J0.ofTry iok
    show wpAny (model X.prog X.w) X.A (noteFrame (.ref a) X.env) _ _ _
    refine Sky.land Zc.steady hfr ef (by rw [← es]; exact sky) fun g3 fl3 up3 => ?_
    have J3 : Inv X pins τ1 G1 { t' with heap := g3 } := J.landed nb fl3.1 (upx.trans up3) eos ag
    obtain ⟨o3, v3, e3, z3, d3⟩ := fl3.there
    have out : a ∉ frs (X.env :: X.outer) := fun hm => by
      obtain ⟨_, o', e', hnf⟩ := fl3.2.2.1.mem hm
      rw [e3] at e'; cases e'
      exact hnf _ d3
    have nL : a ≠ X.env.locals := fun z => out (List.mem_filterMap.mpr ⟨X.env, List.mem_cons_self, by rw [ef, z]⟩)
    have nF : a ∉ X.fs := fun hm => by
      obtain ⟨en, h1, h2⟩ := List.mem_filterMap.mp hm
      exact out (List.mem_filterMap.mpr ⟨en, List.mem_cons_of_mem _ h1, h2⟩)
    have S3 := J3.suite e3 d3 na nL nF
    have LT : PySem.W.Looks (model X.prog X.w) g3 (typeOf (.ref a)) cls := fun A Q E s k qq => wpAny_typeOf_ref (k _ _ e3) (by rw [z3.1]; exact qq)
    have look : ∀ {x : Str} {c : Value} {np : Pos}, Names X x c → ∀ {Q : Value → Shared → Prop} {E' : Value → Shared → Prop}, Q c { t' with heap := g3 } → wpAny (model X.prog X.w) (X.A.mark (some (.ref a))) (eval (.Name x np) X.env) Q E' { t' with heap := g3 } := fun {x c np} hc {Q E'} qq => by
      obtain ⟨hg, hdb, hm | ⟨hm, hv, hnn⟩⟩ := hc
      · exact ld_glob (X := X.suite a ((a, o3) :: (X.pn ++ pins))) S3 hg hm qq hdb
      · exact ld_blt (X := X.suite a ((a, o3) :: (X.pn ++ pins))) S3 hg hm hv qq hnn hdb
    have go : ∀ {hs' : List ExceptHandler} {l' : List Cl}, ClsOk X hs' l' → wMix X.K Wo E l' cls d τ1 G1 → wpAny (model X.prog X.w) X.A (handleBy (.ref a) X.env hs') (SP X pins E) X.xe { t' with heap := g3 } := by
      intro hs' l' hk
      induction hk with
      | nil =>
        intro w
        refine wpAny_handleBy_nil ?_
        obtain ⟨k1, k2, k3, oe, vs, T, oT, tt, he, hz, hd, h1, hr⟩ := id fl3
        unfold PySem.passOn
        refine wpAny_bind (wpAny_field he hd h1 ?_)
        rw [if_neg (by simp)]
        have fin : wpAny (model X.prog X.w) X.A (setFlight (.ref a) X.env.frame) (fun _ s4 => wpAny (model X.prog X.w) X.A (throw (.ref a) : Sem Flow) (SP X pins E) X.xe s4) X.xe { t' with heap := g3 } := by
          rw [ef]
          refine HandSPX.setFlight_upZ fl3 fun g4 x4 up4 => wpAny_throw (tk _ _ ?_)
          exact ⟨a, B, sI, pins, τ1, G1, cls, d, rfl, J, nb, (upx.trans up3).trans up4, .inr (.inr (by rw [es]; exact x4)), na, eos, ag, w⟩
        first
          | exact wpAny_bind (wpAny_pure (wpAny_bind fin))
          | exact wpAny_bind fin
      | @plain x c ts st sts np hp hs2 l2 hc su r ih =>
        rintro ⟨b, e1, yes, no⟩
        refine wpAny_handleBy_cons (codeAny_handlers_test (look hc ((PySem.W.exm_one (M := model X.prog X.w) J3.kIn LT e1).here ?_))) (by intro z; cases z)
        cases b with
        | false => exact ih (no rfl)
        | true =>
          refine codeAny_handlers_suite (HandSPX.lands_againZ fl3 fun g4 fl4 up4 => ?_)
          have J4 : Inv X pins τ1 G1 { t' with heap := g4 } := J.landed nb fl4.1 ((upx.trans up3).trans up4) eos ag
          obtain ⟨o4, v4, e4, z4, d4⟩ := fl4.there
          refine wpAny_mono ((su a o4 cls d (X.pn ++ pins) z4 ⟨_, d4⟩).run [] _ _ G1 _ (J4.suite e4 d4 na nL nF) (yes rfl a na)) (fun f s6 hsp => ?_) (fun _ _ z => z.elim)
          cases f with
          | next => obtain ⟨τ6, G6, S6, q6⟩ := hsp; exact ⟨_, _, S6.unsuite iok, q6⟩
          | brk => obtain ⟨τ6, G6, S6, q6⟩ := hsp; exact ⟨_, _, S6.unsuite iok, q6⟩
          | cont => obtain ⟨τ6, G6, S6, q6⟩ := hsp; exact ⟨_, _, S6.unsuite iok, q6⟩
          | ret u => obtain ⟨v6, τ6, G6, S6, r6, q6⟩ := hsp; exact ⟨_, _, _, S6.unsuite iok, r6, q6⟩
      | @named x n i c ts st sts np hp hs2 l2 hc hi hl su r ih =>
        rintro ⟨b, e1, yes, no⟩
        refine wpAny_handleBy_cons (codeAny_handlers_test (look hc ((PySem.W.exm_one (M := model X.prog X.w) J3.kIn LT e1).here ?_))) (by intro z; cases z)
        cases b with
        | false => exact ih (no rfl)
        | true =>
          refine codeAny_handlers_suite_as (HandSPX.lands_againZ fl3 fun g4 fl4 up4 => ?_)
          have J4 : Inv X pins τ1 G1 { t' with heap := g4 } := J.landed nb fl4.1 ((upx.trans up3).trans up4) eos ag
          obtain ⟨o4, v4, e4, z4, d4⟩ := fl4.there
          refine store_ok (X := X.suite a ((a, o4) :: (X.pn ++ pins))) (v := .ref a) (J4.suite e4 d4 na nL nF) hN hi (.inl hl) rfl (fun s5 S5 => ?_) (.inr hl)
          refine wpAny_mono ((su a o4 cls d (X.pn ++ pins) z4 ⟨_, d4⟩).run [] s5 _ G1 _ S5 (yes rfl a na)) (fun f s6 hsp => ?_) (fun _ _ z => z.elim)
          have off : ∀ {τ6 : St} {G6 : Hp} {Q : Shared → Prop}, Inv (X.suite a ((a, o4) :: (X.pn ++ pins))) [] τ6 G6 s6 → (∀ s7, Inv X pins (τ6.set i none) G6 s7 → Q s7) → wpAny (model X.prog X.w) X.A (do bindName X.env n .none; unbindBehindTheSuite X.env n hp) (fun _ s7 => Q s7) X.xe s6 :=
            fun {τ6 G6 Q} S6 hq => gone_ok (S6.unsuite iok) hN hi hl hq
          cases f with
          | next => obtain ⟨τ6, G6, S6, q6⟩ := hsp; exact off S6 fun s7 J7 => ⟨_, _, J7, q6⟩
          | brk => obtain ⟨τ6, G6, S6, q6⟩ := hsp; exact off S6 fun s7 J7 => ⟨_, _, J7, q6⟩
          | cont => obtain ⟨τ6, G6, S6, q6⟩ := hsp; exact off S6 fun s7 J7 => ⟨_, _, J7, q6⟩
          | ret u => obtain ⟨v6, τ6, G6, S6, r6, q6⟩ := hsp; exact off S6 fun s7 J7 => ⟨_, _, _, J7, r6, q6⟩
    exact go ho w
  · cases fl with
    | next => obtain ⟨τ1, G1, J1, q1⟩ := hp; exact wpAny_execs_nil ⟨τ1, G1, J1.ofTry iok, q1⟩
    | brk => obtain ⟨τ1, G1, J1, q1⟩ := hp; exact ⟨τ1, G1, J1.ofTry iok, q1⟩
    | cont => obtain ⟨τ1, G1, J1, q1⟩ := hp; exact ⟨τ1, G1, J1.ofTry iok, q1⟩
    | ret u => obtain ⟨v, τ1, G1, J1, r1, q1⟩ := hp; exact ⟨v, τ1, G1, J1.ofTry iok, r1, q1⟩
end
end TT

namespace TT
open PySem L2
variable [TB]
/-! try, by data -/
open Classical in
/-- an end that hangs on no address -/
noncomputable def allAD (h : Addr → Addr → SR) : SR := if x : ∃ r, ∀ a d, h a d = r then Classical.choose x else .bad
theorem allAD_eq {h : Addr → Addr → SR} {r : SR} (e : ∀ a d, h a d = r) : allAD h = r := by
  have x : ∃ r, ∀ a d, h a d = r := ⟨r, e⟩
  unfold allAD
  rw [dif_pos x]
  exact (Classical.choose_spec x 0 0).symm.trans (e 0 0)
theorem allAD_of {K : PySem.W.Frag} {W : WX} {Z ι : List Addr} {H : Hp} {E : Ends} {h : Addr → Addr → SR} (o : OutS K W Z ι H (allAD h) E) (a d : Addr) : OutS K W Z ι H (h a d) E := by
  unfold allAD at o
  split at o
  · rename_i x
    rw [← Classical.choose_spec x a d] at o
    exact o
  · exact o.elim
/-- a clause: which classes it takes, which it lets by, its name's slot, its suite -/
structure MC where
  yes : List Addr
  no : List Addr
  i : Option Nat
  h : Addr → Addr → MS
def offR (i : Option Nat) (ρ : En) : En := match i with
  | some j => ρ.set j none
  | none => ρ
def SR.off (i : Option Nat) : SR → SR
  | .nx ρ μ => .nx (offR i ρ) μ
  | .bk ρ μ => .bk (offR i ρ) μ
  | .ct ρ μ => .ct (offR i ρ) μ
  | .rt v μ => .rt v μ
  | _ => .bad
def onR (i : Option Nat) (x : D) (ρ : En) : En := match i with
  | some j => ρ.set j (some (.d x))
  | none => ρ
noncomputable def tryH : List MC → Addr → List (Str × D) → En → List MO → SR
  | [], C, fs, ρ, μ => .exc C fs ρ μ
  | c :: cs, C, fs, ρ, μ => if C ∈ c.yes then allAD fun a d => (c.h a d (onR c.i (.exn a d C fs) ρ) μ).off c.i else if C ∈ c.no then tryH cs C fs ρ μ else .bad
noncomputable def mTry (b : MS) (cs : List MC) : MS := fun ρ μ => match b ρ μ with
  | .exc C fs ρ' μ' => tryH cs C fs ρ' μ'
  | r => r
/-- the suite's reading -/
def tSu (K : PySem.W.Frag) (yes : List Addr) (h : Addr → Addr → MS) : Addr → Value → Option Addr → TS := fun a cls d E τ G => ∃ dd C, C ∈ yes ∧ cls = .ref C ∧ d = some dd ∧ tMS K W0 (h a dd) E τ G
inductive HMs (X : Cx) : List ExceptHandler → List MC → List Cl → Prop
  | nil : HMs X [] [] []
  | plain {x : Str} {c : Value} {yes no : List Addr} {h : Addr → Addr → MS} {st : Stmt} {sts : List Stmt} {np hp : Pos} {hs : List ExceptHandler} {cs : List MC} {l : List Cl} (hc : Names X x c)
      (hy : ∀ C ∈ yes, PySem.W.exmOne X.K (.ref C) c = some true) (hn : ∀ C ∈ no, PySem.W.exmOne X.K (.ref C) c = some false)
      (su : ∀ (a : Addr) (oe : Obj) (C : Addr) (d : Addr) (pn : List (Addr × Obj)), C ∈ yes → Zc (.ref C) (some d) oe → (∃ vs, oe.data = .fields vs) → FSs (X.suite a ((a, oe) :: pn)) W0 (st :: sts) (h a d)) (r : HMs X hs cs l) :
      HMs X (.ExceptHandler (some (.Name x np)) none (st :: sts) hp :: hs) (⟨yes, no, none, h⟩ :: cs) ((c, none, tSu X.K yes h) :: l)
  | named {x n : Str} {i : Nat} {c : Value} {yes no : List Addr} {h : Addr → Addr → MS} {st : Stmt} {sts : List Stmt} {np hp : Pos} {hs : List ExceptHandler} {cs : List MC} {l : List Cl} (hc : Names X x c) (hi : X.N[i]? = some n) (hl : X.env.kindOf n = some .local)
      (hy : ∀ C ∈ yes, PySem.W.exmOne X.K (.ref C) c = some true) (hn : ∀ C ∈ no, PySem.W.exmOne X.K (.ref C) c = some false)
      (su : ∀ (a : Addr) (oe : Obj) (C : Addr) (d : Addr) (pn : List (Addr × Obj)), C ∈ yes → Zc (.ref C) (some d) oe → (∃ vs, oe.data = .fields vs) → FSs (X.suite a ((a, oe) :: pn)) W0 (st :: sts) (h a d)) (r : HMs X hs cs l) :
      HMs X (.ExceptHandler (some (.Name x np)) (some n) (st :: sts) hp :: hs) (⟨yes, no, some i, h⟩ :: cs) ((c, some i, tSu X.K yes h) :: l)
theorem suite_of {X : Cx} {yes : List Addr} {h : Addr → Addr → MS} {sts : List Stmt} (su : ∀ (a : Addr) (oe : Obj) (C : Addr) (d : Addr) (pn : List (Addr × Obj)), C ∈ yes → Zc (.ref C) (some d) oe → (∃ vs, oe.data = .fields vs) → FSs (X.suite a ((a, oe) :: pn)) W0 sts (h a d)) :
    ∀ (a : Addr) (oe : Obj) (cls : Value) (d : Option Addr) (pn : List (Addr × Obj)), Zc cls d oe → (∃ vs, oe.data = .fields vs) → PSs (X.suite a ((a, oe) :: pn)) sts (tSu X.K yes h a cls d) := fun a oe cls d pn hz hf => ⟨fun pins s σ H E I w => by
  obtain ⟨dd, C, hC, rfl, rfl, t⟩ := w
  exact (su a oe C dd pn hC hz hf).run pins s σ H E I t⟩
theorem HMs.ok {X : Cx} : ∀ {hs : List ExceptHandler} {cs : List MC} {l : List Cl}, HMs X hs cs l → ClsOk X hs l
  | _, _, _, .nil => .nil
  | _, _, _, .plain hc _ _ su r => .plain hc (suite_of su) r.ok
  | _, _, _, .named hc hi hl _ _ su r => .named hc hi hl (suite_of su) r.ok
theorem OutS.off {K : PySem.W.Frag} {W : WX} {Z ι : List Addr} {H : Hp} {E : Ends} {i : Option Nat} {r : SR} (o : OutS K W Z ι H (r.off i) E) : OutS K W0 Z ι H r (offE i E) := by
  have k : ∀ {Z' ι' : List Addr} {ρ : En} {μ : List MO} {σ : St} {H' : Hp}, Rel K Z' ι' ρ μ σ H' → Rel K Z' ι' (offR i ρ) μ (offI i σ) H' := fun R => by
    cases i with
    | none => exact R
    | some j => exact ⟨R.sta, R.rs.setN j none⟩
  cases r with
  | nx ρ μ => exact fun Z2 ι2 H2 σ2 x2 R2 => o Z2 ι2 H2 _ x2 (k R2)
  | bk ρ μ => exact fun Z2 ι2 H2 σ2 x2 R2 => o Z2 ι2 H2 _ x2 (k R2)
  | ct ρ μ => exact fun Z2 ι2 H2 σ2 x2 R2 => o Z2 ι2 H2 _ x2 (k R2)
  | rt v μ => exact o
  | exc C fs ρ μ => exact o.elim
  | bad => exact o.elim
theorem tryH_ok {X : Cx} {W : WX} {E : Ends} {C : Addr} {fs : List (Str × D)} {fs' : List (Str × V)} {d : Addr} : ∀ {hs : List ExceptHandler} {cs : List MC} {l : List Cl}, HMs X hs cs l → ∀ {Z ι : List Addr} {ρ : En} {μ : List MO} {σ : St} {H : Hp}, Rel X.K Z ι ρ μ σ H → H d = some (.xd fs') → d ∉ Z → DRf X.K (mask H Z) fs fs' →
    OutS X.K W Z ι H (tryH cs C fs ρ μ) E → wMix X.K W E l (.ref C) (some d) σ H
  | _, _, _, .nil, Z, ι, ρ, μ, σ, H, R, e, n, dr, o => o Z ι H σ d fs' (Ext.refl R.sta.sub) R e n dr
  | _, _, _, .plain (yes := yes) (no := no) (h := h) hc hy hn su r, Z, ι, ρ, μ, σ, H, R, e, n, dr, o => by
    simp only [tryH] at o
    split at o
    · rename_i hm
      exact ⟨true, hy C hm, fun _ a _ => ⟨d, C, hm, rfl, rfl, Z, ι, ρ, μ, R, OutS.off (allAD_of o a d)⟩, fun z => by cases z⟩
    · split at o
      · rename_i hm; exact ⟨false, hn C hm, (fun z => by cases z), fun _ => tryH_ok r R e n dr o⟩
      · exact o.elim
  | _, _, _, .named (i := i) (yes := yes) (no := no) (h := h) hc hi hl hy hn su r, Z, ι, ρ, μ, σ, H, R, e, n, dr, o => by
    simp only [tryH] at o
    split at o
    · rename_i hm
      exact ⟨true, hy C hm, fun _ a _ => ⟨d, C, hm, rfl, rfl, Z, ι, _, μ, ⟨R.sta, R.rs.set (.d (.exn (mask_in n e) dr)) i⟩, OutS.off (allAD_of o a d)⟩, fun z => by cases z⟩
    · split at o
      · rename_i hm; exact ⟨false, hn C hm, (fun z => by cases z), fun _ => tryH_ok r R e n dr o⟩
      · exact o.elim
section
variable {X : Cx} {W : WX} {body : List Stmt} {h0 : ExceptHandler} {hs : List ExceptHandler} {cs : List MC} {l : List Cl} {pos : Pos} {b : MS}
theorem fs_try (es : X.stack = X.env :: X.outer) (ef : X.env.frame = some X.env.locals) (hN : X.N.Nodup) (tk : Takes X W)
    (hb : ∀ (W' : WX) (pn : List (Addr × Obj)) (xe : Value → Shared → Prop), Takes (X.tr pn xe) W' → PassesOwn (model X.prog X.w) X.A X.env xe → FSs (X.tr pn xe) W' body b) (hm : HMs X (h0 :: hs) cs l) :
    FS X W (.Try body (h0 :: hs) [] [] pos) (mTry b cs) := by
  refine ps_imp (ps_tryM (tb := fun W' => tMS X.K W' b) es ef hN tk hb hm.ok) fun E σ H ⟨Z, ι, ρ, μ, R, o⟩ => ⟨Z, ι, ρ, μ, R, ?_⟩
  unfold mTry at o
  cases q : b ρ μ with
  | exc C fs ρ' μ' =>
    rw [q] at o
    exact fun Z2 ι2 H2 σ2 d fs' x2 R2 e n dr => tryH_ok hm R2 e n dr (OutS.base o x2)
  | nx ρ' μ' => rw [q] at o; exact o
  | bk ρ' μ' => rw [q] at o; exact o
  | ct ρ' μ' => rw [q] at o; exact o
  | rt v μ' => rw [q] at o; exact o
  | bad => rw [q] at o; exact o
end
/-! fields of what was caught -/
def mXf (a d : Addr) (f : Str) (ma : ME) : ME := fun ρ μ => (ma ρ μ).bind fun v μ1 => match v with
  | .d (.exn a' d' _ fs) => if a' = a ∧ d' = d then (match fs.lookup f with
    | some x => .ok (.d x) μ1
    | none => .bad) else .bad
  | _ => .bad
theorem DRf.look {K : PySem.W.Frag} {F : Hp} {f : Str} : ∀ {xs : List (Str × D)} {vs : List (Str × V)}, DRf K F xs vs → ∀ {d : D}, xs.lookup f = some d → ∃ v, vs.lookup f = some v ∧ DR K F d v
  | _, _, .nil, d, e => by cases e
  | _, _, .cons (k := k) a b, d, e => by
    by_cases h : f = k
    · subst h
      simp only [List.lookup, beq_self_eq_true] at e ⊢
      cases e
      exact ⟨_, rfl, a⟩
    · have hk : (f == k) = false := by simpa using h
      simp only [List.lookup, hk] at e ⊢
      exact DRf.look b e
section
variable {X : Cx} {a d C : Addr} {oe : Obj} {pn : List (Addr × Obj)} {e : Expr} {pos : Pos} {f : Str} {ma : ME}
theorem fe_xf (T : XfC X.K C) (hno : PySem.W.findIn X.K (.ref C) f = some none) (hz : Zc (.ref C) (some d) oe) (hf : ∃ vs, oe.data = .fields vs) (he : FE (X.suite a ((a, oe) :: pn)) W0 e ma)
    (hb : attributeBase e f X.env (eval e X.env) = eval e X.env := by rfl) : FE (X.suite a ((a, oe) :: pn)) W0 (.Attribute e f pos) (mXf a d f ma) := by
  refine pe_imp (pe_xf T hno hz hf he hb) fun σ H Q ⟨Z, ι, ρ, μ, R, o⟩ => tM_bind R o fun v μ' Z' ι' H' x x1 R1 r1 o1 => ?_
  split at o1
  · rename_i a' d' C' fs
    split at o1
    · rename_i hh
      obtain ⟨rfl, rfl⟩ := hh
      split at o1
      · rename_i y hy
        cases r1 with | d r1 => cases r1 with | exn q r =>
          obtain ⟨v, h4, h5⟩ := r.look hy
          exact ⟨rfl, rfl, _, _, v, rfl, mask_same _ _ _ _ q, h4, Out.ret R1.sta o1 (.d h5)⟩
      · exact o1.elim
    · exact o1.elim
  · exact o1.elim
end
/-! raising: an own class whose __init__ stores its arguments -/
/-- a class over ValueError with one field, two fields -/
def spX1 (C : Addr) (f : Str) : Sp := fun vs H Q _ => ∃ (a : Addr) (v : V), vs = [.ref a, v] ∧ H a = some (exo a C none) ∧ ∀ dx, H dx = none → dx ≠ a → Q .non (upd (upd H dx (exd dx [(f, v)])) a (exo a C (some dx)))
def spX2 (C : Addr) (f g : Str) : Sp := fun vs H Q _ => ∃ (a : Addr) (v u : V), vs = [.ref a, v, u] ∧ H a = some (exo a C none) ∧ ∀ dx, H dx = none → dx ≠ a → Q .non (upd (upd (upd H dx (exd dx [(f, v)])) a (exo a C (some dx))) dx (exd dx [(g, u), (f, v)]))
/-- what is known of such a class: it stands under x at C; its __init__ keeps sp, by calls of at most k -/
structure Exc (P : Program) (w : World) (K : PySem.W.Frag) (mg : Str → Option Value) (base : Heap) (k : Nat) (x : Str) (C : Addr) (n : Nat) (sp : Sp) : Prop where
  T : OexC K C
  g : mg x = some (.ref C)
  fn : ∃ (fI : Addr) (fd : FuncData) (ps : List Str), PySem.W.findIn K (.ref C) "__init__" = some (some (.ref fI)) ∧ PySem.W.typeIn K (.ref fI) = some (.type "function") ∧ FnOk P w K mg base CX0 k fI fd ps sp ∧ Binds K fd ps []
def mkX (C : Addr) (ks : List Str) (as : List MV) (ρ : En) (μ : List MO) : SR := match datas as with
  | some ds => if ds.length = ks.length then .exc C (ks.zip ds).reverse ρ μ else .bad
  | none => .bad
def mRaise (C : Addr) (ks : List Str) (ms : MA) : MS := fun ρ μ => (ms ρ μ).stm ρ fun as μ1 => mkX C ks as ρ μ1
theorem raise_end {K : PySem.W.Frag} {W : WX} {E : Ends} {Z ι : List Addr} {ρ : En} {μ : List MO} {σ : St} {H H2 : Hp} {C d : Addr} {fs : List (Str × D)} {fs' : List (Str × V)} (R : Rel K Z ι ρ μ σ H) (hd : H d = none) (e : H2 = upd H d (.xd fs')) (dr : DRf K (mask H Z) fs fs')
    (o : OutS K W Z ι H (.exc C fs ρ μ) E) : W (.ref C) (some d) σ H2 := by
  subst e
  have sm : Same H (upd H d (.xd fs')) := fun b u q => (upd_ne (ne_of_none q hd)).trans q
  obtain ⟨s2, x2⟩ := R.sta.grow sm
  have nd : d ∉ Z := fun q => by obtain ⟨u, z⟩ := R.sta.trk d q; rw [hd] at z; cases z
  exact o Z ι _ σ d fs' x2 (R.ext x2 s2) upd_same nd (dr.mono x2.same _ _)
section
variable {X : Cx} {W : WX} {x : Str} {C : Addr} {k j : Nat} {e e2 : Expr} {p pos rpos : Pos} {f g : Str} {ms : MA}
theorem fs_raise1 (c : Exc X.prog X.w X.K X.mg X.base k x C 1 (spX1 C f)) (tk : Takes X W) (hc : X.calm = true) (hr : Room j X.A) (ha : FA X W [e] ms) (hk : k + 1 ≤ j := by decide) (hgl : Gl X x := by rfl)
    (hdb : (x == ("__debug__" : Str)) = false := by decide) (he : starEach [e] X.env = (false, eval e X.env) :: starEach [] X.env := by rfl) (hpl : (backTo pos (starEach [] X.env)).any (·.1) = false := by rfl) :
    FS X W (.Raise (some (.Call (.Name x p) [e] [] pos)) none rpos) (mRaise C [f] ms) := by
  obtain ⟨fI, fd, ps, h1, h2, h3, h4⟩ := c.fn
  refine ps_imp (ps_raise hc tk (pmk_oex c.T h1 h2 h3 (hr.mono hk) h4 .nil pass0 hgl c.g ha hdb he hpl)) fun E σ H ⟨Z, ι, ρ, μ, R, o⟩ => tMA_stm R o fun v μ' Z' ι' H' x x1 R1 r1 o1 => ?_
  unfold mkX at o1
  split at o1
  · rename_i ds hd
    have dr := datas_ok r1 hd
    split at o1
    · rename_i hl
      match ds, dr, hl with
      | [d0], .cons (v := v0) r0 .nil, _ =>
        refine ⟨by show 1 ≤ 1000; decide, fun a ha' => ⟨a, v0, rfl, upd_same, fun dx hdx ne => ⟨rfl, dx, [(f, v0)], ?_, ?_, ?_, ?_⟩⟩⟩
        · rw [upd_same]
        · rw [upd_ne ne, upd_same]
        · rw [upd_ne ne] at hdx; exact hdx
        · rw [upd_ne ne] at hdx
          refine raise_end R1 hdx ?_ (.cons r0 .nil) o1
          funext b
          by_cases q1 : b = dx
          · subst q1; rw [upd_same, upd_same]
          · rw [upd_ne q1, upd_ne q1]
            unfold del
            by_cases q2 : b = a
            · subst q2; rw [if_pos rfl]; exact ha'.symm
            · rw [if_neg q2, upd_ne q2, upd_ne q1, upd_ne q2]
    · exact o1.elim
  · exact o1.elim
theorem fs_raise2 (c : Exc X.prog X.w X.K X.mg X.base k x C 2 (spX2 C f g)) (tk : Takes X W) (hc : X.calm = true) (hr : Room j X.A) (ha : FA X W [e, e2] ms) (hk : k + 1 ≤ j := by decide) (hgl : Gl X x := by rfl)
    (hdb : (x == ("__debug__" : Str)) = false := by decide) (he : starEach [e, e2] X.env = (false, eval e X.env) :: starEach [e2] X.env := by rfl) (hpl : (backTo pos (starEach [e2] X.env)).any (·.1) = false := by rfl) :
    FS X W (.Raise (some (.Call (.Name x p) [e, e2] [] pos)) none rpos) (mRaise C [f, g] ms) := by
  obtain ⟨fI, fd, ps, h1, h2, h3, h4⟩ := c.fn
  refine ps_imp (ps_raise hc tk (pmk_oex c.T h1 h2 h3 (hr.mono hk) h4 .nil pass0 hgl c.g ha hdb he hpl)) fun E σ H ⟨Z, ι, ρ, μ, R, o⟩ => tMA_stm R o fun v μ' Z' ι' H' x x1 R1 r1 o1 => ?_
  unfold mkX at o1
  split at o1
  · rename_i ds hd
    have dr := datas_ok r1 hd
    split at o1
    · rename_i hl
      match ds, dr, hl with
      | [d0, d1], .cons (v := v0) r0 (.cons (v := v1) r1' .nil), _ =>
        refine ⟨by show 2 ≤ 1000; decide, fun a ha' => ⟨a, v0, v1, rfl, upd_same, fun dx hdx ne => ⟨rfl, dx, [(g, v1), (f, v0)], ?_, ?_, ?_, ?_⟩⟩⟩
        · rw [upd_ne (Ne.symm ne), upd_same]
        · rw [upd_same]
        · rw [upd_ne ne] at hdx; exact hdx
        · rw [upd_ne ne] at hdx
          refine raise_end R1 hdx ?_ (.cons r1' (.cons r0 .nil)) o1
          funext b
          by_cases q1 : b = dx
          · subst q1; rw [upd_same, upd_same]
          · rw [upd_ne q1, upd_ne q1]
            unfold del
            by_cases q2 : b = a
            · subst q2; rw [if_pos rfl]; exact ha'.symm
            · rw [if_neg q2, upd_ne q1, upd_ne q2, upd_ne q1, upd_ne q2]
    · exact o1.elim
  · exact o1.elim
end
section
variable {P : Program} {w : World} {K : PySem.W.Frag} {mg : Str → Option Value} {base : Heap} {C fI : Addr} {x qual f g : Str} {st : Stmt} {fd : FuncData}
/-- the promise of __init__ by its text -/
theorem x1_init {a1 : Str} {p1 p2 p3 pos : Pos} (T : OexC K C) (hno : PySem.W.findIn K (.ref C) f = some none) (F : Fun K "__init__" qual st fI fd) (S : FnScope ["self", a1] ["self", a1] (defScope st))
    (hb : defBody st = [.Assign [.Attribute (.Name "self" p1) f p2] (.Name a1 p3) pos])
    (hv : (defScope st).names.lookup ("self" : Str) = some .local) (hv1 : (defScope st).names.lookup a1 = some .local) (hd : (a1 == ("__debug__" : Str)) = false) (hcd : (a1 == ("__classdict__" : Str)) = false)
    (hs : ∀ env : Env, swapsWith (.Name a1 p3) (some (.Attribute (.Name "self" p1) f p2)) pos.line env = pure false) : FnOk P w K mg base CX0 1 fI fd ["self", a1] (spX1 C f) := by
  refine F.ok S (fun vs H Q E h => ?_) (fun cdv A outer s H vs Q E hr h => ?_)
  · obtain ⟨a, v, rfl, _⟩ := h; rfl
  · obtain ⟨a, v, rfl, ha, k⟩ := h
    rw [hb]
    refine ⟨_, pss_one (ps_ost (pe_var (i := 0) rfl (.inl hv)) (pe_var (i := 1) rfl (.inl hv1) hd hcd) (hs _)), ?_⟩
    exact ⟨_, rfl, _, rfl, a, C, rfl, T, hno, .inl ⟨ha, fun dx h1 h2 => k dx h1 h2⟩⟩
theorem x2_init {a1 a2 : Str} {p1 p2 p3 q1 q2 q3 pos pos2 : Pos} (T : OexC K C) (hno : PySem.W.findIn K (.ref C) f = some none) (hno2 : PySem.W.findIn K (.ref C) g = some none) (F : Fun K "__init__" qual st fI fd) (S : FnScope ["self", a1, a2] ["self", a1, a2] (defScope st))
    (hb : defBody st = [.Assign [.Attribute (.Name "self" p1) f p2] (.Name a1 p3) pos, .Assign [.Attribute (.Name "self" q1) g q2] (.Name a2 q3) pos2])
    (hv : (defScope st).names.lookup ("self" : Str) = some .local) (hv1 : (defScope st).names.lookup a1 = some .local) (hv2 : (defScope st).names.lookup a2 = some .local) (hd : (a1 == ("__debug__" : Str)) = false) (hcd : (a1 == ("__classdict__" : Str)) = false) (hd2 : (a2 == ("__debug__" : Str)) = false) (hcd2 : (a2 == ("__classdict__" : Str)) = false)
    (hs : ∀ env : Env, swapsWith (.Name a1 p3) (some (.Attribute (.Name "self" p1) f p2)) pos.line env = pure false) (hs2 : ∀ env : Env, swapsWith (.Name a2 q3) (some (.Attribute (.Name "self" q1) g q2)) pos2.line env = pure false) : FnOk P w K mg base CX0 1 fI fd ["self", a1, a2] (spX2 C f g) := by
  refine F.ok S (fun vs H Q E h => ?_) (fun cdv A outer s H vs Q E hr h => ?_)
  · obtain ⟨a, v, u, rfl, _⟩ := h; rfl
  · obtain ⟨a, v, u, rfl, ha, k⟩ := h
    rw [hb]
    refine ⟨_, pss_cons (ps_ost (pe_var (i := 0) rfl (.inl hv)) (pe_var (i := 1) rfl (.inl hv1) hd hcd) (hs _)) (pss_one (ps_ost (pe_var (i := 0) rfl (.inl hv)) (pe_var (i := 2) rfl (.inl hv2) hd2 hcd2) (hs2 _))), ?_⟩
    refine ⟨_, rfl, _, rfl, a, C, rfl, T, hno, .inl ⟨ha, fun dx h1 h2 => ?_⟩⟩
    exact ⟨_, rfl, _, rfl, a, C, rfl, T, hno2, .inr ⟨dx, [(f, v)], upd_same, (upd_ne h2).trans upd_same, (by show 1 ≤ 900; decide), k dx h1 h2⟩⟩
end
end TT

namespace TT
open PySem L2
variable [TB]
/-! fields -/
def putM (f : Str) (v : MV) : List (Str × MV) → List (Str × MV)
  | [] => [(f, v)]
  | (g, x) :: r => if g = f then (g, v) :: r else (g, x) :: putM f v r
theorem RMf.put {K : PySem.W.Frag} {F : Hp} {ι : List Addr} {f : Str} {m : MV} {v : V} (r : RM K F ι m v) : ∀ {xs : List (Str × MV)} {vs : List (Str × V)}, RMf K F ι xs vs → RMf K F ι (putM f m xs) (putF f v vs)
  | _, _, .nil => .cons r .nil
  | _, _, .cons (k := k) a b => by
    unfold putM putF
    by_cases h : k = f
    · rw [if_pos h, if_pos h]; exact .cons r b
    · rw [if_neg h, if_neg h]; exact .cons a (RMf.put r b)
theorem RMf.look {K : PySem.W.Frag} {F : Hp} {ι : List Addr} {f : Str} : ∀ {xs : List (Str × MV)} {vs : List (Str × V)}, RMf K F ι xs vs → ∀ {d : MV}, xs.lookup f = some d → ∃ v, vs.lookup f = some v ∧ RM K F ι d v
  | _, _, .nil, d, e => by cases e
  | _, _, .cons (k := k) a b, d, e => by
    by_cases h : f = k
    · subst h
      simp only [List.lookup, beq_self_eq_true] at e ⊢
      cases e
      exact ⟨_, rfl, a⟩
    · have hk : (f == k) = false := by simpa using h
      simp only [List.lookup, hk] at e ⊢
      exact RMf.look b e
theorem RMf.keys {K : PySem.W.Frag} {F : Hp} {ι : List Addr} : ∀ {xs : List (Str × MV)} {vs : List (Str × V)}, RMf K F ι xs vs → xs.length = vs.length ∧ ∀ f, xs.lookup f = none → vs.lookup f = none
  | _, _, .nil => ⟨rfl, fun _ _ => rfl⟩
  | _, _, .cons (k := k) a b => by
    obtain ⟨h1, h2⟩ := RMf.keys b
    refine ⟨congrArg (· + 1) h1, fun f e => ?_⟩
    by_cases h : f = k
    · subst h; simp [List.lookup] at e
    · have hk : (f == k) = false := by simpa using h
      simp only [List.lookup, hk] at e ⊢
      exact h2 f e
theorem DRf.keys {K : PySem.W.Frag} {F : Hp} : ∀ {xs : List (Str × D)} {vs : List (Str × V)}, DRf K F xs vs → ∀ f, xs.lookup f = none → vs.lookup f = none
  | _, _, .nil, _, _ => rfl
  | _, _, .cons (k := k) a b, f, e => by
    by_cases h : f = k
    · subst h; simp [List.lookup] at e
    · have hk : (f == k) = false := by simpa using h
      simp only [List.lookup, hk] at e ⊢
      exact DRf.keys b f e
def fldOf (C : Addr) (f : Str) (v : MV) (μ : List MO) : Res MV := match v with
  | .d (.obj C' fs) => if C' = C then (match fs.lookup f with
    | some x => .ok (.d x) μ
    | none => .bad) else .bad
  | .ref n => match μ[n]? with
    | some (.ins C' fs) => if C' = C then (match fs.lookup f with
      | some x => .ok x μ
      | none => .bad) else .bad
    | _ => .bad
  | _ => .bad
def mFld (C : Addr) (f : Str) (ma : ME) : ME := fun ρ μ => (ma ρ μ).bind (fldOf C f)
section
variable {X : Cx} {W : WX} {C : Addr} {f : Str} {e o : Expr} {es : List Expr} {pos p2 : Pos} {ma mv mo : ME} {ms : MA}
theorem fe_fld (c : Cls X.K C) (hn : NoAttr X.K C f) (he : FE X W e ma) (hb : attributeBase e f X.env (eval e X.env) = eval e X.env := by rfl) : FE X W (.Attribute e f pos) (mFld C f ma) := by
  refine pe_imp (pe_fld he hb) fun σ H Q ⟨Z, ι, ρ, μ, R, o⟩ => tM_bind R o fun v μ' Z' ι' H' x x1 R1 r1 o1 => ?_
  unfold fldOf at o1
  split at o1
  · split at o1
    · rename_i hC
      subst hC
      split at o1
      · rename_i y hy
        cases r1 with | d r1 => cases r1 with | obj q r =>
          obtain ⟨v, h4, h5⟩ := r.look hy
          exact ⟨_, _, _, _, v, rfl, mask_same _ _ _ _ q, c, hn, h4, Out.ret R1.sta o1 (.d h5)⟩
      · exact o1.elim
    · exact o1.elim
  · rename_i n
    split at o1
    · rename_i C' fs hx
      split at o1
      · rename_i hC
        subst hC
        split at o1
        · rename_i y hy
          cases r1 with | ref r1 =>
            obtain ⟨ho, h1, h2⟩ := R1.sta.obj n _ _ r1 hx
            cases h2 with | ins r =>
              obtain ⟨v, h4, h5⟩ := r.look hy
              exact ⟨_, _, _, _, v, rfl, h1, c, hn, h4, Out.ret R1.sta o1 h5⟩
        · exact o1.elim
      · exact o1.elim
    · exact o1.elim
  · exact o1.elim
/-- o.f = e -/
def putFld (C : Addr) (f : Str) (v o : MV) (μ : List MO) : Option (List MO) := match o with
  | .ref n => match μ[n]? with
    | some (.ins C' fs) => if C' = C ∧ fs.length < 1000 then some (μ.set n (.ins C' (putM f v fs))) else none
    | _ => none
  | _ => none
def mSetF (C : Addr) (f : Str) (mv mo : ME) : MS := fun ρ μ => (mv ρ μ).stm ρ fun v μ1 => (mo ρ μ1).stm ρ fun o μ2 => match putFld C f v o μ2 with
  | some μ3 => .nx ρ μ3
  | none => .bad
theorem fs_fld (c : Cls X.K C) (hn : NoAttr X.K C f) (he : FE X W e mv) (ho : FE X W o mo) (hs : swapsWith e (some (.Attribute o f p2)) pos.line X.env = pure false := by rfl) : FS X W (.Assign [.Attribute o f p2] e pos) (mSetF C f mv mo) := by
  refine ps_imp (ps_fld ho he hs) fun E σ H ⟨Z, ι, ρ, μ, R, o⟩ => tM_stm R o fun v μ' Z' ι' H' x x1 R1 r1 o1 => tM_stm R1 o1 fun v2 μ2 Z2 ι2 H2 y x2 R2 r2 o2 => ?_
  split at o2
  · rename_i μ3 hp
    unfold putFld at hp
    split at hp
    · rename_i n
      split at hp
      · rename_i C' fs hx
        split at hp
        · rename_i hC
          obtain ⟨rfl, hl⟩ := hC
          cases hp
          cases r2 with | ref r2 =>
            obtain ⟨ho, h1, h2⟩ := R2.sta.obj n _ _ r2 hx
            cases h2 with | ins r =>
              obtain ⟨s3, x3⟩ := R2.sta.put r2 (.ins (dx := _) (RMf.put (f := f) (r1.mono x2.same x2.i) r))
              exact ⟨_, _, _, _, rfl, h1, c, hn, by rw [← r.keys.1]; exact hl, o2 Z2 ι2 _ σ x3 (R2.ext x3 s3)⟩
        · cases hp
      · cases hp
    · cases hp
  · exact o2.elim
end
/-! new instances -/
/-- the class under x at C, its __init__ at f keeping F (self and n - 1 more) -/
structure Mak' (P : Program) (w : World) (K : PySem.W.Frag) (mg : Str → Option Value) (base : Heap) (k : Nat) (x : Str) (C : Addr) (n : Nat) (F : MF) : Prop where
  g : mg x = some (.ref C)
  ex : ∃ f, Mk K C f ∧ FnG P w K mg base (L2.CX P w) k f (spF K n F)
theorem sta_made {K : PySem.W.Frag} {Z ι : List Addr} {μ : List MO} {H : Hp} (s : Sta K Z ι μ H) {x dx C : Addr} (hx : H x = none) (hd : H dx = none) (ne : dx ≠ x) :
    Sta K (x :: Z) (ι ++ [x]) (μ ++ [.ins C []]) (upd (upd H dx (.own x)) x (.ins C dx [])) ∧ Ext Z ι H (x :: Z) (ι ++ [x]) (upd (upd H dx (.own x)) x (.ins C dx [])) := by
  have hx2 : (upd H dx (.own x)) x = none := (upd_ne (Ne.symm ne)).trans hx
  have sm : Same H (upd (upd H dx (.own x)) x (.ins C dx [])) := fun b o e => (upd_ne (ne_of_none e hx)).trans ((upd_ne (ne_of_none e hd)).trans e)
  have nz : x ∉ Z := fun q => by obtain ⟨o, e⟩ := s.trk x q; rw [hx] at e; cases e
  have nι : x ∉ ι := fun q => nz (s.sub x q)
  have ms : Same (mask H Z) (mask (upd (upd H dx (.own x)) x (.ins C dx [])) (x :: Z)) := fun b o e => by
    have t := mask_nt e
    obtain ⟨n, e⟩ := of_mask e
    refine mask_in (fun q => ?_) (sm b o e) t
    rcases List.mem_cons.mp q with z | z
    · rw [z, hx] at e; cases e
    · exact n z
  have s1 : Sta K (x :: Z) ι μ (upd (upd H dx (.own x)) x (.ins C dx [])) := by
    refine ⟨fun b hb => List.mem_cons_of_mem _ (s.sub b hb), s.nd, s.len, fun b hb => ?_, s.tab.ext sm, fun k b o h1 h2 => ?_⟩
    · rcases List.mem_cons.mp hb with z | z
      · rw [z]; exact ⟨_, upd_same⟩
      · obtain ⟨o, e⟩ := s.trk b z; exact ⟨o, sm b o e⟩
    · obtain ⟨ho, h3, h4⟩ := s.obj k b o h1 h2
      exact ⟨ho, sm b ho h3, h4.mono ms (fun _ _ h => h)⟩
  refine ⟨s1.own List.mem_cons_self nι upd_same (.ins .nil), ⟨s.sub, fun b hb => List.mem_cons_of_mem _ hb, fun n b h => ?_, fun b o _ _ e => sm b o e, fun b ps e => ⟨ps, sm b _ e⟩, fun b hb => ?_, fun b hb => ?_⟩⟩
  · rw [List.getElem?_append_left (List.getElem?_eq_some_iff.mp h).1]; exact h
  · rcases List.mem_cons.mp hb with z | z
    · rw [z]; exact .inr hx
    · exact .inl z
  · rcases List.mem_append.mp hb with z | z
    · exact .inl z
    · rw [List.mem_singleton.mp z]; exact .inr hx
def mkO (C : Addr) (F : MF) (n : Nat) (as : List MV) (μ : List MO) : Res MV := if as.length + 1 = n then (match callF F (.ref μ.length :: as) (μ ++ [.ins C []]) with
  | .ok (.d .non) μ' => .ok (.ref μ.length) μ'
  | .exc C' fs μ' => if trimmable μ.length (.d .non) μ' = true then .exc C' fs (μ'.take μ.length) else .exc C' fs μ'
  | _ => .bad) else .bad
def dataF : List (Str × MV) → Option (List (Str × D))
  | [] => some []
  | (f, .d x) :: r => (dataF r).map ((f, x) :: ·)
  | _ => none
theorem dataF_ok {K : PySem.W.Frag} {F : Hp} {ι : List Addr} : ∀ {xs : List (Str × MV)} {vs : List (Str × V)} {ds : List (Str × D)}, RMf K F ι xs vs → dataF xs = some ds → DRf K F ds vs
  | _, _, _, .nil, e => by cases e; exact .nil
  | _, _, _, .cons (.d r) b, e => by
    simp only [dataF] at e
    obtain ⟨r', h1, rfl⟩ := Option.map_eq_some_iff.mp e
    exact .cons r (dataF_ok b h1)
  | _, _, _, .cons (.ref r) b, e => by cases e
/-- .. as data -/
def mkF (C : Addr) (F : MF) (n : Nat) (as : List MV) (μ : List MO) : Res MV := (mkO C F n as μ).bind fun v μ' => match v with
  | .ref k => match μ'[k]? with
    | some (.ins C' fs) => match dataF fs with
      | some ds => if k = μ.length ∧ trimmable μ.length (.d .non) μ' = true then .ok (.d (.obj C' ds)) (μ'.take μ.length) else .bad
      | none => .bad
    | _ => .bad
  | _ => .bad
section
variable {X : Cx} {W : WX} {k j n : Nat} {x : Str} {C : Addr} {F : MF} {p pos : Pos} {e : Expr} {es : List Expr} {ms : MA}
theorem make_step {K : PySem.W.Frag} {Z ι : List Addr} {μ : List MO} {H : Hp} {σ : St} {as : List MV} {vs : List V} {Q : VK} (s : Sta K Z ι μ H) (r : RMs K (mask H Z) ι as vs) (o : Out K W σ Z ι H (mkO C F n as μ) (Val K Q)) :
    ∀ x dx, H x = none → H dx = none → dx ≠ x → spF K n F (.ref x :: vs) (upd (upd H dx (.own x)) x (.ins C dx [])) (fun v H2 => v = .non ∧ Q (.ref x) H2) (WE W σ) := fun x dx hx hd ne => by
  obtain ⟨s1, x1⟩ := sta_made (C := C) s hx hd ne
  unfold mkO at o
  split at o
  · rename_i hl
    refine call_frame (W := W) (as := .ref μ.length :: as) s1 (.cons (.ref (by rw [← s.len, List.getElem?_concat_length])) (r.mono x1.same x1.i)) (by rw [List.length_cons, ← r.len]; exact hl) ?_
    cases q : callF F (.ref μ.length :: as) (μ ++ [.ins C []]) with
    | ok v μ' =>
      rw [q] at o
      intro Z2 ι2 H2 x2 s2 w rw'
      cases rw' with
      | ref rw' => exact o.elim
      | d rw' => cases rw' with
        | non => exact ⟨rfl, o Z2 ι2 H2 (x1.trans x2) s2 _ (.ref (x2.i _ _ (by rw [← s.len, List.getElem?_concat_length])))⟩
        | _ => exact o.elim
    | exc C' fs μ' =>
      rw [q] at o
      intro Z2 ι2 H2 d fs' x2 s2 hd2 nd2 dr
      simp only at o
      split at o
      · rename_i t
        obtain ⟨s3, x3, _⟩ := Sta.cut (x1.trans x2) s2 s.len t
        exact o Z2 ι H2 d fs' x3 s3 hd2 nd2 dr
      · exact o Z2 ι2 H2 d fs' (x1.trans x2) s2 hd2 nd2 dr
    | bad => rw [q] at o; exact o.elim
  · exact o.elim
def mMkO (C : Addr) (F : MF) (n : Nat) (ms : MA) : ME := fun ρ μ => (ms ρ μ).bind (mkO C F n)
def mMkF (C : Addr) (F : MF) (n : Nat) (ms : MA) : ME := fun ρ μ => (ms ρ μ).bind (mkF C F n)
theorem run_mk {f : Addr} {pins : List (Addr × Obj)} {σ : St} {H : Hp} {s : Shared} {Q : VK} {us : List Value} {vs : List V} (M : Mk X.K C f) (G : FnG X.prog X.w X.K X.mg X.base (L2.CX X.prog X.w) k f (spF X.K n F)) (tk : Takes X W) (hg : X.A.guards = some []) (hr : Room (k + 1) X.A)
    (I : Inv X pins σ H s) (r : Vals vs us) (h : ∀ x dx, H x = none → H dx = none → dx ≠ x → spF X.K n F (.ref x :: vs) (upd (upd H dx (.own x)) x (.ins C dx [])) (fun v H2 => v = .non ∧ Q (.ref x) H2) (WE W σ)) :
    wpAny (model X.prog X.w) X.A (call (.ref C) us) (EP X pins σ Q) X.xe s := by
  have hq := h (s.heap.objs.size + 1) s.heap.objs.size (I.hok.fresh (Nat.le_succ _)) (I.hok.fresh (Nat.le_refl _)) (Nat.ne_of_lt (Nat.lt_succ_self _))
  have J := Inv.made (C := C) I
  refine wpAny_call (make_map (f := f) I.kIn M.makes M.init (beq_iff_eq.mp M.fn) (codeAny_mono (G _ X.stack _ _ (Value.ref (s.heap.objs.size + 1) :: us) (V.ref (s.heap.objs.size + 1) :: vs) _ _ (hr.make C us []) hg (J.env0.make C us []) (.cons rfl r) hq) fun z t hz => ?_))
  cases z with
  | error u => exact passAt tk σ pins _ _ u t J hz
  | ok fl => cases fl with
    | ret u =>
      obtain ⟨v, G', J2, rv, ev, q3⟩ := J.after hz
      subst ev
      exact ⟨rv, ⟨V.ref (s.heap.objs.size + 1), G', J2, rfl, q3⟩⟩
    | _ => exact hz.elim
theorem fe_mkX {kk : List MV → List MO → Res MV} (hkk : ∀ {K : PySem.W.Frag} {Z ι : List Addr} {μ : List MO} {H : Hp} {σ : St} {as : List MV} {Q : VK}, Sta K Z ι μ H → Out K W σ Z ι H (kk as μ) (Val K Q) → Out K W σ Z ι H (mkO C F n as μ) (Val K Q)) (c : Mak' X.prog X.w X.K X.mg X.base k x C n F) (tk : Takes X W) (hg : X.A.guards = some []) (hr : Room j X.A) (ha : FA X W (e :: es) ms) (hk : k + 1 ≤ j := by decide) (hgl : Gl X x := by rfl)
    (hdb : (x == ("__debug__" : Str)) = false := by decide) (he : starEach (e :: es) X.env = (false, eval e X.env) :: starEach es X.env := by rfl) (hpl : (backTo pos (starEach es X.env)).any (·.1) = false := by rfl) :
    FE X W (.Call (.Name x p) (e :: es) [] pos) (fun ρ μ => (ms ρ μ).bind kk) := by
  obtain ⟨f, M, G⟩ := c.ex
  refine pe_imp (t := fun σ H Q => tMA X.K W ms σ H fun vs H1 => ∀ x dx, H1 x = none → H1 dx = none → dx ≠ x → spF X.K n F (.ref x :: vs) (upd (upd H1 dx (.own x)) x (.ins C dx [])) (fun v H2 => v = .non ∧ Q (.ref x) H2) (WE W σ)) ⟨?_⟩ ?_
  · intro pins s σ H Q I h
    refine PySem.wpAny_Call_Name_kw (ld_glob I hgl c.g ?_ hdb)
    refine PySem.W.callWith_K (h₀ := X.base) I.ok.mod.kin M.kp (thn (ha.run pos pins s σ H _ I h) fun us s1 hh => ?_) he hpl
    obtain ⟨vs, H1, I1, r, q⟩ := hh
    exact ⟨I1.kIn, run_mk M G tk hg (hr.mono hk) I1 r q⟩
  · rintro σ H Q ⟨Z, ι, ρ, μ, R, o⟩
    exact tMA_bind R o fun v μ' Z' ι' H' xs x1 R1 r1 o1 => make_step R1.sta r1 (hkk R1.sta o1)
theorem fe_mkX0 {kk : List MV → List MO → Res MV} (hkk : ∀ {K : PySem.W.Frag} {Z ι : List Addr} {μ : List MO} {H : Hp} {σ : St} {as : List MV} {Q : VK}, Sta K Z ι μ H → Out K W σ Z ι H (kk as μ) (Val K Q) → Out K W σ Z ι H (mkO C F 1 as μ) (Val K Q)) (c : Mak' X.prog X.w X.K X.mg X.base k x C 1 F) (tk : Takes X W) (hg : X.A.guards = some []) (hr : Room j X.A) (hk : k + 1 ≤ j := by decide) (hgl : Gl X x := by rfl)
    (hdb : (x == ("__debug__" : Str)) = false := by decide) : FE X W (.Call (.Name x p) [] [] pos) (fun ρ μ => (mNil ρ μ).bind kk) := by
  obtain ⟨f, M, G⟩ := c.ex
  refine ⟨fun pins s σ H Q I h => ?_⟩
  refine PySem.wpAny_Call_Name_kw (ld_glob I hgl c.g ?_ hdb)
  obtain ⟨Z, ι, ρ, μ, R, o⟩ := h
  exact PySem.W.callWith_K0 I.kIn M.kp (run_mk (us := []) M G tk hg (hr.mono hk) I .nil (make_step R.sta .nil (hkk R.sta o)))
/-- the new instance as data -/
theorem mkF_ok {K : PySem.W.Frag} {Z ι : List Addr} {μ : List MO} {H : Hp} {σ : St} {as : List MV} {Q : VK} (s : Sta K Z ι μ H) (o : Out K W σ Z ι H (mkF C F n as μ) (Val K Q)) : Out K W σ Z ι H (mkO C F n as μ) (Val K Q) := by
  unfold mkF at o
  cases q : mkO C F n as μ with
  | exc C' fs μ' => rw [q] at o; exact o
  | bad => rw [q] at o; exact o
  | ok v μ' =>
    rw [q] at o
    simp only [Res.bind_ok] at o
    intro Z2 ι2 H2 x2 s2 w rw'
    split at o
    · rename_i k
      split at o
      · rename_i C' fs hx
        split at o
        · rename_i ds hd
          split at o
          · rename_i hh
            obtain ⟨rfl, t⟩ := hh
            cases rw' with | ref rk =>
              obtain ⟨ho, h1, h2⟩ := s2.obj _ _ _ rk hx
              cases h2 with | ins r =>
                have dr := dataF_ok r hd
                obtain ⟨s3, x3⟩ := Sta.drop (d := .non) x2 s2 s.trk s.len (Nat.le_refl _) rk t
                refine o _ ι H2 x3 s3 _ (.d (.obj (mask_in (fun z => ?_) h1) (dr.mono (mask_less fun b hb => (List.mem_filter.mp hb).1) _ _)))
                exact of_decide_eq_true (List.mem_filter.mp z).2 rfl
          · exact o.elim
        · exact o.elim
      · exact o.elim
    · exact o.elim
theorem fe_mkO (c : Mak' X.prog X.w X.K X.mg X.base k x C n F) (tk : Takes X W) (hg : X.A.guards = some []) (hr : Room j X.A) (ha : FA X W (e :: es) ms) (hk : k + 1 ≤ j := by decide) (hgl : Gl X x := by rfl)
    (hdb : (x == ("__debug__" : Str)) = false := by decide) (he : starEach (e :: es) X.env = (false, eval e X.env) :: starEach es X.env := by rfl) (hpl : (backTo pos (starEach es X.env)).any (·.1) = false := by rfl) :
    FE X W (.Call (.Name x p) (e :: es) [] pos) (mMkO C F n ms) := fe_mkX (fun _ o => o) c tk hg hr ha hk hgl hdb he hpl
theorem fe_mkF (c : Mak' X.prog X.w X.K X.mg X.base k x C n F) (tk : Takes X W) (hg : X.A.guards = some []) (hr : Room j X.A) (ha : FA X W (e :: es) ms) (hk : k + 1 ≤ j := by decide) (hgl : Gl X x := by rfl)
    (hdb : (x == ("__debug__" : Str)) = false := by decide) (he : starEach (e :: es) X.env = (false, eval e X.env) :: starEach es X.env := by rfl) (hpl : (backTo pos (starEach es X.env)).any (·.1) = false := by rfl) :
    FE X W (.Call (.Name x p) (e :: es) [] pos) (mMkF C F n ms) := fe_mkX (fun s o => mkF_ok s o) c tk hg hr ha hk hgl hdb he hpl
theorem fe_mkO0 (c : Mak' X.prog X.w X.K X.mg X.base k x C 1 F) (tk : Takes X W) (hg : X.A.guards = some []) (hr : Room j X.A) (hk : k + 1 ≤ j := by decide) (hgl : Gl X x := by rfl)
    (hdb : (x == ("__debug__" : Str)) = false := by decide) : FE X W (.Call (.Name x p) [] [] pos) (mMkO C F 1 mNil) := fe_mkX0 (fun _ o => o) c tk hg hr hk hgl hdb
theorem fe_mkF0 (c : Mak' X.prog X.w X.K X.mg X.base k x C 1 F) (tk : Takes X W) (hg : X.A.guards = some []) (hr : Room j X.A) (hk : k + 1 ≤ j := by decide) (hgl : Gl X x := by rfl)
    (hdb : (x == ("__debug__" : Str)) = false := by decide) : FE X W (.Call (.Name x p) [] [] pos) (mMkF C F 1 mNil) := fe_mkX0 (fun s o => mkF_ok s o) c tk hg hr hk hgl hdb
end
/-! methods -/
section
variable {P : Program} {w : World} {K : PySem.W.Frag} {mg : Str → Option Value} {base : Heap}
/-- a def of a class's body, from its body -/
theorem Mdef.mini {x qual : Str} {st : Stmt} {N ps : List Str} {k n : Nat} {f : Addr} {fz : Bool} {m : MS} (D : Mdef K x qual st ps f) (S : FnScope N ps (defScope st)) (hn : ps.length = n)
    (body : ∀ (cdv : Value) (A : Around) (outer : List Env) (s : Shared) (H : Hp) (E : XK), (A.deeper (PyProof.Rows.envOfC qual (defScope st) s.heap.objs.size f cdv)).guards = some [] →
      Room k (A.deeper (PyProof.Rows.envOfC qual (defScope st) s.heap.objs.size f cdv)) →
      FSs (cxOf (L2.CX P w) P w K mg base N qual (defScope st) f cdv A outer s H E) (fun c d _ H' => E c d H') (defBody st) m) : FnG P w K mg base (L2.CX P w) (k + 1) f (spF K n (fnT fz N.length m)) := by
  obtain ⟨fd, F, b⟩ := D.ex
  exact fn_g F b S (fun vs H Q E h => h.1.trans hn.symm) fun cdv A outer s H vs Q E hg hr h => ⟨_, body cdv A outer s H E hg hr, bodyT_ok h⟩
end
/-- the method m of the class at C keeps F -/
structure Met (P : Program) (w : World) (K : PySem.W.Frag) (mg : Str → Option Value) (base : Heap) (k : Nat) (C : Addr) (m : Str) (n : Nat) (F : MF) : Prop where
  c : Cls K C
  ex : ∃ f, Meth K C m f ∧ FnG P w K mg base (L2.CX P w) k f (spF K n F)
/-- an instance of C without an own attribute m -/
def isIns (C : Addr) (m : Str) (v : MV) (μ : List MO) : Bool := match v with
  | .d (.obj C' fs) => decide (C' = C) && (fs.lookup m).isNone
  | .ref n => match μ[n]? with
    | some (.ins C' fs) => decide (C' = C) && (fs.lookup m).isNone
    | _ => false
  | _ => false
theorem isIns_ok {K : PySem.W.Frag} {Z ι : List Addr} {μ : List MO} {H : Hp} {C : Addr} {m : Str} {v : MV} {x : V} (s : Sta K Z ι μ H) (r : RM K (mask H Z) ι v x) (h : isIns C m v μ = true) : ∃ a dx fs, x = .ref a ∧ H a = some (.ins C dx fs) ∧ fs.lookup m = none := by
  unfold isIns at h
  split at h
  · simp only [Bool.and_eq_true, decide_eq_true_eq, Option.isNone_iff_eq_none] at h
    cases r with | d r => cases r with | obj q r => exact ⟨_, _, _, rfl, by rw [← h.1]; exact mask_same _ _ _ _ q, r.keys _ h.2⟩
  · split at h
    · rename_i C' fs hx
      simp only [Bool.and_eq_true, decide_eq_true_eq, Option.isNone_iff_eq_none] at h
      cases r with | ref r =>
        obtain ⟨ho, h1, h2⟩ := s.obj _ _ _ r hx
        cases h2 with | ins r2 => exact ⟨_, _, _, rfl, by rw [← h.1]; exact h1, r2.keys.2 _ h.2⟩
    · cases h
  · cases h
def mMeth (C : Addr) (m : Str) (F : MF) (n : Nat) (mo : ME) (ms : MA) : ME := fun ρ μ => (mo ρ μ).bind fun v μ1 => if isIns C m v μ1 = true then (ms ρ μ1).bind fun as μ2 => if as.length + 1 = n then callF F (v :: as) μ2 else .bad else .bad
section
variable {X : Cx} {W : WX} {k j n : Nat} {m : Str} {C : Addr} {F : MF} {apos pos : Pos} {o e : Expr} {es : List Expr} {mo : ME} {ms : MA}
theorem run_fg {f : Addr} {sp : Sp} {pins : List (Addr × Obj)} {σ : St} {H : Hp} {s : Shared} {Q : VK} {us : List Value} {vs : List V} (G : FnG X.prog X.w X.K X.mg X.base (L2.CX X.prog X.w) k f sp) (tk : Takes X W) (hg : X.A.guards = some []) (hr : Room k X.A)
    (I : Inv X pins σ H s) (r : Vals vs us) (h : sp vs H Q (WE W σ)) : wpAny (model X.prog X.w) X.A (call (.ref f) us) (EP X pins σ Q) X.xe s := by
  refine wpAny_call (codeAny_mono (G X.A X.stack s H us vs Q (WE W σ) hr hg I.env0 r h) fun z t hz => ?_)
  cases z with
  | error u => exact passAt tk σ pins H s u t I hz
  | ok fl => cases fl with
    | ret u => exact I.after hz
    | _ => exact hz.elim
theorem fe_meth {pl : Sem Bool} (c : Met X.prog X.w X.K X.mg X.base k C m n F) (tk : Takes X W) (hg : X.A.guards = some []) (hr : Room j X.A) (he : FE X W o mo) (ha : FA X W (e :: es) ms) (hk : k ≤ j := by decide)
    (hst : starEach (e :: es) X.env = (false, eval e X.env) :: starEach es X.env := by rfl) (hpl : (backTo pos (starEach es X.env)).any (·.1) = false := by rfl)
    (ht : eval (.Call (.Attribute o m apos) (e :: es) [] pos) X.env = (do
      let ov ← eval o X.env
      standAt apos.atName
      let (f, first) ← holding [ov] (getMethod ov m pl)
      callWith pos f first (backTo pos (starEach (e :: es) X.env)) (backToKw pos (keywordEach [] X.env))) := by rfl) :
    FE X W (.Call (.Attribute o m apos) (e :: es) [] pos) (mMeth C m F n mo ms) := by
  obtain ⟨f, hm, G⟩ := c.ex
  refine pe_imp (t := fun σ H Q => tM X.K W mo σ H fun x H1 => ∃ a dx fs, x = .ref a ∧ H1 a = some (.ins C dx fs) ∧ fs.lookup m = none ∧ tMA X.K W ms σ H1 fun vs H2 => spF X.K n F (x :: vs) H2 Q (WE W σ)) ⟨?_⟩ ?_
  · intro pins s σ H Q I h
    refine PySem.W.methodCall_KW (pl := pl) (thn (he.run pins s σ H _ I h) fun u s1 ⟨x, H1, I1, rx, a, dx, fs, ex, ea, l, q⟩ => ?_) ht
    subst ex
    obtain rfl : u = Value.ref a := rx
    refine getmeth_ok I1 ea c.c hm l ?_
    refine PySem.W.callWith_K (first := [.ref a]) (h₀ := X.base) I.ok.mod.kin hm.kp (thn (ha.run pos pins s1 σ H1 _ I1 q) fun us s2 ⟨vs, H2, I2, r, q2⟩ => ⟨I2.kIn, ?_⟩) hst hpl
    exact run_fg (us := .ref a :: us) (vs := .ref a :: vs) G tk hg (hr.mono hk) I2 (.cons rfl r) q2
  · rintro σ H Q ⟨Z, ι, ρ, μ, R, o⟩
    refine tM_bind R o fun v μ1 Z1 ι1 H1 x x1 R1 r1 o1 => ?_
    split at o1
    · rename_i hi
      obtain ⟨a, dx, fs, e1, e2, e3⟩ := isIns_ok R1.sta r1 hi
      refine ⟨a, dx, fs, e1, e2, e3, tMA_bind R1 o1 fun vs μ2 Z2 ι2 H2 xs x2 R2 r2 o2 => ?_⟩
      split at o2
      · rename_i hl; exact call_frame R2.sta (.cons (r1.mono x2.same x2.i) r2) (by rw [List.length_cons, ← r2.len]; exact hl) o2
      · exact o2.elim
    · exact o1.elim
theorem fe_meth0 {pl : Sem Bool} (c : Met X.prog X.w X.K X.mg X.base k C m 1 F) (tk : Takes X W) (hg : X.A.guards = some []) (hr : Room j X.A) (he : FE X W o mo) (hk : k ≤ j := by decide)
    (ht : eval (.Call (.Attribute o m apos) [] [] pos) X.env = (do
      let ov ← eval o X.env
      standAt apos.atName
      let (f, first) ← holding [ov] (getMethod ov m pl)
      callWith pos f first (backTo pos (starEach [] X.env)) (backToKw pos (keywordEach [] X.env))) := by rfl) :
    FE X W (.Call (.Attribute o m apos) [] [] pos) (mMeth C m F 1 mo mNil) := by
  obtain ⟨f, hm, G⟩ := c.ex
  refine pe_imp (t := fun σ H Q => tM X.K W mo σ H fun x H1 => ∃ a dx fs, x = .ref a ∧ H1 a = some (.ins C dx fs) ∧ fs.lookup m = none ∧ spF X.K 1 F [x] H1 Q (WE W σ)) ⟨?_⟩ ?_
  · intro pins s σ H Q I h
    refine PySem.W.methodCall_KW (pl := pl) (thn (he.run pins s σ H _ I h) fun u s1 ⟨x, H1, I1, rx, a, dx, fs, ex, ea, l, q⟩ => ?_) ht
    subst ex
    obtain rfl : u = Value.ref a := rx
    refine getmeth_ok I1 ea c.c hm l ?_
    exact PySem.W.callWith_K0 (first := [.ref a]) I1.kIn hm.kp (run_fg (us := [.ref a]) (vs := [.ref a]) G tk hg (hr.mono hk) I1 (.cons rfl .nil) q)
  · rintro σ H Q ⟨Z, ι, ρ, μ, R, o⟩
    refine tM_bind R o fun v μ1 Z1 ι1 H1 x x1 R1 r1 o1 => ?_
    split at o1
    · rename_i hi
      obtain ⟨a, dx, fs, e1, e2, e3⟩ := isIns_ok R1.sta r1 hi
      exact ⟨a, dx, fs, e1, e2, e3, call_frame R1.sta (.cons r1 .nil) rfl o1⟩
    · exact o1.elim
end
end TT

namespace TT
open PySem L2
variable [TB]
section
variable {X : Cx} {W : WX} {k j n : Nat} {C : Addr} {F : MF} {a b e : Expr} {pos p : Pos} {ma mb : ME}
/-- a def run in some surroundings -/
theorem run_fa {A' : Around} {f : Addr} {sp : Sp} {pins : List (Addr × Obj)} {σ : St} {H : Hp} {s : Shared} {Q : VK} {us : List Value} {vs : List V} (G : FnG X.prog X.w X.K X.mg X.base (L2.CX X.prog X.w) k f sp) (tk : Takes X W) (hg : A'.guards = some []) (hr : Room k A')
    (en : Env0 X.prog X.w X.K X.mg X.base A' X.stack s H) (I : Inv X pins σ H s) (r : Vals vs us) (h : sp vs H Q (WE W σ)) : wpAny (model X.prog X.w) A' (call (.ref f) us) (EP X pins σ Q) X.xe s := by
  refine wpAny_call (codeAny_mono (G A' X.stack s H us vs Q (WE W σ) hr hg en r h) fun z t hz => ?_)
  cases z with
  | error u => exact passAt tk σ pins H s u t I hz
  | ok fl => cases fl with
    | ret u => exact I.after hz
    | _ => exact hz.elim
/-- a special method of the class at C: found at f, keeping F -/
structure Spc (P : Program) (w : World) (K : PySem.W.Frag) (mg : Str → Option Value) (base : Heap) (k : Nat) (C : Addr) (m : Str) (n : Nat) (F : MF) : Prop where
  ex : ∃ f, PySem.W.findIn K (.ref C) m = some (some (.ref f)) ∧ PySem.W.isFn K (.ref f) = true ∧ PySem.W.fnIn K f = true ∧ FnG P w K mg base (L2.CX P w) k f (spF K n F)
def isInsC (C : Addr) (v : MV) (μ : List MO) : Bool := match v with
  | .d (.obj C' _) => decide (C' = C)
  | .ref n => match μ[n]? with
    | some (.ins C' _) => decide (C' = C)
    | _ => false
  | _ => false
theorem isInsC_ok {K : PySem.W.Frag} {Z ι : List Addr} {μ : List MO} {H : Hp} {C : Addr} {v : MV} {x : V} (s : Sta K Z ι μ H) (r : RM K (mask H Z) ι v x) (h : isInsC C v μ = true) : ∃ a dx fs, x = .ref a ∧ H a = some (.ins C dx fs) := by
  unfold isInsC at h
  split at h
  · simp only [decide_eq_true_eq] at h
    cases r with | d r => cases r with | obj q r => exact ⟨_, _, _, rfl, by rw [← h]; exact mask_same _ _ _ _ q⟩
  · split at h
    · rename_i C' fs hx
      simp only [decide_eq_true_eq] at h
      cases r with | ref r =>
        obtain ⟨ho, h1, h2⟩ := s.obj _ _ _ r hx
        cases h2 with | ins r2 => exact ⟨_, _, _, rfl, by rw [← h]; exact h1⟩
    · cases h
  · cases h
/-- len(o) -/
def mOLen (C : Addr) (F : MF) (ms : MA) : ME := fun ρ μ => (ms ρ μ).bind fun as μ1 => match as with
  | [v] => if isInsC C v μ1 = true then (callF F [v] μ1).bind fun r μ2 => match r with
    | .d (.int n) => if 0 ≤ n ∧ n < 2 ^ 63 then .ok (.d (.int n)) μ2 else .bad
    | _ => .bad else .bad
  | _ => .bad
theorem out_then {K : PySem.W.Frag} {σ : St} {Z ι : List Addr} {H : Hp} {r : Res MV} {g : MV → List MO → Res MV} {Q Q' : VK} (o : Out K W σ Z ι H (r.bind g) (Val K Q)) (h : ∀ v μ' Z' ι' H' x, Sta K Z' ι' μ' H' → RM K (mask H' Z') ι' v x → Out K W σ Z' ι' H' (g v μ') (Val K Q) → Q' x H') : Out K W σ Z ι H r (Val K Q') := by
  cases r with
  | ok v μ' => exact fun Z2 ι2 H2 x2 s2 x rx => h v μ' Z2 ι2 H2 x s2 rx (Out.base o x2)
  | exc C fs μ' => exact o
  | bad => exact o
theorem fe_olen (c : Spc X.prog X.w X.K X.mg X.base k C "__len__" 1 F) (tk : Takes X W) (hg : X.A.guards = some []) (hr : Room j X.A) (hm : X.mg "len" = none) {ms : MA} (ha : FA X W [e] ms) (hk : k + 1 ≤ j := by decide) (hgl : Gl X "len" := by rfl)
    (he : starEach [e] X.env = (false, eval e X.env) :: starEach [] X.env := by rfl) (hpl : (backTo pos (starEach [] X.env)).any (·.1) = false := by rfl) : FE X W (.Call (.Name "len" p) [e] [] pos) (mOLen C F ms) := by
  obtain ⟨f, h1, h2, h3, G⟩ := c.ex
  refine pe_imp (t := fun σ H Q => tMA X.K W ms σ H fun vs H1 => ∃ a dx fs, vs = [.ref a] ∧ H1 a = some (.ins C dx fs) ∧ spF X.K 1 F [.ref a] H1 (fun z H2 => ∃ n, z = .int n ∧ (0 ≤ n ∧ n < 2 ^ 63) ∧ Q (.int n) H2) (WE W σ)) ⟨?_⟩ ?_
  · intro pins s σ H Q I h
    refine PySem.wpAny_Call_Name_kw (ld_blt I hgl hm PySem.boot_len ?_)
    refine PyProof.Rows.callWith_builtin1 (thn (ha.run pos pins s σ H _ I h) fun us s1 hh => ?_) he hpl
    obtain ⟨vs, H1, I1, r1, a, dx, fs, rfl, ea, q⟩ := hh
    obtain ⟨u, rfl, ru⟩ := vals1 r1
    cases (show u = Value.ref a from ru)
    obtain ⟨mA, O, _⟩ := ins_get I1.hok ea
    obtain ⟨od, J, _⟩ := O.look
    obtain ⟨m, hF⟩ := I1.fr
    refine PySem.W.len_K hF I1.ok.mod.kin J h1 h2 (thn (run_fa (us := [.ref a]) (vs := [.ref a]) G tk hg (show Room k X.A.in1 from Room.in1 (hr.mono hk)) I1.env0.in1 I1 (.cons rfl .nil) q) fun z s2 hz => ?_)
    obtain ⟨v, H2, I2, rv, n, rfl, hb, q2⟩ := hz
    obtain ⟨t, rfl⟩ := rv
    exact ⟨hb, .int n, H2, I2.tok _, ⟨_, rfl⟩, q2⟩
  · rintro σ H Q ⟨Z, ι, ρ, μ, R, o⟩
    refine tMA_bind R o fun v μ' Z' ι' H' xs x1 R1 r1 o1 => ?_
    cases r1 with
    | nil => exact o1.elim
    | cons r1 rr => cases rr with
      | cons _ _ => exact o1.elim
      | nil =>
        simp only at o1
        split at o1
        · rename_i hi
          obtain ⟨a, dx, fs, rfl, e2⟩ := isInsC_ok R1.sta r1 hi
          refine ⟨a, dx, fs, rfl, e2, call_frame R1.sta (.cons r1 .nil) rfl (out_then o1 fun v μ2 Z2 ι2 H2 x s2 rx o2 => ?_)⟩
          split at o2
          · rename_i n
            split at o2
            · rename_i hb
              cases rx with | d rx => cases rx with | int => exact ⟨n, rfl, hb, Out.ret s2 o2 (.d (.int n))⟩
            · exact o2.elim
          · exact o2.elim
        · exact o1.elim
/-- a in o, a not in o -/
def mOIn (neg : Bool) (C : Addr) (F : MF) (ma mb : ME) : ME := fun ρ μ => (ma ρ μ).bind fun x μ1 => (mb ρ μ1).bind fun v μ2 => if isInsC C v μ2 = true then (callF F [v, x] μ2).bind fun r μ3 => match r with
  | .d (.bl c) => .ok (.d (.bl (if neg then !c else c))) μ3
  | _ => .bad else .bad
def tOIn (neg : Bool) (K : PySem.W.Frag) (W : WX) (C : Addr) (F : MF) (ma mb : ME) : TE := fun σ H Q => tM K W ma σ H fun x H1 => tM K W mb σ H1 fun y H2 => ∃ a dx fs, y = .ref a ∧ H2 a = some (.ins C dx fs) ∧ spF K 2 F [y, x] H2 (fun z H3 => ∃ c, z = .bl c ∧ Q (.bl (if neg then !c else c)) H3) (WE W σ)
theorem oin_read {neg : Bool} {K : PySem.W.Frag} {σ : St} {H : Hp} {Q : VK} (h : tM K W (mOIn neg C F ma mb) σ H Q) : tOIn neg K W C F ma mb σ H Q := by
  obtain ⟨Z, ι, ρ, μ, R, o⟩ := h
  refine tM_bind R o fun v μ1 Z1 ι1 H1 x x1 R1 r1 o1 => tM_bind R1 o1 fun w μ2 Z2 ι2 H2 y x2 R2 r2 o2 => ?_
  split at o2
  · rename_i hi
    obtain ⟨a, dx, fs, rfl, e2⟩ := isInsC_ok R2.sta r2 hi
    refine ⟨a, dx, fs, rfl, e2, call_frame R2.sta (.cons r2 (.cons (r1.mono x2.same x2.i) .nil)) rfl (out_then o2 fun v μ3 Z3 ι3 H3 z s3 rz o3 => ?_)⟩
    split at o3
    · rename_i c
      cases rz with | d rz => cases rz with | bl => exact ⟨c, rfl, Out.ret s3 o3 (.d (.bl _))⟩
    · exact o3.elim
  · exact o2.elim
theorem oin_run {neg : Bool} {op : CmpOp} (hop : op = if neg then .NotIn else .In) (c : Spc X.prog X.w X.K X.mg X.base k C "__contains__" 2 F) (tk : Takes X W) (hg : X.A.guards = some []) (hr : Room j X.A) (hk : k ≤ j) (ha : FE X W a ma) (hb : FE X W b mb) :
    ∀ (pins : List (Addr × Obj)) (s : Shared) (σ : St) (H : Hp) (Q : VK), Inv X pins σ H s → tOIn neg X.K W C F ma mb σ H Q →
      wpAny (model X.prog X.w) X.A (eval a X.env) (fun v s1 => wpAny (model X.prog X.w) X.A (eval b X.env) (fun u s2 => wpAny (model X.prog X.w) X.A (compareOp op v u) (EP X pins σ Q) X.xe s2) X.xe s1) X.xe s := by
  intro pins s σ H Q I h
  obtain ⟨f, h1, h2, h3, G⟩ := c.ex
  refine bin ha hb I h fun v u s2 x y H2 I2 rx ry q => ?_
  obtain ⟨a', dx, fs, rfl, ea, q⟩ := q
  cases (show u = Value.ref a' from ry)
  obtain ⟨mA, O, _⟩ := ins_get I2.hok ea
  obtain ⟨od, J, _⟩ := O.look
  obtain ⟨m, hF⟩ := I2.fr
  have run := run_fa (us := [.ref a', v]) (vs := [.ref a', x]) G tk hg (hr.mono hk) I2.env0 I2 (.cons rfl (.cons rx .nil)) q
  subst hop
  cases neg with
  | true =>
    refine PySem.W.notIn_K hF I2.ok.mod.kin J h1 h2 (thn run fun z s3 hz => ?_)
    obtain ⟨z', H3, I3, rz, c', rfl, q3⟩ := hz
    cases (show z = Value.bool c' from rz)
    exact wpAny_truthy_bool ⟨.bl _, H3, I3, rfl, q3⟩
  | false =>
    refine PySem.W.in_K hF I2.ok.mod.kin J h1 h2 (thn run fun z s3 hz => ?_)
    obtain ⟨z', H3, I3, rz, c', rfl, q3⟩ := hz
    cases (show z = Value.bool c' from rz)
    exact wpAny_truthy_bool ⟨.bl _, H3, I3, rfl, q3⟩
theorem fe_oin (c : Spc X.prog X.w X.K X.mg X.base k C "__contains__" 2 F) (tk : Takes X W) (hg : X.A.guards = some []) (hr : Room j X.A) (ha : FE X W a ma) (hb : FE X W b mb) (hk : k ≤ j := by decide) (hm : behindInMarks .In b = false := by rfl) : FE X W (.Compare a [.In] [b] pos) (mOIn false C F ma mb) :=
  ⟨fun pins s σ H Q I h => wpAny_Compare1 (oin_run (neg := false) rfl c tk hg hr hk ha hb pins s σ H Q I (oin_read h)) hm⟩
theorem fe_onotin (c : Spc X.prog X.w X.K X.mg X.base k C "__contains__" 2 F) (tk : Takes X W) (hg : X.A.guards = some []) (hr : Room j X.A) (ha : FE X W a ma) (hb : FE X W b mb) (hk : k ≤ j := by decide) (hm : behindInMarks .NotIn b = false := by rfl) : FE X W (.Compare a [.NotIn] [b] pos) (mOIn true C F ma mb) :=
  ⟨fun pins s σ H Q I h => wpAny_Compare1 (oin_run (neg := true) rfl c tk hg hr hk ha hb pins s σ H Q I (oin_read h)) hm⟩
/-- a test by a comparison of any kind -/
theorem ft_pc {op : CmpOp} {t : TE} {m : ME} (h : ∀ (pins : List (Addr × Obj)) (s : Shared) (σ : St) (H : Hp) (Q : VK), Inv X pins σ H s → t σ H Q → wpAny (model X.prog X.w) X.A (eval a X.env) (fun v s1 => wpAny (model X.prog X.w) X.A (eval b X.env) (fun u s2 => wpAny (model X.prog X.w) X.A (compareOp op v u) (EP X pins σ Q) X.xe s2) X.xe s1) X.xe s)
    (hi : ∀ σ H Q, tM X.K W m σ H Q → t σ H Q) (hm : behindInMarks op b = false := by rfl) : FT X W (.Compare a [op] [b] pos) (mB m) := by
  refine pt_imp (pt_cmp ⟨h⟩ hm) fun σ H Q ⟨Z, ι, ρ, μ, R, o⟩ => hi σ H _ ⟨Z, ι, ρ, μ, R, ?_⟩
  unfold mB at o
  cases q : m ρ μ with
  | exc C fs μ' => rw [q] at o; exact o
  | bad => rw [q] at o; exact o
  | ok v μ' => rw [q] at o; exact fun Z1 ι1 H1 x1 s1 x rx => bool_rule s1 rx (Out.base o x1)
theorem ft_oin (c : Spc X.prog X.w X.K X.mg X.base k C "__contains__" 2 F) (tk : Takes X W) (hg : X.A.guards = some []) (hr : Room j X.A) (ha : FE X W a ma) (hb : FE X W b mb) (hk : k ≤ j := by decide) (hm : behindInMarks .In b = false := by rfl) : FT X W (.Compare a [.In] [b] pos) (mB (mOIn false C F ma mb)) :=
  ft_pc (oin_run (neg := false) rfl c tk hg hr hk ha hb) (fun _ _ _ h => oin_read h) hm
theorem ft_onotin (c : Spc X.prog X.w X.K X.mg X.base k C "__contains__" 2 F) (tk : Takes X W) (hg : X.A.guards = some []) (hr : Room j X.A) (ha : FE X W a ma) (hb : FE X W b mb) (hk : k ≤ j := by decide) (hm : behindInMarks .NotIn b = false := by rfl) : FT X W (.Compare a [.NotIn] [b] pos) (mB (mOIn true C F ma mb)) :=
  ft_pc (oin_run (neg := true) rfl c tk hg hr hk ha hb) (fun _ _ _ h => oin_read h) hm
/-- o[i] -/
def mOIx (C : Addr) (F : MF) (ma mb : ME) : ME := fun ρ μ => (ma ρ μ).bind fun v μ1 => (mb ρ μ1).bind fun i μ2 => if isInsC C v μ2 = true then callF F [v, i] μ2 else .bad
theorem fe_oix (c : Spc X.prog X.w X.K X.mg X.base k C "__getitem__" 2 F) (tk : Takes X W) (hg : X.A.guards = some []) (hr : Room j X.A) (ha : FE X W a ma) (hb : FE X W b mb) (hk : k + 1 ≤ j := by decide)
    (hsl : ∀ v i, subscripted b true v i = runValue (.builtin "lifetime.subscript" ⟨[v, i], []⟩) := by intro _ _; with_unfolding_all rfl) : FE X W (.Subscript a b pos) (mOIx C F ma mb) := by
  obtain ⟨f, h1, h2, h3, G⟩ := c.ex
  refine pe_imp (t := fun σ H Q => tM X.K W ma σ H fun x H1 => tM X.K W mb σ H1 fun y H2 => ∃ a' dx fs, x = .ref a' ∧ H2 a' = some (.ins C dx fs) ∧ spF X.K 2 F [x, y] H2 Q (WE W σ)) ⟨?_⟩ ?_
  · intro pins s σ H Q I h
    refine PyProof.Rows.Subscript_ (binT ha hb I h fun v u s2 x y H2 I2 rx ry q => ?_)
    obtain ⟨a', dx, fs, rfl, ea, q⟩ := q
    cases (show v = Value.ref a' from rx)
    obtain ⟨mA, O, _⟩ := ins_get I2.hok ea
    obtain ⟨od, J, _⟩ := O.look
    obtain ⟨m, hF⟩ := I2.fr
    exact PySem.W.sub_K hF I2.ok.mod.kin J h1 h3 h2 (run_fa (us := [.ref a', u]) (vs := [.ref a', y]) G tk hg (show Room k X.A.in1 from Room.in1 (hr.mono hk)) I2.env0.in1 I2 (.cons rfl (.cons ry .nil)) q) (hsl _ _)
  · rintro σ H Q ⟨Z, ι, ρ, μ, R, o⟩
    refine tM_bind R o fun v μ1 Z1 ι1 H1 x x1 R1 r1 o1 => tM_bind R1 o1 fun w μ2 Z2 ι2 H2 y x2 R2 r2 o2 => ?_
    split at o2
    · rename_i hi
      have r1' := r1.mono x2.same x2.i
      obtain ⟨a', dx, fs, rfl, e2⟩ := isInsC_ok R2.sta r1' hi
      exact ⟨a', dx, fs, rfl, e2, call_frame R2.sta (.cons r1' (.cons r2 .nil)) rfl o2⟩
    · exact o2.elim
/-- C.NAME -/
theorem fe_cint {x f : Str} {i : Int} {mc : Value} {p2 : Pos} (hm : X.mg x = some (.ref C)) (r : ClX.CRead X.K C mc) (v : ∃ u, ClX.CVal X.K C mc f (.int i) u) (hgl : Gl X x := by rfl) (hd : (x == ("__debug__" : Str)) = false := by decide)
    (hb : attributeBase (.Name x p) f X.env (eval (.Name x p) X.env) = eval (.Name x p) X.env := by rfl) : FE X W (.Attribute (.Name x p) f p2) (mC (.int i)) := by
  obtain ⟨u, v⟩ := v
  exact pe_imp (ClX.pe_cval (pe_glob (v := .ref C) hgl hm rfl hd) hb) fun σ H Q ⟨Z, ι, ρ, μ, R, o⟩ => ⟨C, mc, .int i, u, rfl, r, v, Out.ret R.sta o (.d (.int i))⟩
/-- C.m(), a classmethod -/
structure CMt (P : Program) (w : World) (K : PySem.W.Frag) (mg : Str → Option Value) (base : Heap) (k : Nat) (C : Addr) (m : Str) (n : Nat) (F : MF) : Prop where
  ex : ∃ mc p g, ClX.CRead K C mc ∧ ClX.CMet K C mc m p g ∧ FnG P w K mg base (L2.CX P w) k g (spF K n F)
theorem fe_cmeth0 {x m : Str} {pl : Sem Bool} {p2 : Pos} (c : CMt X.prog X.w X.K X.mg X.base k C m 1 F) (hm : X.mg x = some (.ref C)) (tk : Takes X W) (hg : X.A.guards = some []) (hr : Room j X.A) (hk : k ≤ j := by decide) (hgl : Gl X x := by rfl) (hd : (x == ("__debug__" : Str)) = false := by decide)
    (ht : eval (.Call (.Attribute (.Name x p) m p2) [] [] pos) X.env = (do
      let ov ← eval (.Name x p) X.env
      standAt p2.atName
      let (f, first) ← holding [ov] (getMethod ov m pl)
      callWith pos f first (backTo pos (starEach [] X.env)) (backToKw pos (keywordEach [] X.env))) := by rfl) :
    FE X W (.Call (.Attribute (.Name x p) m p2) [] [] pos) (mCall F 1 (mCons (mC (.gl C)) mNil)) := by
  obtain ⟨mc, pp, g, r, cm, G⟩ := c.ex
  refine ⟨fun pins s σ H Q I h => ?_⟩
  obtain ⟨Z, ι, ρ, μ, R, o⟩ := h
  refine PySem.W.methodCall_KW (pl := pl) (ld_glob I hgl hm ?_ hd) ht
  refine ClX.getmethcm_ok I r cm fun s2 I2 => ?_
  have o1 : Out X.K W σ Z ι H (callF F [.d (.gl C)] μ) (Val X.K Q) := o
  have q : spF X.K 1 F [.ref C] H Q (WE W σ) := call_frame R.sta (.cons (.d (.gl C)) .nil) rfl o1
  have z : wpAny (model X.prog X.w) X.A (call (.ref _) []) (EP X ((_, PySem.W.methodObj (.ref g) (.ref C)) :: pins) σ Q) X.xe s2 :=
    wpAny_call (PySem.W.method_call (ClX.pin_at I2) (codeAny_mono (G X.A X.stack s2 H [.ref C] [.ref C] Q (WE W σ) (hr.mono hk) hg I2.env0 (.cons rfl .nil) q) fun z t hz => by
      cases z with
      | error u => exact passAt tk σ _ H s2 u t I2 hz
      | ok fl => cases fl with
        | ret u => exact I2.after hz
        | _ => exact hz.elim))
  exact PySem.W.callWith_M0 (first := []) ⟨ClX.pin_at I2, I2.kIn⟩ cm.fi (thn z fun _ _ y => ClX.unpinE y)
end
/-! a def that is handed over -/
/-- the defs that may be called through a name: at a, n arguments, keeping F -/
def tblAt (t : List (Addr × Nat × MF)) (a : Addr) : Option (Nat × MF) := match t with
  | [] => none
  | (b, n, F) :: r => if b = a then some (n, F) else tblAt r a
def mCallV (t : List (Addr × Nat × MF)) (i : Nat) (ms : MA) : ME := fun ρ μ => match ρ[i]? with
  | some (some (.d (.gl a))) => match tblAt t a with
    | some (n, F) => (ms ρ μ).bind fun as μ1 => if as.length = n then callF F as μ1 else .bad
    | none => .bad
  | _ => .bad
def TblOk (P : Program) (w : World) (K : PySem.W.Frag) (mg : Str → Option Value) (base : Heap) (k : Nat) (t : List (Addr × Nat × MF)) : Prop := ∀ a n F, tblAt t a = some (n, F) → FnG P w K mg base (L2.CX P w) k a (spF K n F) ∧ PySem.W.keepIn K (.ref a) = true
section
variable {X : Cx} {W : WX} {k j i : Nat} {t : List (Addr × Nat × MF)} {x : Str} {e : Expr} {es : List Expr} {pos p : Pos} {ms : MA}
theorem fe_callV (c : TblOk X.prog X.w X.K X.mg X.base k t) (tk : Takes X W) (hg : X.A.guards = some []) (hr : Room j X.A) (ha : FA X W (e :: es) ms) (hk : k ≤ j := by decide) (hN : X.N[i]? = some x := by rfl) (hv : Vis X.env.scope x := by first | exact Or.inl rfl | exact Or.inr (Or.inl rfl) | exact Or.inr (Or.inr rfl))
    (hd : (x == ("__debug__" : Str)) = false := by decide) (hcd : (x == ("__classdict__" : Str)) = false := by decide)
    (he : starEach (e :: es) X.env = (false, eval e X.env) :: starEach es X.env := by rfl) (hpl : (backTo pos (starEach es X.env)).any (·.1) = false := by rfl) : FE X W (.Call (.Name x p) (e :: es) [] pos) (mCallV t i ms) := by
  refine ⟨fun pins s σ H Q I h => ?_⟩
  obtain ⟨Z, ι, ρ, μ, R, o⟩ := h
  unfold mCallV at o
  split at o
  · rename_i a ha1
    split at o
    · rename_i n F hF
      obtain ⟨G, kp⟩ := c a n F hF
      obtain ⟨v, h1, h2⟩ := RS.get R.rs ha1
      cases h2 with | d h2 => cases h2 with | gl =>
        refine PySem.wpAny_Call_Name_kw (thn ((pe_var (X := X) (i := i) hN hv hd hcd).run pins s σ H (fun v H' => v = .ref a ∧ H' = H) I ⟨_, h1, rfl, rfl⟩) fun u s0 ⟨v, H0, I0, rv, e1, e2⟩ => ?_)
        subst e1 e2
        cases (show u = Value.ref a from rv)
        refine PySem.W.callWith_K (h₀ := X.base) I0.ok.mod.kin kp (thn (ha.run pos pins s0 σ H0 (fun vs H1 => spF X.K n F vs H1 Q (WE W σ)) I0 (tMA_bind R o fun v μ' Z' ι' H' xs x1 R1 r1 o1 => ?_)) fun us s1 hh => ?_) he hpl
        · split at o1
          · rename_i hl; exact call_frame R1.sta r1 (by rw [← r1.len]; exact hl) o1
          · exact o1.elim
        · obtain ⟨vs, H1, I1, r, q⟩ := hh
          exact ⟨I1.kIn, run_fg G tk hg (hr.mono hk) I1 r q⟩
    · exact o.elim
  · exact o.elim
end
end TT

namespace TT
open PySem L2 PyProof.Rows
variable [TB]
/-! the first item of a row, by a lambda -/
section
variable {prog : Program} {w : World} {A : Around} {E : Value → Shared → Prop} {s : Shared}
theorem lam0_call {f c' t : Addr} {q x : Str} {params : Arguments} {scope : Scope} {cl : List (Str × Addr)} {pm ctv u : Value} {its : Array Value} {p1 p2 p3 : Pos} {j : Nat} (hroom : A.depth < recursionLimit)
    (ho : s.heap.get? f = some (PySem.W.kla_obj "<lambda>" q params (.Subscript (.Name x p1) (.Constant (.int 0) j p2) p3) scope cl pm c' ctv)) (hcd : s.heap.CodeRec (.ref c') q) (lim : s.heap.NoLimit) (ht : IsTup s.heap t its) (hu : its[0]? = some u)
    (hb : ∀ v : Value, bindArgs (PySem.W.kla_fn "<lambda>" q params (.Subscript (.Name x p1) (.Constant (.int 0) j p2) p3) scope cl pm (.ref c') ctv) ⟨[v], []⟩ = pure [(x, v)]) (hn : scope.names = [(x, .local)]) (hk : scope.kind = .function) (hco : scope.isCoroutine = false) (hgn : scope.isGenerator = false)
    (hd : (x == ("__debug__" : Str)) = false) :
    wpAny (model prog w) A (call (.ref f) [.ref t]) (fun r s' => r = u ∧ ∃ h' tk, s' = { s with heap := h', toks := tk } ∧ ∀ b o, s.heap.get? b = some o → h'.get? b = some o) (fun _ _ => False) s := by
  have rc : codeAny (model prog w) A (.call (.ref f) ⟨[.ref t], []⟩) (fun z s' => z = .ok (.ret u) ∧ ∃ h' tk, s' = { s with heap := h', toks := tk } ∧ ∀ b o, s.heap.get? b = some o → h'.get? b = some o) s := by
    refine PySem.W.kla_callFunE hroom ho rfl hco hgn rfl hcd ?_
    rw [hb]
    refine wpAny_pure (wpAny_newFunctionEnv (fun y hy => ?_) (fun y hy => ?_) (fun h₁ hns hsb => ⟨lim.fresh _ hsb, ?_⟩) hk)
    · have hy : y ∈ scope.names := hy
      rw [hn] at hy
      rw [List.mem_singleton.mp hy]
      exact fun z => nomatch z
    · rw [List.mem_singleton.mp hy]
      show scope.names.lookup x = _
      rw [hn]
      simp [List.lookup]
    · have kp : ∀ b o, s.heap.get? b = some o → h₁.get? b = some o := fun b o e => hsb.extBut b o (Nat.ne_of_lt (Heap.lt_size e)) (Heap.get?_push_of_some _ e)
      refine PySem.W.kla_codeExpr (Subscript_ ?_)
      refine wpAny_Name (wpAny_loadName_local (m := fun y => ([(x, Value.ref t)] : List (Str × Value)).reverse.lookup y) (v := .ref t) hk ?_ hns (by simp [List.lookup]) ?_) hd
      · show scope.names.lookup x = _
        rw [hn]
        simp [List.lookup]
      · refine wpAny_Constant_int ?_
        have ht2 : IsTup h₁ t its := by
          obtain ⟨o, e, r⟩ := ht
          exact ⟨o, kp _ _ e, r⟩
        have hsz : 0 < its.size := (Array.getElem?_eq_some_iff.mp hu).1
        refine subscriptTail_builtinR (x := u) (T := "tuple") ht2.typeIs slot_tuple_getitem.lookup (getItem_tuple (j := 0) ht2 (by decide) (by decide) ?_ hu ⟨rfl, rfl, h₁, _, rfl, kp⟩) (by with_unfolding_all rfl)
        unfold seqIndex?
        simp [hsz]
  refine wpAny_call (codeAny_mono rc fun r s' ⟨e, h⟩ => ?_)
  subst e
  exact ⟨rfl, h⟩
end
/-! sorted by a key, of a list or a tuple -/
section
open PySem.W
variable {prog : Program} {w : World} {A : Around} {E : Value → Shared → Prop} {s : Shared} {β : Type} {vs : List Value} {bs : List β} {R : Value → β → Prop}
theorem sorted_seq {T : String} (hT : T = "list" ∨ T = "tuple") {l : Addr} {o : Obj} {n0 : Nat} {f : Value} {kw : List (Str × Value)} {b : Bool} {Q : Value → Shared → Prop} (k : β → PyData) (ho : s.heap.get? l = some o) (hc : o.cls = .type T) (hd : o.data = .seq vs.toArray n0)
    (e : EachIs R vs bs) (hal : AllAlike (bs.map k)) (hk : Sortable (bs.map k)) (hL : bs.length ≤ sizeLine) (hu : ∀ x, x ∈ bs → A.units + 2 + (k x).depth < cLine) (ha1 : argsOk "sorted" ⟨[.ref l], kw⟩) (ha2 : ∀ x, argsOk "list.sort" ⟨[.ref x], kw⟩) (ht : ∀ x, Builtin.«list.sort» ⟨[.ref x], kw⟩ = ksk_tree x f b)
    (turn : ∀ (v : Value) (x : β), R v x → x ∈ bs → ∀ (h : Heap) (tk : Nat), (∀ a o, s.heap.get? a = some o → h.get? a = some o) → wpAny (model prog w) A.in1.in1 (call f [v]) (KeyPure (k x) { s with heap := h, toks := tk }) (fun _ _ => False) { s with heap := h, toks := tk })
    (h : ∀ out c h' tk p, (∀ a o, s.heap.get? a = some o → h'.get? a = some o) → s.heap.get? p = none → h'.get? p = some (seqObj "list" (List.toArray out) c) → out.length = bs.length → EachIs R out (bs.mergeSort (dataLe b k)) → Q (.ref p) { s with heap := h', toks := tk }) :
    wpAny (model prog w) A (call (.builtin "sorted") [.ref l] kw) Q E s := by
  have hl : vs.length ≤ sizeLine := by rw [e.length]; exact hL
  refine call_function_entry_kw kind_sorted plain_sorted entry_sorted ha1 ?_
  unfold Builtin.«sorted»
  refine wpAny_bind (m := checkCount "sorted" 1 1 _) (wpAny_pure ?_)
  refine wpAny_bind (wpAny_collect_seq l hT ho hc hd (fun g hg => ?_) (by rw [List.size_toArray]; exact hl))
  refine wpAny_bind (wpAny_newList ?_ hl)
  have kg : ∀ a o, s.heap.get? a = some o → (g.push (seqObj "list" vs.toArray 0)).get? a = some o := fun a o q => Heap.get?_push_of_some _ (hg a o q)
  have hat : (g.push (seqObj "list" vs.toArray 0)).get? g.objs.size = some (seqObj "list" vs.toArray 0) := Heap.get?_push_size _ rfl
  have fr : s.heap.get? g.objs.size = none := by
    cases q : s.heap.get? g.objs.size with
    | none => rfl
    | some o => exact absurd (Heap.lt_size (hg _ _ q)) (Nat.lt_irrefl _)
  have up : ∀ {g1 : Heap}, KeepsBut g.objs.size (g.push (seqObj "list" vs.toArray 0)) g1 → ∀ a o, s.heap.get? a = some o → g1.get? a = some o := fun {g1} kp a o q => kp a o (fun z => by rw [z, fr] at q; cases q) (kg a o q)
  refine wpAny_bind (wpAny_holding (wpAny_call_entry_kw slot_list_sort ⟨_, hat, rfl⟩ entry_list_sort ?body (ha2 _)))
  case body =>
    show wpAny (model prog w) A.in1.in1 (Builtin.«list.sort» ⟨[.ref g.objs.size], kw⟩) _ _ _
    rw [ht]
    refine keyH_tree (kz := bs.map k) (s := { s with heap := g.push (seqObj "list" vs.toArray 0) }) hat (by rw [List.length_map]; exact e.length.symm) hl hal hk (bound_map (A := A.in1.in1) hu)
      (keyH_turns (s := { s with heap := g.push (seqObj "list" vs.toArray 0) }) e fun v x hR hx h tk kp => turn v x hR hx h tk (up kp)) fun h' tk out c kp hD ko => ⟨_, rfl, wpAny_pure ⟨_, rfl, ?_⟩⟩
    exact h out c h' tk _ (up kp) fr hD ((ko.length (by rw [List.length_map]; exact e.length.symm)).trans e.length) (keyedOut_each k ko e)
end
/-! a lambda is made -/
section
variable {X : Cx} {pins : List (Addr × Obj)} {σ : L2.St} {H : Hp} {s : Shared}
/-- the def has a table for the code objects of its lambdas -/
structure LamOk (X : Cx) (c P : Addr) : Prop where
  tb : LamX.TabB X.base X.mg c P
  code : X.env.code = .ref c
  mem : (P, X.env.qual ++ "<lambda>") ∈ TB.T
  uni : ∀ p ∈ TB.T, p.1 = P → p.2 = X.env.qual ++ "<lambda>"
theorem lam_mk {c P : Addr} {ps : Arguments} {bd : Expr} {sc : Scope} {lp : Pos} {E Q : Value → Shared → Prop} (I : Inv X pins σ H s) (L : LamOk X c P) (t : LamX.Tabs TB.T H) (hd : defaultsOf ps X.env = ([], [])) (hf : ∀ y ∈ sc.names, y.2 = .free → ∃ c, X.env.cells.lookup y.1 = some c)
    (h : ∀ (f c' : Addr) (pm ctv : Value) (cl : List (Str × Addr)) (H1 : Hp) (s' : Shared), Inv X pins σ H1 s' → (∀ b o, b ≠ P → H b = some o → H1 b = some o) → LamX.Tabs TB.T H1 →
      s'.heap.get? f = some (PySem.W.kla_obj "<lambda>" (X.env.qual ++ "<lambda>") ps bd sc cl pm c' ctv) → H1 c' = some (LamX.CodeO c' (X.env.qual ++ "<lambda>")) → Q (.ref f) s') :
    wpAny (model X.prog X.w) X.A (eval (.Lambda ps bd sc lp) X.env) Q E s := by
  obtain ⟨arr, e1, e2, e3⟩ := t _ L.mem
  have oP := I.hok P _ e1
  have bm := L.tb.bm.keeps I.bk
  have gl := I.mod.glob.keeps I.bk
  have cd := L.tb.code.keeps I.bk
  have clo := closure_ok hf
  refine PySem.W.kla_eval hd ?_
  cases q : codeAmong lp arr.toList with
  | some cv =>
    obtain ⟨c1, rfl, co⟩ := e3 lp cv q
    refine PySem.W.kla_makeFunctionHit (ps := arr) clo I.ok.glob gl L.code cd oP e2 q bm fun ctv g tk hx hsz => ?_
    exact h _ c1 _ ctv _ H _ (I.kept fun b o e => Heap.get?_push_of_some _ (hx b o e)) (fun b o _ e => e) t (Heap.get?_push_size _ rfl) co
  | none =>
    refine PySem.W.kla_makeFunction (ps := arr) clo I.ok.glob gl L.code cd oP e2 q L.tb.gP bm fun c1 ctv g tk hx hge hlt hrec htb => ?_
    obtain ⟨c2, oc, vs, tq, z, hoc, hdc, hv⟩ := hrec
    cases z
    have nC : H c1 = none := I.hok.fresh hge
    have ne : ∀ {b : Addr} {o : HO}, H b = some o → b ≠ c1 := fun e => ne_of_none e nC
    have I1 := LamX.inv_table (t' := tk) (more := #[rawInt lp.line, rawInt lp.col, .ref c1]) (q := X.env.qual ++ "<lambda>") (c := c1) (h' := g.push (PySem.W.kla_obj "<lambda>" (X.env.qual ++ "<lambda>") ps bd sc (cloFrom X.env.cells sc.names []) ((X.mg "__name__").getD .none) c1 ctv)) I e1
      (fun b o nb e => Heap.get?_push_of_some _ (hx b o nb e)) (Heap.get?_push_of_some _ htb) hge ⟨oc, vs, tq, Heap.get?_push_of_some _ hoc, hdc, hv⟩
    have kp : ∀ b o, b ≠ P → H b = some o → upd (upd H P (.tbl (arr ++ #[rawInt lp.line, rawInt lp.col, .ref c1]))) c1 (LamX.CodeO c1 (X.env.qual ++ "<lambda>")) b = some o := fun b o nb e => by
      rw [upd_ne (ne e), upd_ne nb]; exact e
    have kc : ∀ {b : Addr} {r : Str}, H b = some (LamX.CodeO b r) → b ≠ P := fun e z => by
      rw [z, e1] at e
      exact LamX.codeO_ne _ (Option.some.inj e).symm
    refine h _ c1 _ ctv _ _ _ I1 kp (fun p hp => ?_) (Heap.get?_push_size _ rfl) upd_same
    by_cases hb : p.1 = P
    · rw [hb, L.uni p hp hb]
      have el : (arr ++ #[rawInt lp.line, rawInt lp.col, .ref c1]).toList = arr.toList ++ [rawInt lp.line, rawInt lp.col, .ref c1] := by simp
      refine ⟨_, by rw [upd_ne (ne e1), upd_same], by rw [el]; exact PySem.TriplesOk_snoc _ _ _ _ e2, fun p' cv hcv => ?_⟩
      rw [el] at hcv
      rcases LamX.among_app _ e2 hcv with z | z
      · obtain ⟨c0, z1, z2⟩ := e3 p' cv z
        exact ⟨c0, z1, kp _ _ (kc z2) z2⟩
      · exact ⟨c1, z, upd_same⟩
    · obtain ⟨a0, a1, a2, a3⟩ := t p hp
      refine ⟨a0, kp _ _ hb a1, a2, fun p' cv hcv => ?_⟩
      obtain ⟨c0, z1, z2⟩ := a3 p' cv hcv
      exact ⟨c0, z1, kp _ _ (kc z2) z2⟩
end
/-! sorted(xs, key=lambda row: row[0]) -/
def key0 : D → Option Str
  | .tup (.str x :: _) => some x
  | _ => none
def keyD (d : D) : PyData := match key0 d with
  | some x => .str x
  | none => .none
def sortD (xs : List D) : Option (List D) := if xs.all (fun d => (key0 d).isSome) = true ∧ xs.length ≤ sizeLine then some (xs.mergeSort (PySem.W.dataLe false keyD)) else none
def sortV : D → Option (List D)
  | .lst xs => sortD xs
  | .fl xs => sortD xs
  | .tup xs => sortD xs
  | _ => none
def mSort (ms : MA) : ML := mNL (fun as => match as with | [d] => sortV d | _ => none) ms
section
variable {K : PySem.W.Frag} {Z ι : List Addr} {μ : List MO} {H H' : Hp} {P : Addr}
theorem Sta.growN (s : Sta K Z ι μ H) {ps qs : Array Value} (hP : H P = some (.tbl ps)) (hP' : H' P = some (.tbl qs)) (k : ∀ b o, b ≠ P → H b = some o → H' b = some o) (t : LamX.Tabs TB.T H') : Sta K Z ι μ H' ∧ Ext Z ι H Z ι H' := by
  have nP : ∀ {b : Addr} {o : HO}, NT o → H b = some o → b ≠ P := fun {b o} n e z => by rw [z, hP] at e; cases e; exact n
  have tr : ∀ {b : Addr} {o : HO}, H b = some o → ∃ o', H' b = some o' := fun {b o} e => by
    by_cases q : b = P
    · rw [q]; exact ⟨_, hP'⟩
    · exact ⟨o, k b o q e⟩
  have x : Ext Z ι H Z ι H' := ⟨s.sub, fun _ h => h, fun _ _ h => h, fun a o _ n h => k a o (nP n h) h, fun a qs h => ?_, fun _ h => .inl h, fun _ h => .inl h⟩
  · refine ⟨⟨s.sub, s.nd, s.len, fun a h => ?_, t, fun n a o h1 h2 => ?_⟩, x⟩
    · obtain ⟨o, h⟩ := s.trk a h
      exact tr h
    · obtain ⟨ho, h, r⟩ := s.obj n a o h1 h2
      exact ⟨ho, k a ho (nP r.nt h) h, r.mono x.same x.i⟩
  · by_cases q : a = P
    · rw [q]; exact ⟨_, hP'⟩
    · exact ⟨_, k a _ q h⟩
theorem sq_keep {a : Addr} {vs : List V} {ps : Array Value} (hP : H P = some (.tbl ps)) (k : ∀ b o, b ≠ P → H b = some o → H' b = some o) (h : SqL K H a vs) : SqL K H' a vs := by
  have nP : ∀ {b : Addr} {o : HO}, NT o → H b = some o → b ≠ P := fun {b o} n e z => by rw [z, hP] at e; cases e; exact n
  rcases h with (h | ⟨o, h⟩) | h
  · exact .inl (.inl (k _ _ (nP (o := .lst vs) True.intro h) h))
  · exact .inl (.inr ⟨o, k _ _ (nP (o := .frz o (.lst vs)) True.intro h) h⟩)
  · exact .inr h
end
section
variable {X : Cx} {W : WX} {k j : Nat} {c P : Addr} {e : Expr} {x : Str} {ps : Arguments} {sc : Scope} {p p1 p2 p3 lp kp pos : Pos} {ms : MA}
theorem each_split {K : PySem.W.Frag} {F : Hp} : ∀ {ds : List D} {us : List Value}, PySem.W.EachIs (fun (u : Value) (d : D) => ∃ y, DR K F d y ∧ RelV y u) us ds → ∃ vs, DRs K F ds vs ∧ Vals vs us
  | _, _, .nil => ⟨[], .nil, .nil⟩
  | _, _, .cons ⟨y, a, b⟩ t => by
    obtain ⟨vs, h1, h2⟩ := each_split t
    exact ⟨y :: vs, .cons a h1, .cons b h2⟩
theorem each_join {K : PySem.W.Frag} {F : Hp} : ∀ {ds : List D} {vs : List V} {us : List Value}, DRs K F ds vs → Vals vs us → PySem.W.EachIs (fun (u : Value) (d : D) => ∃ y, DR K F d y ∧ RelV y u) us ds
  | _, _, _, .nil, .nil => .nil
  | _, _, _, .cons a t, .cons b u => .cons ⟨_, a, b⟩ (each_join t u)
theorem key0_some {d : D} {y : Str} (h : key0 d = some y) : ∃ r, d = .tup (.str y :: r) := by
  unfold key0 at h
  split at h
  · cases h; exact ⟨_, rfl⟩
  · cases h
def Src (K : PySem.W.Frag) (u : Value) (s2 : Shared) (F : Hp) (ys : List D) : Prop := ∃ (a : Addr) (xs : List D) (vs : List V) (its : List Value) (T : String) (ob : Obj) (n0 : Nat), u = .ref a ∧ sortD xs = some ys ∧ DRs K F xs vs ∧ Vals vs its ∧ (T = "list" ∨ T = "tuple") ∧ s2.heap.get? a = some ob ∧ ob.cls = .type T ∧ ob.data = .seq its.toArray n0
theorem fl_sortK (L : LamOk X c P) (hm : X.mg "sorted" = none) (hr : Room j X.A) (ha : FA X W [e] ms) (hgl : Gl X "sorted" := by rfl) (hd : (x == ("__debug__" : Str)) = false := by decide) (hdf : defaultsOf ps X.env = ([], []) := by rfl)
    (hb : ∀ (q : Str) (cl : List (Str × Addr)) (pm cv ctv v : Value), bindArgs (PySem.W.kla_fn "<lambda>" q ps (.Subscript (.Name x p1) (.Constant (.int 0) k p2) p3) sc cl pm cv ctv) ⟨[v], []⟩ = pure [(x, v)] := by intros; rfl)
    (hn : sc.names = [(x, .local)] := by rfl) (hk : sc.kind = .function := by rfl) (hco : sc.isCoroutine = false := by rfl) (hgn : sc.isGenerator = false := by rfl)
    (he : backTo pos (starEach [e] X.env) = (false, eval e X.env) :: backTo pos (starEach [] X.env) := by rfl) (hpl : (backTo pos (starEach [e] X.env)).any (·.1) = false := by rfl) :
    FL X W (.Call (.Name "sorted" p) [e] [⟨some "key", .Lambda ps (.Subscript (.Name x p1) (.Constant (.int 0) k p2) p3) sc lp, kp⟩] pos) (mSort ms) := by
  refine ⟨fun pins s σ H Q I h => ?_⟩
  obtain ⟨Z, ι, ρ, μ, R, o⟩ := h
  refine PySem.wpAny_Call_Name_kw (ld_blt I hgl hm boot_sorted ?_)
  refine callWith_kw (thn (ha.run pos pins s σ H (fun vs H1 => ∃ Z1 ι1 μ1 v d ys, vs = [v] ∧ Ext Z ι H Z1 ι1 H1 ∧ Sta X.K Z1 ι1 μ1 H1 ∧ DV X.K Z1 H1 d v ∧ sortV d = some ys ∧ Out X.K W σ Z ι H (.ok ys μ1) (fun xs Z' ι' H' => ∀ a vs, H a = none → a ∈ Z' → a ∉ ι' → H' a = some (.lst vs) → DRs X.K (mask H' Z') xs vs → Q (.ref a) H')) I ⟨Z, ι, ρ, μ, R, ?_⟩) fun us s1 hh => ?_) he hpl (by rfl) (by rfl)
  · unfold mSort mNL at o
    cases q : ms ρ μ with
    | exc C fs μ' => rw [q] at o; exact o
    | bad => rw [q] at o; exact o
    | ok as μ' =>
      rw [q] at o
      intro Z1 ι1 H1 x1 s1 vs rv
      simp only [Res.bind_ok, opNL] at o
      split at o
      · rename_i xs hx
        have dv := views_ok s1 rv hx
        split at o
        · rename_i z hz
          split at hz
          · rename_i d
            cases dv with | cons dv t => cases t; exact ⟨Z1, ι1, μ', _, d, z, rfl, x1, s1, dv, hz, o⟩
          · cases hz
        · exact o.elim
      · exact o.elim
  obtain ⟨vs, H1, I1, r1, Z1, ι1, μ1, v, d, ys, rfl, x1, st1, dv, hs, o1⟩ := hh
  obtain ⟨u, rfl, ru⟩ := vals1 r1
  obtain ⟨arr, eP, _⟩ := st1.tab _ L.mem
  refine kws_cons (lam_mk I1 L st1.tab hdf (fun y hy z => ?_) fun f c' pm ctv cl H2 s2 I2 kp2 t2 hf hc => kws_nil ?_)
  · have hy : y ∈ sc.names := hy
    rw [hn] at hy
    rw [List.mem_singleton.mp hy] at z
    cases z
  obtain ⟨arr2, eP2, _⟩ := t2 _ L.mem
  obtain ⟨st2, x2⟩ := st1.growN eP eP2 kp2 t2
  -- what is sorted
  have src : Src X.K u s2 (mask H2 Z1) ys := by
    have ls : ∀ {a : Addr} {xs : List D} {vs : List V}, SqL X.K H1 a vs → DRs X.K (mask H1 Z1) xs vs → sortD xs = some ys → u = .ref a → Src X.K u s2 (mask H2 Z1) ys := fun {a xs vs} q r hs hu => by
      obtain ⟨its, rv, ⟨ob, n0, q1, q2, _, q3⟩, _⟩ := I2.list (sq_keep eP kp2 q)
      exact ⟨a, xs, vs, its, "list", ob, n0, hu, hs, r.mono x2.same _ _, rv, .inl rfl, q1, q2, q3⟩
    unfold sortV at hs
    split at hs
    · obtain ⟨a, vs, rfl, q, r⟩ := dv.list
      exact ls (.inl (.inl q)) r hs ru
    · obtain ⟨a, vs, rfl, q, r⟩ := dv.flist
      exact ls q r hs ru
    · obtain ⟨a, vs, rfl, q, r⟩ := dv.tup
      have nP : a ≠ P := fun z => by rw [z, eP] at q; cases q
      obtain ⟨its, rv, ⟨ob, q1, q2, n0, q3⟩, _⟩ := I2.tuple (.inl (.inl (kp2 _ _ nP q)))
      exact ⟨a, _, vs, its, "tuple", ob, n0, ru, hs, r.mono x2.same _ _, rv, .inr rfl, q1, q2, q3⟩
    · cases hs
  obtain ⟨a, xs, vs, its, T, ob, n0, rfl, hs, dr, rv, hT, q1, q2, q3⟩ := src
  unfold sortD at hs
  split at hs
  · rename_i hc2
    obtain ⟨hall, hL⟩ := hc2
    cases hs
    have key : ∀ d ∈ xs, ∃ y, key0 d = some y := fun d hd => Option.isSome_iff_exists.mp (List.all_eq_true.mp hall d hd)
    have keyd : ∀ d ∈ xs, ∃ y, keyD d = .str y := fun d hd => by
      obtain ⟨y, hy⟩ := key d hd
      exact ⟨y, by unfold keyD; rw [hy]⟩
    show wpAny _ _ (call (.builtin "sorted") [.ref a] [(Str.ofString "key", .ref f)]) _ _ _
    refine sorted_seq (β := D) (b := false) (R := fun (u : Value) (d : D) => ∃ y, DR X.K (mask H2 Z1) d y ∧ RelV y u) hT keyD q1 q2 q3 (each_join dr rv) ?_ ?_ hL ?_ (ksk_s1 _ _) (fun _ => ksk_l1 _ _) (fun y => ksk_t1 f y) ?_ ?_
    · intro d hd d' hd'
      obtain ⟨z, hz, rfl⟩ := List.mem_map.mp hd
      obtain ⟨z', hz', rfl⟩ := List.mem_map.mp hd'
      obtain ⟨y, e1⟩ := keyd z hz
      obtain ⟨y', e2⟩ := keyd z' hz'
      rw [e1, e2]
      rfl
    · refine .inr fun d hd => ?_
      obtain ⟨z, hz, rfl⟩ := List.mem_map.mp hd
      obtain ⟨y, e1⟩ := keyd z hz
      rw [e1]
      exact ⟨(fun z => nomatch z), (fun _ z => nomatch z)⟩
    · intro d hd
      obtain ⟨y, e1⟩ := keyd d hd
      rw [e1]
      have := hr.un
      simp [PyData.depth]
      omega
    · rintro w d ⟨y, dy, ry⟩ hdm g tk kg
      obtain ⟨z, hz⟩ := key d hdm
      have kz : keyD d = .str z := by unfold keyD; rw [hz]
      obtain ⟨r, rfl⟩ := key0_some hz
      cases dy with | tup q0 q4 =>
        rename_i t ws
        cases q4 with | cons q5 q6 =>
          cases q5
          cases (show w = Value.ref t from ry)
          obtain ⟨its', rv', it, _⟩ := I2.tuple (.inl (.inl (mask_same _ _ _ _ q0)))
          have it' : IsTup g t its'.toArray := by
            obtain ⟨o, e, r⟩ := it
            exact ⟨o, kg _ _ e, r⟩
          cases rv' with | cons rh rt =>
            obtain ⟨tk', rfl⟩ := rh
            obtain ⟨⟨oc, fs, tq, c1, c2, c3⟩, _, _⟩ := I2.hok c' _ hc
            refine wpAny_mono (lam0_call (s := { s2 with heap := g, toks := tk }) (t := t) (u := .str z tk') hr.depth (kg _ _ hf) ⟨c', oc, fs, tq, rfl, kg _ _ c1, c2, c3⟩ (I2.nolimit.keeps kg) it' (by simp) (fun v => hb _ _ _ _ _ v) hn hk hco hgn hd) (fun r s' ⟨e1, g', tk2, e2, e3⟩ => ?_) fun _ _ z => z
            subst e1
            rw [kz]
            exact ⟨g', tk2, e2, e3, .str _ _⟩
    · intro out cc h' tk pp kk fr at_ hlen each
      obtain ⟨ws, d1, d2⟩ := each_split each
      have hp : H2 pp = none := I2.hok.gone fr
      have hl2 : ws.length ≤ sizeLine := by rw [← d1.len, List.length_mergeSort]; exact hL
      exact ⟨.ref pp, upd H2 pp (.lst ws), I2.laidN kk fr hp ⟨hl2, out, cc, d2, at_⟩, rfl, fr_new (x1.trans x2) st2 d1 o1 hp⟩
  · cases hs
end
end TT

namespace TT
open PySem L2
variable [TB]
/-! in, of texts, lists, tuples -/
section
variable {K : PySem.W.Frag} {X : Cx}
def inTx : D → D → Option Bool
  | .str x, .str z => match x.cps.toList with
    | [c] => some (decide (c ∈ z.cps.toList))
    | _ => none
  | _, _ => none
def itemsD : D → Option (List D)
  | .lst xs => some xs
  | .tup xs => some xs
  | _ => none
def inSq (a b : D) : Option Bool := match toPy a, (itemsD b).bind toPys with
  | some d, some ds => if SeqAt.shaped d = true ∧ PyData.canLayAll0 ds = true then some (ds.any fun z => PyData.eqv z d) else none
  | _, _ => none
def inB (a b : D) : Option Bool := (inTx a b).or (inSq a b)
def inD (neg : Bool) (a b : D) : Option D := (inB a b).map fun k => .bl (if neg then !k else k)
def rInX (K : PySem.W.Frag) (neg : Bool) : R2 := fun x y H Q => ∃ k : Bool, ((∃ (c : Nat) (z : Str), x = .str ⟨#[c]⟩ ∧ y = .str z ∧ k = decide (c ∈ z.cps.toList)) ∨
  ∃ d ds, Dp K H x d ∧ (Dp K H y (.list ds) ∨ Dp K H y (.tuple ds)) ∧ SeqAt.shaped d = true ∧ PyData.canLayAll0 ds = true ∧ k = ds.any fun z => PyData.eqv z d) ∧ Q (.bl (if neg then !k else k)) H
theorem d_in {neg : Bool} : OpD K (rInX K neg) (inD neg) := fun Z H a b c x y Q t ha hb eq q => by
  obtain ⟨k, h1, rfl⟩ := Option.map_eq_some_iff.mp eq
  refine ⟨k, ?_, same_ok q (.bl _)⟩
  unfold inB at h1
  cases h2 : inTx a b with
  | some k' =>
    rw [h2] at h1
    cases h1
    unfold inTx at h2
    split at h2
    · rename_i u z
      split at h2
      · rename_i c hc
        cases h2
        refine .inl ⟨c, z, ?_, hb.str, rfl⟩
        rw [ha.str]
        congr 1
        cases u with | mk cps => 
          have : cps = #[c] := by rw [← Array.toList_inj]; simpa using hc
          rw [this]
      · cases h2
    · cases h2
  | none =>
    rw [h2] at h1
    have h1 : inSq a b = some k := h1
    unfold inSq at h1
    split at h1
    · rename_i d ds e1 e2
      split at h1
      · rename_i hs
        cases h1
        refine .inr ⟨d, ds, ha.dp e1, ?_, hs.1, hs.2, rfl⟩
        cases b with
        | lst xs => exact .inl (hb.dp (by simp only [toPy, Option.map_eq_some_iff]; exact ⟨ds, e2, rfl⟩))
        | tup xs => exact .inr (hb.dp (by simp only [toPy, Option.map_eq_some_iff]; exact ⟨ds, e2, rfl⟩))
        | _ => cases e2
      · cases h1
    · cases h1
theorem o_in (hu : X.A.units + 65 < cLine) : OpR X (compareOp .In) (rInX X.K false) := by
  intro pins s σ H x y v u Q I rx ry ⟨k, h, q⟩
  rcases h with ⟨c, z, rfl, rfl, rfl⟩ | ⟨d, ds, hd, he, sd, se, rfl⟩
  · exact op_in_sign pins s σ H _ _ v u Q I rx ry ⟨c, z, rfl, rfl, q⟩
  · obtain ⟨as, r1⟩ := Dp.reads I d x v hd rx
    rcases he with he | he
    · obtain ⟨bs, r2⟩ := Dp.reads I _ y u he ry
      exact SeqAt.in_list_reads r2 r1 se (SeqAt.canLay_of_shaped sd) (PyProof.Rows.room_in_shaped sd hu) ⟨.bl _, H, I, rfl, q⟩
    · obtain ⟨bs, r2⟩ := Dp.reads I _ y u he ry
      exact SeqAt.in_tuple_reads r2 r1 se (SeqAt.canLay_of_shaped sd) (PyProof.Rows.room_in_shaped sd hu) ⟨.bl _, H, I, rfl, q⟩
theorem o_notin (hu : X.A.units + 65 < cLine) : OpR X (compareOp .NotIn) (rInX X.K true) := by
  intro pins s σ H x y v u Q I rx ry ⟨k, h, q⟩
  rcases h with ⟨c, z, rfl, rfl, rfl⟩ | ⟨d, ds, hd, he, sd, se, rfl⟩
  · exact op_notIn_sign pins s σ H _ _ v u Q I rx ry ⟨c, z, rfl, rfl, q⟩
  · obtain ⟨as, r1⟩ := Dp.reads I d x v hd rx
    rcases he with he | he
    · obtain ⟨bs, r2⟩ := Dp.reads I _ y u he ry
      exact SeqAt.notIn_list_reads r2 r1 se (SeqAt.canLay_of_shaped sd) (PyProof.Rows.room_in_shaped sd hu) ⟨.bl _, H, I, rfl, q⟩
    · obtain ⟨bs, r2⟩ := Dp.reads I _ y u he ry
      exact SeqAt.notIn_tuple_reads r2 r1 se (SeqAt.canLay_of_shaped sd) (PyProof.Rows.room_in_shaped sd hu) ⟨.bl _, H, I, rfl, q⟩
end
/-! dicts with plain keys -/
def keyOf : D → Option Key
  | .int i => some (.inl i)
  | .str x => some (.inr x)
  | _ => none
def valD (kvs : List (Key × D)) (k : Key) : Option D := match kvs with
  | [] => none
  | (j, d) :: r => if j = k then some d else valD r k
def putD (kvs : List (Key × D)) (k : Key) (d : D) : List (Key × D) := if (kvs.any fun p => decide (p.1 = k)) = true then kvs.map (fun p => if p.1 = k then (p.1, d) else p) else kvs ++ [(k, d)]
section
variable {K : PySem.W.Frag} {F : Hp}
theorem keyOf_ok {Z : List Addr} {H : Hp} {d : D} {v : V} {k : Key} (h : DV K Z H d v) (e : keyOf d = some k) : v = kV k := by
  unfold keyOf at e
  split at e
  · cases e; exact h.int
  · cases e; exact h.str
  · cases e
theorem DRk.val {k : Key} : ∀ {kvs : List (Key × D)} {vs : List (Key × V)}, DRk K F kvs vs → (∀ d, valD kvs k = some d → ∃ v, valV vs k = some v ∧ DR K F d v) ∧ (valD kvs k = none → valV vs k = none)
  | _, _, .nil => ⟨(fun d h => nomatch h), fun _ => rfl⟩
  | _, _, .cons (k := j) (d := d0) a b => by
    obtain ⟨h1, h2⟩ := DRk.val (k := k) b
    unfold valD
    by_cases e : j = k
    · rw [if_pos e, valV_pos e]
      exact ⟨fun d h => by cases h; exact ⟨_, rfl, a⟩, fun h => by cases h⟩
    · rw [if_neg e, valV_neg e]
      exact ⟨h1, h2⟩
theorem DRk.len : ∀ {kvs : List (Key × D)} {vs : List (Key × V)}, DRk K F kvs vs → kvs.length = vs.length
  | _, _, .nil => rfl
  | _, _, .cons _ b => congrArg (· + 1) (DRk.len b)
theorem DRk.any {k : Key} : ∀ {kvs : List (Key × D)} {vs : List (Key × V)}, DRk K F kvs vs → (kvs.any fun p => decide (p.1 = k)) = vs.any fun p => decide (p.1 = k)
  | _, _, .nil => rfl
  | _, _, .cons _ b => by simp only [List.any_cons, DRk.any b]
theorem DRk.repl {k : Key} {d : D} {v : V} (r : DR K F d v) : ∀ {kvs : List (Key × D)} {vs : List (Key × V)}, DRk K F kvs vs → DRk K F (kvs.map fun p => if p.1 = k then (p.1, d) else p) (vs.map fun p => if p.1 = k then (p.1, v) else p)
  | _, _, .nil => .nil
  | _, _, .cons (k := j) a b => by
    simp only [List.map_cons]
    by_cases e : j = k
    · simp only [e, if_true]; exact .cons r (DRk.repl r b)
    · simp only [e, if_false]; exact .cons a (DRk.repl r b)
theorem DRk.snoc {k : Key} {d : D} {v : V} (r : DR K F d v) : ∀ {kvs : List (Key × D)} {vs : List (Key × V)}, DRk K F kvs vs → DRk K F (kvs ++ [(k, d)]) (vs ++ [(k, v)])
  | _, _, .nil => .cons r .nil
  | _, _, .cons a b => .cons a (DRk.snoc r b)
theorem DRk.put {k : Key} {d : D} {v : V} (r : DR K F d v) {kvs : List (Key × D)} {vs : List (Key × V)} (h : DRk K F kvs vs) : DRk K F (putD kvs k d) (putK vs k v) := by
  unfold putD putK
  rw [h.any]
  split
  · exact h.repl r
  · exact h.snoc r
theorem DV.dict {Z : List Addr} {H : Hp} {v : V} {kvs : List (Key × D)} (h : DV K Z H (.dK kvs) v) : ∃ a vs, v = .ref a ∧ H a = some (.dK vs) ∧ DRk K (mask H Z) kvs vs := by
  cases h with
  | d h => cases h with | dK q r => exact ⟨_, _, rfl, mask_same _ _ _ _ q, r⟩
  | dK q r => exact ⟨_, _, rfl, q, r⟩
end
def inK (neg : Bool) (a b : D) : Option D := match keyOf a, b with
  | some k, .dK kvs => some (.bl (if neg then !(valD kvs k).isSome else (valD kvs k).isSome))
  | _, _ => none
def getK (b a : D) : Option D := match keyOf a, b with
  | some k, .dK kvs => valD kvs k
  | _, _ => none
section
variable {X : Cx} {W : WX} {a b e : Expr} {pos : Pos} {ma mb : ME}
theorem inK_ok {K : PySem.W.Frag} {Z : List Addr} {H : Hp} {neg : Bool} {x y d : D} {u v : V} (hx : DV K Z H x u) (hy : DV K Z H y v) (e : inK neg x y = some d) : ∃ p o, v = .ref p ∧ DGet H p u o ∧ d = .bl (if neg then !o.isSome else o.isSome) := by
  unfold inK at e
  split at e
  · rename_i k kvs hk
    cases e
    obtain ⟨p, vs, rfl, h1, h2⟩ := hy.dict
    rw [keyOf_ok hx hk]
    refine ⟨p, _, rfl, .k h1, ?_⟩
    obtain ⟨q1, q2⟩ := h2.val (k := k)
    cases hv : valD kvs k with
    | none => rw [q2 hv]; rfl
    | some d0 =>
      obtain ⟨w, q3, _⟩ := q1 d0 hv
      rw [q3]; rfl
  · cases e
theorem dread {neg : Bool} {K : PySem.W.Frag} {σ : St} {H : Hp} {Q : VK} (h : tM K W (mBin (inK neg) ma mb) σ H Q) : tM K W ma σ H fun y H1 => tM K W mb σ H1 fun x H2 => ∃ p o, x = .ref p ∧ DGet H2 p y o ∧ Q (.bl (if neg then !o.isSome else o.isSome)) H2 := by
  obtain ⟨Z, ι, ρ, μ, R, o⟩ := h
  refine tM_bind R o fun v μ1 Z1 ι1 H1 x x1 R1 r1 o1 => tM_bind R1 o1 fun w μ2 Z2 ι2 H2 y x2 R2 r2 o2 => ?_
  unfold op2 at o2
  split at o2
  · rename_i d1 e1
    split at o2
    · rename_i d2 e2
      split at o2
      · rename_i d3 e3
        obtain ⟨p, o, rfl, h1, rfl⟩ := inK_ok (view_ok R2.sta (r1.mono x2.same x2.i) e1) (view_ok R2.sta r2 e2) e3
        exact ⟨p, o, rfl, h1, Out.ret R2.sta o2 (.d (.bl _))⟩
      · exact o2.elim
    · exact o2.elim
  · exact o2.elim
theorem din_run (hu : X.A.units + 1 < cLine) (ha : FE X W a ma) (hb : FE X W b mb) : PC X .In a b (tM X.K W (mBin (inK false) ma mb)) :=
  ⟨fun pins s σ H Q I h => (pc_din hu ha hb).run pins s σ H Q I (dread (neg := false) h)⟩
theorem dnotin_run (hu : X.A.units + 1 < cLine) (ha : FE X W a ma) (hb : FE X W b mb) : PC X .NotIn a b (tM X.K W (mBin (inK true) ma mb)) :=
  ⟨fun pins s σ H Q I h => (pc_dnotin hu ha hb).run pins s σ H Q I (dread (neg := true) h)⟩
theorem fe_din (hu : X.A.units + 1 < cLine) (ha : FE X W a ma) (hb : FE X W b mb) (hm : behindInMarks .In b = false := by rfl) : FE X W (.Compare a [.In] [b] pos) (mBin (inK false) ma mb) := pe_cmp (din_run hu ha hb) hm
theorem fe_dnotin (hu : X.A.units + 1 < cLine) (ha : FE X W a ma) (hb : FE X W b mb) (hm : behindInMarks .NotIn b = false := by rfl) : FE X W (.Compare a [.NotIn] [b] pos) (mBin (inK true) ma mb) := pe_cmp (dnotin_run hu ha hb) hm
theorem ft_din (hu : X.A.units + 1 < cLine) (ha : FE X W a ma) (hb : FE X W b mb) (hm : behindInMarks .In b = false := by rfl) : FT X W (.Compare a [.In] [b] pos) (mB (mBin (inK false) ma mb)) := ft_pc (din_run hu ha hb).run (fun _ _ _ h => h) hm
theorem ft_dnotin (hu : X.A.units + 1 < cLine) (ha : FE X W a ma) (hb : FE X W b mb) (hm : behindInMarks .NotIn b = false := by rfl) : FT X W (.Compare a [.NotIn] [b] pos) (mB (mBin (inK true) ma mb)) := ft_pc (dnotin_run hu ha hb).run (fun _ _ _ h => h) hm
/-- d[k] -/
theorem fe_dget (hu : X.A.units + 1 < cLine) (hb : FE X W b mb) (ha : FE X W a ma) (hs : NoSl a := by intro _ _; with_unfolding_all rfl) : FE X W (.Subscript b a pos) (mBin getK mb ma) := by
  refine pe_imp (pe_dget hu hb ha hs) fun σ H Q ⟨Z, ι, ρ, μ, R, o⟩ => ?_
  refine tM_bind R o fun v μ1 Z1 ι1 H1 x x1 R1 r1 o1 => tM_bind R1 o1 fun w μ2 Z2 ι2 H2 y x2 R2 r2 o2 => ?_
  unfold op2 at o2
  split at o2
  · rename_i d1 e1
    split at o2
    · rename_i d2 e2
      split at o2
      · rename_i d3 e3
        unfold getK at e3
        split at e3
        · rename_i k kvs hk
          obtain ⟨p, vs, rfl, h1, h2⟩ := (view_ok R2.sta (r1.mono x2.same x2.i) e1).dict
          rw [keyOf_ok (view_ok R2.sta r2 e2) hk]
          obtain ⟨w, h3, h4⟩ := (h2.val (k := k)).1 d3 e3
          exact ⟨p, w, rfl, by rw [← h3]; exact .k h1, Out.ret R2.sta o2 (.d h4)⟩
        · cases e3
      · exact o2.elim
    · exact o2.elim
  · exact o2.elim
end
/-! range(i, j, -1) -/
def downD (lo : Int) (n : Nat) : List D := (List.range n).map fun (i : Nat) => D.int (lo + (i : Int) * (-1))
def rng3 (as : List MV) (μ : List MO) : Res (List D × Option Nat) := match as with
  | [.d (.int i), .d (.int j), .d (.int c)] => if c = -1 ∧ -(2 ^ 62) ≤ i ∧ i < 2 ^ 62 ∧ -(2 ^ 62) ≤ j ∧ j < 2 ^ 62 then .ok (downD i (i - j).toNat, none) μ else .bad
  | _ => .bad
section
variable {X : Cx} {W : WX} {a b c tg e : Expr} {pos : Pos} {ms : MA}
theorem its_down {K : PySem.W.Frag} {Z ι : List Addr} {μ : List MO} {H : Hp} {σ : St} {lo : Int} {n : Nat} {R : It → Hp → Prop} (s : Sta K Z ι μ H) (o : Out K W σ Z ι H (.ok (downD lo n, none) μ) (Its K R)) : R (Itc lo (-1) n) H := by
  refine o Z ι H (Ext.refl s.sub) s (Itc lo (-1) n) _ _ (by rw [show (downD lo n, (none : Option Nat)).1.length = n by simp [downD]]; exact walk_rangeC) (fun _ _ _ _ _ _ _ => trivial) fun Z2 ι2 μ2 H2 i d' x H3 x2 s2 _ hd hy => ?_
  obtain ⟨rfl, rfl⟩ := hy
  have : d' = .int (lo + (i : Int) * (-1)) := by
    simp only [downD, List.getElem?_map, Option.map_eq_some_iff] at hd
    obtain ⟨k, h1, h2⟩ := hd
    rw [← h2]
    have := (List.getElem?_eq_some_iff.mp h1).2
    simp at this
    rw [this]
  rw [this]
  exact ⟨Same.refl _, .int _⟩
theorem fi_range3 {p : Pos} (hm : X.mg "range" = none) (ha : FA X W [a, b, c] ms) (hg : Gl X "range" := by rfl) (hs : starEach [a, b, c] X.env = (false, eval a X.env) :: starEach [b, c] X.env := by rfl) (hpl : (backTo pos (starEach [b, c] X.env)).any (·.1) = false := by rfl) :
    FI X W tg (.Call (.Name "range" p) [a, b, c] [] pos) (mItA rng3 ms) := by
  refine pi_imp (pi_range3 hg hm ha hs hpl) fun σ H R ⟨Z, ι, ρ, μ, R0, o⟩ => tMA_it R0 o fun v μ' Z' ι' H' x x1 R1 r1 o1 => ?_
  unfold rng3 at o1
  split at o1
  · rename_i i j k
    split at o1
    · rename_i hb
      obtain ⟨rfl, h1, h2, h3, h4⟩ := hb
      cases r1 with | cons a b => cases b with | cons b c => cases c with | cons c d => cases d with | nil => cases a with | d a => cases a with | int => cases b with | d b => cases b with | int => cases c with | d c => cases c with | int => exact ⟨i, j, -1, _, rfl, RgC.neg h1 h2 h3 h4, its_down R1.sta o1⟩
    · exact o1.elim
  · exact o1.elim
/-! max(xs, default=d) -/
def maxI (d : Int) : List Int → Int
  | [] => d
  | x :: xs => xs.foldl (fun a y => if a < y then y else a) x
def maxDf (d : Int) : D → Option D
  | .lst xs => (nums xs).map fun ns => .int (maxI d ns)
  | _ => none
def rMaxK (K : PySem.W.Frag) : List V → List V → Hp → VK → Prop := fun vs zs H Q => ∃ (p : Addr) (ns : List Int) (d : Int), vs = [.ref p] ∧ zs = [.int d] ∧ SqL K H p (ns.map V.int) ∧ Q (.int (maxI d ns)) H
theorem ints_read {h : Heap} : ∀ {ns : List Int} {us : List Value}, Vals (ns.map V.int) us → ∃ as, PySem.ReadsAll h us (ns.map PySem.W.Datum.toD) as
  | [], _, .nil => ⟨[], .nil⟩
  | n :: ns, _, .cons a b => by
    obtain ⟨as, r⟩ := ints_read (h := h) b
    obtain ⟨t, rfl⟩ := a
    exact ⟨[] ++ as, .cons (.int n t) r⟩
theorem cr_maxK (hc : X.calm = true) (hu : X.A.units + 64 < cLine) : CallRK X (.builtin "max") [Str.ofString "default"] (rMaxK X.K) := by
  intro pins s σ H vs zs us ws Q I r rz h
  obtain ⟨p, ns, d, rfl, rfl, hs, q⟩ := h
  obtain ⟨u, rfl, ru⟩ := vals1 r
  obtain ⟨w, rfl, rw'⟩ := vals1 rz
  cases (show u = Value.ref p from ru)
  obtain ⟨t, rfl⟩ := rw'
  obtain ⟨its, rv, hl, hz⟩ := I.list hs
  show wpAny _ _ (call (.builtin "max") [.ref p] [(Str.ofString "default", .int d t)]) _ _ _
  refine PySem.W.max_list_datum_default (α := Int) (xs := ns) (I.ok.hd hc) hl.isList (by rw [List.toList_toArray]; exact ints_read rv) (by show X.A.units + 1 + 0 < cLine; omega) (fun e h' tk hk => ?_) (fun y ys i v h' tk e hi hv hk => ?_)
  · subst e
    exact ⟨.int d, H, I.kept (t' := tk) hk, ⟨t, rfl⟩, q⟩
  · subst e
    obtain ⟨as, r⟩ := hv
    have r : PySem.Reads h' v (.int (PySem.W.maxOf y ys)) as := r
    cases r with | int _ t' =>
      refine ⟨.int (maxI d (y :: ys)), H, I.kept (t' := tk) hk, ⟨t', ?_⟩, q⟩
      unfold maxI PySem.W.maxOf
      congr 2
      funext a y
      show (if decide (a < y) = true then y else a) = _
      simp
theorem fe_maxd {p kp kpos : Pos} {j : Nat} {d : Int} (hm : X.mg "max" = none) (hc : X.calm = true) (hr : X.A.units + 64 < cLine) (ha : FA X W [e] ms) (hg : Gl X "max" := by rfl)
    (he : backTo pos (starEach [e] X.env) = (false, eval e X.env) :: backTo pos (starEach [] X.env) := by rfl) (hpl : (backTo pos (starEach [e] X.env)).any (·.1) = false := by rfl) :
    FE X W (.Call (.Name "max" p) [e] [⟨some "default", .Constant (.int d) j kp, kpos⟩] pos) (mN (one (maxDf d)) ms) := by
  refine pe_imp (pe_callBK (cr_maxK hc hr) hg hm PyProof.Rows.boot_max ha (pk_cons pe_int pk_nil) (by decide) (by decide) he hpl) fun σ H Q ⟨Z, ι, ρ, μ, R, o⟩ => ?_
  refine tMA_bind R o fun v μ' Z' ι' H' x x1 R1 r1 o1 => ?_
  unfold opN at o1
  split at o1
  · rename_i xs hx
    have dv := views_ok R1.sta r1 hx
    split at o1
    · rename_i z hz
      unfold one at hz
      split at hz
      · rename_i d0
        cases dv with | cons dv t => cases t with | nil =>
          unfold maxDf at hz
          split at hz
          · rename_i ys
            obtain ⟨ns, h1, rfl⟩ := Option.map_eq_some_iff.mp hz
            obtain ⟨a, vs, rfl, h2, h3⟩ := dv.list
            have := nums_ok h3 h1
            subst this
            exact ⟨a, ns, d, rfl, rfl, .inl (.inl h2), Out.ret R1.sta o1 (.d (.int _))⟩
          · cases hz
      · cases hz
    · exact o1.elim
  · exact o1.elim
end
end TT

namespace TT
open PySem L2
variable [TB]
/-! {k: v for ..}, as data -/
abbrev MK := En → List MO → Res (List (Key × D))
def tFk (K : PySem.W.Frag) (W : WX) (m : MK) : TE := fun σ H Q => ∃ Z ι ρ μ, Rel K Z ι ρ μ σ H ∧ Out K W σ Z ι H (m ρ μ) (fun xs Z' ι' H' => ∀ a vs, H a = none → a ∈ Z' → a ∉ ι' → H' a = some (.dK vs) → DRk K (mask H' Z') xs vs → Q (.ref a) H')
abbrev FK (X : Cx) (W : WX) (e : Expr) (m : MK) : Prop := PE X e (tFk X.K W m)
def mFk (m : MK) : ME := fun ρ μ => (m ρ μ).bind fun xs μ1 => .ok (.d (.dK xs)) μ1
noncomputable def dcD (q : List D × Option Nat) (g : MG) (c : MT) (ek ev : ME) (ρ : En) : List D → List (Key × D) → List MO → Res (List (Key × D))
  | [], acc, μ => if chk q μ = true then .ok acc μ else .bad
  | x :: xs, acc, μ => if chk q μ = true then (match g (.d x) ρ with
    | none => .bad
    | some ρ1 => (c ρ1 μ).calm.bind fun k μ1 => if k = true then (ek ρ1 μ1).calm.bind fun kv μ2 => (ev ρ1 μ2).calm.bind fun v μ3 => (match kv, v with
        | .d dk, .d y => match keyOf dk with
          | some kk => dcD q g c ek ev ρ xs (putD acc kk y) μ3
          | none => .bad
        | _, _ => .bad) else dcD q g c ek ev ρ xs acc μ1) else .bad
noncomputable def mDC (mi : MI) (g : MG) (c : MT) (ek ev : ME) (vs : List Nat) : MK := fun ρ μ => (mi ρ μ).bind fun q μ1 => if q.1.length ≤ sizeLine then dcD q g c ek ev (wipeM ρ vs) q.1 [] μ1 else .bad
theorem wipe_twice (us : List Nat) (τ : L2.St) : wipe (wipe τ us) us = wipe τ us := by
  have key : ∀ (ws : List Nat) (τ : L2.St) (i : Nat), i ∈ ws → (wipe τ ws).set i none = wipe τ ws := by
    intro ws
    induction ws with
    | nil => intro τ i h; cases h
    | cons u us ih =>
      intro τ i h
      unfold wipe
      by_cases e : i = u
      · subst e; rw [List.set_set]
      · have h2 : i ∈ us := by
          rcases List.mem_cons.mp h with z | z
          · exact (e z).elim
          · exact z
        rw [List.set_comm _ _ (fun z => e z.symm), ih τ i h2]
  have key2 : ∀ (ws us : List Nat) (τ : L2.St), (∀ i ∈ ws, i ∈ us) → wipe (wipe τ us) ws = wipe τ us := by
    intro ws
    induction ws with
    | nil => intro us τ _; rfl
    | cons u ws ih =>
      intro us τ h
      show (wipe (wipe τ us) ws).set u none = wipe τ us
      rw [ih us τ fun i hi => h i (List.mem_cons_of_mem _ hi), key us τ u (h u List.mem_cons_self)]
  exact key2 us us τ fun _ h => h
theorem putD_len (kvs : List (Key × D)) (k : Key) (d : D) : (putD kvs k d).length ≤ kvs.length + 1 := by
  unfold putD
  split <;> simp
section
variable {X : Cx} {W : WX}
theorem dcD_chk {K : PySem.W.Frag} {σ : St} {Z ι : List Addr} {H : Hp} {P : List (Key × D) → List Addr → List Addr → Hp → Prop} {q : List D × Option Nat} {g : MG} {c : MT} {ek ev : ME} {ρ : En} {xs : List D} {acc : List (Key × D)} {μ : List MO} (o : Out K W σ Z ι H (dcD q g c ek ev ρ xs acc μ) P) : chk q μ = true := by
  cases xs <;> (unfold dcD at o; split at o; assumption; exact o.elim)
theorem Sta.sideK {K : PySem.W.Frag} {Z ι : List Addr} {μ : List MO} {H : Hp} (s : Sta K Z ι μ H) {a : Addr} {o : HO} {as : List (Key × V)} (he : H a = some (.dK as)) (hz : a ∈ Z) (n : a ∉ ι) : Sta K Z ι μ (upd H a o) := by
  have ms : Same (mask H Z) (mask (upd H a o) Z) := fun b u e => by
    obtain ⟨n1, e1⟩ := of_mask e
    exact mask_in n1 ((upd_ne fun q => n1 (by rw [q]; exact hz)).trans e1) (mask_nt e)
  refine ⟨s.sub, s.nd, s.len, fun b hb => ?_, tabs_upd s.tab he (fun ps z => by cases z) (fun c q z => by cases z), fun k b o' h1 h2 => ?_⟩
  · by_cases q : b = a
    · rw [q]; exact ⟨o, upd_same⟩
    · obtain ⟨u, e⟩ := s.trk b hb; exact ⟨u, (upd_ne q).trans e⟩
  · obtain ⟨ho, h3, h4⟩ := s.obj k b o' h1 h2
    refine ⟨ho, (upd_ne fun q => n ?_).trans h3, h4.mono ms (fun _ _ h => h)⟩
    rw [← q]
    exact List.mem_of_getElem? h1
theorem dc_it {J : It} {n : Nat} {G : Hp → Prop} {Y : Nat → Hp → V → Hp → Prop} (w : Walk J n G Y) {g : TG} {tt : TT} {tk tv : TE} {vs : List Nat} {σ : St} {H1 : Hp} {D : Addr} {Qd : Hp → Prop} (Pv : Nat → Hp → Prop) (h0 : Pv 0 (upd H1 D (.dK []))) (hG : ∀ i H, i ≤ n → Pv i H → G H)
    (hs : ∀ i x H H', i < n → Pv i H → Y i H x H' → g x (wipe σ vs) H' fun σ2 H2 => wipe σ2 vs = wipe σ vs ∧ tt σ2 H2 fun b H3 =>
      if b = true then tk σ2 H3 fun y H4 => tv σ2 H4 fun z H5 => ∃ kvs k, y = kV k ∧ H5 D = some (.dK kvs) ∧ kvs.length < sizeLine ∧ Pv (i + 1) (upd H5 D (.dK (putK kvs k z))) else Pv (i + 1) H3) (hd : ∀ H, Pv n H → Qd H) :
    ∃ W : Nat → Nat → Hp → Prop, (∃ m, W 0 m (upd H1 D (.dK []))) ∧ ∀ i m H, W i m H →
      (J.stop i H ∧ Qd H) ∨ (J.go i H ∧ ∃ Nx : Hp → Prop, (∀ H', Nx H' → ∃ m', m' < m ∧ W (i + 1) m' H') ∧ ∀ x H', J.yld i H x H' → g x (wipe σ vs) H' fun σ2 H2 => wipe σ2 vs = wipe σ vs ∧ tt σ2 H2 fun b H3 =>
        if b = true then tk σ2 H3 fun y H4 => tv σ2 H4 fun z H5 => ∃ kvs k, y = kV k ∧ H5 D = some (.dK kvs) ∧ kvs.length < sizeLine ∧ Nx (upd H5 D (.dK (putK kvs k z))) else Nx H3) := by
  refine ⟨fun i m H => Pv i H ∧ i ≤ n ∧ m + i = n, ⟨n, h0, by omega, by omega⟩, fun i m H ⟨p, l, e⟩ => ?_⟩
  rcases Nat.lt_or_ge i n with hl | hl
  · exact .inr ⟨w.goes i H hl (hG i H l p), Pv (i + 1), fun H' p' => ⟨m - 1, by omega, p', by omega, by omega⟩, fun x H' y => hs i x H H' hl p (w.yields i H x H' hl (hG i H l p) y)⟩
  · have : i = n := by omega
    subst this
    exact .inl ⟨w.stops H (hG i H l p), hd H p⟩
theorem dc_read {K : PySem.W.Frag} {mi : MI} {g : TG} {gm : MG} {c : MT} {ek ev : ME} {vs0 : List Nat} (hgo : GOk K g gm vs0) {σ : St} {H : Hp} {Q : VK} (h : tFk K W (mDC mi gm c ek ev vs0) σ H Q) : tDc (tMI K W mi) g (tMT K W0 c) (tM K W0 ek) (tM K W0 ev) vs0 σ H Q := by
  obtain ⟨Z, ι, ρ, μ, R, o⟩ := h
  refine ⟨Z, ι, ρ, μ, R, ?_⟩
  unfold mDC at o
  cases eq : mi ρ μ with
  | exc C fs μ' => rw [eq] at o; exact o
  | bad => rw [eq] at o; exact o
  | ok q μ1 =>
    rw [eq] at o
    simp only [Res.bind_ok] at o
    split at o
    · rename_i hsz
      intro Z1 ι1 H1 x1 s1 J G Y w hG hY L hL
      have R1 := R.ext x1 s1
      have nL : L ∉ Z1 := fun z => by obtain ⟨u, e⟩ := s1.trk L z; rw [hL] at e; cases e
      have nH : H L = none := by
        cases qq : H L with
        | none => rfl
        | some u =>
          by_cases h2 : L ∈ ι
          · exact (nL (x1.z L (x1.sub L h2))).elim
          · exact qq.symm.trans (x1.free h2 hL)
      generalize vs0 = vs at o hgo ⊢
      refine dc_it w (fun i H2 => ∃ Z2 ι2 μ2 acc as, Ext Z1 ι1 H1 Z2 ι2 H2 ∧ Sta K Z2 ι2 μ2 H2 ∧ L ∈ Z2 ∧ L ∉ ι2 ∧ H2 L = some (.dK as) ∧ DRk K (mask H2 Z2) acc as ∧ acc.length ≤ i ∧
          Out K W σ Z ι H (dcD q gm c ek ev (wipeM ρ vs) (q.1.drop i) acc μ2) (fun xs Z' ι' H' => ∀ a vs, H a = none → a ∈ Z' → a ∉ ι' → H' a = some (.dK vs) → DRk K (mask H' Z') xs vs → Q (.ref a) H')) ?_ ?_ ?_ ?_
      · have sm : Same H1 (upd H1 L (.dK [])) := fun b o e => (upd_ne (ne_of_none e hL)).trans e
        have ms : Same (mask H1 Z1) (mask (upd H1 L (.dK [])) (L :: Z1)) := fun b o e => by
          have t := mask_nt e
          obtain ⟨n, e⟩ := of_mask e
          refine mask_in (fun q => ?_) (sm b o e) t
          rcases List.mem_cons.mp q with z | z
          · rw [z, hL] at e; cases e
          · exact n z
        refine ⟨L :: Z1, ι1, μ1, [], [], ⟨s1.sub, fun b hb => List.mem_cons_of_mem _ hb, fun _ _ h => h, fun b o _ _ e => sm b o e, fun b ps e => ⟨ps, sm b _ e⟩, fun b hb => ?_, fun b hb => .inl hb⟩, ⟨fun b hb => List.mem_cons_of_mem _ (s1.sub b hb), s1.nd, s1.len, fun b hb => ?_, s1.tab.ext sm, fun k b o' h1 h2 => ?_⟩,
          List.mem_cons_self, fun z => nL (s1.sub L z), upd_same, .nil, Nat.le_refl _, o⟩
        · rcases List.mem_cons.mp hb with z | z
          · rw [z]; exact .inr hL
          · exact .inl z
        · rcases List.mem_cons.mp hb with z | z
          · rw [z]; exact ⟨_, upd_same⟩
          · obtain ⟨u, e⟩ := s1.trk b z; exact ⟨u, sm b u e⟩
        · obtain ⟨ho, h3, h4⟩ := s1.obj k b o' h1 h2
          exact ⟨ho, sm b ho h3, h4.mono ms (fun _ _ h => h)⟩
      · rintro i H2 hi ⟨Z2, ι2, μ2, acc, as, x2, s2, l1, l2, l3, l4, l5, o2⟩
        exact hG Z2 ι2 μ2 H2 x2 s2 (dcD_chk o2)
      · rintro i x H2 H3 hi ⟨Z2, ι2, μ2, acc, as, x2, s2, l1, l2, l3, l4, l5, o2⟩ hy
        have hx : q.1[i]? = some q.1[i] := by simp [hi]
        obtain ⟨sm, dr⟩ := hY Z2 ι2 μ2 H2 i _ x H3 x2 s2 (dcD_chk o2) hx hy
        rw [List.drop_eq_getElem_cons hi] at o2
        have hck := dcD_chk o2
        unfold dcD at o2
        rw [if_pos hck] at o2
        obtain ⟨s3, x3⟩ := s2.grow sm
        split at o2
        · exact o2.elim
        · rename_i ρ1 hg1
          have R3 : Rel K Z2 ι2 (wipeM ρ vs) μ2 (wipe σ vs) H3 := ⟨s3, ((R1.rs.mono x2.same x2.i).mono x3.same x3.i).wipe vs⟩
          refine hgo Z2 ι2 _ μ2 _ H3 _ x ρ1 _ R3 (.d dr) hg1 fun σ4 R4 w4 => ⟨?_, Z2, ι2, ρ1, μ2, R4, ?_⟩
          · rw [w4]
            exact wipe_twice vs σ
          · cases ec : c ρ1 μ2 with
            | exc C fs μ' => rw [ec] at o2; exact o2.elim
            | bad => rw [ec] at o2; exact o2
            | ok k μ3 =>
              rw [ec] at o2
              simp only [Res.calm_ok, Res.bind_ok] at o2
              intro Z4 ι4 H4 x4 s4
              have xa : Ext Z1 ι1 H1 Z4 ι4 H4 := (x2.trans x3).trans x4
              have l4' : DRk K (mask H4 Z4) acc as := (l4.mono x3.same _ _).mono x4.same _ _
              have l3' : H4 L = some (.dK as) := x4.keep L _ l2 True.intro (sm L _ l3)
              have l2' : L ∉ ι4 := fun z => by
                rcases x4.newi L z with z | z
                · exact l2 z
                · rw [sm L _ l3] at z; cases z
              cases k with
              | false => exact ⟨Z4, ι4, μ3, acc, as, xa, s4, x4.z L l1, l2', l3', l4', by omega, o2⟩
              | true =>
                refine ⟨Z4, ι4, ρ1, μ3, R4.ext x4 s4, ?_⟩
                simp only [if_true] at o2
                cases ee : ek ρ1 μ3 with
                | exc C fs μ' => rw [ee] at o2; exact o2.elim
                | bad => rw [ee] at o2; exact o2
                | ok kv μ5 =>
                  rw [ee] at o2
                  simp only [Res.calm_ok, Res.bind_ok] at o2
                  intro Z5 ι5 H5 x5 s5 y ry
                  refine ⟨Z5, ι5, ρ1, μ5, (R4.ext x4 s4).ext x5 s5, ?_⟩
                  have m5 : H5 L = some (.dK as) := x5.keep L _ l2' True.intro l3'
                  have n5 : L ∉ ι5 := fun z => by
                    rcases x5.newi L z with z | z
                    · exact l2' z
                    · rw [l3'] at z; cases z
                  have z5 : L ∈ Z5 := x5.z L (x4.z L l1)
                  cases e6 : ev ρ1 μ5 with
                  | exc C fs μ' => rw [e6] at o2; exact o2.elim
                  | bad => rw [e6] at o2; exact o2
                  | ok v μ6 =>
                    rw [e6] at o2
                    simp only [Res.calm_ok, Res.bind_ok] at o2
                    intro Z6 ι6 H6 x6 s6 z rz
                    split at o2
                    · rename_i dk yy
                      split at o2
                      · rename_i kk hkk
                        cases ry with | d ry => cases rz with | d rz =>
                          have m6 : H6 L = some (.dK as) := x6.keep L _ n5 True.intro m5
                          have n6 : L ∉ ι6 := fun z => by
                            rcases x6.newi L z with z | z
                            · exact n5 z
                            · rw [m5] at z; cases z
                          have z6 : L ∈ Z6 := x6.z L z5
                          have xb : Ext Z1 ι1 H1 Z6 ι6 H6 := (xa.trans x5).trans x6
                          have hkv := keyOf_ok (.d ry : DV K Z5 H5 dk y) hkk
                          refine ⟨as, kk, hkv, m6, ?_, Z6, ι6, μ6, putD acc kk yy, putK as kk z, ⟨xb.sub, xb.z, xb.i, fun b u n t e => ?_, fun b ps e => ?_, xb.new, xb.newi⟩, s6.sideK m6 z6 n6, z6, n6, upd_same, ?_, ?_, o2⟩
                          · rw [← l4'.len]; omega
                          · rw [upd_ne (ne_of_none e hL)]; exact xb.keep b u n t e
                          · obtain ⟨qs, z⟩ := xb.tb b ps e
                            exact ⟨qs, (upd_ne (ne_of_none e hL)).trans z⟩
                          · have ms : Same (mask H6 Z6) (mask (upd H6 L (.dK (putK as kk z))) Z6) := fun b u e => by
                              obtain ⟨n1, e1⟩ := of_mask e
                              exact mask_in n1 ((upd_ne fun q => n1 (by rw [q]; exact z6)).trans e1) (mask_nt e)
                            exact DRk.put (DR.mono ms _ _ rz) (((l4'.mono x5.same _ _).mono x6.same _ _).mono ms _ _)
                          · have := putD_len acc kk yy; omega
                      · exact o2.elim
                    · exact o2.elim
      · rintro H2 ⟨Z2, ι2, μ2, acc, as, x2, s2, l1, l2, l3, l4, l5, o2⟩
        rw [List.drop_length] at o2
        have hck := dcD_chk o2
        unfold dcD at o2
        rw [if_pos hck] at o2
        exact o2 Z2 ι2 H2 (x1.trans x2) s2 L as nH l1 l2 l3 l4
    · exact o.elim
theorem fe_fk {e : Expr} {mk : MK} (h : FK X W e mk) : FE X W e (mFk mk) := by
  refine pe_imp h fun σ H Q ⟨Z, ι, ρ, μ, R, o⟩ => ⟨Z, ι, ρ, μ, R, ?_⟩
  unfold mFk at o
  cases q : mk ρ μ with
  | exc C fs μ' => rw [q] at o; exact o
  | bad => rw [q] at o; exact o
  | ok xs μ' =>
    rw [q] at o
    intro Z' ι' H' x s a vs h1 h2 h3 h4 h5
    refine o _ ι' H' (x.freeze R.sta.trk h1) (s.freeze h3) _ (.d (.dK (mask_in (fun q => ?_) h4) (h5.mono (mask_less fun b hb => (List.mem_filter.mp hb).1) _ _)))
    exact of_decide_eq_true (List.mem_filter.mp q).2 rfl
theorem fk_dc {kx vx tg iter : Expr} {ifs : List Expr} {scope : Scope} {own : List (Str × Nat)} {pos : Pos} {mi : MI} {g : TG} {gm : MG} {c : MT} {ek ev : ME} (hc : X.calm = true) (hN : X.N.Nodup) (hi : FI X W tg iter mi) (ok : BlkOk X.N X.env.scope scope own)
    (hgo : GOk X.K g gm (own.map (·.2))) (hg : ∀ (s : Shared) (H : Hp) (C : Addr) (cl : List (Str × Addr)) (fp : List Addr), PG (X.blk s H scope (compEnvC scope cl C X.env) fp) tg g)
    (ht : ∀ (s : Shared) (H : Hp) (C : Addr) (cl : List (Str × Addr)) (fp : List Addr), FTs (X.blk s H scope (compEnvC scope cl C X.env) fp) W0 ifs c)
    (hk : ∀ (s : Shared) (H : Hp) (C : Addr) (cl : List (Str × Addr)) (fp : List Addr), FE (X.blk s H scope (compEnvC scope cl C X.env) fp) W0 kx ek)
    (he : ∀ (s : Shared) (H : Hp) (C : Addr) (cl : List (Str × Addr)) (fp : List Addr), FE (X.blk s H scope (compEnvC scope cl C X.env) fp) W0 vx ev) (hs : ∀ x, foldedSetIterable iter X.env x = pure x := by intro _; rfl) :
    FK X W (.DictComp kx vx [⟨tg, iter, ifs, 0⟩] scope pos) (mDC mi gm c ek ev (own.map (·.2))) :=
  pe_imp (pe_dc (g := g) (tt := tMT X.K W0 c) (tk := tM X.K W0 ek) (tv := tM X.K W0 ev) hc hN hi ok hg ht hk he hs) fun σ H Q h => dc_read hgo h
/-- y = {..} on one line -/
theorem setDc {i : Nat} {y : Str} {py : Pos} {kx vx tg iter : Expr} {ifs : List Expr} {scope : Scope} {own : List (Str × Nat)} {pos spos : Pos} {mi : MI} {g : TG} {gm : MG} {c : MT} {ek ev : ME} (hc : X.calm = true) (hN : X.N.Nodup) (hy : X.N[i]? = some y) (hyl : X.env.scope.names.lookup y = some .local)
    (hsw : swapsWith (.DictComp kx vx [⟨tg, iter, ifs, 0⟩] scope pos) (some (.Name y py)) spos.line X.env = pure true) (hi : FI X W tg iter mi) (ok : BlkOk X.N X.env.scope scope own)
    (hgo : GOk X.K g gm (own.map (·.2))) (hg : ∀ (s : Shared) (H : Hp) (C : Addr) (cl : List (Str × Addr)) (fp : List Addr), PG (X.blk s H scope (compEnvC scope cl C X.env) fp) tg g)
    (ht : ∀ (s : Shared) (H : Hp) (C : Addr) (cl : List (Str × Addr)) (fp : List Addr), FTs (X.blk s H scope (compEnvC scope cl C X.env) fp) W0 ifs c)
    (hk : ∀ (s : Shared) (H : Hp) (C : Addr) (cl : List (Str × Addr)) (fp : List Addr), FE (X.blk s H scope (compEnvC scope cl C X.env) fp) W0 kx ek)
    (he : ∀ (s : Shared) (H : Hp) (C : Addr) (cl : List (Str × Addr)) (fp : List Addr), FE (X.blk s H scope (compEnvC scope cl C X.env) fp) W0 vx ev) (hs : ∀ x, foldedSetIterable iter X.env x = pure x := by intro _; rfl) :
    PS X (.Assign [.Name y py] (.DictComp kx vx [⟨tg, iter, ifs, 0⟩] scope pos) spos) (tAsg (tFk X.K W (mDC mi gm c ek ev (own.map (·.2)))) (gName i)) := by
  refine ⟨fun pins s σ H E I h => ?_⟩
  have h2 : tDc (tMI X.K W mi) g (tMT X.K W0 c) (tM X.K W0 ek) (tM X.K W0 ev) (own.map (·.2)) σ H (fun x H1 => gName i x σ H1 E.nx) := dc_read hgo h
  rw [exec_Assign_Name_used _ _ _ _ hsw]
  refine wpAny_bind (wpAny_standAt (wpAny_bind ?_))
  show wpAny _ X.A (do let _ ← comprehension (.DictComp kx vx [⟨tg, iter, ifs, 0⟩] scope pos) scope X.env (firstIterPos [⟨tg, iter, ifs, 0⟩] pos) newDict false (eval iter X.env) (some (assign (.Name y py) X.env))) _ _ s
  refine wpAny_bind (thn (dc_core (Qf := fun _ t => SP X pins E .next t) hc hN I hi ok hg ht hk he hs h2 fun L C t m H' J q hn f => ?_) fun _ t z => wpAny_pure (wpAny_pure z))
  obtain ⟨f0, f1, f2, f3, f4, f5⟩ := f
  refine wpAny_assign_Name (store_ok2 (v := V.ref L) J hN hy (.inl hyl) rfl (fun t2 J2 ⟨a, sb, ha⟩ => ?_) (.inr hyl))
  have ne : C ≠ a := by
    rcases ha with z | z
    · exact z ▸ f1
    · exact fun e => f4 y a z e.symm
  exact ⟨m, hn.sameBut sb ne, fun h3 sb3 => ⟨_, H', J2.turned (t' := t2.toks) (fun b o hb e => (sb3.2 b hb).trans e) f0 f1 f3 f4 f5, q⟩⟩
theorem fs_dcF {i : Nat} {st : Stmt} {mk : MK} (h : PS X st (tAsg (tFk X.K W mk) (gName i))) : FS X W st (mAsg (mFk mk) (gN i)) := by
  refine ps_imp h fun E σ H ⟨Z, ι, ρ, μ, R, o⟩ => ⟨Z, ι, ρ, μ, R, ?_⟩
  unfold mAsg mFk at o
  cases q : mk ρ μ with
  | exc C fs μ' => rw [q] at o; exact Out.exc_of R o
  | bad => rw [q] at o; exact o
  | ok xs μ' =>
    rw [q] at o
    intro Z' ι' H' x s a vs h1 h2 h3 h4 h5
    have s2 := s.freeze h3
    have x2 := x.freeze R.sta.trk h1
    have d : DR X.K (mask H' (Z'.filter (· ≠ a))) (.dK xs) (.ref a) := .dK (mask_in (fun q => of_decide_eq_true (List.mem_filter.mp q).2 rfl) h4) (h5.mono (mask_less fun b hb => (List.mem_filter.mp hb).1) _ _)
    exact o _ ι' H' _ x2 ⟨s2, (R.ext x2 s2).rs.set (.d d) i⟩
theorem swd_true {kx vx : Expr} {gs : List Comprehension} {scope : Scope} {pos py : Pos} {y : Str} {l : Nat} {env : Env} (hk : env.scope.kind = .function) (hy : env.scope.names.lookup y = some .local) (hl : (py.line == pos.line) = true)
    (ha : (scope.names.any fun (n, k) => n == y && (k == .local || k == .cell)) = false) : swapsWith (.DictComp kx vx gs scope pos) (some (.Name y py)) l env = pure true := by
  have b1 : env.kindOf y = some .local := hy
  have b2 : env.blockKind = .function := by unfold Env.blockKind; rw [hk]; rfl
  unfold swapsWith
  simp only [b2, b1, ha, Expr.pos, hl]
  rfl
end
end TT

namespace TT
open PySem L2
variable [TB]
/-! the first text that stands twice -/
def ftAt (seen : List Str) : List Str → D
  | [] => .non
  | x :: xs => if x ∈ seen then .str x else ftAt (x :: seen) xs
theorem ft_cons (seen : List Str) (x : Str) (xs : List Str) : ftAt seen (x :: xs) = if x ∈ seen then .str x else ftAt (x :: seen) xs := rfl
def strsD : List D → Option (List Str)
  | [] => some []
  | .str x :: r => (strsD r).map (x :: ·)
  | _ => none
theorem strsD_ok {K : PySem.W.Frag} {F : Hp} : ∀ {xs : List D} {vs : List V} {ss : List Str}, DRs K F xs vs → strsD xs = some ss → vs = ss.map V.str
  | _, _, _, .nil, e => by cases e; rfl
  | _, _, _, .cons (d := d) a b, e => by
    unfold strsD at e
    split at e
    · rename_i h; cases h
    · rename_i h
      cases h
      obtain ⟨ts, h1, rfl⟩ := Option.map_eq_some_iff.mp e
      rw [strsD_ok b h1]
      cases a
      rfl
    · cases e
def ftD : MF := fun as μ => match as with
  | [a] => match (view μ a).bind itemsD with
    | some xs => match strsD xs with
      | some ss => if ss.length < 4000 then .ok (.d (ftAt [] ss)) μ else .bad
      | none => .bad
    | none => .bad
  | _ => .bad
def dV : D → V
  | .str x => .str x
  | _ => .non
theorem ft_rel {K : PySem.W.Frag} {F : Hp} : ∀ (ss seen : List Str), DR K F (ftAt seen ss) (dV (ftAt seen ss))
  | [], _ => .non
  | x :: xs, seen => by
    unfold ftAt
    split
    · exact .str x
    · exact ft_rel xs _
section
variable {X : Cx} {W : WX} {p1 p2 p3 p4 p5 p6 p7 p8 p9 p10 p11 p12 p13 p14 p15 p16 p17 p18 p19 p20 : Pos} {j : Nat}
abbrev sNames : Str := "names"
abbrev sSeen : Str := "seen"
abbrev sName : Str := "name"
theorem ft_body (hN : X.N = [sNames, sSeen, sName]) (hc : X.calm = true) (hp : PassesOwn (model X.prog X.w) X.A X.env X.xe) (hg : Gl X "set") (hm : X.mg "set" = none) (l0 : X.env.scope.names.lookup sNames = some .local) (l1 : X.env.scope.names.lookup sSeen = some .local) (l2 : X.env.scope.names.lookup sName = some .local) (hline : (p11.endLine == p13.line) = true)
    {E : Ends} {σ : L2.St} {H : Hp} {a : Addr} {ss : List Str} (hσ : σ = [some (.ref a), none, none]) (hs : SqL X.K H a (ss.map V.str) ∨ SqT X.K H a (ss.map V.str)) (hl : ss.length < 4000)
    (hq : ∀ p S n, H p = none → E.rt (dV (ftAt [] ss)) (upd H p (SetK X.prog X.w p S n))) :
    ∃ t, PSs X [.Assign [.Name sSeen p1] (.Call (.Name "set" p2) [] [] p3) p4,
      .For (.Name sName p5) (.Name sNames p6) [.If (.Compare (.Name sName p7) [.In] [.Name sSeen p8] p9) [.Return (some (.Name sName p10)) p14] [] p15, .Expr (.Call (.Attribute (.Name sSeen p12) "add" p11) [.Name sName p16] [] p13) p17] [] p18,
      .Return (some (.Constant .none j p19)) p20] t ∧ t E σ H := by
  have nd : X.N.Nodup := by rw [hN]; decide
  have i0 : X.N[0]? = some sNames := by rw [hN]; rfl
  have i1 : X.N[1]? = some sSeen := by rw [hN]; rfl
  have i2 : X.N[2]? = some sName := by rw [hN]; rfl
  refine ⟨_, pss_cons (ps_set nd i1 (.inl l1) (pe_callTy0 cr_set0K hg hm PyProof.Rows.boot_set) (hf := .inr l1)) (pss_cons (ps_for hp hc (pi_or (pi_list (pe_var i0 (.inl l0))) (pi_tup (pe_var i0 (.inl l0)))) (pg_name nd i2 (.inl l2) (.inr l2))
    (pss_cons (ps_if (pt_cmpR or_sinK (pe_var i2 (.inl l2)) (pe_var i1 (.inl l1)) rfl) (pss_one (ps_ret (pe_var i2 (.inl l2)))) pss_nil) (pss_one (ps_expr (pe_saddK (pe_var i1 (.inl l1)) (pa_cons (pe_var i2 (.inl l2)) pa_nil) (hline := hline)))))) (pss_one (ps_ret pe_non))), ?_⟩
  subst hσ
  refine ⟨rfl, fun p hp0 => ?_⟩
  have sm : ∀ o, Same H (upd H p o) := fun o b u e => (upd_ne (ne_of_none e hp0)).trans e
  have core : ∀ {J : It} {G : Hp → Prop} (w : Walk J (ss.map V.str).length G (YAt (ss.map V.str))) (hG : ∀ S n, G (upd H p (SetK X.prog X.w p S n))),
      ∃ W : Nat → Nat → L2.St → Hp → Prop, (∃ m, W 0 m [some (.ref a), some (.ref p), none] (upd H p (SetK X.prog X.w p (fun _ => false) 0))) ∧ ∀ i m σ H, W i m σ H →
      (J.stop i H ∧ E.rt .non H) ∨ (J.go i H ∧ ∃ N : L2.St → Hp → Prop, (∀ σ' H', N σ' H' → ∃ m', m' < m ∧ W (i + 1) m' σ' H') ∧ ∀ x H', J.yld i H x H' → gName 2 x σ H' fun σ2 H2 =>
        (tSeq (tIfS (tTest (tOp (rSInK X.prog X.w false) (tVar 2) (tVar 1))) (tRet (tVar 2)) tNext) (tDrop (tSAddK X.prog X.w (tVar 1) (tCons (tVar 2) tNil)))) { nx := N, ct := N, bk := fun σ H => E.rt .non H, rt := E.rt } σ2 H2) := by
    intro J G w hG
    refine for_it w (D := { nx := fun σ H => E.rt .non H, rt := E.rt, bk := fun _ _ => False, ct := fun _ _ => False }) (fun i σ H2 => ∃ S n seen x, H2 = upd H p (SetK X.prog X.w p S n) ∧ σ = [some (.ref a), some (.ref p), x] ∧ n ≤ i ∧ (∀ y, S (.inr y) = decide (y ∈ seen)) ∧ ftAt [] ss = ftAt seen (ss.drop i))
      ⟨_, 0, [], none, rfl, rfl, Nat.le_refl _, fun y => by simp, rfl⟩ (fun i σ H2 hi ⟨S, n, seen, x, e, _⟩ => by rw [e]; exact hG S n) ?_ ?_
    · rintro i x σ H2 H3 hi ⟨S, n, seen, z, rfl, rfl, hn, hS, hf⟩ ⟨rfl, hx⟩
      rw [List.length_map] at hi
      rw [List.getElem?_map, List.getElem?_eq_getElem hi] at hx
      cases hx
      rw [List.drop_eq_getElem_cons hi, ft_cons] at hf
      have hb : S (.inr ss[i]) = decide (ss[i] ∈ seen) := hS _
      have back : ∀ b, S (.inr ss[i]) = b → (if b = true then tRet (tVar 2) else tNext) { nx := (tDrop (tSAddK X.prog X.w (tVar 1) (tCons (tVar 2) tNil))) { nx := fun σ H2 => ∃ S n seen x, H2 = upd H p (SetK X.prog X.w p S n) ∧ σ = [some (.ref a), some (.ref p), x] ∧ n ≤ i + 1 ∧ (∀ y, S (.inr y) = decide (y ∈ seen)) ∧ ftAt [] ss = ftAt seen (ss.drop (i + 1)), rt := E.rt }, rt := E.rt }
          [some (.ref a), some (.ref p), some (.str ss[i])] (upd H p (SetK X.prog X.w p S n)) := by
        intro b hbb
        cases b with
        | true =>
          rw [if_pos rfl]
          rw [hb] at hbb
          rw [if_pos (of_decide_eq_true hbb)] at hf
          refine ⟨.str ss[i], rfl, ?_⟩
          have := hq p S n hp0
          rw [hf] at this
          exact this
        | false =>
          rw [if_neg (by decide)]
          rw [hb] at hbb
          rw [if_neg (of_decide_eq_false hbb)] at hf
          have sb : n + 1 < scanBound := by unfold scanBound; omega
          refine ⟨.ref p, rfl, ⟨p, S, n, rfl, upd_same⟩, .str ss[i], rfl, p, .inr ss[i], S, n, rfl, rfl, upd_same, sb, _, _, ss[i] :: seen, some (.str ss[i]), upd_upd, rfl, ?_, fun y => ?_, hf⟩
          · split <;> omega
          · rw [hS y]
            by_cases e : y = ss[i]
            · simp [e]
            · have : (Sum.inr y : Key) ≠ Sum.inr ss[i] := fun z => e (Sum.inr.inj z)
              simp [e]
      refine ⟨.str ss[i], rfl, .ref p, rfl, .inr ss[i], p, S, n, rfl, rfl, upd_same, S (.inr ss[i]), rfl, ?_⟩
      have := back _ rfl
      revert this
      cases S (.inr ss[i]) <;> exact fun z => z
    · rintro σ H2 ⟨S, n, seen, x, rfl, rfl, hn, hS, hf⟩
      rw [List.length_map, List.drop_length] at hf
      have := hq p S n hp0
      rw [hf] at this
      exact this
  rcases hs with hs | hs
  · exact .inl ⟨.ref a, rfl, a, rfl, ⟨_, (sm _).seq hs⟩, core walk_list fun S n => (sm _).seq hs⟩
  · exact .inr ⟨.ref a, rfl, a, rfl, ⟨_, same_t (sm _) hs⟩, core walk_tup fun S n => same_t (sm _) hs⟩
theorem ft_ok (hN : X.N = [sNames, sSeen, sName]) (hc : X.calm = true) (hp : PassesOwn (model X.prog X.w) X.A X.env X.xe) (hg : Gl X "set") (hm : X.mg "set" = none) (l0 : X.env.scope.names.lookup sNames = some .local) (l1 : X.env.scope.names.lookup sSeen = some .local) (l2 : X.env.scope.names.lookup sName = some .local) (hline : (p11.endLine == p13.line) = true)
    {vs : List V} {H : Hp} {Q : VK} {E : XK} (h : spF X.K 1 ftD vs H Q E) :
    ∃ t, PSs X [.Assign [.Name sSeen p1] (.Call (.Name "set" p2) [] [] p3) p4,
      .For (.Name sName p5) (.Name sNames p6) [.If (.Compare (.Name sName p7) [.In] [.Name sSeen p8] p9) [.Return (some (.Name sName p10)) p14] [] p15, .Expr (.Call (.Attribute (.Name sSeen p12) "add" p11) [.Name sName p16] [] p13) p17] [] p18,
      .Return (some (.Constant .none j p19)) p20] t ∧ t { nx := fun _ H' => Q .non H', rt := Q } (L2.start [sNames, sSeen, sName] vs) H := by
  obtain ⟨hl, Z, ι, as, μ, st, r, o⟩ := h
  unfold ftD at o
  split at o
  · rename_i a
    cases r with | cons ra rr => cases rr with | nil =>
      rename_i v
      split at o
      · rename_i xs hx
        obtain ⟨d, h1, h2⟩ := Option.bind_eq_some_iff.mp hx
        have dv := view_ok st ra h1
        split at o
        · rename_i ss hs
          split at o
          · rename_i hlt
            have fin : ∀ (b : Addr) (p : Addr) (S : Key → Bool) (n : Nat), H p = none → Q (dV (ftAt [] ss)) (upd H p (SetK X.prog X.w p S n)) := fun b p S n hp0 => by
              have sm : Same H (upd H p (SetK X.prog X.w p S n)) := fun b u e => (upd_ne (ne_of_none e hp0)).trans e
              exact o Z ι _ (st.grow sm).2 (st.grow sm).1 _ (.d (ft_rel ss []))
            cases d with
            | lst ys =>
              cases h2
              obtain ⟨b, vs', rfl, q1, q2⟩ := dv.list
              have := strsD_ok q2 hs
              subst this
              exact ft_body hN hc hp hg hm l0 l1 l2 hline (a := b) rfl (.inl (.inl (.inl q1))) hlt (fin b)
            | tup ys =>
              cases h2
              obtain ⟨b, vs', rfl, q1, q2⟩ := dv.tup
              have := strsD_ok q2 hs
              subst this
              exact ft_body hN hc hp hg hm l0 l1 l2 hline (a := b) rfl (.inr (.inl (.inl q1))) hlt (fin b)
            | _ => cases h2
          · exact o.elim
        · exact o.elim
      · exact o.elim
  · exact o.elim
end
/-! a def with defaults, called without them -/
structure DefD (K : PySem.W.Frag) (mg : Str → Option Value) (x : Str) (st : Stmt) (ps : List Str) (dvs : List V) : Prop where
  ex : ∃ (f : Addr) (fd : FuncData) (ds : List Value), FunD K x x (defArgs st) (defBody st) (defScope st) dvs [] f fd ∧ mg x = some (.ref f) ∧ Vals dvs ds ∧ Binds K fd ps ds
section
variable {P : Program} {w : World} {K : PySem.W.Frag} {mg : Str → Option Value} {base : Heap} {CX : CXT} {k : Nat} {f : Addr} {sp : Sp}
theorem fn_gd {x qual : Str} {params : Arguments} {bd : List Stmt} {scope : Scope} {fd : FuncData} {N ps : List Str} {dvs : List V} {ds : List Value} (F : FunD K x qual params bd scope dvs [] f fd) (hb : Binds K fd ps ds) (hd : Vals dvs ds) (S : FnScope N ps scope)
    (len : ∀ vs H Q E, sp vs H Q E → (vs ++ dvs).length = ps.length)
    (body : ∀ (cdv : Value) (A : Around) (outer : List Env) (s : Shared) (H : Hp) (vs : List V) (Q : VK) (E : XK), (A.deeper (PyProof.Rows.envOfC qual scope s.heap.objs.size f cdv)).guards = some [] →
      Room k (A.deeper (PyProof.Rows.envOfC qual scope s.heap.objs.size f cdv)) → sp vs H Q E →
      ∃ t, PSs (cxOf CX P w K mg base N qual scope f cdv A outer s H E) bd t ∧ t { nx := fun _ H' => Q .non H', rt := Q } (start N (vs ++ dvs)) H) : FnG P w K mg base CX (k + 1) f sp := by
  obtain ⟨oc, od, dV, kV, doc, pm, an, cdv, ct, osl, rfl, lk, hcd, _, _⟩ := F.ex
  intro A outer s H us vs Q E hr hg e0 r hsp
  have hl := len _ _ _ _ hsp
  have KX : K.In s.heap := e0.mod.kin.keeps fun b o e => (e0.bs b o e).1
  have r2 : Vals (vs ++ dvs) (us ++ ds) := r.append hd
  refine StX.run_bnd lk hcd S hr e0 (G := fun xs H2 => xs = vs ++ dvs ∧ H2 = H) (fun A' Ex Q' h => ?_) fun s2 H2 xs g hr' => ?_
  · exact hb s us KX (by rw [← r2.length]; exact hl) _ _ _ _ (h s H (vs ++ dvs) (us ++ ds) e0 Un.refl rfl (fun _ _ z => z) r2 hl ⟨rfl, rfl⟩)
  · obtain ⟨rfl, rfl⟩ := g
    exact body cdv A outer s2 _ _ Q E hg hr' hsp
/-- values that are data wherever they stand -/
def Cst (K : PySem.W.Frag) (dm : List MV) (dvs : List V) : Prop := ∀ F ι, RMs K F ι dm dvs
def fnD (F : MF) (dm : List MV) : MF := fun as μ => F (as ++ dm) μ
theorem RMs.append {K : PySem.W.Frag} {F : Hp} {ι : List Addr} {bs : List MV} {ws : List V} (h2 : RMs K F ι bs ws) : ∀ {as : List MV} {vs : List V}, RMs K F ι as vs → RMs K F ι (as ++ bs) (vs ++ ws)
  | _, _, .nil => h2
  | _, _, .cons a b => .cons a (RMs.append h2 b)
theorem DefD.mini {x : Str} {st : Stmt} {N ps : List Str} {k n : Nat} {fz : Bool} {m : MS} {dm : List MV} {dvs : List V} (D : DefD K mg x st ps dvs) (c : Cst K dm dvs) (S : FnScope N ps (defScope st)) (hn : n + dvs.length = ps.length)
    (body : ∀ (f : Addr) (cdv : Value) (A : Around) (outer : List Env) (s : Shared) (H : Hp) (E : XK), (A.deeper (PyProof.Rows.envOfC x (defScope st) s.heap.objs.size f cdv)).guards = some [] →
      Room k (A.deeper (PyProof.Rows.envOfC x (defScope st) s.heap.objs.size f cdv)) →
      FSs (cxOf (L2.CX P w) P w K mg base N x (defScope st) f cdv A outer s H E) (fun c d _ H' => E c d H') (defBody st) m) : Fn P w K mg base (k + 1) x n (fnD (fnT fz N.length m) dm) := by
  obtain ⟨f, fd, ds, F, hm, hv, hb⟩ := D.ex
  refine ⟨f, fn_gd F hb hv S (fun vs H Q E h => ?_) fun cdv A outer s H vs Q E hg hr h => ⟨_, body f cdv A outer s H E hg hr, bodyT_ok (fz := fz) (n := n + dvs.length) ?_⟩, hm, F.kp⟩
  · rw [List.length_append, h.1]; exact hn
  · obtain ⟨h1, Z, ι, as, μ, s1, r1, o⟩ := h
    exact ⟨by rw [List.length_append, h1], Z, ι, as ++ dm, μ, s1, (c _ _).append r1, o⟩
end
end TT

namespace TT
open PySem L2
theorem _root_.L2.Room.units3 {k : Nat} {A : Around} (r : Room k A) : A.units + 65 < cLine := by have := r.un; omega
theorem _root_.L2.Room.units1 {k : Nat} {A : Around} (r : Room k A) : A.units + 1 < cLine := by have := r.un; omega
/-! defs whose code object is known -/
structure FunC (K : PySem.W.Frag) (x qual : Str) (st : Stmt) (f : Addr) (fd : FuncData) (cdv : Value) : Prop where
  ex : ∃ (oc : Value) (od : Option Addr) (kV doc pm : Value) (an : Option Addr) (ct : Value) (osl : Array (Option Value)),
    fd = PySem.W.fnOf x qual (defArgs st) (defBody st) (defScope st) .none kV doc pm an cdv ct ∧ K.lookup f = some ⟨oc, od, .func fd, osl⟩ ∧ PySem.W.codeIn K cdv qual = true
section
variable {P : Program} {w : World} {K : PySem.W.Frag} {mg : Str → Option Value} {base : Heap} {CX : CXT} {k : Nat} {f : Addr} {sp : Sp}
theorem fn_gc {x qual : Str} {st : Stmt} {fd : FuncData} {N ps : List Str} {cdv : Value} (F : FunC K x qual st f fd cdv) (hb : Binds K fd ps []) (S : FnScope N ps (defScope st))
    (len : ∀ vs H Q E, sp vs H Q E → vs.length = ps.length)
    (body : ∀ (A : Around) (outer : List Env) (s : Shared) (H : Hp) (vs : List V) (Q : VK) (E : XK), (A.deeper (PyProof.Rows.envOfC qual (defScope st) s.heap.objs.size f cdv)).guards = some [] →
      Room k (A.deeper (PyProof.Rows.envOfC qual (defScope st) s.heap.objs.size f cdv)) → sp vs H Q E →
      ∃ t, PSs (cxOf CX P w K mg base N qual (defScope st) f cdv A outer s H E) (defBody st) t ∧ t { nx := fun _ H' => Q .non H', rt := Q } (start N vs) H) : FnG P w K mg base CX (k + 1) f sp := by
  obtain ⟨oc, od, kV, doc, pm, an, ct, osl, rfl, lk, hcd⟩ := F.ex
  intro A outer s H us vs Q E hr hg e0 r hsp
  have hl : vs.length = ps.length := len _ _ _ _ hsp
  have KX : K.In s.heap := e0.mod.kin.keeps fun b o e => (e0.bs b o e).1
  refine StX.run_bnd lk hcd S hr e0 (G := fun xs H2 => xs = vs ∧ H2 = H) (fun A' Ex Q' h => ?_) fun s2 H2 xs g hr' => ?_
  · have q := hb s us KX (by rw [List.append_nil, ← r.length]; exact hl)
    rw [List.append_nil] at q
    exact q _ _ _ _ (h s H vs us e0 Un.refl rfl (fun _ _ z => z) r hl ⟨rfl, rfl⟩)
  · obtain ⟨rfl, rfl⟩ := g
    exact body A outer s2 _ _ Q E hg hr' hsp
end
structure DefC (K : PySem.W.Frag) (mg : Str → Option Value) (x : Str) (st : Stmt) (ps : List Str) (cdv : Value) : Prop where
  ex : ∃ (f : Addr) (fd : FuncData), FunC K x x st f fd cdv ∧ mg x = some (.ref f) ∧ Binds K fd ps [] ∧ PySem.W.keepIn K (.ref f) = true
structure MdefC (K : PySem.W.Frag) (x qual : Str) (st : Stmt) (ps : List Str) (f : Addr) (cdv : Value) : Prop where
  ex : ∃ (fd : FuncData), FunC K x qual st f fd cdv ∧ Binds K fd ps []
section
variable [TB] {P : Program} {w : World} {K : PySem.W.Frag} {mg : Str → Option Value} {base : Heap}
theorem DefC.mini {x : Str} {st : Stmt} {N ps : List Str} {k n : Nat} {fz : Bool} {m : MS} {cdv : Value} (D : DefC K mg x st ps cdv) (S : FnScope N ps (defScope st)) (hn : ps.length = n)
    (body : ∀ (f : Addr) (A : Around) (outer : List Env) (s : Shared) (H : Hp) (E : XK), (A.deeper (PyProof.Rows.envOfC x (defScope st) s.heap.objs.size f cdv)).guards = some [] →
      Room k (A.deeper (PyProof.Rows.envOfC x (defScope st) s.heap.objs.size f cdv)) →
      FSs (cxOf (L2.CX P w) P w K mg base N x (defScope st) f cdv A outer s H E) (fun c d _ H' => E c d H') (defBody st) m) : Fn P w K mg base (k + 1) x n (fnT fz N.length m) := by
  obtain ⟨f, fd, F, hm, b, kp⟩ := D.ex
  exact ⟨f, fn_gc F b S (fun vs H Q E h => h.1.trans hn.symm) fun A outer s H vs Q E hg hr h => ⟨_, body f A outer s H E hg hr, bodyT_ok h⟩, hm, kp⟩
theorem MdefC.mini {x qual : Str} {st : Stmt} {N ps : List Str} {k n : Nat} {f : Addr} {fz : Bool} {m : MS} {cdv : Value} (D : MdefC K x qual st ps f cdv) (S : FnScope N ps (defScope st)) (hn : ps.length = n)
    (body : ∀ (A : Around) (outer : List Env) (s : Shared) (H : Hp) (E : XK), (A.deeper (PyProof.Rows.envOfC qual (defScope st) s.heap.objs.size f cdv)).guards = some [] →
      Room k (A.deeper (PyProof.Rows.envOfC qual (defScope st) s.heap.objs.size f cdv)) →
      FSs (cxOf (L2.CX P w) P w K mg base N qual (defScope st) f cdv A outer s H E) (fun c d _ H' => E c d H') (defBody st) m) : FnG P w K mg base (L2.CX P w) (k + 1) f (spF K n (fnT fz N.length m)) := by
  obtain ⟨fd, F, b⟩ := D.ex
  exact fn_gc F b S (fun vs H Q E h => h.1.trans hn.symm) fun A outer s H vs Q E hg hr h => ⟨_, body A outer s H E hg hr, bodyT_ok h⟩
end
/-! the end of a law, with tables of code objects -/
section
open PySem.W PyProof.Rows
variable {P : Program} {w : World} {K : PySem.W.Frag} {mg mb : Str → Option Value} {CX : CXT} {k : Nat} {fa a : Addr} {sp : Sp} {s₁ : Shared} {vs : List Value} {ns : List Int} {cs : List (Addr × Addr)}
/-- the tables are empty; all else that is known is the script -/
structure Start (cs : List (Addr × Addr)) (H : Hp) : Prop where
  tab : ∀ p ∈ cs, H p.2 = some (.tbl #[])
  rest : ∀ b, H b = none ∨ b ∈ cs.map (·.2) ∨ ∃ o xs, H b = some (.frz o (.lst xs))
theorem lawGT (KX : K.In s₁.heap) (hns : s₁.heap.Ns mainGlobals mg) (hb : s₁.heap.Ns builtinsNs mb) (hbb : ∀ x : Str, x ≠ "__name__" → mb x = bootBuiltins x) (hlim : s₁.heap.NoLimit) (hg : s₁.gens = #[])
    (tE : ∀ p ∈ cs, s₁.heap.get? p.2 = some (tabObj #[])) (tN : ∀ p ∈ cs, K.lookup p.2 = none) (tC : ∀ p ∈ cs, CodeHd s₁.heap p.1 p.2)
    (bm : ∃ (b : Addr) (ob : Obj), mg "__builtins__" = some (.ref b) ∧ b ≠ builtinsNs ∧ s₁.heap.get? b = some ob ∧ ob.cls = .type "module" ∧ ob.dict = some builtinsNs ∧ ob.data = .plain)
    (ha : s₁.heap.get? a = some { cls := .type "list", data := .seq vs.toArray }) (hi : IntsAre vs ns) (hl : ns.length ≤ sizeLine) (hr : Room k callerA)
    (F : ∀ base : Heap, K.In base → base.Ns mainGlobals mg → (∀ p ∈ cs, LamX.TabB base mg p.1 p.2) → FnG P w K mg base CX k fa sp)
    (hsp : ∀ H : Hp, Start cs H → SqL K H a (ns.map V.int) → sp [.ref a] H (fun v _ => v = .bl true) fun _ _ _ => False)
    (hCX : ∀ H e s', CX [] H s₁ (fun _ _ _ => False) e s' → False) :
    codeAny (model P w) callerA (.call (.ref fa) ⟨[.ref a], []⟩) (fun r s' => r = .ok (.ret (.bool true)) ∧ OldK s₁.heap s'.heap ∧ s'.os = s₁.os ∧ AllBare s'.gens) s₁ := by
  have tO : ∀ b, b ∈ cs.map (·.2) → s₁.heap.get? b = some (tabObj #[]) := fun b q => by
    obtain ⟨p, h1, rfl⟩ := List.mem_map.mp q
    exact tE p h1
  have nT : a ∉ cs.map (·.2) := fun q => by
    have e := tO a q
    rw [ha] at e; cases e
  have inT : ∀ {p}, p ∈ cs → p.2 ∈ cs.map (·.2) := fun {p} h => List.mem_map.mpr ⟨p, h, rfl⟩
  suffices core : ∀ H : Hp, Start cs H → SqL K H a (ns.map V.int) → HOk P w H s₁.heap → (∀ b u, H b = some u → (b = a ∧ K.lookup a = none) ∨ b ∈ cs.map (·.2)) → _ by
    cases hk : K.lookup a with
    | some o =>
      obtain rfl : o = { cls := .type "list", data := .seq vs.toArray } := by have e := KX a o hk; rw [ha] at e; cases e; rfl
      let G : Hp := fun b => if b ∈ cs.map (·.2) then some (.tbl #[]) else none
      have gy : ∀ b, b ∈ cs.map (·.2) → G b = some (.tbl #[]) := fun b h => if_pos h
      have gn : ∀ b, b ∉ cs.map (·.2) → G b = none := fun b h => if_neg h
      refine core G ⟨fun p h => gy _ (inT h), fun b => ?_⟩ (.inr ⟨_, vs.toArray, _, hk, rfl, rfl, rfl, ?_, ?_⟩) (fun b u z => ?_) fun b u z => ?_
      · by_cases q : b ∈ cs.map (·.2)
        · exact .inr (.inl q)
        · exact .inl (gn b q)
      · rw [List.size_toArray, hi.length]; exact hl
      · simpa using vals_ints hi
      · by_cases q : b ∈ cs.map (·.2)
        · rw [gy b q] at z; cases z; exact tO b q
        · rw [gn b q] at z; cases z
      · by_cases q : b ∈ cs.map (·.2)
        · exact .inr q
        · rw [gn b q] at z; cases z
    | none =>
      let o0 : Obj := { cls := .type "list", data := .seq vs.toArray }
      let G : Hp := fun b => if b ∈ cs.map (·.2) then some (.tbl #[]) else if b = a then some (.frz o0 (.lst (ns.map V.int))) else none
      have gy : ∀ b, b ∈ cs.map (·.2) → G b = some (.tbl #[]) := fun b h => if_pos h
      have ga : G a = some (.frz o0 (.lst (ns.map V.int))) := (if_neg nT).trans (if_pos rfl)
      have gn : ∀ b, b ∉ cs.map (·.2) → b ≠ a → G b = none := fun b h n => (if_neg h).trans (if_neg n)
      have sp3 : ∀ b, b ∈ cs.map (·.2) ∨ b = a ∨ G b = none := fun b => by
        by_cases q : b ∈ cs.map (·.2)
        · exact .inl q
        · by_cases n : b = a
          · exact .inr (.inl n)
          · exact .inr (.inr (gn b q n))
      refine core G ⟨fun p h => gy _ (inT h), fun b => ?_⟩ (.inl (.inr ⟨_, ga⟩)) (fun b u z => ?_) fun b u z => ?_
      · rcases sp3 b with q | q | q
        · exact .inr (.inl q)
        · rw [q]; exact .inr (.inr ⟨_, _, ga⟩)
        · exact .inl q
      · rcases sp3 b with q | q | q
        · rw [gy b q] at z; cases z; exact tO b q
        · subst q; rw [ga] at z; cases z
          exact ⟨ha, by rw [List.length_map]; exact hl, vs, _, vals_ints hi, ha⟩
        · rw [q] at z; cases z
      · rcases sp3 b with q | q | q
        · exact .inr q
        · exact .inl ⟨q, hk⟩
        · rw [q] at z; cases z
  intro H hO hS hok hA
  -- an object of another kind stays
  have off : ∀ {b : Addr} {o : Obj}, s₁.heap.get? b = some o → (b = a → K.lookup a = none → False) → (b ∈ cs.map (·.2) → False) → H b = none := fun {b o} e n n2 => by
    cases q : H b with
    | none => rfl
    | some u =>
      rcases hA b u q with z | z
      · exact (n z.1 z.2).elim
      · exact (n2 z).elim
  have offD : ∀ {b : Addr} {o : Obj}, s₁.heap.get? b = some o → (∀ xs n, o.data ≠ .seq xs n) → o.data ≠ .fields #[] → H b = none := fun {b o} e n n2 => off e
    (fun q _ => by subst q; rw [ha] at e; cases e; exact n _ _ rfl) (fun q => by have z := tO b q; rw [e] at z; cases z; exact n2 rfl)
  have nsK : ∀ {b : Addr} {m : Str → Option Value}, s₁.heap.Ns b m → (hidT s₁.heap H).Ns b m := fun {b m} z => by
    obtain ⟨o, es, ep, e, d, r⟩ := z
    exact ⟨o, es, ep, hidT_get e (offD e (fun xs n q => by rw [d] at q; cases q) fun q => by rw [d] at q; cases q), d, r⟩
  have kin : K.In (hidT s₁.heap H) := fun b o e => hidT_get (KX b o e) (off (KX b o e) (fun q n => by subst q; rw [n] at e; cases e) fun q => by
    obtain ⟨p, h1, rfl⟩ := List.mem_map.mp q
    rw [tN p h1] at e; cases e)
  have md : Mod K mg (hidT s₁.heap H) := by
    obtain ⟨mc, h1, h2⟩ := hlim
    exact ⟨kin, nsK hns, ⟨mb, nsK hb, hbb⟩, mc, nsK h1, h2⟩
  have glob : ∀ {b : Addr} {o : Obj}, s₁.heap.get? b = some o → (∀ es ep, o.data ≠ .dict es ep) → b ≠ mainGlobals := fun {b o} e n q => by
    obtain ⟨o', es, ep, e', d, _⟩ := hns
    rw [q, e'] at e; cases e
    exact n _ _ d
  have tb : ∀ p ∈ cs, LamX.TabB (hidT s₁.heap H) mg p.1 p.2 := fun p hp => by
    have e0 := tE p hp
    refine ⟨?_, ?_, fun q => glob e0 (fun es ep z => by cases z) q.symm⟩
    · obtain ⟨o, us, x1, x2, x3, x4, x5, x6, x7, e1, r1, r2, r3, r⟩ := tC p hp
      refine ⟨o, us, x1, x2, x3, x4, x5, x6, x7, hidT_get e1 (offD e1 (fun xs n q => by rw [r2] at q; cases q) fun q => ?_), r1, r2, r3, r⟩
      rw [r2] at q
      cases q
      simp at r3
    · obtain ⟨b, ob, b1, b2, b3, b4, b5, b6⟩ := bm
      refine ⟨b, ob, b1, b2, glob b3 (fun es ep z => by rw [b6] at z; cases z), fun q => ?_, hidT_get b3 (offD b3 (fun xs n z => by rw [b6] at z; cases z) fun z => by rw [b6] at z; cases z), b4, b5, b6⟩
      rw [q, e0] at b3
      cases b3
      cases b6
  have e0 : Env0 P w K mg (hidT s₁.heap H) callerA [] s₁ H :=
    { frames := rfl, mod := md, bs := fun b o e => of_hidT e, bsz := Nat.le_of_eq (hidT_size _ _), funs := trivial
      frf := fun b z => absurd (show b ∈ ([] : List Addr) from z) List.not_mem_nil
      hok := hok
      bare := .of_eq hg }
  have run := F _ kin (nsK hns) tb callerA [] s₁ H [.ref a] [.ref a] _ _ hr rfl e0 (.cons rfl .nil) (hsp H hO hS)
  refine codeAny_mono run fun z s' h => ?_
  cases z with
  | error e => exact (hCX H e s' h).elim
  | ok fl => cases fl with
    | ret u =>
      obtain ⟨v, H', os, bare, un, hok', r', q⟩ := h
      obtain rfl : v = V.bl true := q
      obtain rfl : u = Value.bool true := r'
      have stay : ∀ b o, b ∉ cs.map (·.2) → s₁.heap.get? b = some o → s'.heap.get? b = some o := fun b o nb e => by
        rcases hO.rest b with z | z | ⟨ob, xs, z⟩
        · exact un.keep b o e z (fun z => absurd (show b ∈ ([] : List Addr) from z) List.not_mem_nil) List.not_mem_nil
        · exact (nb z).elim
        · have e1 := (hok b _ z).1
          have e2 := (hok' b _ (un.frzs b ob _ z)).1
          rw [e] at e1; cases e1
          exact e2
      have more : ∀ b, b ∈ cs.map (·.2) → ∃ c m, CodeHd s₁.heap c b ∧ s'.heap.get? b = some { cls := .none, data := .fields m } := fun b q => by
        obtain ⟨p, h1, rfl⟩ := List.mem_map.mp q
        obtain ⟨m, z⟩ := un.tbls p.2 #[] (hO.tab p h1)
        exact ⟨p.1, _, tC p h1, hok' p.2 _ z⟩
      refine ⟨rfl, ⟨fun b o e => ?_, fun b o e => ?_⟩, os, bare⟩
      · by_cases q : b ∈ cs.map (·.2)
        · obtain ⟨c, m, h1, h2⟩ := more b q
          have e2 := tO b q
          rw [e2] at e; cases e
          exact .inr (.inl ⟨(h1.tab e2).isCodeTable, rfl, #[], m, rfl, by rw [Array.empty_append]; exact h2⟩)
        · exact .inl (stay b o q e)
      · by_cases q : b ∈ cs.map (·.2)
        · obtain ⟨c, m, h1, h2⟩ := more b q
          exact ⟨_, h2⟩
        · exact ⟨o, stay b o q e⟩
    | _ => exact h.elim
theorem walkGT {l : OpenLaw} {n k : Nat} {q : Program} {loose : List Str} {XP : (Str → Option Value) → Heap → Prop} {YP : World → Heap → Prop} {d : DefRec} {K : Params → Frag} {CX : World → CXT} {sp : World → Sp} {cs : List (Addr × Addr)}
    (hn : l.most = some n) (hn2 : n ≤ sizeLine) (hdf : d.params.defaults = []) (hr : Room k callerA) (hY : ∀ (w : World) (h : Heap), YP w h → (K w.params).In h) (hT : ∀ (w : World) (h : Heap), YP w h → ∀ p ∈ cs, h.get? p.2 = some (tabObj #[]))
    (tN : ∀ w : World, ∀ p ∈ cs, (K w.params).lookup p.2 = none) (tC : ∀ w : World, ∀ p ∈ cs, codeHdIn (K w.params) p.1 p.2 = true)
    (F : ∀ (w : World) (mg : Str → Option Value) (fa : Addr) (h : Heap), (K w.params).In h → h.Ns mainGlobals mg → mg d.name = some (.ref fa) →
      ∀ base : Heap, (K w.params).In base → base.Ns mainGlobals mg → (∀ p ∈ cs, LamX.TabB base mg p.1 p.2) → FnG l.prog w (K w.params) mg base (CX w) k fa (sp w))
    (hsp : ∀ (w : World) (H : Hp) (a : Addr) (ns : List Int), ns.length ≤ n → (∀ z ∈ ns, Builtin.Int.intBits z ≤ 1048576) → Start cs H → SqL (K w.params) H a (ns.map V.int) → sp w [.ref a] H (fun v _ => v = .bl true) fun _ _ _ => False)
    (hCX : ∀ (w : World) (H : Hp) (s : Shared) (e : Value) (s' : Shared), CX w [] H s (fun _ _ _ => False) e s' → False) : WalkO q loose XP YP l.row.toRowW d [] (fun f vs => PySem.call f vs) := by
  refine Att.attach_callB hn hdf fun w s₀ s₁ mg mb fa o pm cd doc a vs ns G Y ho hd hcd hmg hobj hints hlen hbits hg => ?_
  have kx := hY w _ Y
  exact lawGT kx G.T.g G.T.b G.T.builtins G.T.nolimit hg (hT w _ Y) (tN w) (fun p hp => codeHd_of_K kx (tC w p hp)) G.T.bmain hobj hints (Nat.le_trans hlen hn2) hr (F w mg fa _ kx G.T.g hmg) (fun H z => hsp w H a ns hlen hbits z) fun H => hCX w H s₁
end
/-! from the plain law -/
section
variable [TB] {K : PySem.W.Frag}
theorem drs_ints {F : Hp} : ∀ ns : List Int, DRs K F (ns.map D.int) (ns.map V.int)
  | [] => .nil
  | n :: ns => .cons (.int n) (drs_ints ns)
theorem law_end {cs : List (Addr × Addr)} {H : Hp} {a : Addr} {ns : List Int} {F : MF} {μ' : List MO} (hT : ∀ p ∈ TB.T, p.1 ∈ cs.map (·.2)) (st : Start cs H) (hs : SqL K H a (ns.map V.int)) (h : F [.d (.fl (ns.map D.int))] [] = .ok (.d (.bl true)) μ') :
    spF K 1 F [.ref a] H (fun v _ => v = .bl true) fun _ _ _ => False := by
  refine ⟨rfl, [], [], [.d (.fl (ns.map D.int))], [], ⟨(fun _ h => by cases h), List.nodup_nil, rfl, (fun _ h => by cases h), fun p hp => ?_, (fun n b o h1 h2 => by cases h1)⟩, .cons (.d (.fl ?_ (drs_ints ns))) .nil, ?_⟩
  · obtain ⟨q, h1, h2⟩ := List.mem_map.mp (hT p hp)
    refine LamX.TabS.nil ?_
    rw [← h2]
    exact st.tab q h1
  · rcases hs with (h | ⟨o, h⟩) | h
    · exact .inl (.inl (mask_in List.not_mem_nil h))
    · exact .inl (.inr ⟨o, mask_in List.not_mem_nil h⟩)
    · exact .inr h
  · rw [h]
    intro Z ι H' x s v r
    cases r with | d r => cases r; rfl
end
end TT

namespace TT
open PySem L2
/-! calls, in plain words -/
theorem argRefs_d : ∀ ds : List D, argRefs (ds.map MV.d) = []
  | [] => rfl
  | _ :: ds => argRefs_d ds
theorem toCs_d (sel : List Nat) : ∀ ds : List D, toCs sel (ds.map MV.d) = some (ds.map MV.d)
  | [] => rfl
  | d :: ds => by simp only [List.map_cons, toCs, toC, toCs_d sel ds]
theorem selOf_d (μ : List MO) (ds : List D) : selOf μ (ds.map MV.d) = [] := by
  unfold selOf
  rw [argRefs_d]
  rfl
section
variable {F : MF} {μ : List MO} {a b c d v : D} {n : Nat} {xs ys : List D} {C : Addr} {fs : List (Str × D)} {ds : List D}
theorem callD (h : F (ds.map MV.d) [] = .ok (.d v) []) : callF F (ds.map MV.d) μ = .ok (.d v) μ := by
  unfold callF
  rw [selOf_d]
  simp [toCs_d, pick, h, back, wb, putAll]
theorem callX (h : F (ds.map MV.d) [] = .exc C fs []) : callF F (ds.map MV.d) μ = .exc C fs μ := by
  unfold callF
  rw [selOf_d]
  simp [toCs_d, pick, h, wb, putAll]
theorem call1 (h : F [.d a] [] = .ok (.d v) []) : callF F [.d a] μ = .ok (.d v) μ := callD (ds := [a]) h
theorem call2 (h : F [.d a, .d b] [] = .ok (.d v) []) : callF F [.d a, .d b] μ = .ok (.d v) μ := callD (ds := [a, b]) h
theorem call3 (h : F [.d a, .d b, .d c] [] = .ok (.d v) []) : callF F [.d a, .d b, .d c] μ = .ok (.d v) μ := callD (ds := [a, b, c]) h
theorem callX1 (h : F [.d a] [] = .exc C fs []) : callF F [.d a] μ = .exc C fs μ := callX (ds := [a]) h
theorem callX3 (h : F [.d a, .d b, .d c] [] = .exc C fs []) : callF F [.d a, .d b, .d c] μ = .exc C fs μ := callX (ds := [a, b, c]) h
theorem leads_lst (hn : μ[n]? = some (.lst xs)) : leads μ [n] = [] := by
  simp [leads, hn, MO.refs]
theorem selOf_b (hn : μ[n]? = some (.lst xs)) : selOf μ (.ref n :: ds.map MV.d) = [n] := by
  unfold selOf
  have e : argRefs (.ref n :: ds.map MV.d) = [n] := by simp [argRefs, MV.refs, argRefs_d]
  rw [e]
  have e2 : addAll [] [n] = [n] := by simp [addAll]
  have e3 : addAll [n] [] = [n] := rfl
  show addAll (addAll (addAll [] [n]) (leads μ (addAll [] [n]))) (leads μ (addAll (addAll [] [n]) (leads μ (addAll [] [n])))) = [n]
  rw [e2, leads_lst hn, e3, leads_lst hn, e3]
theorem callB (hn : μ[n]? = some (.lst xs)) (h : F (.ref 0 :: ds.map MV.d) [.lst xs] = .ok (.d v) [.lst ys]) : callF F (.ref n :: ds.map MV.d) μ = .ok (.d v) (μ.set n (.lst ys)) := by
  unfold callF
  rw [selOf_b hn]
  have e : toCs [n] (.ref n :: ds.map MV.d) = some (.ref 0 :: ds.map MV.d) := by simp [toCs, toC, toCs_d]
  simp [e, pick, hn, toCO, h, back, wb, putAll, backO]
theorem callB1 (hn : μ[n]? = some (.lst xs)) (h : F [.ref 0] [.lst xs] = .ok (.d v) [.lst ys]) : callF F [.ref n] μ = .ok (.d v) (μ.set n (.lst ys)) := callB (ds := []) hn h
theorem callB2 (hn : μ[n]? = some (.lst xs)) (h : F [.ref 0, .d a] [.lst xs] = .ok (.d v) [.lst ys]) : callF F [.ref n, .d a] μ = .ok (.d v) (μ.set n (.lst ys)) := callB (ds := [a]) hn h
theorem callB3 (hn : μ[n]? = some (.lst xs)) (h : F [.ref 0, .d a, .d b] [.lst xs] = .ok (.d v) [.lst ys]) : callF F [.ref n, .d a, .d b] μ = .ok (.d v) (μ.set n (.lst ys)) := callB (ds := [a, b]) hn h
theorem callB4 (hn : μ[n]? = some (.lst xs)) (h : F [.ref 0, .d a, .d b, .d c] [.lst xs] = .ok (.d v) [.lst ys]) : callF F [.ref n, .d a, .d b, .d c] μ = .ok (.d v) (μ.set n (.lst ys)) := callB (ds := [a, b, c]) hn h
end
theorem cx_none {P : Program} {w : World} {H : Hp} {s : Shared} {e : Value} {s' : Shared} (h : L2.CX P w [] H s (fun _ _ _ => False) e s') : False := by
  unfold L2.CX at h
  obtain ⟨_, _, _, _, _, _, _, _, _, _, _, _, z⟩ := h
  exact z
section
open PySem.W PyProof.Rows
theorem walkM [TB] {l : OpenLaw} {n k : Nat} {q : Program} {loose : List Str} {XP : (Str → Option Value) → Heap → Prop} {YP : World → Heap → Prop} {d : DefRec} {K : Params → Frag} {F : MF} (cs : List (Addr × Addr))
    (hn : l.most = some n) (hn2 : n ≤ sizeLine) (hdf : d.params.defaults = []) (hr : Room k callerA) (hY : ∀ (w : World) (h : Heap), YP w h → (K w.params).In h) (hT : ∀ (w : World) (h : Heap), YP w h → ∀ p ∈ cs, h.get? p.2 = some (tabObj #[]))
    (tN : ∀ w : World, ∀ p ∈ cs, (K w.params).lookup p.2 = none) (tC : ∀ w : World, ∀ p ∈ cs, codeHdIn (K w.params) p.1 p.2 = true) (hTB : ∀ p ∈ TB.T, p.1 ∈ cs.map (·.2))
    (hF : ∀ (w : World) (mg : Str → Option Value) (fa : Addr) (h : Heap), (K w.params).In h → h.Ns mainGlobals mg → mg d.name = some (.ref fa) →
      ∀ base : Heap, (K w.params).In base → base.Ns mainGlobals mg → (∀ p ∈ cs, LamX.TabB base mg p.1 p.2) → FnG l.prog w (K w.params) mg base (L2.CX l.prog w) k fa (spF (K w.params) 1 F))
    (law : ∀ ns : List Int, ns.length ≤ n → (∀ z ∈ ns, Builtin.Int.intBits z ≤ 1048576) → ∃ μ', F [.d (.fl (ns.map D.int))] [] = .ok (.d (.bl true)) μ') : WalkO q loose XP YP l.row.toRowW d [] (fun f vs => PySem.call f vs) :=
  walkGT (CX := fun w => L2.CX l.prog w) (sp := fun w => spF (K w.params) 1 F) hn hn2 hdf hr hY hT tN tC hF (fun w H a ns hl hb st hS => by
    obtain ⟨μ', e⟩ := law ns hl hb
    exact law_end hTB st hS e) fun _ _ _ _ _ z => cx_none z
end
end TT

namespace TT
open PySem L2
@[simp] theorem se_line : type_of% @sizeLine_eq := @sizeLine_eq
@[simp] theorem se_0 : type_of% @TT.fnT.eq_1 := @TT.fnT.eq_1
@[simp] theorem se_1 : type_of% @TT.fnD.eq_1 := @TT.fnD.eq_1
@[simp] theorem se_2 : type_of% @TT.mSeq.eq_1 := @TT.mSeq.eq_1
@[simp] theorem se_3 : type_of% @TT.mIfS.eq_1 := @TT.mIfS.eq_1
@[simp] theorem se_4 : type_of% @TT.mAsg.eq_1 := @TT.mAsg.eq_1
@[simp] theorem se_5 : type_of% @TT.mRet.eq_1 := @TT.mRet.eq_1
@[simp] theorem se_6 : type_of% @TT.mExpr.eq_1 := @TT.mExpr.eq_1
@[simp] theorem se_7 : type_of% @TT.mB.eq_1 := @TT.mB.eq_1
@[simp] theorem se_8 : type_of% @TT.mT.eq_1 := @TT.mT.eq_1
@[simp] theorem se_9 : type_of% @TT.mBin.eq_1 := @TT.mBin.eq_1
@[simp] theorem se_10 : type_of% @TT.mUn.eq_1 := @TT.mUn.eq_1
@[simp] theorem se_11 : type_of% @TT.mN.eq_1 := @TT.mN.eq_1
@[simp] theorem se_12 : type_of% @TT.mCons.eq_1 := @TT.mCons.eq_1
@[simp] theorem se_13 : type_of% @TT.mNil.eq_1 := @TT.mNil.eq_1
@[simp] theorem se_14 : type_of% @TT.mVar.eq_1 := @TT.mVar.eq_1
@[simp] theorem se_15 : type_of% @TT.mC.eq_1 := @TT.mC.eq_1
@[simp] theorem se_16 : type_of% @TT.mAnd.eq_1 := @TT.mAnd.eq_1
@[simp] theorem se_17 : type_of% @TT.mOr.eq_1 := @TT.mOr.eq_1
@[simp] theorem se_18 : type_of% @TT.mNot.eq_1 := @TT.mNot.eq_1
@[simp] theorem se_19 : type_of% @TT.mIf.eq_1 := @TT.mIf.eq_1
@[simp] theorem se_20 : type_of% @TT.mAndV.eq_1 := @TT.mAndV.eq_1
@[simp] theorem se_21 : type_of% @TT.mOrV.eq_1 := @TT.mOrV.eq_1
@[simp] theorem se_22 : type_of% @TT.mTup.eq_1 := @TT.mTup.eq_1
@[simp] theorem se_23 : type_of% @TT.mkTup.eq_1 := @TT.mkTup.eq_1
@[simp] theorem se_24 : type_of% @TT.mSetIx.eq_1 := @TT.mSetIx.eq_1
@[simp] theorem se_25 : type_of% @TT.mNext.eq_1 := @TT.mNext.eq_1
@[simp] theorem se_26 : type_of% @TT.op1.eq_1 := @TT.op1.eq_1
@[simp] theorem se_27 : type_of% @TT.op2.eq_1 := @TT.op2.eq_1
@[simp] theorem se_28 : type_of% @TT.opN.eq_1 := @TT.opN.eq_1
@[simp] theorem se_29 : type_of% @TT.view.eq_1 := @TT.view.eq_1
@[simp] theorem se_30 : type_of% @TT.view.eq_2 := @TT.view.eq_2
@[simp] theorem se_31 : type_of% @TT.views.eq_1 := @TT.views.eq_1
@[simp] theorem se_32 : type_of% @TT.views.eq_2 := @TT.views.eq_2
@[simp] theorem se_33 : type_of% @TT.one.eq_1 := @TT.one.eq_1
@[simp] theorem se_34 : type_of% @TT.one.eq_2 := @TT.one.eq_2
@[simp] theorem se_35 : type_of% @TT.gN.eq_1 := @TT.gN.eq_1
@[simp] theorem se_36 : type_of% @TT.gC.eq_1 := @TT.gC.eq_1
@[simp] theorem se_37 : type_of% @TT.gC.eq_2 := @TT.gC.eq_2
@[simp] theorem se_38 : type_of% @TT.gE.eq_1 := @TT.gE.eq_1
@[simp] theorem se_39 : type_of% @TT.gE.eq_2 := @TT.gE.eq_2
@[simp] theorem se_40 : type_of% @TT.gT.eq_1 := @TT.gT.eq_1
@[simp] theorem se_41 : type_of% @TT.gT.eq_2 := @TT.gT.eq_2
@[simp] theorem se_42 : type_of% @TT.bool?.eq_1 := @TT.bool?.eq_1
@[simp] theorem se_43 : type_of% @TT.bool?.eq_2 := @TT.bool?.eq_2
@[simp] theorem se_44 : type_of% @TT.datas.eq_1 := @TT.datas.eq_1
@[simp] theorem se_45 : type_of% @TT.datas.eq_2 := @TT.datas.eq_2
@[simp] theorem se_46 : type_of% @TT.datas.eq_3 := @TT.datas.eq_3
@[simp] theorem se_47 : type_of% @TT.SR.finT.eq_1 := @TT.SR.finT.eq_1
@[simp] theorem se_48 : type_of% @TT.SR.finT.eq_2 := @TT.SR.finT.eq_2
@[simp] theorem se_49 : type_of% @TT.SR.finT.eq_3 := @TT.SR.finT.eq_3
@[simp] theorem se_50 : type_of% @TT.SR.finT.eq_4 := @TT.SR.finT.eq_4
@[simp] theorem se_51 : type_of% @TT.SR.finT.eq_5 := @TT.SR.finT.eq_5
@[simp] theorem se_52 : type_of% @TT.trim.eq_1 := @TT.trim.eq_1
@[simp] theorem se_53 : type_of% @TT.trimmable.eq_1 := @TT.trimmable.eq_1
@[simp] theorem se_54 : type_of% @TT.trimB.eq_1 := @TT.trimB.eq_1
@[simp] theorem se_55 : type_of% @TT.trimX.eq_1 := @TT.trimX.eq_1
@[simp] theorem se_56 : type_of% @TT.MV.refs.eq_1 := @TT.MV.refs.eq_1
@[simp] theorem se_57 : type_of% @TT.MV.refs.eq_2 := @TT.MV.refs.eq_2
@[simp] theorem se_58 : type_of% @TT.MO.refs.eq_1 := @TT.MO.refs.eq_1
@[simp] theorem se_59 : type_of% @TT.MO.refs.eq_2 := @TT.MO.refs.eq_2
@[simp] theorem se_60 : type_of% @TT.putL.eq_1 := @TT.putL.eq_1
@[simp] theorem se_61 : type_of% @TT.putL.eq_2 := @TT.putL.eq_2
@[simp] theorem se_62 : type_of% @L2.ixN.eq_1 := @L2.ixN.eq_1
@[simp] theorem se_63 : type_of% @TT.intD.eq_1 := @TT.intD.eq_1
@[simp] theorem se_64 : type_of% @TT.intD.eq_2 := @TT.intD.eq_2
@[simp] theorem se_65 : type_of% @TT.intD.eq_3 := @TT.intD.eq_3
@[simp] theorem se_66 : type_of% @TT.absD.eq_1 := @TT.absD.eq_1
@[simp] theorem se_67 : type_of% @TT.absD.eq_2 := @TT.absD.eq_2
@[simp] theorem se_68 : type_of% @TT.ixD.eq_1 := @TT.ixD.eq_1
@[simp] theorem se_69 : type_of% @TT.ixD.eq_2 := @TT.ixD.eq_2
@[simp] theorem se_70 : type_of% @TT.ixD.eq_3 := @TT.ixD.eq_3
@[simp] theorem se_71 : type_of% @TT.ixD.eq_4 := @TT.ixD.eq_4
@[simp] theorem se_72 : type_of% @TT.ixD.eq_5 := @TT.ixD.eq_5
@[simp] theorem se_73 : type_of% @L2.atI.eq_1 := @L2.atI.eq_1
@[simp] theorem se_74 : type_of% @TT.gtI.eq_1 := @TT.gtI.eq_1
@[simp] theorem se_75 : type_of% @TT.ltI.eq_1 := @TT.ltI.eq_1
@[simp] theorem se_76 : type_of% @TT.geI.eq_1 := @TT.geI.eq_1
@[simp] theorem se_77 : type_of% @TT.leI.eq_1 := @TT.leI.eq_1
@[simp] theorem se_78 : type_of% @TT.intOp.eq_1 := @TT.intOp.eq_1
@[simp] theorem se_79 : type_of% @TT.intOp.eq_2 := @TT.intOp.eq_2
@[simp] theorem se_80 : type_of% @TT.modD.eq_1 := @TT.modD.eq_1
@[simp] theorem se_81 : type_of% @TT.fdivD.eq_1 := @TT.fdivD.eq_1
@[simp] theorem se_82 : type_of% @TT.mulD.eq_1 := @TT.mulD.eq_1
@[simp] theorem se_83 : type_of% @TT.subD.eq_1 := @TT.subD.eq_1
@[simp] theorem se_84 : type_of% @TT.addI.eq_1 := @TT.addI.eq_1
@[simp] theorem se_85 : type_of% @TT.addD.eq_1 := @TT.addD.eq_1
@[simp] theorem se_86 : type_of% @TT.negD.eq_1 := @TT.negD.eq_1
@[simp] theorem se_87 : type_of% @TT.negD.eq_2 := @TT.negD.eq_2
@[simp] theorem se_88 : type_of% @L2.CDivW.eq_1 := @L2.CDivW.eq_1
@[simp] theorem se_89 : type_of% @L2.CMul.eq_1 := @L2.CMul.eq_1
@[simp] theorem se_90 : type_of% @TT.tru.eq_1 := @TT.tru.eq_1
@[simp] theorem se_91 : type_of% @TT.truD.eq_1 := @TT.truD.eq_1
@[simp] theorem se_92 : type_of% @TT.truD.eq_2 := @TT.truD.eq_2
@[simp] theorem se_93 : type_of% @TT.truD.eq_3 := @TT.truD.eq_3
@[simp] theorem se_94 : type_of% @TT.truD.eq_4 := @TT.truD.eq_4
@[simp] theorem se_95 : type_of% @TT.truD.eq_5 := @TT.truD.eq_5
@[simp] theorem se_96 : type_of% @TT.truD.eq_6 := @TT.truD.eq_6
@[simp] theorem se_97 : type_of% @TT.truD.eq_7 := @TT.truD.eq_7
@[simp] theorem se_98 : type_of% @TT.truD.eq_8 := @TT.truD.eq_8
@[simp] theorem se_99 : type_of% @TT.truD.eq_9 := @TT.truD.eq_9
@[simp] theorem se_100 : type_of% @TT.mPar2.eq_1 := @TT.mPar2.eq_1
@[simp] theorem se_101 : type_of% @TT.mPar3.eq_1 := @TT.mPar3.eq_1
@[simp] theorem se_102 : type_of% @TT.mAug.eq_1 := @TT.mAug.eq_1
@[simp] theorem se_103 : type_of% @TT.mMut.eq_1 := @TT.mMut.eq_1
@[simp] theorem se_104 : type_of% @TT.mutL.eq_1 := @TT.mutL.eq_1
@[simp] theorem se_105 : type_of% @TT.isLst.eq_1 := @TT.isLst.eq_1
@[simp] theorem se_106 : type_of% @TT.popD.eq_1 := @TT.popD.eq_1
@[simp] theorem se_107 : type_of% @TT.popD.eq_2 := @TT.popD.eq_2
@[simp] theorem se_108 : type_of% @TT.popAt.eq_1 := @TT.popAt.eq_1
@[simp] theorem se_109 : type_of% @TT.popAt.eq_2 := @TT.popAt.eq_2
@[simp] theorem se_110 : type_of% @TT.apD.eq_1 := @TT.apD.eq_1
@[simp] theorem se_111 : type_of% @TT.apD.eq_2 := @TT.apD.eq_2
@[simp] theorem se_112 : type_of% @TT.extD.eq_1 := @TT.extD.eq_1
@[simp] theorem se_113 : type_of% @TT.extD.eq_2 := @TT.extD.eq_2
@[simp] theorem se_114 : type_of% @TT.clearD.eq_1 := @TT.clearD.eq_1
@[simp] theorem se_115 : type_of% @TT.clearD.eq_2 := @TT.clearD.eq_2
@[simp] theorem se_116 : type_of% @TT.mFz.eq_1 := @TT.mFz.eq_1
@[simp] theorem se_117 : type_of% @TT.mOwn.eq_1 := @TT.mOwn.eq_1
@[simp] theorem se_118 : type_of% @TT.mLst.eq_1 := @TT.mLst.eq_1
@[simp] theorem se_119 : type_of% @TT.mNL.eq_1 := @TT.mNL.eq_1
@[simp] theorem se_120 : type_of% @TT.mBinL.eq_1 := @TT.mBinL.eq_1
@[simp] theorem se_121 : type_of% @TT.op2L.eq_1 := @TT.op2L.eq_1
@[simp] theorem se_122 : type_of% @TT.opNL.eq_1 := @TT.opNL.eq_1
@[simp] theorem se_123 : type_of% @TT.mIt.eq_1 := @TT.mIt.eq_1
@[simp] theorem se_124 : type_of% @TT.itemsOf.eq_1 := @TT.itemsOf.eq_1
@[simp] theorem se_125 : type_of% @TT.itemsOf.eq_2 := @TT.itemsOf.eq_2
@[simp] theorem se_126 : type_of% @TT.itemsOf.eq_3 := @TT.itemsOf.eq_3
@[simp] theorem se_127 : type_of% @TT.itemsOf.eq_4 := @TT.itemsOf.eq_4
@[simp] theorem se_128 : type_of% @TT.itemsOf.eq_5 := @TT.itemsOf.eq_5
@[simp] theorem se_129 : type_of% @TT.itemsOf.eq_6 := @TT.itemsOf.eq_6
@[simp] theorem se_130 : type_of% @TT.mItA.eq_1 := @TT.mItA.eq_1
@[simp] theorem se_131 : type_of% @TT.rng1.eq_1 := @TT.rng1.eq_1
@[simp] theorem se_132 : type_of% @TT.rng1.eq_2 := @TT.rng1.eq_2
@[simp] theorem se_133 : type_of% @TT.mChain.eq_1 := @TT.mChain.eq_1
@[simp] theorem se_134 : type_of% @TT.isN.eq_1 := @TT.isN.eq_1
@[simp] theorem se_135 : type_of% @TT.isN.eq_2 := @TT.isN.eq_2
@[simp] theorem se_136 : type_of% @TT.isN.eq_3 := @TT.isN.eq_3
@[simp] theorem se_137 : type_of% @TT.isN.eq_4 := @TT.isN.eq_4
@[simp] theorem se_138 : type_of% @TT.notN.eq_1 := @TT.notN.eq_1
@[simp] theorem se_139 : type_of% @TT.notN.eq_2 := @TT.notN.eq_2
@[simp] theorem se_140 : type_of% @TT.notN.eq_3 := @TT.notN.eq_3
@[simp] theorem se_141 : type_of% @TT.notN.eq_4 := @TT.notN.eq_4
@[simp] theorem se_142 : type_of% @TT.lenD.eq_1 := @TT.lenD.eq_1
@[simp] theorem se_143 : type_of% @TT.lenD.eq_2 := @TT.lenD.eq_2
@[simp] theorem se_144 : type_of% @TT.lenD.eq_3 := @TT.lenD.eq_3
@[simp] theorem se_145 : type_of% @TT.lenD.eq_4 := @TT.lenD.eq_4
@[simp] theorem se_146 : type_of% @TT.lenD.eq_5 := @TT.lenD.eq_5
@[simp] theorem se_147 : type_of% @TT.max2.eq_1 := @TT.max2.eq_1
@[simp] theorem se_148 : type_of% @TT.max2.eq_2 := @TT.max2.eq_2
@[simp] theorem se_149 : type_of% @TT.min2.eq_1 := @TT.min2.eq_1
@[simp] theorem se_150 : type_of% @TT.min2.eq_2 := @TT.min2.eq_2
@[simp] theorem se_151 : type_of% @TT.mCall.eq_1 := @TT.mCall.eq_1
@[simp] theorem se_152 : type_of% @TT.tupD.eq_1 := @TT.tupD.eq_1
@[simp] theorem se_153 : type_of% @TT.tupD.eq_2 := @TT.tupD.eq_2
@[simp] theorem se_154 : type_of% @TT.tupD.eq_3 := @TT.tupD.eq_3
@[simp] theorem se_155 : type_of% @TT.tupD.eq_4 := @TT.tupD.eq_4
@[simp] theorem se_156 : type_of% @TT.notD.eq_1 := @TT.notD.eq_1
@[simp] theorem se_157 : type_of% @TT.notD.eq_2 := @TT.notD.eq_2
@[simp] theorem se_158 : type_of% @TT.eqD.eq_1 := @TT.eqD.eq_1
@[simp] theorem se_159 : type_of% @TT.neD.eq_1 := @TT.neD.eq_1
@[simp] theorem se_160 : type_of% @TT.eqB.eq_1 := @TT.eqB.eq_1
@[simp] theorem se_161 : type_of% @TT.eqB.eq_2 := @TT.eqB.eq_2
@[simp] theorem se_162 : type_of% @TT.eqB.eq_3 := @TT.eqB.eq_3
@[simp] theorem se_163 : type_of% @TT.eqB.eq_4 := @TT.eqB.eq_4
@[simp] theorem se_164 : type_of% @TT.eqB.eq_5 := @TT.eqB.eq_5
@[simp] theorem se_165 : type_of% @TT.eqB.eq_6 := @TT.eqB.eq_6
@[simp] theorem se_166 : type_of% @TT.eqB.eq_7 := @TT.eqB.eq_7
@[simp] theorem se_167 : type_of% @TT.eqB.eq_8 := @TT.eqB.eq_8
@[simp] theorem se_168 : type_of% @TT.eqB.eq_9 := @TT.eqB.eq_9
@[simp] theorem se_169 : type_of% @TT.eqB.eq_10 := @TT.eqB.eq_10
@[simp] theorem se_170 : type_of% @TT.eqB.eq_11 := @TT.eqB.eq_11
@[simp] theorem se_171 : type_of% @TT.eqB.eq_12 := @TT.eqB.eq_12
@[simp] theorem se_172 : type_of% @TT.eqB.eq_13 := @TT.eqB.eq_13
@[simp] theorem se_173 : type_of% @TT.eqB.eq_14 := @TT.eqB.eq_14
@[simp] theorem se_174 : type_of% @TT.eqB.eq_15 := @TT.eqB.eq_15
@[simp] theorem se_175 : type_of% @TT.eqB.eq_16 := @TT.eqB.eq_16
section
variable {m n : MS} {ρ ρ1 : En} {μ μ1 : List MO} {v : MV} {C : Addr} {fs : List (Str × D)}
theorem seq_nx (h : m ρ μ = .nx ρ1 μ1) : mSeq m n ρ μ = n ρ1 μ1 := by simp only [mSeq, h]
theorem seq_rt (h : m ρ μ = .rt v μ1) : mSeq m n ρ μ = .rt v μ1 := by simp only [mSeq, h]
theorem seq_exc (h : m ρ μ = .exc C fs ρ1 μ1) : mSeq m n ρ μ = .exc C fs ρ1 μ1 := by simp only [mSeq, h]
theorem for_eq {mi : MI} {g : MG} {b : MS} {q : List D × Option Nat} {r : SR} (hi : mi ρ μ = .ok q μ1) (h : forD q g b q.1 ρ μ1 = r) : mFor mi g b ρ μ = r := by
  unfold mFor
  rw [hi]
  exact h
theorem asg_eq {ma : ME} {g : MG} (ha : ma ρ μ = .ok v μ1) (hg : g v ρ = some ρ1) : mAsg ma g ρ μ = .nx ρ1 μ1 := by
  simp only [mAsg, ha, Res.stm_ok, hg]
section
variable {a b c : MV} {ma mb mc : ME} {ms : MA} {as : List MV} {xs : List D} {x y z : D} {μ2 μ3 : List MO} {g g' : D → D → Option D} {h1 : D → Option D} {hn : List D → Option D} {F : MF} {k : Nat} {r : Res MV} {ct : MT} {bl : Bool}
theorem call_eq (hs : ms ρ μ = .ok as μ1) (hl : as.length = k) (hc : callF F as μ1 = r) : mCall F k ms ρ μ = r := by
  simp only [mCall, hs, Res.bind_ok, hl, if_true, hc]
theorem bin_eq (ha : ma ρ μ = .ok a μ1) (hb : mb ρ μ1 = .ok b μ2) (va : view μ2 a = some x) (vb : view μ2 b = some y) (hg : g x y = some z) : mBin g ma mb ρ μ = .ok (.d z) μ2 := by
  simp only [mBin, ha, hb, Res.bind_ok, op2, va, vb, hg]
theorem un_eq (ha : ma ρ μ = .ok a μ1) (va : view μ1 a = some x) (hg : h1 x = some z) : mUn h1 ma ρ μ = .ok (.d z) μ1 := by
  simp only [mUn, ha, Res.bind_ok, op1, va, hg]
theorem n_eq (hs : ms ρ μ = .ok as μ1) (va : views μ1 as = some xs) (hg : hn xs = some z) : mN hn ms ρ μ = .ok (.d z) μ1 := by
  simp only [mN, hs, Res.bind_ok, opN, va, hg]
theorem cons_eq (ha : ma ρ μ = .ok a μ1) (hs : ms ρ μ1 = .ok as μ2) : mCons ma ms ρ μ = .ok (a :: as) μ2 := by
  simp only [mCons, ha, hs, Res.bind_ok]
theorem tup_eq (hs : ms ρ μ = .ok as μ1) (hd : datas as = some xs) (hl : xs.length ≤ sizeLine) : mTup ms ρ μ = .ok (.d (.tup xs)) μ1 := by
  simp only [mTup, hs, Res.bind_ok, mkTup, hd, if_pos hl]
theorem lst_eq (hs : ms ρ μ = .ok as μ1) (hd : datas as = some xs) (hl : xs.length ≤ sizeLine) : mFz (mLst ms) ρ μ = .ok (.d (.lst xs)) μ1 := by
  simp only [mFz, mLst, hs, Res.bind_ok, hd, if_pos hl]
theorem b_eq (ha : ma ρ μ = .ok (.d (.bl bl)) μ1) : mB ma ρ μ = .ok bl μ1 := by simp only [mB, ha, Res.bind_ok, bool?]
theorem t_eq (ha : ma ρ μ = .ok (.d (.bl bl)) μ1) : mT ma ρ μ = .ok bl μ1 := by simp [mT, ha]
theorem not_eq (hc : ct ρ μ = .ok bl μ1) : mNot ct ρ μ = .ok (!bl) μ1 := by simp only [mNot, hc, Res.bind_ok]
theorem or_t {c2 : MT} (hc : ct ρ μ = .ok true μ1) : mOr ct c2 ρ μ = .ok true μ1 := by simp [mOr, hc]
theorem or_f {c2 : MT} {q : Res Bool} (hc : ct ρ μ = .ok false μ1) (h : c2 ρ μ1 = q) : mOr ct c2 ρ μ = q := by simp [mOr, hc, h]
theorem and_f {c2 : MT} (hc : ct ρ μ = .ok false μ1) : mAnd ct c2 ρ μ = .ok false μ1 := by simp [mAnd, hc]
theorem and_t {c2 : MT} {q : Res Bool} (hc : ct ρ μ = .ok true μ1) (h : c2 ρ μ1 = q) : mAnd ct c2 ρ μ = q := by simp [mAnd, hc, h]
theorem andv_f {m2 : ME} (ha : ma ρ μ = .ok (.d (.bl false)) μ1) : mAndV ma m2 ρ μ = .ok (.d (.bl false)) μ1 := by simp only [mAndV, ha, Res.bind_ok]
theorem andv_t {m2 : ME} (ha : ma ρ μ = .ok (.d (.bl true)) μ1) (h : m2 ρ μ1 = r) : mAndV ma m2 ρ μ = r := by simp only [mAndV, ha, Res.bind_ok, h]
theorem if_t {m2 : ME} (hc : ct ρ μ = .ok true μ1) (h : ma ρ μ1 = r) : mIf ct ma m2 ρ μ = r := by simp only [mIf, hc, Res.bind_ok, if_true, h]
theorem if_f {m2 : ME} (hc : ct ρ μ = .ok false μ1) (h : m2 ρ μ1 = r) : mIf ct ma m2 ρ μ = r := by simp [mIf, hc, h]
theorem ifs_t {s t : MS} {q : SR} (hc : ct ρ μ = .ok true μ1) (h : s ρ μ1 = q) : mIfS ct s t ρ μ = q := by simp only [mIfS, hc, Res.stm_ok, if_true, h]
theorem ifs_f {s t : MS} {q : SR} (hc : ct ρ μ = .ok false μ1) (h : t ρ μ1 = q) : mIfS ct s t ρ μ = q := by simp [mIfS, hc, h]
theorem ret_eq (ha : ma ρ μ = .ok a μ1) : mRet ma ρ μ = .rt a μ1 := by simp only [mRet, ha, Res.stm_ok]
theorem expr_eq (ha : ma ρ μ = .ok a μ1) : mExpr ma ρ μ = .nx ρ μ1 := by simp only [mExpr, ha, Res.stm_ok]
theorem mut_eq {f : Mut1} {p : Nat} {ys : List D} {rt : D} {zs : List D} (ha : ma ρ μ = .ok (.ref p) μ1) (hi : isLst μ1 p = true) (hs : ms ρ μ1 = .ok as μ2) (hd : datas as = some xs) (hp : μ2[p]? = some (.lst ys)) (hf : f ys xs = some (rt, zs)) : mMut f ma ms ρ μ = .ok (.d rt) (μ2.set p (.lst zs)) := by
  simp only [mMut, ha, Res.bind_ok, hi, if_true, hs, mutL, hd, hp, hf]
theorem fn_rt {fz : Bool} {n : Nat} {m : MS} {v : D} (h : m (as.map some ++ List.replicate (n - as.length) none) μ = .rt (.d v) μ1) (ht : trimmable μ.length (.d v) μ1 = true) : fnT fz n m as μ = .ok (.d v) (μ1.take μ.length) := by
  simp only [fnT, h, SR.finT, trim, ht, if_true]
end
end
/-! for loops -/
/-- a loop over items of data -/
theorem for_ok {q : List D × Option Nat} {g : MG} {b : MS} (hq : q.2 = none) (I : Nat → En → List MO → Prop) :
    ∀ (xs : List D) (i : Nat) (ρ : En) (μ : List MO), I i ρ μ → (∀ j x ρ μ, xs[j]? = some x → I (i + j) ρ μ → ∃ ρ1 ρ2 μ2, g (.d x) ρ = some ρ1 ∧ b ρ1 μ = .nx ρ2 μ2 ∧ I (i + j + 1) ρ2 μ2) → ∃ ρ' μ', forD q g b xs ρ μ = .nx ρ' μ' ∧ I (i + xs.length) ρ' μ'
  | [], i, ρ, μ, h, _ => ⟨ρ, μ, by unfold forD chk; rw [hq]; rfl, by simpa using h⟩
  | x :: xs, i, ρ, μ, h, s => by
    obtain ⟨ρ1, ρ2, μ2, h1, h2, h3⟩ := s 0 x ρ μ rfl (by simpa using h)
    obtain ⟨ρ', μ', h4, h5⟩ := for_ok hq I xs (i + 1) ρ2 μ2 (by simpa using h3) fun j y ρ μ e hI => by
      obtain ⟨a, b', c, k1, k2, k3⟩ := s (j + 1) y ρ μ (by simpa using e) (by rw [show i + (j + 1) = i + 1 + j by omega]; exact hI)
      exact ⟨a, b', c, k1, k2, by rw [show i + 1 + j + 1 = i + (j + 1) + 1 by omega]; exact k3⟩
    refine ⟨ρ', μ', ?_, ?_⟩
    · unfold forD chk
      rw [hq, h1]
      simp only [if_true, h2]
      exact h4
    · rw [List.length_cons, show i + (xs.length + 1) = i + 1 + xs.length by omega]; exact h5
end TT

namespace TT
open PySem L2
variable [TB]
/-! defs with *args, and with parameters that are given by name alone -/
def gk {α : Type} (sw : Bool) (l : List α) : List α := if sw then l.reverse else l
theorem gk_len {α : Type} (sw : Bool) (l : List α) : (gk sw l).length = l.length := by cases sw <;> simp [gk]
section
variable {K : PySem.W.Frag} {F : Hp} {ι : List Addr}
theorem RMs.takeN : ∀ {as : List MV} {vs : List V}, RMs K F ι as vs → ∀ n, RMs K F ι (as.take n) (vs.take n)
  | _, _, .nil, n => by simp; exact .nil
  | _, _, .cons a b, 0 => .nil
  | _, _, .cons a b, n + 1 => .cons a (RMs.takeN b n)
theorem RMs.dropN : ∀ {as : List MV} {vs : List V}, RMs K F ι as vs → ∀ n, RMs K F ι (as.drop n) (vs.drop n)
  | _, _, .nil, n => by simp; exact .nil
  | _, _, .cons a b, 0 => .cons a b
  | _, _, .cons a b, n + 1 => RMs.dropN b n
theorem RMs.app {bs : List MV} {ws : List V} (h2 : RMs K F ι bs ws) : ∀ {as : List MV} {vs : List V}, RMs K F ι as vs → RMs K F ι (as ++ bs) (vs ++ ws)
  | _, _, .nil => h2
  | _, _, .cons a b => .cons a (RMs.app h2 b)
theorem RMs.rev : ∀ {as : List MV} {vs : List V}, RMs K F ι as vs → RMs K F ι as.reverse vs.reverse
  | _, _, .nil => .nil
  | _, _, .cons a b => by
    rw [List.reverse_cons, List.reverse_cons]
    exact RMs.app (.cons a .nil) (RMs.rev b)
theorem RMs.gk {as : List MV} {vs : List V} (sw : Bool) (h : RMs K F ι as vs) : RMs K F ι (TT.gk sw as) (TT.gk sw vs) := by
  cases sw with
  | false => exact h
  | true => exact h.rev
end
theorem vals_gk {vs : List V} {us : List Value} (sw : Bool) (h : Vals vs us) : Vals (gk sw vs) (gk sw us) := by
  cases sw with
  | false => exact h
  | true =>
    show Vals vs.reverse us.reverse
    induction h with
    | nil => exact .nil
    | cons a b ih =>
      rw [List.reverse_cons, List.reverse_cons]
      exact ih.append (.cons a .nil)
/-- of n0 values by place those from j on are a tuple; then the values by name, turned about where sw says so -/
def fnS (j n0 : Nat) (sw : Bool) (F : MF) : MF := fun as μ => match datas ((as.take n0).drop j) with
  | some ds => if j ≤ n0 ∧ ds.length ≤ sizeLine then F ((as.take n0).take j ++ (gk sw (as.drop n0) ++ [.d (.tup ds)])) μ else .bad
  | none => .bad
structure DefS (K : PySem.W.Frag) (mg : Str → Option Value) (x : Str) (st : Stmt) (ps : List Str) (j n0 : Nat) (ks : List Str) (sw : Bool) : Prop where
  ex : ∃ (f : Addr) (fd : FuncData), Fun K x x st f fd ∧ mg x = some (.ref f) ∧ ∀ us rest ws : List Value, us.length = j → rest.length + j = n0 → ws.length = ks.length → bindArgs fd ⟨us ++ rest, ks.zip ws⟩ = (newTuple rest >>= fun t => pure (ps.zip (us ++ (gk sw ws ++ [t]))))
def FnGk (P : Program) (w : World) (K : PySem.W.Frag) (mg : Str → Option Value) (base : Heap) (CX : CXT) (k : Nat) (f : Addr) (n0 : Nat) (ks : List Str) (sp : Sp) : Prop :=
  ∀ (A : Around) (outer : List Env) (s : Shared) (H : Hp) (us ws : List Value) (vs zs : List V) (Q : VK) (E : XK), Room k A → A.guards = some [] →
    Env0 P w K mg base A outer s H → Vals vs us → Vals zs ws → vs.length = n0 → zs.length = ks.length → sp (vs ++ zs) H Q E → codeAny (model P w) A (.call (.ref f) ⟨us, ks.zip ws⟩) (CR CX outer P w H s Q E) s
structure FnK (P : Program) (w : World) (K : PySem.W.Frag) (mg : Str → Option Value) (base : Heap) (k : Nat) (x : Str) (n0 : Nat) (ks : List Str) (F : MF) : Prop where
  ex : ∃ f : Addr, FnGk P w K mg base (L2.CX P w) k f n0 ks (spF K (n0 + ks.length) F) ∧ mg x = some (.ref f) ∧ PySem.W.keepIn K (.ref f) = true
section
variable {P : Program} {w : World} {K : PySem.W.Frag} {mg : Str → Option Value} {base : Heap}
theorem DefS.mini {x : Str} {st : Stmt} {N ps ks : List Str} {k j n0 : Nat} {sw fz : Bool} {m : MS} (D : DefS K mg x st ps j n0 ks sw) (S : FnScope N ps (defScope st)) (hps : ps.length = j + (ks.length + 1))
    (body : ∀ (f : Addr) (cdv : Value) (A : Around) (outer : List Env) (s : Shared) (H : Hp) (E : XK), (A.deeper (PyProof.Rows.envOfC x (defScope st) s.heap.objs.size f cdv)).guards = some [] →
      Room k (A.deeper (PyProof.Rows.envOfC x (defScope st) s.heap.objs.size f cdv)) →
      FSs (cxOf (L2.CX P w) P w K mg base N x (defScope st) f cdv A outer s H E) (fun c d _ H' => E c d H') (defBody st) m) : FnK P w K mg base (k + 1) x n0 ks (fnS j n0 sw (fnT fz N.length m)) := by
  obtain ⟨f, fd, F, hm, hb⟩ := D.ex
  refine ⟨f, ?_, hm, F.kp⟩
  obtain ⟨oc, od, kV, doc, pm, an, cdv, ct, osl, rfl, lk, hcd⟩ := F.ex
  intro A outer s H us ws vs zs Q E hr hg e0 r rz hl0 hlk hsp
  obtain ⟨hn, Z, ι, as, μ, st1, rm, o⟩ := hsp
  unfold fnS at o
  split at o
  · rename_i ds hds
    split at o
    · rename_i hc
      have q1 : (vs ++ zs).take n0 = vs := by rw [← hl0]; simp
      have q2 : (vs ++ zs).drop n0 = zs := by rw [← hl0]; simp
      have r1 : RMs K (mask H Z) ι (as.take n0) vs := by have := rm.takeN n0; rwa [q1] at this
      have r2 : RMs K (mask H Z) ι (as.drop n0) zs := by have := rm.dropN n0; rwa [q2] at this
      have hd : DRs K (mask H Z) ds (vs.drop j) := datas_ok (r1.dropN j) hds
      have hz : (vs.drop j).length ≤ sizeLine := by rw [← hd.len]; exact hc.2
      have hnn : H s.heap.objs.size = Option.none := e0.hok.fresh (Nat.le_refl _)
      have hv : vs = vs.take j ++ vs.drop j := (List.take_append_drop j vs).symm
      rw [hv] at r
      obtain ⟨u1, u2, eu, ra, rb⟩ := StX.vals_split r
      subst eu
      have hj : (vs.take j).length = j := by rw [List.length_take, hl0]; omega
      have hu1 : u1.length = j := by rw [← ra.length]; exact hj
      have hu2 : u2.length ≤ sizeLine := by rw [← rb.length]; exact hz
      have hw : ws.length = ks.length := by rw [← rz.length]; exact hlk
      refine StX.run_bnd lk hcd S hr e0 (G := fun xs H2 => ∃ p, H p = Option.none ∧ xs = vs.take j ++ (gk sw zs ++ [V.ref p]) ∧ H2 = upd H p (.tup (vs.drop j))) (fun A' Ex Q' h => ?_) fun s2 H2 xs ⟨p, hp, ex, eH⟩ hr' => ?_
      · rw [hb u1 u2 ws hu1 (by rw [← rb.length, List.length_drop, hl0]; omega) hw]
        refine wpAny_bind (wpAny_newTuple (wpAny_pure ?_) hu2)
        have new : ObjOk P w (upd H s.heap.objs.size (.tup (vs.drop j))) (s.heap.push ({ cls := .type "tuple", data := .seq u2.toArray } : Obj)) s.heap.objs.size (.tup (vs.drop j)) := ⟨hz, u2, rb, ⟨_, Heap.get?_push_size _ rfl, rfl, _, rfl⟩⟩
        have un := StX.un_laid (fs := frs outer) (s := s) (o := ({ cls := .type "tuple", data := .seq u2.toArray } : Obj)) (u := .tup (vs.drop j)) hnn
        exact h _ _ (vs.take j ++ (gk sw zs ++ [V.ref s.heap.objs.size])) (u1 ++ (gk sw ws ++ [Value.ref s.heap.objs.size])) (StX.env0_laid e0 new) un rfl (fun e s' => StX.cxUp outer s H _ _ E e s' un (fun b o q => Heap.get?_push_of_some _ q) rfl) (ra.append ((vals_gk sw rz).append (.cons rfl .nil)))
          (by rw [List.length_append, hj, List.length_append, gk_len, hlk, hps]; rfl) ⟨_, hnn, rfl, rfl⟩
      · subst ex eH
        obtain ⟨sm, dr⟩ := new_tup st1.trk hp hd
        obtain ⟨st2, ex2⟩ := st1.grow sm
        refine ⟨_, body f cdv A outer s2 _ E hg hr', bodyT_ok (fz := fz) (n := (vs.take j ++ (gk sw zs ++ [V.ref p])).length) ⟨rfl, Z, ι, _, μ, st2, ?_, Out.base o ex2⟩⟩
        exact RMs.app (RMs.app (.cons (.d dr) .nil) ((r2.gk sw).mono ex2.same ex2.i)) ((r1.takeN j).mono ex2.same ex2.i)
    · exact o.elim
  · exact o.elim
/-- without names -/
theorem FnK.fn {x : Str} {k n0 : Nat} {F : MF} (h : FnK P w K mg base k x n0 [] F) : Fn P w K mg base k x n0 F := by
  obtain ⟨f, g, hm, hk⟩ := h.ex
  refine ⟨f, fun A outer s H us vs Q E hr hg e0 r hsp => ?_, hm, hk⟩
  have := g A outer s H us [] vs [] Q E hr hg e0 r .nil hsp.1 rfl (by rw [List.append_nil]; exact hsp)
  exact this
end
/-! calls with names -/
abbrev FKw (X : Cx) (W : WX) (kws : List Keyword) (m : MA) : Prop := PK X kws (tMA X.K W m)
def mCallK (F : MF) (n0 n1 : Nat) (ms mk : MA) : ME := fun ρ μ => (ms ρ μ).bind fun as μ1 => (mk ρ μ1).bind fun bs μ2 => if as.length = n0 ∧ bs.length = n1 then callF F (as ++ bs) μ2 else .bad
section
variable {X : Cx} {W : WX} {k j n0 : Nat} {x : Str} {F : MF} {p pos kpos : Pos} {e : Expr} {es : List Expr} {ma : ME} {ms mk : MA} {kws : List Keyword} {nm : Option Str} {ks : List Str}
theorem pk_imp {kws : List Keyword} {t t' : TA} (h : PK X kws t) (i : ∀ σ H Q, t' σ H Q → t σ H Q) : PK X kws t' := ⟨fun p pins s σ H Q I w => h.run p pins s σ H Q I (i σ H Q w)⟩
theorem fk_nil : FKw X W [] mNil := pk_imp pk_nil fun σ H Q ⟨Z, ι, ρ, μ, R, o⟩ => o Z ι H (Ext.refl R.sta.sub) R.sta [] .nil
theorem fk_cons (ha : FE X W e ma) (hr : FKw X W kws ms) : FKw X W (⟨nm, e, kpos⟩ :: kws) (mCons ma ms) := by
  refine pk_imp (pk_cons ha hr) fun σ H Q ⟨Z, ι, ρ, μ, R, o⟩ => ?_
  exact tM_bind R o fun v μ' Z' ι' H' x x1 R1 r1 o1 => tMA_bind R1 o1 fun vs μ2 Z2 ι2 H2 xs x2 R2 r2 o2 => o2 Z2 ι2 H2 (Ext.refl R2.sta.sub) R2.sta _ (.cons (r1.mono x2.same x2.i) r2)
theorem fe_callK {n1 : Nat} (c : FnK X.prog X.w X.K X.mg X.base k x n0 ks F) (tk : Takes X W) (hg : X.A.guards = some []) (hr : Room j X.A) (ha : FA X W (e :: es) ms) (hkw : FKw X W kws mk) (hk : k ≤ j := by decide) (hn1 : ks.length = n1 := by rfl) (hgl : Gl X x := by rfl)
    (hall : (backToKw pos (keywordEach kws X.env)).all (·.1.isSome) = true := by rfl) (hks : (backToKw pos (keywordEach kws X.env)).filterMap (·.1) = ks := by rfl)
    (hdb : (x == ("__debug__" : Str)) = false := by decide) (he : starEach (e :: es) X.env = (false, eval e X.env) :: starEach es X.env := by rfl)
    (hpl : ((backTo pos (starEach (e :: es) X.env)).any (·.1) || (backToKw pos (keywordEach kws X.env)).any (·.1.isNone)) = false := by rfl) :
    FE X W (.Call (.Name x p) (e :: es) kws pos) (mCallK F n0 n1 ms mk) := by
  subst hn1
  obtain ⟨f, G, hm, kp⟩ := c.ex
  refine pe_imp (t := fun σ H Q => tMA X.K W ms σ H fun vs H1 => tMA X.K W mk σ H1 fun zs H2 => vs.length = n0 ∧ zs.length = ks.length ∧ spF X.K (n0 + ks.length) F (vs ++ zs) H2 Q (WE W σ)) ⟨?_⟩ ?_
  · intro pins s σ H Q I h
    refine PySem.wpAny_Call_Name_kw (ld_glob I hgl hm ?_ hdb)
    refine PySem.W.callWith_KW (h₀ := X.base) I.ok.mod.kin kp hall (thn (ha.run pos pins s σ H _ I h) fun us s1 ⟨vs, H1, I1, r, q⟩ => ?_) hpl he
    refine thn (hkw.run pos pins s1 σ H1 _ I1 q) fun ws s2 ⟨zs, H2, I2, rz, l1, l2, q2⟩ => ⟨I2.kIn, ?_⟩
    rw [hks]
    refine wpAny_call (codeAny_mono (G X.A X.stack s2 H2 us ws vs zs Q (WE W σ) (hr.mono hk) hg I2.env0 r rz l1 l2 q2) fun z s' hq => ?_)
    cases z with
    | error u => exact passAt tk σ pins H2 s2 u s' I2 hq
    | ok fl => cases fl with
      | ret u => exact I2.after hq
      | _ => exact hq.elim
  · rintro σ H Q ⟨Z, ι, ρ, μ, R, o⟩
    refine tMA_bind R o fun v μ' Z' ι' H' x x1 R1 r1 o1 => tMA_bind R1 o1 fun v2 μ2 Z2 ι2 H2 x2 xx R2 r2 o2 => ?_
    split at o2
    · rename_i hl
      have l1 : x.length = n0 := by rw [← r1.len]; exact hl.1
      have l2 : x2.length = ks.length := by rw [← r2.len]; exact hl.2
      exact ⟨l1, l2, call_frame R2.sta (RMs.app r2 (r1.mono xx.same xx.i)) (by rw [List.length_append, l1, l2]) o2⟩
    · exact o2.elim
end
end TT

namespace TT
open PySem L2
variable [TB]
/-- a, b, .. = a list of data -/
def gL (n : Nat) (gs : MGs) : MG := fun v ρ => match v with
  | .d (.lst xs) => if xs.length = n then gs xs ρ else none
  | _ => none
section
variable {X : Cx} {pos : Pos}
theorem fg_lst {es : List Expr} {k : Nat} {gs : MGs} {n : Nat} (hc : X.calm = true) (h : FGs X es gs) (hn : (assignEach es X.env).length = n := by rfl) (hst : (assignEach es X.env).findIdx? (·.1) = none := by rfl) : FG X (.Tuple es k pos) (gL n gs) := by
  refine pg_imp (pg_lst hc h hn hst) fun v σ H Q ⟨Z, ι, ρ, μ, x, ρ', R, r, e, q⟩ => ?_
  cases r with
  | ref r => cases e
  | d r => cases r with
    | lst h1 h2 =>
      simp only [gL] at e
      split at e
      · rename_i hl
        exact ⟨_, _, rfl, SqL.of (mask_same _ _ _ _ h1), by rw [← h2.len]; exact hl, Z, ι, ρ, μ, _, ρ', R, h2, e, q⟩
      · cases e
    | _ => cases e
end
end TT
namespace TT
theorem FnK.mono [TB] {P : PySem.Program} {w : PySem.World} {K : PySem.W.Frag} {mg : PySem.Str → Option PySem.Value} {base : PySem.Heap} {k k' : Nat} {x : PySem.Str} {n0 : Nat} {ks : List PySem.Str} {F : MF} (h : FnK P w K mg base k x n0 ks F) (hk : k ≤ k') : FnK P w K mg base k' x n0 ks F := by
  obtain ⟨f, g, a, b⟩ := h.ex
  exact ⟨f, fun A outer s H us ws vs zs Q E hr => g A outer s H us ws vs zs Q E (hr.mono hk), a, b⟩
end TT

/-! set(xs) of a list of texts, and its length -/
namespace TT
open PySem PySem.Spec PyProof.Rows L2
/-- the texts as they are met first -/
def fmS (xs : List Str) : List Str := xs.foldl (fun a x => if a.any (· == x) then a else a ++ [x]) []
set_option maxHeartbeats 3200000 in
theorem fmS_snoc (xs : List Str) (x : Str) : fmS (xs ++ [x]) = if (fmS xs).any (· == x) then fmS xs else fmS xs ++ [x] := by simp [fmS]
set_option maxHeartbeats 3200000 in
theorem fmS_le (xs : List Str) : (fmS xs).length ≤ xs.length := by
  suffices h : ∀ (l a : List Str), (l.foldl (fun a x => if a.any (· == x) then a else a ++ [x]) a).length ≤ a.length + l.length by simpa [fmS] using h xs []
  intro l
  induction l with
  | nil => intro a; simp
  | cons y l ih =>
    intro a
    rw [List.foldl_cons]
    refine Nat.le_trans (ih _) ?_
    split <;> simp <;> omega
set_option maxHeartbeats 3200000 in
theorem fmS_any (xs : List Str) (x k : Str) : (fmS (xs ++ [x])).any (· == k) = ((fmS xs).any (· == k) || decide (k = x)) := by
  rw [fmS_snoc]
  by_cases h : k = x
  · subst h
    split
    · rename_i q; simp [q]
    · simp
  · have e : (x == k) = false := by simpa using fun q => h q.symm
    split <;> simp [h, e]
set_option maxHeartbeats 3200000 in
theorem fmS_len (xs : List Str) (x : Str) : (fmS (xs ++ [x])).length = if (fmS xs).any (· == x) = true then (fmS xs).length else (fmS xs).length + 1 := by
  rw [fmS_snoc]
  split <;> simp_all
set_option maxHeartbeats 3200000 in
theorem take_snoc {xs : List Str} {i : Nat} (h : i < xs.length) : xs.take (i + 1) = xs.take i ++ [xs.getD i Str.empty] := by
  rw [List.take_add_one, List.getElem?_eq_getElem h, List.getD_eq_getElem?_getD, List.getElem?_eq_getElem h]
  rfl
section
variable {pg : Program} {w : World} {A : Around} {R : Result → Shared → Prop} {I : Addr} {fp wr : List Addr} {G : Array GenState → Array GenState → Prop} {n : Nat} {Pv : Nat → Value → Prop} {St : Nat → Shared → Prop}
abbrev SetT (pg : Program) (w : World) (h : Heap) (S : Addr) (l : List Str) : Prop := h.SetOf (PySem.strKind pg w) S (fun q => (fmS l).any (· == q)) (fmS l).length
set_option maxHeartbeats 3200000 in
theorem setT_move {s s' : Shared} {S : Addr} {l : List Str} {ws : List Addr} (m : Moved ws G s s') (hw : S ∉ ws) (h : SetT pg w s.heap S l) : SetT pg w s'.heap S l := by
  obtain ⟨o, a, b, c, ho, r⟩ := h
  exact ⟨o, a, b, c, m.heap S _ hw ho, r⟩
set_option maxHeartbeats 3200000 in
theorem set_loop (W : WalksS pg w A.in1 I fp wr G n Pv St) (S : Addr) (nf : S ∉ fp) (xs : List Str) (hl : xs.length = n) (hb : n + 1 < scanBound) (hv : ∀ i v, Pv i v → ∃ t, v = .str (xs.getD i Str.empty) t) :
    ∀ (d i : Nat) (s : Shared), n - i = d → i ≤ n → St i s → SetT pg w s.heap S (xs.take i) → (∀ s', Moved (S :: wr) G s s' → SetT pg w s'.heap S xs → R (.ok (.ret .none)) s') →
      codeAny (model pg w) A (.builtin "set.update.loop" ⟨[.ref S, .ref I], []⟩) R s := by
  have nw : S ∉ wr := fun q => nf (W.sub _ q)
  have up : ∀ b ∈ wr, b ∈ S :: wr := fun _ q => List.mem_cons_of_mem _ q
  intro d
  induction d with
  | zero =>
    intro i s e1 e2 st hs k
    have : i = n := by omega
    subst this
    rw [← hl, List.take_length] at hs
    refine codeAny_builtin F.entry_set_update_loop (by
      rw [Around.under_plainId F.plain_set_update_loop _]
      show wpAny _ A.in1 (pyNext (.ref I) >>= _) _ _ s
      exact wpAny_bind (W.done s _ _ st fun s1 m => wpAny_pure (k s1 (m.mono up) (setT_move m nw hs))))
  | succ d ih =>
    intro i s e1 e2 st hs k
    have lt : i < n := by omega
    refine codeAny_builtin F.entry_set_update_loop (by
      rw [Around.under_plainId F.plain_set_update_loop _]
      show wpAny _ A.in1 (pyNext (.ref I) >>= _) _ _ s
      refine wpAny_bind (W.item i s _ _ lt st fun v s1 pv st1 m => ?_)
      obtain ⟨t, rfl⟩ := hv i v pv
      have hs1 := setT_move m nw hs
      have sn := take_snoc (xs := xs) (i := i) (by omega)
      have room : (fmS (xs.take i)).length + 1 < scanBound := by
        have := fmS_le (xs.take i)
        simp only [List.length_take] at this
        omega
      show wpAny _ A.in1 (holding [Value.str (xs.getD i Str.empty) t] (setAdd S (.str (xs.getD i Str.empty) t)) >>= _) _ _ s1
      refine wpAny_bind (wpAny_holding (by
        unfold setAdd
        refine wpAny_holding (wpAny_bind ((PySem.strKind pg w).pyHash (k := xs.getD i Str.empty) (strKind_is _ _ _ _) ?_))
        refine wpAny_setAddHashed_of (knd := PySem.strKind pg w) (s := { s1 with toks := s1.toks + 1 }) (strKind_is _ _ _ _) rfl hs1 room fun h2 sb hs2 => ?_
        have hs3 : SetT pg w h2 S (xs.take (i + 1)) := by
          rw [sn]
          exact SetOf_congr hs2 (fun q => (fmS_any _ _ q).symm) (fmS_len _ _).symm
        have ap : ∀ b, b ≠ S → h2.get? b = s1.heap.get? b := fun b q => sb.2 b q
        refine wpAny_pure ⟨plainId_quiet F.plain_set_update_loop _, ih (i + 1) _ (by omega) lt (W.frame _ s1 _ _ st1 (Nat.le_succ _) fun b q o e => (ap b fun z => nf (z ▸ q)).trans e) hs3 fun s2 m2 q2 => ?_⟩
        exact k s2 (Moved.trans W.gtrans ((m.mono up).then_heap (Nat.le_succ _) fun b o q e => (ap b fun z => q (z ▸ List.mem_cons_self)).trans e) m2) q2)))
end
section
variable {pg : Program} {w : World} {A : Around} {E : Value → Shared → Prop} {s : Shared}
/-- an empty set's object -/
abbrev newS (b : Bool) : Obj := { cls := .type "set", dict := none, data := .set #[] 0 (.fresh 0 0 b) }
set_option maxHeartbeats 3200000 in
theorem call_set_texts {l : Addr} {its : Array Value} {xs : List Str} {Q : Value → Shared → Prop} (hh : A.handled = none) (hl : s.heap.IsList l its) (hi : StrsAre its.toList xs) (hb : its.size + 1 < scanBound)
    (k : ∀ (h' : Heap) (tk : Nat), SetT pg w h' s.heap.objs.size xs → (∀ b o, b < s.heap.objs.size → s.heap.get? b = some o → h'.get? b = some o) → Q (.ref s.heap.objs.size) { s with heap := h', toks := tk }) :
    wpAny (model pg w) A (call (.type "set") [.ref l]) Q E s := by
  have hlen : xs.length = its.size := by rw [← StrsAre.len_eq hi, Array.length_toList]
  obtain ⟨c0, t0, m0⟩ := PySem.F.called_set.mro
  have a1 := PySem.F.called_set.made; have a2 := PySem.F.called_set.sub
  have a3 := PySem.F.called_set.notType; have a4 := PySem.F.called_set.canCreate; have a5 := PySem.F.typeCall_set_1 (.ref l)
  refine wpAny_call (codeAny_of_tree (show wpAny _ _ (callAny (.type "set") _) _ _ _ from wpAny_pure ⟨Code.quiet_builtin _ (by decide +kernel), codeAny_builtin PySem.F.entry_type_call ?_⟩))
  rw [Around.under_plain (weight_type_call_type "set" [.ref l] []) rfl]
  repeat (any_goals (first | assumption | wp_step))
  refine codeAny_mono (code_set_new_1 (.ref l) (E := E) (Q₁ := fun v s1 => ∃ b : Bool, v = .ref s.heap.objs.size ∧ s1 = { s with heap := s.heap.push (newS b) }) fun b => ⟨b, rfl, rfl⟩) fun r s1 hr => ?_
  match r, hr with
  | .error e, hr => exact hr
  | .ok .next, hr => exact hr.elim
  | .ok .brk, hr => exact hr.elim
  | .ok .cont, hr => exact hr.elim
  | .ok (.ret v), hr =>
    obtain ⟨b, rfl, rfl⟩ := hr
    have g0 : (s.heap.push (newS b)).get? s.heap.objs.size = some (newS b) := Heap.get?_push_size _ rfl
    have ty : Shared.TypeIs { s with heap := s.heap.push (newS b) } (.ref s.heap.objs.size) "set" := ⟨_, g0, rfl⟩
    have b1 := PySem.F.called_set.init.lookup; have b2 := PySem.F.called_set.init.bind (.ref s.heap.objs.size)
    repeat (any_goals (first | assumption | wp_step))
    refine codeAny_mono (codeAny_call_builtin (R := wants (fun v s2 => v = .none ∧ ∃ h' tk, s2 = { s with heap := h', toks := tk } ∧ SetT pg w h' s.heap.objs.size xs ∧ (∀ b o, b < s.heap.objs.size → s.heap.get? b = some o → h'.get? b = some o)) E) PySem.F.called_set.init.plain PySem.F.entry_set_init (check_set_init_1 ty ?_)) fun r2 s2 hr2 => ?_
    · obtain ⟨⟨cl, dc, dt, sl⟩, g1, e1, nl, e2⟩ := hl
      simp only at e1 e2
      subst e1; subst e2
      have g2 : (s.heap.push (newS b)).get? l = some { cls := .type "list", dict := dc, data := .seq its nl, slots := sl } := Heap.get?_push_of_some _ g1
      have c1 := PySem.F.sub_list_set; have c2 := PySem.F.sub_list_frozenset
      have c3 : (Value.type "list" == Value.type "dict") = false := by decide
      have g3 : (s.heap.push (newS b)).IsList l its := ⟨_, g2, rfl, nl, rfl⟩
      unfold Builtin.«set.__init__» noKeywords Builtin.Frozenset.updateFrom
      generalize hP : pyIter = PP
      wp_walk
      subst hP
      refine wpAny_pyIter_list g3 (wpAny_bind (wpAny_runValue ?_))
      have lt : l < s.heap.objs.size := Heap.lt_size g1
      have sz : (s.heap.push (newS b)).objs.size = s.heap.objs.size + 1 := Heap.size_push _ _
      have n1 : l ≠ (s.heap.push (newS b)).objs.size := by rw [sz]; exact Nat.ne_of_lt (Nat.lt_succ_of_lt lt)
      have n2 : s.heap.objs.size ∉ [(s.heap.push (newS b)).objs.size, l] := by
        rw [sz]
        intro q
        rcases List.mem_cons.mp q with q | q
        · exact absurd q (Nat.ne_of_lt (Nat.lt_succ_self _))
        · exact absurd (List.mem_singleton.mp q) (Nat.ne_of_gt lt)
      have hv : ∀ (i : Nat) (v : Value), its[i]? = some v → ∃ t, v = .str (xs.getD i Str.empty) t := fun i v q => SS.strs_at hi i v (by rw [Array.getElem?_toList]; exact q)
      refine set_loop ((Walks.list (by simp [hh]) _ l n1 its).toS) s.heap.objs.size n2 xs hlen hb hv (its.size - 0) 0 _ (by omega) (Nat.zero_le _) ⟨⟨_, Heap.get?_push_size _ rfl, rfl, rfl⟩, (g3.push _)⟩ ?hA ?hB
      case hA => exact SetOf_congr ((setObjOf_fresh (knd := PySem.strKind pg w) b).setOf (Heap.get?_push_of_some _ g0) (by unfold scanBound; omega)) (fun _ => rfl) rfl
      case hB =>
        rintro ⟨h2, gn, dn, tk, os⟩ m q
        obtain rfl : gn = s.gens := m.gens
        obtain rfl : dn = s.drawn := m.drawn
        obtain rfl : os = s.os := m.os
        refine wpAny_pure (show wpAny _ _ (ret Value.none) _ _ _ from wpAny_pure ⟨rfl, h2, tk, rfl, q, fun b o hb e => ?_⟩)
        refine m.heap b o ?_ (Heap.get?_push_of_some _ (Heap.get?_push_of_some _ e))
        rw [sz]
        intro q
        rcases List.mem_cons.mp q with q | q
        · exact absurd q (Nat.ne_of_lt hb)
        · exact absurd (List.mem_singleton.mp q) (Nat.ne_of_lt (Nat.lt_succ_of_lt hb))
    · match r2, hr2 with
      | .error e, hr2 => exact hr2
      | .ok .next, hr2 => exact hr2.elim
      | .ok .brk, hr2 => exact hr2.elim
      | .ok .cont, hr2 => exact hr2.elim
      | .ok (.ret v), hr2 =>
        obtain ⟨rfl, h', tk, rfl, q1, q2⟩ := hr2
        repeat (any_goals (first | assumption | wp_step))
        exact k _ _ q1 q2
end
end TT

namespace TT
open PySem PySem.Spec PyProof.Rows L2
variable [TB]
section
variable {X : Cx} {W : WX}
/-- len(set(xs)), xs a list of texts -/
def tLenT (K : PySem.W.Frag) (ta : TE) : TE := fun σ H Q => ta σ H fun x H1 => ∃ (l : Addr) (xs : List Str), x = .ref l ∧ SqL K H1 l (xs.map V.str) ∧ xs.length < 4000 ∧ Q (.int (fmS xs).length) H1
theorem pe_lenT {a : Expr} {ta : TE} {p p2 q pos : Pos} (hc : X.calm = true) (hg : Gl X "len") (hm : X.mg "len" = none) (hg2 : Gl X "set") (hm2 : X.mg "set" = none) (ha : PE X a ta)
    (na : starEach [a] X.env = (false, eval a X.env) :: starEach [] X.env := by rfl) : PE X (.Call (.Name "len" p) [.Call (.Name "set" p2) [a] [] q] [] pos) (tLenT X.K ta) := by
  constructor
  intro pins s σ H Q I h
  refine Call_ (ld_blt I hg hm boot_len (callWith_builtin1 (args_cons (Call_ (ld_blt I hg2 hm2 boot_set (callWith_type1 (args_cons (thn (ha.run pins s σ H _ I h) fun v s1 ⟨x, H1, I1, r1, q1⟩ => args_nil ?_) na) na rfl))) rfl) rfl rfl))
  obtain ⟨l, xs, rfl, hq, h1, q1⟩ := q1
  cases r1
  obtain ⟨its, r, pl, hz⟩ := I1.list hq
  have hs : its.length = xs.length := by rw [← r.length, List.length_map]
  refine call_set_texts (I1.ok.hd hc) pl.isList (by simpa using strsAre_of r) (by unfold scanBound; simp; omega) fun h' tk hS hk => args_nil ?_
  obtain ⟨o, es, ep, t, ho, hex, hd, _, _, _, hf, hn⟩ := hS
  have I2 : Inv X pins σ H1 { s1 with heap := h', toks := tk } := I1.kept fun b o e => hk b o (Heap.lt_size e) e
  have hle := fmS_le xs
  exact call_len_set ho hex hd hf (by rw [hn] <;> omega) ⟨.int (fmS xs).length, H1, I2.tok _, ⟨_, by rw [hn]⟩, q1⟩
def lenSetD : D → Option D
  | .lst ds => match strsD ds with
    | some ss => if ss.length < 4000 then some (.int (fmS ss).length) else none
    | none => none
  | _ => none
def mLenSet (ma : ME) : ME := fun ρ μ => (ma ρ μ).bind fun v μ1 => match view μ1 v with
  | some x => match lenSetD x with
    | some z => .ok (.d z) μ1
    | none => .bad
  | none => .bad
theorem fe_lenSet {a : Expr} {ma : ME} {p p2 q pos : Pos} (hc : X.calm = true) (hg : Gl X "len") (hm : X.mg "len" = none) (hg2 : Gl X "set") (hm2 : X.mg "set" = none) (ha : FE X W a ma)
    (na : starEach [a] X.env = (false, eval a X.env) :: starEach [] X.env := by rfl) : FE X W (.Call (.Name "len" p) [.Call (.Name "set" p2) [a] [] q] [] pos) (mLenSet ma) := by
  refine pe_imp (pe_lenT hc hg hm hg2 hm2 ha na) fun σ H Q ⟨Z, ι, ρ, μ, R, o⟩ => tM_bind R o fun v μ' Z' ι' H' x x1 R1 r1 o1 => ?_
  split at o1
  · rename_i d hd
    split at o1
    · rename_i z hz
      have hv := view_ok R1.sta r1 hd
      unfold lenSetD at hz
      split at hz
      · rename_i ds
        split at hz
        · rename_i ss hss
          split at hz
          · rename_i hl
            cases hz
            obtain ⟨l, vs, rfl, h1, h2⟩ := hv.list
            have := strsD_ok h2 hss
            subst this
            exact ⟨l, ss, rfl, SqL.of h1, hl, Out.ret R1.sta o1 (.d (.int _))⟩
          · cases hz
        · cases hz
      · cases hz
    · exact o1.elim
  · exact o1.elim
end
end TT

namespace TT
open PySem L2
variable [TB]
/-! a, b, c, d = w, x, y, z: names, and values of which some may change later -/
def setMV (ρ : En) : List Nat → List MV → En
  | i :: is, v :: vs => setMV (ρ.set i (some v)) is vs
  | _, _ => ρ
def setV (σ : St) : List Nat → List V → St
  | i :: is, v :: vs => setV (σ.set i (some v)) is vs
  | _, _ => σ
theorem RS.setAll {K : PySem.W.Frag} {F : Hp} {ι : List Addr} : ∀ {as : List MV} {vs : List V} {is : List Nat} {ρ : En} {σ : St}, RMs K F ι as vs → RS K F ι ρ σ → RS K F ι (setMV ρ is as) (setV σ is vs)
  | _, _, [], _, _, _, h => by unfold setMV setV; exact h
  | _, _, _ :: _, _, _, .nil, h => by unfold setMV setV; exact h
  | _, _, i :: is, _, _, .cons a b, h => RS.setAll (is := is) b (RS.set a h i)
def gNames (is : List Nat) : TGs := fun vs σ H Q => vs.length = is.length ∧ Q (setV σ is vs) H
section
variable {X : Cx} {W : WX} {pos : Pos}
theorem gn_nil : PGs X [] (gNames []) := pgs_imp pgs_nil fun v σ H Q ⟨h1, h2⟩ => by
  cases v with
  | nil => exact ⟨rfl, h2⟩
  | cons a b => cases h1
theorem gn_cons {i : Nat} {is : List Nat} {x : Str} {es : List Expr} {p : Pos} (hN : X.N.Nodup) (hi : X.N[i]? = some x) (hx : Loc X.env.scope x) (h2 : PGs X es (gNames is))
    (hs : (assignEach (.Name x p :: es) X.env).map (·.2) = assign (.Name x p) X.env :: (assignEach es X.env).map (·.2) := by rfl)
    (hf : X.fn x = true ∨ X.env.scope.names.lookup x = some .local := by first | exact .inl rfl | exact .inr rfl | assumption) : PGs X (.Name x p :: es) (gNames (i :: is)) := by
  refine pgs_imp (pgs_cons (pg_name (i := i) hN hi hx hf) h2 hs) fun v σ H Q ⟨h1, hq⟩ => ?_
  cases v with
  | nil => cases h1
  | cons a b => exact ⟨a, b, rfl, by simpa using h1, hq⟩
def mParN (is : List Nat) (ms : MA) : MS := fun ρ μ => (ms ρ μ).stm ρ fun vs μ1 => if vs.length = is.length ∧ is.length ≤ 100 then .nx (setMV ρ is vs) μ1 else .bad
theorem fs_parN {tgs es : List Expr} {is : List Nat} {ms : MA} {kt k2 : Nat} {pt pt2 : Pos} (hc : X.calm = true) (he : FA X W es ms) (hg : PGs X tgs (gNames is)) (hn : (assignEach tgs X.env).length = is.length := by rfl) (hst : (assignEach tgs X.env).findIdx? (·.1) = none := by rfl)
    (hs : swapsWithSole [.Tuple tgs kt pt] (.Tuple es k2 pt2) pos.line X.env = pure false := by rfl) (hw : swappedStores [.Tuple tgs kt pt] (.Tuple es k2 pt2) X.env = pure none := by rfl)
    (h1 : (assignEach [.Tuple tgs kt pt] X.env).map (·.2) = [assign (.Tuple tgs kt pt) X.env] := by rfl) : FS X W (.Assign [.Tuple tgs kt pt] (.Tuple es k2 pt2) pos) (mParN is ms) := by
  refine ps_imp (ps_asg (pe_tup he) (pg_tup hc hg hn hst) hs hw h1) fun E σ H ⟨Z, ι, ρ, μ, R, o⟩ => ?_
  refine tMA_stm R o fun v μ' Z' ι' H' x x1 R1 r1 o1 => ?_
  split at o1
  · rename_i hl
    have lx : x.length = is.length := by rw [← r1.len]; exact hl.1
    refine ⟨by rw [lx]; exact Nat.le_trans hl.2 (by decide), fun p hp => ⟨p, x, rfl, SqT.of upd_same, lx, lx, ?_⟩⟩
    have sm : Same H' (upd H' p (.tup x)) := fun a o e => (upd_ne (ne_of_none e hp)).trans e
    obtain ⟨s2, x2⟩ := R1.sta.grow sm
    exact o1 Z' ι' _ _ x2 ⟨s2, RS.setAll (r1.mono x2.same x2.i) (R1.rs.mono x2.same x2.i)⟩
  · exact o1.elim
end
end TT

namespace TT
open PySem L2
variable [TB]
/-! a call that only looks at the lists that it is given -/
def tagD : D → Nat
  | .non => 1
  | .bl _ => 2
  | .int _ => 3
  | .str _ => 4
  | .ty _ => 5
  | _ => 0
def tagV : V → Nat
  | .non => 1
  | .bl _ => 2
  | .int _ => 3
  | .str _ => 4
  | .ty _ => 5
  | _ => 0
theorem tag_ok {K : PySem.W.Frag} {F : Hp} {d : D} {v : V} (h : DR K F d v) : tagD d = tagV v := by cases h <;> rfl
/-- no one list is both -/
def apDs : List D → List D → Bool
  | [], [] => false
  | x :: xs, y :: ys => tagD x != tagD y || apDs xs ys
  | _, _ => true
theorem apDs_ok {K : PySem.W.Frag} {F F' : Hp} : ∀ {xs ys : List D} {vs : List V}, DRs K F xs vs → DRs K F' ys vs → apDs xs ys = false
  | _, _, _, .nil, .nil => rfl
  | _, _, _, .cons a b, .cons a' b' => by
    simp only [apDs, Bool.or_eq_false_iff, bne_eq_false_iff_eq]
    exact ⟨(tag_ok a).trans (tag_ok a').symm, apDs_ok b b'⟩
def apart (bs : List D) (xs : List D) : Bool := bs.all fun b => match b with
  | .lst ys => apDs xs ys
  | _ => true
mutual
/-- what holds none of the lists bs -/
def okD (bs : List D) : D → Bool
  | .non => true
  | .bl _ => true
  | .int _ => true
  | .str _ => true
  | .tup xs => okDs bs xs
  | .lst xs => apart bs xs && okDs bs xs
  | .obj _ fs => okDf bs fs
  | _ => false
def okDs (bs : List D) : List D → Bool
  | [] => true
  | d :: ds => okD bs d && okDs bs ds
def okDf (bs : List D) : List (Str × D) → Bool
  | [] => true
  | (_, d) :: ds => okD bs d && okDf bs ds
end
section
variable {K : PySem.W.Frag} {F F' : Hp} {bs : List D} (e1 : ∀ a vs, F a = some (.tup vs) → F' a = some (.tup vs)) (e2 : ∀ a C d vs, F a = some (.ins C d vs) → F' a = some (.ins C d vs)) (e3 : ∀ a vs xs, F a = some (.lst vs) → DRs K F xs vs → apart bs xs = true → F' a = some (.lst vs))
include e1 e2 e3
mutual
theorem okD_ok : ∀ (d : D) (v : V), DR K F d v → okD bs d = true → DR K F' d v
  | .non, _, h, _ => by cases h; exact .non
  | .bl b, _, h, _ => by cases h; exact .bl b
  | .int b, _, h, _ => by cases h; exact .int b
  | .str b, _, h, _ => by cases h; exact .str b
  | .tup xs, _, h, f => by
    cases h with | tup q r => exact .tup (e1 _ _ q) (okDs_ok xs _ r (by simpa [okD] using f))
  | .lst xs, _, h, f => by
    simp only [okD, Bool.and_eq_true] at f
    cases h with | lst q r => exact .lst (e3 _ _ _ q r f.1) (okDs_ok xs _ r f.2)
  | .obj C xs, _, h, f => by
    cases h with | obj q r => exact .obj (e2 _ _ _ _ q) (okDf_ok xs _ r (by simpa [okD] using f))
  | .ty _, _, _, f => by simp [okD] at f
  | .gl _, _, _, f => by simp [okD] at f
  | .fl _, _, _, f => by simp [okD] at f
  | .dK _, _, _, f => by simp [okD] at f
  | .dT _, _, _, f => by simp [okD] at f
  | .exn _ _ _ _, _, _, f => by simp [okD] at f
  | .err _ _, _, _, f => by simp [okD] at f
theorem okDs_ok : ∀ (d : List D) (v : List V), DRs K F d v → okDs bs d = true → DRs K F' d v
  | [], _, h, _ => by cases h; exact .nil
  | d :: ds, _, h, f => by
    simp only [okDs, Bool.and_eq_true] at f
    cases h with | cons a b => exact .cons (okD_ok d _ a f.1) (okDs_ok ds _ b f.2)
theorem okDf_ok : ∀ (d : List (Str × D)) (v : List (Str × V)), DRf K F d v → okDf bs d = true → DRf K F' d v
  | [], _, h, _ => by cases h; exact .nil
  | (_, d) :: ds, _, h, f => by
    simp only [okDf, Bool.and_eq_true] at f
    cases h with | cons a b => exact .cons (okD_ok d _ a f.1) (okDf_ok ds _ b f.2)
end
end
theorem mask_sub {H : Hp} {Z Zc : List Addr} (hz : ∀ a ∈ Zc, a ∈ Z) : Same (mask H Z) (mask H Zc) := fun a o q => by
  obtain ⟨q1, q2⟩ := of_mask q
  exact mask_in (fun z => q1 (hz a z)) q2 (mask_nt q)
/-- an argument's own place, if it is a reference -/
def refAt (ι : List Addr) : MV → Option Addr
  | .ref n => ι[n]?
  | .d _ => none
/-- the arguments as data: the places of the lists handed on, and what stands there -/
theorem views_fz {K : PySem.W.Frag} {Z ι : List Addr} {μ : List MO} {H : Hp} (s : Sta K Z ι μ H) : ∀ {as : List MV} {vs : List V} {ds : List D}, RMs K (mask H Z) ι as vs → views μ as = some ds →
    (∀ a ∈ as.filterMap (refAt ι), ∃ o, H a = some o ∧ (∀ xs, o ≠ .tup xs) ∧ (∀ C d xs, o ≠ .ins C d xs) ∧ ∀ ws, o = .lst ws → ∃ ys, D.lst ys ∈ ds ∧ DRs K (mask H Z) ys ws) ∧
    ∀ Zc, (∀ a ∈ Zc, a ∈ Z) → (∀ a ∈ as.filterMap (refAt ι), a ∉ Zc) → RMs K (mask H Zc) [] (ds.map .d) vs
  | _, _, _, .nil, e => by
    cases e
    exact ⟨fun a h => by simp at h, fun _ _ _ => .nil⟩
  | _, _, _, .cons (m := m) r b, e => by
    unfold views at e
    split at e
    · rename_i x h1
      split at e
      · rename_i xs h2
        cases e
        obtain ⟨i1, i2⟩ := views_fz s b h2
        cases m with
        | d y =>
          cases h1
          have ef : ∀ ms : List MV, (MV.d x :: ms).filterMap (refAt ι) = ms.filterMap (refAt ι) := fun ms => rfl
          rw [ef]
          refine ⟨fun a ha => ?_, fun Zc hz hn => ?_⟩
          · obtain ⟨o, h3, h4, h5, h6⟩ := i1 a ha
            exact ⟨o, h3, h4, h5, fun ws hw => by obtain ⟨ys, h7, h8⟩ := h6 ws hw; exact ⟨ys, List.mem_cons_of_mem _ h7, h8⟩⟩
          · cases r with | d r => exact .cons (.d (r.mono (mask_sub hz) _ _)) (i2 Zc hz hn)
        | ref n =>
          cases r with | ref r =>
            rename_i a0
            have ef : ∀ ms : List MV, (MV.ref n :: ms).filterMap (refAt ι) = a0 :: ms.filterMap (refAt ι) := fun ms => by simp [refAt, r]
            rw [ef]
            have old : ∀ a ∈ (_ : List MV).filterMap (refAt ι), ∃ o, H a = some o ∧ (∀ xs, o ≠ .tup xs) ∧ (∀ C d xs, o ≠ .ins C d xs) ∧ ∀ ws, o = .lst ws → ∃ ys, D.lst ys ∈ x :: xs ∧ DRs K (mask H Z) ys ws := fun a ha => by
              obtain ⟨o, h3, h4, h5, h6⟩ := i1 a ha
              exact ⟨o, h3, h4, h5, fun ws hw => by obtain ⟨ys, h7, h8⟩ := h6 ws hw; exact ⟨ys, List.mem_cons_of_mem _ h7, h8⟩⟩
            unfold view at h1
            simp only at h1
            split at h1
            · rename_i ys q; cases h1
              obtain ⟨ho, h3, h4⟩ := s.obj _ _ _ r q
              cases h4 with | lst h4 =>
                refine ⟨fun a ha => ?_, fun Zc hz hn => .cons (.d (.lst (mask_in (hn a0 List.mem_cons_self) h3) (h4.mono (mask_sub hz) _ _))) (i2 Zc hz fun a ha => hn a (List.mem_cons_of_mem _ ha))⟩
                rcases List.mem_cons.mp ha with z | z
                · subst z
                  exact ⟨_, h3, (fun _ z => by cases z), (fun _ _ _ z => by cases z), fun ws hw => by cases hw; exact ⟨ys, List.mem_cons_self, h4⟩⟩
                · exact old a z
            · rename_i ys q; cases h1
              obtain ⟨ho, h3, h4⟩ := s.obj _ _ _ r q
              cases h4 with | dK h4 =>
                refine ⟨fun a ha => ?_, fun Zc hz hn => .cons (.d (.dK (mask_in (hn a0 List.mem_cons_self) h3) (h4.mono (mask_sub hz) _ _))) (i2 Zc hz fun a ha => hn a (List.mem_cons_of_mem _ ha))⟩
                rcases List.mem_cons.mp ha with z | z
                · subst z
                  exact ⟨_, h3, (fun _ z => by cases z), (fun _ _ _ z => by cases z), fun ws hw => by cases hw⟩
                · exact old a z
            · rename_i ys q; cases h1
              obtain ⟨ho, h3, h4⟩ := s.obj _ _ _ r q
              cases h4 with | dT h4 =>
                refine ⟨fun a ha => ?_, fun Zc hz hn => .cons (.d (.dT (mask_in (hn a0 List.mem_cons_self) h3) (h4.mono (mask_sub hz) _ _))) (i2 Zc hz fun a ha => hn a (List.mem_cons_of_mem _ ha))⟩
                rcases List.mem_cons.mp ha with z | z
                · subst z
                  exact ⟨_, h3, (fun _ z => by cases z), (fun _ _ _ z => by cases z), fun ws hw => by cases hw⟩
                · exact old a z
            · cases h1
      · cases e
    · cases e
theorem DVs.len {K : PySem.W.Frag} {Z : List Addr} {H : Hp} : ∀ {xs : List D} {vs : List V}, DVs K Z H xs vs → xs.length = vs.length
  | _, _, .nil => rfl
  | _, _, .cons _ b => congrArg (· + 1) (DVs.len b)
/-- the arguments as they are now, handed on as data -/
def zRes (ds : List D) (r : Res MV) (μ : List MO) : Res MV := match r with
  | .ok (.d v) _ => if okD ds v = true then .ok (.d v) μ else .bad
  | _ => .bad
theorem z_frame {K : PySem.W.Frag} {Z ι : List Addr} {μ : List MO} {H : Hp} {W : WX} {σ : St} {F : MF} {as : List MV} {vs : List V} {ds : List D} {Q : VK} {n : Nat} (s : Sta K Z ι μ H) (r : RMs K (mask H Z) ι as vs) (hn : vs.length = n) (hv : views μ as = some ds)
    (o : Out K W σ Z ι H (zRes ds (F (ds.map .d) []) μ) (Val K Q)) : spF K n F vs H Q (WE W σ) := by
  obtain ⟨i1, i2⟩ := views_fz s r hv
  let Zc := Z.filter fun a => decide (a ∉ as.filterMap (refAt ι))
  have hz : ∀ a ∈ Zc, a ∈ Z := fun a h => (List.mem_filter.mp h).1
  have hb : ∀ a ∈ as.filterMap (refAt ι), a ∉ Zc := fun a h q => (of_decide_eq_true (List.mem_filter.mp q).2) h
  refine ⟨hn, Zc, [], ds.map .d, [], ⟨(fun a h => by cases h), .nil, rfl, (fun a h => s.trk a (hz a h)), s.tab, (fun n a o h => by simp at h)⟩, i2 Zc hz hb, ?_⟩
  unfold zRes at o
  cases q : F (ds.map .d) [] with
  | exc C fs μ' => rw [q] at o; exact o.elim
  | bad => rw [q] at o; exact o.elim
  | ok v μ' =>
    rw [q] at o
    cases v with
    | ref k => exact o.elim
    | d v =>
      simp only at o
      split at o
      · rename_i ho
        intro Z' ι' H' x' s' y ry
        have keep : ∀ a o, NT o → H a = some o → H' a = some o := fun a o t e => x'.keep a o (by simp) t e
        have ex : Ext Z ι H (Z ++ Z') ι H' := by
          refine ⟨s.sub, fun a h => List.mem_append_left _ h, fun _ _ h => h, fun a o _ t e => keep a o t e, x'.tb, fun a h => ?_, fun a h => .inl h⟩
          rcases List.mem_append.mp h with z | z
          · exact .inl z
          · rcases x'.new a z with z | z
            · exact .inl (hz a z)
            · exact .inr z
        have sx : Sta K (Z ++ Z') ι μ H' := by
          refine ⟨fun a h => List.mem_append_left _ (s.sub a h), s.nd, s.len, fun a h => ?_, s'.tab, fun n a o h1 h2 => ?_⟩
          · rcases List.mem_append.mp h with z | z
            · obtain ⟨o, e⟩ := s.trk a z
              rcases nt_or o with t | ⟨ps, rfl⟩
              · exact ⟨o, keep a o t e⟩
              · obtain ⟨qs, z⟩ := x'.tb a ps e; exact ⟨_, z⟩
            · exact s'.trk a z
          · obtain ⟨ho, h3, h4⟩ := s.obj n a o h1 h2
            exact ⟨ho, keep a ho h4.nt h3, h4.mono ex.same ex.i⟩
        cases ry with | d ry =>
          have fin : ∀ {a : Addr} {o : HO}, mask H' Z' a = some o → (∀ b ∈ as.filterMap (refAt ι), b = a → False) → mask H' (Z ++ Z') a = some o := fun {a o} e h => by
            obtain ⟨h1, h2⟩ := of_mask e
            refine mask_in (fun z => ?_) h2 (mask_nt e)
            rcases List.mem_append.mp z with z | z
            · by_cases hB : a ∈ as.filterMap (refAt ι)
              · exact h a hB rfl
              · exact h1 (x'.z a (List.mem_filter.mpr ⟨z, decide_eq_true hB⟩))
            · exact h1 z
          refine o (Z ++ Z') ι H' ex sx y (.d (okD_ok (bs := ds) (fun a vs e => ?_) (fun a C d vs e => ?_) (fun a vs xs e hx ha => ?_) v y ry ho))
          · refine fin e fun b hB hb' => ?_
            subst hb'
            obtain ⟨o, h3, h4, _⟩ := i1 b hB
            have t : NT o := by
              rcases nt_or o with t | ⟨ps, rfl⟩
              · exact t
              · obtain ⟨qs, z⟩ := x'.tb b ps h3
                rw [(of_mask e).2] at z; cases z
            have := keep b o t h3
            rw [(of_mask e).2] at this
            cases this
            exact h4 _ rfl
          · refine fin e fun b hB hb' => ?_
            subst hb'
            obtain ⟨o, h3, _, h4, _⟩ := i1 b hB
            have t : NT o := by
              rcases nt_or o with t | ⟨ps, rfl⟩
              · exact t
              · obtain ⟨qs, z⟩ := x'.tb b ps h3
                rw [(of_mask e).2] at z; cases z
            have := keep b o t h3
            rw [(of_mask e).2] at this
            cases this
            exact h4 _ _ _ rfl
          · refine fin e fun b hB hb' => ?_
            subst hb'
            obtain ⟨o, h3, _, _, h4⟩ := i1 b hB
            have t : NT o := by
              rcases nt_or o with t | ⟨ps, rfl⟩
              · exact t
              · obtain ⟨qs, z⟩ := x'.tb b ps h3
                rw [(of_mask e).2] at z; cases z
            have := keep b o t h3
            rw [(of_mask e).2] at this
            cases this
            obtain ⟨ys, h5, h6⟩ := h4 _ rfl
            have h7 := apDs_ok hx h6
            unfold apart at ha
            rw [List.all_eq_true] at ha
            have h8 := ha _ h5
            simp only [h7] at h8
            cases h8
      · exact o.elim
def mCallZ (F : MF) (n : Nat) (ms : MA) : ME := fun ρ μ => (ms ρ μ).bind fun as μ1 => match views μ1 as with
  | some ds => if ds.length = n then zRes ds (F (ds.map .d) []) μ1 else .bad
  | none => .bad
section
variable {X : Cx} {W : WX} {k j n : Nat} {x : Str} {F : MF} {p pos : Pos} {e : Expr} {es : List Expr} {ms : MA}
theorem fe_callZ (c : Fn X.prog X.w X.K X.mg X.base k x n F) (tk : Takes X W) (hg : X.A.guards = some []) (hr : Room j X.A) (ha : FA X W (e :: es) ms) (hk : k ≤ j := by decide) (hgl : Gl X x := by rfl)
    (hdb : (x == ("__debug__" : Str)) = false := by decide) (he : starEach (e :: es) X.env = (false, eval e X.env) :: starEach es X.env := by rfl) (hpl : (backTo pos (starEach es X.env)).any (·.1) = false := by rfl) :
    FE X W (.Call (.Name x p) (e :: es) [] pos) (mCallZ F n ms) := by
  obtain ⟨f, G, hm, kp⟩ := c.ex
  refine pe_imp (t := tCallS (spF X.K n F) (WE W) (tMA X.K W ms)) ⟨?_⟩ ?_
  · intro pins s σ H Q I h
    refine PySem.wpAny_Call_Name_kw (ld_glob I hgl hm ?_ hdb)
    refine PySem.W.callWith_K (h₀ := X.base) I.ok.mod.kin kp (thn (ha.run pos pins s σ H _ I h) fun us s1 hh => ?_) he hpl
    obtain ⟨vs, H1, I1, r, q⟩ := hh
    refine ⟨I1.kIn, wpAny_call (codeAny_mono (G X.A X.stack s1 H1 us vs Q (WE W σ) (hr.mono hk) hg I1.env0 r q) fun z s' hq => ?_)⟩
    cases z with
    | error u => exact passAt tk σ pins H1 s1 u s' I1 hq
    | ok fl => cases fl with
      | ret u => exact I1.after hq
      | _ => exact hq.elim
  · rintro σ H Q ⟨Z, ι, ρ, μ, R, o⟩
    refine tMA_bind R o fun v μ' Z' ι' H' x x1 R1 r1 o1 => ?_
    split at o1
    · rename_i ds hds
      split at o1
      · rename_i hl
        exact z_frame R1.sta r1 (by rw [← (views_ok R1.sta r1 hds).len]; exact hl) hds o1
      · exact o1.elim
    · exact o1.elim
end
end TT

namespace TT
open PySem L2
variable [TB]
/-! plain proofs by what must hold behind: (r).to .. -/
def SR.to (r : SR) (N : En → List MO → Prop) (R : MV → List MO → Prop) (B C : En → List MO → Prop) (E : Addr → List (Str × D) → En → List MO → Prop) : Prop := match r with
  | .nx ρ μ => N ρ μ
  | .rt v μ => R v μ
  | .bk ρ μ => B ρ μ
  | .ct ρ μ => C ρ μ
  | .exc c fs ρ μ => E c fs ρ μ
  | .bad => False
def Res.to {α : Type} (r : Res α) (K : α → List MO → Prop) (E : Addr → List (Str × D) → List MO → Prop) : Prop := match r with
  | .ok a μ => K a μ
  | .exc c fs μ => E c fs μ
  | .bad => False
def no3 : Addr → List (Str × D) → List MO → Prop := fun _ _ _ => False
section
variable {α β : Type} {K : α → List MO → Prop} {K2 : β → List MO → Prop} {E E' : Addr → List (Str × D) → List MO → Prop} {N N' : En → List MO → Prop} {R R' : MV → List MO → Prop} {B C B' C' : En → List MO → Prop} {EE EE' : Addr → List (Str × D) → En → List MO → Prop}
theorem to_ok {r : Res α} {v : α} {μ' : List MO} (h : r = .ok v μ') (k : K v μ') : r.to K E := by rw [h]; exact k
theorem to_ex {r : Res α} {c : Addr} {fs : List (Str × D)} {μ' : List MO} (h : r = .exc c fs μ') (k : E c fs μ') : r.to K E := by rw [h]; exact k
theorem ok_to {r : Res α} (h : r.to K no3) : ∃ v μ', r = .ok v μ' ∧ K v μ' := by
  cases r with
  | ok v μ' => exact ⟨v, μ', rfl, h⟩
  | exc c fs μ' => exact h.elim
  | bad => exact h.elim
theorem tom {r : Res α} {K' : α → List MO → Prop} (h : r.to K E) (k : ∀ v μ, K v μ → K' v μ) (e : ∀ c fs μ, E c fs μ → E' c fs μ) : r.to K' E' := by
  cases r with
  | ok v μ' => exact k _ _ h
  | exc c fs μ' => exact e _ _ _ h
  | bad => exact h.elim
theorem tos {r : SR} (h : r.to N R B C EE) (n : ∀ ρ μ, N ρ μ → N' ρ μ) (rr : ∀ v μ, R v μ → R' v μ) (b : ∀ ρ μ, B ρ μ → B' ρ μ) (c : ∀ ρ μ, C ρ μ → C' ρ μ) (e : ∀ c fs ρ μ, EE c fs ρ μ → EE' c fs ρ μ) : r.to N' R' B' C' EE' := by
  cases r with
  | nx ρ μ => exact n _ _ h
  | rt ρ μ => exact rr _ _ h
  | bk ρ μ => exact b _ _ h
  | ct ρ μ => exact c _ _ h
  | exc c fs ρ μ => exact e _ _ _ _ h
  | bad => exact h.elim
theorem to_bind {r : Res α} {k : α → List MO → Res β} (h : r.to (fun a μ => (k a μ).to K2 E) E) : (r.bind k).to K2 E := by
  cases r with
  | ok v μ' => exact h
  | exc c fs μ' => exact h
  | bad => exact h.elim
theorem to_stm {r : Res α} {ρ : En} {k : α → List MO → SR} (h : r.to (fun a μ => (k a μ).to N R B C EE) (fun c fs μ => EE c fs ρ μ)) : (r.stm ρ k).to N R B C EE := by
  cases r with
  | ok v μ' => exact h
  | exc c fs μ' => exact h
  | bad => exact h.elim
end
section
variable {N : En → List MO → Prop} {R : MV → List MO → Prop} {B C : En → List MO → Prop} {EE : Addr → List (Str × D) → En → List MO → Prop} {m n : MS} {ρ ρ1 : En} {μ μ1 μ2 : List MO} {ma mb mc : ME} {ms mk : MA} {c c2 : MT} {g g' : D → D → Option D} {i j l : Nat}
/-! statements -/
theorem w_seq (h : (m ρ μ).to (fun ρ' μ' => (n ρ' μ').to N R B C EE) R B C EE) : (mSeq m n ρ μ).to N R B C EE := by
  unfold mSeq
  cases q : m ρ μ with
  | nx ρ μ => rw [q] at h; exact h
  | rt ρ μ => rw [q] at h; exact h
  | bk ρ μ => rw [q] at h; exact h
  | ct ρ μ => rw [q] at h; exact h
  | exc c fs ρ μ => rw [q] at h; exact h
  | bad => rw [q] at h; exact h
theorem w_next (h : N ρ μ) : (mNext ρ μ).to N R B C EE := h
theorem w_bk (h : B ρ μ) : ((fun ρ μ => SR.bk ρ μ : MS) ρ μ).to N R B C EE := h
theorem w_ct (h : C ρ μ) : ((fun ρ μ => SR.ct ρ μ : MS) ρ μ).to N R B C EE := h
theorem w_expr (h : (ma ρ μ).to (fun _ μ1 => N ρ μ1) (fun c fs μ1 => EE c fs ρ μ1)) : (mExpr ma ρ μ).to N R B C EE := to_stm h
theorem w_ret (h : (ma ρ μ).to (fun v μ1 => R v μ1) (fun c fs μ1 => EE c fs ρ μ1)) : (mRet ma ρ μ).to N R B C EE := to_stm h
theorem w_retN (h : R (.d .non) μ) : (mRetN ρ μ).to N R B C EE := h
theorem w_ifs (h : (c ρ μ).to (fun k μ1 => (k = true → (m ρ μ1).to N R B C EE) ∧ (k = false → (n ρ μ1).to N R B C EE)) (fun c fs μ1 => EE c fs ρ μ1)) : (mIfS c m n ρ μ).to N R B C EE := by
  refine to_stm (tom h (fun k μ1 hk => ?_) fun _ _ _ z => z)
  cases k with
  | true => exact hk.1 rfl
  | false => exact hk.2 rfl
theorem w_asg {g : MG} (h : (ma ρ μ).to (fun v μ1 => ∃ ρ', g v ρ = some ρ' ∧ N ρ' μ1) (fun c fs μ1 => EE c fs ρ μ1)) : (mAsg ma g ρ μ).to N R B C EE := by
  refine to_stm (tom h (fun k μ1 hk => ?_) fun _ _ _ z => z)
  obtain ⟨ρ', e, hk⟩ := hk
  rw [e]; exact hk
theorem w_set (h : (ma ρ μ).to (fun v μ1 => N (ρ.set i (some v)) μ1) (fun c fs μ1 => EE c fs ρ μ1)) : (mAsg ma (gN i) ρ μ).to N R B C EE := to_stm h
theorem w_par2 (h : (ms ρ μ).to (fun vs μ1 => ∃ v w, vs = [v, w] ∧ N ((ρ.set i (some v)).set j (some w)) μ1) (fun c fs μ1 => EE c fs ρ μ1)) : (mPar2 i j ms ρ μ).to N R B C EE := by
  refine to_stm (tom h (fun k μ1 hk => ?_) fun _ _ _ z => z)
  obtain ⟨v, w, rfl, hk⟩ := hk
  exact hk
theorem w_par3 (h : (ms ρ μ).to (fun vs μ1 => ∃ v w z, vs = [v, w, z] ∧ N (((ρ.set i (some v)).set j (some w)).set l (some z)) μ1) (fun c fs μ1 => EE c fs ρ μ1)) : (mPar3 i j l ms ρ μ).to N R B C EE := by
  refine to_stm (tom h (fun k μ1 hk => ?_) fun _ _ _ z => z)
  obtain ⟨v, w, z, rfl, hk⟩ := hk
  exact hk
theorem w_parN {is : List Nat} (h : (ms ρ μ).to (fun vs μ1 => vs.length = is.length ∧ is.length ≤ 100 ∧ N (setMV ρ is vs) μ1) (fun c fs μ1 => EE c fs ρ μ1)) : (mParN is ms ρ μ).to N R B C EE := by
  refine to_stm (tom h (fun k μ1 hk => ?_) fun _ _ _ z => z)
  rw [if_pos ⟨hk.1, hk.2.1⟩]; exact hk.2.2
theorem w_aug {x : MV} (hx : ρ[i]? = some (some x)) (h : (ma ρ μ).to (fun y μ1 => (op2 g x y μ1).to (fun z μ2 => N (ρ.set i (some z)) μ2) (fun c fs μ1 => EE c fs ρ μ1)) (fun c fs μ1 => EE c fs ρ μ1)) : (mAug i g ma ρ μ).to N R B C EE := by
  unfold mAug
  rw [hx]
  refine to_stm (tom h (fun k μ1 hk => ?_) fun _ _ _ z => z)
  exact to_stm hk
theorem w_setix {mv mo mi : ME} (h : (mv ρ μ).to (fun v μ1 => (mo ρ μ1).to (fun o μ2 => (mi ρ μ2).to (fun i μ3 => ∃ μ4, putL o i v μ3 = some μ4 ∧ N ρ μ4) (fun c fs μ1 => EE c fs ρ μ1)) (fun c fs μ1 => EE c fs ρ μ1)) (fun c fs μ1 => EE c fs ρ μ1)) : (mSetIx mv mo mi ρ μ).to N R B C EE := by
  unfold mSetIx
  refine to_stm (tom h (fun v μ1 h => to_stm (tom h (fun o μ2 h => to_stm (tom h (fun i μ3 h => ?_) fun _ _ _ z => z)) fun _ _ _ z => z)) fun _ _ _ z => z)
  obtain ⟨μ4, e, h⟩ := h
  rw [e]; exact h
theorem w_setf {C0 : Addr} {f : Str} {mv mo : ME} (h : (mv ρ μ).to (fun v μ1 => (mo ρ μ1).to (fun o μ2 => ∃ μ4, putFld C0 f v o μ2 = some μ4 ∧ N ρ μ4) (fun c fs μ1 => EE c fs ρ μ1)) (fun c fs μ1 => EE c fs ρ μ1)) : (mSetF C0 f mv mo ρ μ).to N R B C EE := by
  unfold mSetF
  refine to_stm (tom h (fun v μ1 h => to_stm (tom h (fun o μ2 h => ?_) fun _ _ _ z => z)) fun _ _ _ z => z)
  obtain ⟨μ4, e, h⟩ := h
  rw [e]; exact h
theorem w_raise {C0 : Addr} {ks : List Str} (h : (ms ρ μ).to (fun as μ1 => ∃ ds, datas as = some ds ∧ ds.length = ks.length ∧ EE C0 (ks.zip ds).reverse ρ μ1) (fun c fs μ1 => EE c fs ρ μ1)) : (mRaise C0 ks ms ρ μ).to N R B C EE := by
  unfold mRaise
  refine to_stm (tom h (fun as μ1 h => ?_) fun _ _ _ z => z)
  obtain ⟨ds, e1, e2, h⟩ := h
  unfold mkX
  rw [e1]
  simp only [if_pos e2]
  exact h
/-! match -/
theorem w_match {r : MM} (h : (ma ρ μ).to (fun v μ1 => ∃ d, v = .d d ∧ (r d ρ μ1).to N R B C EE) (fun c fs μ1 => EE c fs ρ μ1)) : (mMatch ma r ρ μ).to N R B C EE := by
  refine to_stm (tom h (fun v μ1 h => ?_) fun _ _ _ z => z)
  obtain ⟨d, rfl, h⟩ := h
  exact h
/-! loops -/
/-- a loop over items: the invariant by what is left -/
theorem w_for {mi : MI} {g : MG} {b : MS} (I : List D → En → List MO → Prop) (h : (mi ρ μ).to (fun q μ1 => q.2 = none ∧ I q.1 ρ μ1 ∧ (∀ x xs ρ μ, I (x :: xs) ρ μ → ∃ ρ1, g (.d x) ρ = some ρ1 ∧ (b ρ1 μ).to (fun ρ2 μ2 => I xs ρ2 μ2) R (fun ρ2 μ2 => N ρ2 μ2) (fun ρ2 μ2 => I xs ρ2 μ2) EE) ∧ (∀ ρ μ, I [] ρ μ → N ρ μ)) (fun c fs μ1 => EE c fs ρ μ1)) : (mFor mi g b ρ μ).to N R B C EE := by
  refine to_stm (tom h (fun q μ1 h => ?_) fun _ _ _ z => z)
  obtain ⟨hq, h0, h1, h2⟩ := h
  have go : ∀ (xs : List D) (ρ : En) (μ : List MO), I xs ρ μ → (forD q g b xs ρ μ).to N R B C EE := by
    intro xs
    induction xs with
    | nil =>
      intro ρ μ hI
      unfold forD chk
      rw [hq]
      exact h2 ρ μ hI
    | cons x xs ih =>
      intro ρ μ hI
      obtain ⟨ρ1, e, hb⟩ := h1 x xs ρ μ hI
      unfold forD chk
      rw [hq, e]
      simp only [if_true]
      cases qb : b ρ1 μ with
      | nx ρ2 μ2 => rw [qb] at hb; exact ih ρ2 μ2 hb
      | ct ρ2 μ2 => rw [qb] at hb; exact ih ρ2 μ2 hb
      | bk ρ2 μ2 => rw [qb] at hb; exact hb
      | rt v μ2 => rw [qb] at hb; exact hb
      | exc c fs ρ2 μ2 => rw [qb] at hb; exact hb
      | bad => rw [qb] at hb; exact hb.elim
  exact go q.1 ρ μ1 h0
/-- a loop over a range: the invariant by the turn -/
theorem w_range {mi : MI} {b : MS} {t : Nat} (I : Nat → En → List MO → Prop) (h : (mi ρ μ).to (fun q μ1 => ∃ n : Nat, q = (intsD 0 n, none) ∧ I 0 ρ μ1 ∧ (∀ k ρ μ, k < n → I k ρ μ → (b (ρ.set t (some (.d (.int (k : Int))))) μ).to (fun ρ2 μ2 => I (k + 1) ρ2 μ2) R (fun ρ2 μ2 => N ρ2 μ2) (fun ρ2 μ2 => I (k + 1) ρ2 μ2) EE) ∧ (∀ ρ μ, I n ρ μ → N ρ μ)) (fun c fs μ1 => EE c fs ρ μ1)) : (mFor mi (gN t) b ρ μ).to N R B C EE := by
  refine w_for (fun xs ρ μ => ∃ n k, xs = ((List.range n).drop k).map (fun (i : Nat) => D.int (i : Int)) ∧ k ≤ n ∧ I k ρ μ ∧ (∀ k ρ μ, k < n → I k ρ μ → (b (ρ.set t (some (.d (.int (k : Int))))) μ).to (fun ρ2 μ2 => I (k + 1) ρ2 μ2) R (fun ρ2 μ2 => N ρ2 μ2) (fun ρ2 μ2 => I (k + 1) ρ2 μ2) EE) ∧ (∀ ρ μ, I n ρ μ → N ρ μ)) (tom h (fun q μ1 h => ?_) fun _ _ _ z => z)
  obtain ⟨n, rfl, h0, h1, h2⟩ := h
  refine ⟨rfl, ⟨n, 0, ?_, Nat.zero_le _, h0, h1, h2⟩, ?_, ?_⟩
  · simp [intsD]
  · rintro x xs ρ μ ⟨n, k, e, hk, hI, h1, h2⟩
    have hk' : k < n := by
      rcases Nat.lt_or_ge k n with h | h
      · exact h
      · rw [List.drop_eq_nil_of_le (by simpa using h)] at e; cases e
    rw [List.drop_eq_getElem_cons (by simpa using hk')] at e
    simp only [List.getElem_range, List.map_cons, List.cons.injEq] at e
    obtain ⟨rfl, rfl⟩ := e
    refine ⟨_, rfl, tos (h1 k ρ μ hk' hI) (fun ρ2 μ2 h => ⟨n, k + 1, rfl, hk', h, h1, h2⟩) (fun _ _ z => z) (fun _ _ z => z) (fun ρ2 μ2 h => ⟨n, k + 1, rfl, hk', h, h1, h2⟩) fun _ _ _ _ z => z⟩
  · rintro ρ μ ⟨n, k, e, hk, hI, h1, h2⟩
    have hn : n ≤ k := by
      have := congrArg List.length e
      simp at this
      omega
    have : k = n := by omega
    subst this
    exact h2 ρ μ hI
/-- while: the invariant by the turns that are left -/
theorem w_while {b : MS} (I : Nat → En → List MO → Prop) (k n0 : Nat) (h0 : I k ρ μ) (hn : k < n0)
    (h : ∀ k ρ μ, I k ρ μ → (c ρ μ).to (fun t μ1 => (t = false → N ρ μ1) ∧ (t = true → ∃ k', k = k' + 1 ∧ (b ρ μ1).to (fun ρ2 μ2 => ∃ k2, k2 ≤ k' ∧ I k2 ρ2 μ2) R (fun ρ2 μ2 => N ρ2 μ2) (fun ρ2 μ2 => ∃ k2, k2 ≤ k' ∧ I k2 ρ2 μ2) EE)) (fun c fs μ1 => EE c fs ρ μ1)) : (whileM n0 c b ρ μ).to N R B C EE := by
  induction n0 generalizing k ρ μ with
  | zero => omega
  | succ n0 ih =>
    unfold whileM
    refine to_stm (tom (h k ρ μ h0) (fun t μ1 ht => ?_) fun _ _ _ z => z)
    cases t with
    | false => exact ht.1 rfl
    | true =>
      obtain ⟨k', e, hb⟩ := ht.2 rfl
      simp only [if_true]
      have go : ∀ ρ2 μ2, (∃ k2, k2 ≤ k' ∧ I k2 ρ2 μ2) → (whileM n0 c b ρ2 μ2).to N R B C EE := fun ρ2 μ2 ⟨k2, h1, h2⟩ => ih k2 h2 (by omega)
      cases q : b ρ μ1 with
      | nx ρ2 μ2 => rw [q] at hb; exact go _ _ hb
      | ct ρ2 μ2 => rw [q] at hb; exact go _ _ hb
      | bk ρ2 μ2 => rw [q] at hb; exact hb
      | rt v μ2 => rw [q] at hb; exact hb
      | exc c fs ρ2 μ2 => rw [q] at hb; exact hb
      | bad => rw [q] at hb; exact hb.elim
end
/-! expressions -/
section
variable {K : MV → List MO → Prop} {KT : Bool → List MO → Prop} {KA : List MV → List MO → Prop} {KL : List D → List MO → Prop} {KI : List D × Option Nat → List MO → Prop} {E : Addr → List (Str × D) → List MO → Prop} {ρ ρ1 : En} {μ μ1 μ2 : List MO} {ma mb mc : ME} {ms mk : MA} {ml : ML} {c c2 : MT} {g g' : D → D → Option D} {g1 : D → Option D} {gn : List D → Option D} {i j l k : Nat} {v a b : MV} {x y z : D} {as : List MV} {xs ys : List D} {F : MF} {n : Nat}
theorem e_var (h : ρ[i]? = some (some v)) (k : K v μ) : (mVar i ρ μ).to K E := by unfold mVar; rw [h]; exact k
theorem e_c (k : K (.d x) μ) : (mC x ρ μ).to K E := k
theorem e_bin (h : (ma ρ μ).to (fun a μ1 => (mb ρ μ1).to (fun b μ2 => (op2 g a b μ2).to K E) E) E) : (mBin g ma mb ρ μ).to K E := to_bind (tom h (fun _ _ h => to_bind h) fun _ _ _ z => z)
theorem e_op2 (va : view μ a = some x) (vb : view μ b = some y) (hg : g x y = some z) (k : K (.d z) μ) : (op2 g a b μ).to K E := by unfold op2; rw [va, vb]; simp only [hg]; exact k
theorem e_un (h : (ma ρ μ).to (fun a μ1 => (op1 g1 a μ1).to K E) E) : (mUn g1 ma ρ μ).to K E := to_bind h
theorem e_op1 (va : view μ a = some x) (hg : g1 x = some z) (k : K (.d z) μ) : (op1 g1 a μ).to K E := by unfold op1; rw [va]; simp only [hg]; exact k
theorem e_n (h : (ms ρ μ).to (fun as μ1 => (opN gn as μ1).to K E) E) : (mN gn ms ρ μ).to K E := to_bind h
theorem e_opN (va : views μ as = some xs) (hg : gn xs = some z) (k : K (.d z) μ) : (opN gn as μ).to K E := by unfold opN; rw [va]; simp only [hg]; exact k
theorem e_nil (k : KA [] μ) : (mNil ρ μ).to KA E := k
theorem e_cons (h : (ma ρ μ).to (fun a μ1 => (ms ρ μ1).to (fun as μ2 => KA (a :: as) μ2) E) E) : (mCons ma ms ρ μ).to KA E := to_bind (tom h (fun _ _ h => to_bind h) fun _ _ _ z => z)
theorem e_tup (h : (ms ρ μ).to (fun as μ1 => ∃ xs, datas as = some xs ∧ xs.length ≤ sizeLine ∧ K (.d (.tup xs)) μ1) E) : (mTup ms ρ μ).to K E := to_bind (tom h (fun _ _ ⟨xs, h1, h2, h3⟩ => by unfold mkTup; rw [h1]; simp only [if_pos h2]; exact h3) fun _ _ _ z => z)
theorem e_call (h : (ms ρ μ).to (fun as μ1 => as.length = n ∧ (callF F as μ1).to K E) E) : (mCall F n ms ρ μ).to K E := to_bind (tom h (fun _ _ ⟨h1, h2⟩ => by rw [if_pos h1]; exact h2) fun _ _ _ z => z)
theorem e_callZ (h : (ms ρ μ).to (fun as μ1 => ∃ ds, views μ1 as = some ds ∧ ds.length = n ∧ (F (ds.map .d) []).to (fun v _ => ∃ d, v = .d d ∧ okD ds d = true ∧ K (.d d) μ1) no3) E) : (mCallZ F n ms ρ μ).to K E := by
  refine to_bind (tom h (fun as μ1 ⟨ds, h1, h2, h3⟩ => ?_) fun _ _ _ z => z)
  rw [h1]
  simp only [if_pos h2]
  obtain ⟨v, μ', e, d, rfl, h4, h5⟩ := ok_to h3
  unfold zRes
  rw [e]
  simp only [if_pos h4]
  exact h5
theorem e_t (h : (ma ρ μ).to (fun v μ1 => (tru v μ1).to KT E) E) : (mT ma ρ μ).to KT E := to_bind h
theorem e_tru {t : Bool} (hv : view μ v = some x) (ht : truD x = some t) (k : KT t μ) : (tru v μ).to KT E := by unfold tru; rw [hv]; simp only [ht]; exact k
theorem e_b (h : (ma ρ μ).to (fun v μ1 => (bool? v μ1).to KT E) E) : (mB ma ρ μ).to KT E := to_bind h
theorem e_bl {t : Bool} (k : KT t μ) : (bool? (.d (.bl t)) μ).to KT E := k
theorem e_and (h : (c ρ μ).to (fun t μ1 => (t = true → (c2 ρ μ1).to KT E) ∧ (t = false → KT false μ1)) E) : (mAnd c c2 ρ μ).to KT E := to_bind (tom h (fun t μ1 h => by cases t with | true => exact h.1 rfl | false => exact h.2 rfl) fun _ _ _ z => z)
theorem e_or (h : (c ρ μ).to (fun t μ1 => (t = true → KT true μ1) ∧ (t = false → (c2 ρ μ1).to KT E)) E) : (mOr c c2 ρ μ).to KT E := to_bind (tom h (fun t μ1 h => by cases t with | true => exact h.1 rfl | false => exact h.2 rfl) fun _ _ _ z => z)
theorem e_not (h : (c ρ μ).to (fun t μ1 => KT (!t) μ1) E) : (mNot c ρ μ).to KT E := to_bind h
theorem e_if (h : (c ρ μ).to (fun t μ1 => (t = true → (ma ρ μ1).to K E) ∧ (t = false → (mb ρ μ1).to K E)) E) : (mIf c ma mb ρ μ).to K E := to_bind (tom h (fun t μ1 h => by cases t with | true => exact h.1 rfl | false => exact h.2 rfl) fun _ _ _ z => z)
theorem e_andv (h : (ma ρ μ).to (fun v μ1 => ∃ t, v = .d (.bl t) ∧ (t = true → (mb ρ μ1).to K E) ∧ (t = false → K (.d (.bl false)) μ1)) E) : (mAndV ma mb ρ μ).to K E := to_bind (tom h (fun v μ1 ⟨t, e, h⟩ => by subst e; cases t with | true => exact h.1 rfl | false => exact h.2 rfl) fun _ _ _ z => z)
theorem e_orv (h : (ma ρ μ).to (fun v μ1 => ∃ t, v = .d (.bl t) ∧ (t = true → K (.d (.bl true)) μ1) ∧ (t = false → (mb ρ μ1).to K E)) E) : (mOrV ma mb ρ μ).to K E := to_bind (tom h (fun v μ1 ⟨t, e, h⟩ => by subst e; cases t with | true => exact h.1 rfl | false => exact h.2 rfl) fun _ _ _ z => z)
theorem e_chain (h : (ma ρ μ).to (fun a μ1 => (mb ρ μ1).to (fun b μ2 => (op2 g a b μ2).to (fun k μ3 => ∃ t, k = .d (.bl t) ∧ (t = true → (mc ρ μ3).to (fun c μ4 => (op2 g' b c μ4).to K E) E) ∧ (t = false → K (.d (.bl false)) μ3)) E) E) E) : (mChain g g' ma mb mc ρ μ).to K E :=
  to_bind (tom h (fun _ _ h => to_bind (tom h (fun _ _ h => to_bind (tom h (fun v μ3 ⟨t, e, h⟩ => by subst e; cases t with | true => exact to_bind (h.1 rfl) | false => exact h.2 rfl) fun _ _ _ z => z)) fun _ _ _ z => z)) fun _ _ _ z => z)
theorem e_fz (h : (ml ρ μ).to (fun xs μ1 => K (.d (.lst xs)) μ1) E) : (mFz ml ρ μ).to K E := to_bind h
theorem e_own (h : (ml ρ μ).to (fun xs μ1 => K (.ref μ1.length) (μ1 ++ [.lst xs])) E) : (mOwn ml ρ μ).to K E := to_bind h
theorem e_lst (h : (ms ρ μ).to (fun as μ1 => ∃ xs, datas as = some xs ∧ xs.length ≤ sizeLine ∧ KL xs μ1) E) : (mLst ms ρ μ).to KL E := to_bind (tom h (fun _ _ ⟨xs, h1, h2, h3⟩ => by rw [h1]; simp only [if_pos h2]; exact h3) fun _ _ _ z => z)
theorem e_nl {gl : List D → Option (List D)} (h : (ms ρ μ).to (fun as μ1 => ∃ xs ys, views μ1 as = some xs ∧ gl xs = some ys ∧ KL ys μ1) E) : (mNL gl ms ρ μ).to KL E := to_bind (tom h (fun _ _ ⟨xs, ys, h1, h2, h3⟩ => by unfold opNL; rw [h1]; simp only [h2]; exact h3) fun _ _ _ z => z)
theorem e_binl {gl : D → D → Option (List D)} (h : (ma ρ μ).to (fun a μ1 => (mb ρ μ1).to (fun b μ2 => ∃ x y zs, view μ2 a = some x ∧ view μ2 b = some y ∧ gl x y = some zs ∧ KL zs μ2) E) E) : (mBinL gl ma mb ρ μ).to KL E := to_bind (tom h (fun _ _ h => to_bind (tom h (fun _ _ ⟨x, y, zs, h1, h2, h3, h4⟩ => by unfold op2L; rw [h1, h2]; simp only [h3]; exact h4) fun _ _ _ z => z)) fun _ _ _ z => z)
theorem e_mut {f : Mut1} (h : (ma ρ μ).to (fun v μ1 => ∃ p, v = .ref p ∧ isLst μ1 p = true ∧ (ms ρ μ1).to (fun as μ2 => ∃ xs ys rt zs, datas as = some xs ∧ μ2[p]? = some (.lst ys) ∧ f ys xs = some (rt, zs) ∧ K (.d rt) (μ2.set p (.lst zs))) E) E) : (mMut f ma ms ρ μ).to K E :=
  to_bind (tom h (fun v μ1 ⟨p, e, h1, h⟩ => by
    subst e
    simp only [h1, if_true]
    exact to_bind (tom h (fun as μ2 ⟨xs, ys, rt, zs, h2, h3, h4, h5⟩ => by unfold mutL; rw [h2]; simp only [h3, h4]; exact h5) fun _ _ _ z => z)) fun _ _ _ z => z)
theorem e_fld {C0 : Addr} {f : Str} (h : (ma ρ μ).to (fun v μ1 => (fldOf C0 f v μ1).to K E) E) : (mFld C0 f ma ρ μ).to K E := to_bind h
theorem e_mkF {C0 : Addr} (h : (ms ρ μ).to (fun as μ1 => (mkF C0 F n as μ1).to K E) E) : (mMkF C0 F n ms ρ μ).to K E := to_bind h
theorem e_it (h : (ma ρ μ).to (fun v μ1 => (itemsOf v μ1).to KI E) E) : (mIt ma ρ μ).to KI E := to_bind h
theorem e_ita {kk : List MV → List MO → Res (List D × Option Nat)} (h : (ms ρ μ).to (fun v μ1 => (kk v μ1).to KI E) E) : (mItA kk ms ρ μ).to KI E := to_bind h
theorem e_pn {KP : Option Int → List MO → Prop} (k : KP none μ) : (pNone ρ μ).to KP E := k
theorem e_ps {KP : Option Int → List MO → Prop} (h : (ma ρ μ).to (fun v μ1 => ∃ i : Int, v = .d (.int i) ∧ KP (some i) μ1) E) : (pSome ma ρ μ).to KP E := to_bind (tom h (fun v μ1 ⟨i, e, h⟩ => by subst e; exact h) fun _ _ _ z => z)
theorem e_slice {pl ph : MP} (h : (ma ρ μ).to (fun v μ1 => (pl ρ μ1).to (fun l μ2 => (ph ρ μ2).to (fun h μ3 => (op1 (fun d => sliceD d l h) v μ3).to K E) E) E) E) : (mSlice ma pl ph ρ μ).to K E :=
  to_bind (tom h (fun _ _ h => to_bind (tom h (fun _ _ h => to_bind h) fun _ _ _ z => z)) fun _ _ _ z => z)
theorem e_lenset {f1 : Int} (h : (ma ρ μ).to (fun v μ1 => ∃ d z, view μ1 v = some d ∧ lenSetD d = some z ∧ K (.d z) μ1) E) : (mLenSet ma ρ μ).to K E := to_bind (tom h (fun v μ1 ⟨d, z, h1, h2, h3⟩ => by rw [h1]; simp only [h2]; exact h3) fun _ _ _ z => z)
/-- a list comprehension: the invariant by what is left and what was found -/
theorem e_lc {mi : MI} {gm : MG} {vs : List Nat} {el : ME} (I : List D → List D → List MO → Prop) (h : (mi ρ μ).to (fun q μ1 => q.2 = none ∧ q.1.length ≤ sizeLine ∧ I q.1 [] μ1 ∧ (∀ x xs acc μ, I (x :: xs) acc μ → ∃ ρ1, gm (.d x) (wipeM ρ vs) = some ρ1 ∧ (el ρ1 μ).to (fun v μ2 => ∃ d, v = .d d ∧ I xs (acc ++ [d]) μ2) no3) ∧ (∀ acc μ, I [] acc μ → KL acc μ)) E) : (mLC mi gm mYes el vs ρ μ).to KL E := by
  unfold mLC
  refine to_bind (tom h (fun q μ1 h => ?_) fun _ _ _ z => z)
  obtain ⟨hq, hl, h0, h1, h2⟩ := h
  rw [if_pos hl]
  have go : ∀ (xs acc : List D) (μ : List MO), I xs acc μ → (lcD q gm mYes el (wipeM ρ vs) xs acc μ).to KL E := by
    intro xs
    induction xs with
    | nil =>
      intro acc μ hI
      unfold lcD chk
      rw [hq]
      exact h2 acc μ hI
    | cons x xs ih =>
      intro acc μ hI
      obtain ⟨ρ1, e, hb⟩ := h1 x xs acc μ hI
      obtain ⟨v, μ2, e2, d, rfl, hI2⟩ := ok_to hb
      unfold lcD chk
      rw [hq, e]
      simp only [if_true, mYes, Res.calm, Res.bind_ok, e2]
      exact ih _ _ hI2
  exact go q.1 [] μ1 h0
end
/-! the same, step by step -/
section
variable {α : Type} {K : MV → List MO → Prop} {KT : Bool → List MO → Prop} {KA : List MV → List MO → Prop} {KL : List D → List MO → Prop} {KI : List D × Option Nat → List MO → Prop} {E : Addr → List (Str × D) → List MO → Prop} {ρ ρ' : En} {μ μ1 μ2 : List MO} {ma mb mc : ME} {ms mk : MA} {ml : ML} {c c2 : MT} {g g' : D → D → Option D} {i j l k p : Nat} {v w a b : MV} {x y z rt : D} {as : List MV} {xs ys zs ds : List D} {F : MF} {n : Nat} {t : Bool} {A A' : Prop}
def kCall (F : MF) (n : Nat) (K : MV → List MO → Prop) (E : Addr → List (Str × D) → List MO → Prop) : List MV → List MO → Prop := fun as μ => as.length = n ∧ (callF F as μ).to K E
theorem z_call (h : (ms ρ μ).to (kCall F n K E) E) : (mCall F n ms ρ μ).to K E := e_call h
theorem k_call (h1 : as.length = n) (h : (callF F as μ).to K E) : kCall F n K E as μ := ⟨h1, h⟩
def kTup (K : MV → List MO → Prop) : List MV → List MO → Prop := fun as μ1 => ∃ xs, datas as = some xs ∧ xs.length ≤ sizeLine ∧ K (.d (.tup xs)) μ1
theorem z_tup (h : (ms ρ μ).to (kTup K) E) : (mTup ms ρ μ).to K E := e_tup h
theorem k_tup (h1 : datas as = some xs) (h2 : xs.length ≤ sizeLine) (h : K (.d (.tup xs)) μ) : kTup K as μ := ⟨xs, h1, h2, h⟩
def kLst (K : List D → List MO → Prop) : List MV → List MO → Prop := fun as μ1 => ∃ xs, datas as = some xs ∧ xs.length ≤ sizeLine ∧ K xs μ1
theorem z_lst (h : (ms ρ μ).to (kLst KL) E) : (mLst ms ρ μ).to KL E := e_lst h
theorem k_lst (h1 : datas as = some xs) (h2 : xs.length ≤ sizeLine) (h : KL xs μ) : kLst KL as μ := ⟨xs, h1, h2, h⟩
def kBl (P : Bool → List MO → Prop) : MV → List MO → Prop := fun v μ => ∃ t, v = .d (.bl t) ∧ P t μ
theorem k_bl {P : Bool → List MO → Prop} (h : P t μ) : kBl P (.d (.bl t)) μ := ⟨t, rfl, h⟩
def kBr (P Q : List MO → Prop) : Bool → List MO → Prop := fun t μ => (t = true → P μ) ∧ (t = false → Q μ)
theorem br_t {P Q : List MO → Prop} (h : P μ) : kBr P Q true μ := ⟨fun _ => h, fun z => by cases z⟩
theorem br_f {P Q : List MO → Prop} (h : Q μ) : kBr P Q false μ := ⟨(fun z => by cases z), fun _ => h⟩
theorem br_ok {P Q : List MO → Prop} (h1 : t = true → P μ) (h2 : t = false → Q μ) : kBr P Q t μ := ⟨h1, h2⟩
theorem z_andv (h : (ma ρ μ).to (kBl (kBr (fun μ1 => (mb ρ μ1).to K E) (fun μ1 => K (.d (.bl false)) μ1))) E) : (mAndV ma mb ρ μ).to K E := e_andv h
theorem z_orv (h : (ma ρ μ).to (kBl (kBr (fun μ1 => K (.d (.bl true)) μ1) (fun μ1 => (mb ρ μ1).to K E))) E) : (mOrV ma mb ρ μ).to K E := e_orv h
theorem z_and (h : (c ρ μ).to (kBr (fun μ1 => (c2 ρ μ1).to KT E) (fun μ1 => KT false μ1)) E) : (mAnd c c2 ρ μ).to KT E := e_and h
theorem z_or (h : (c ρ μ).to (kBr (fun μ1 => KT true μ1) (fun μ1 => (c2 ρ μ1).to KT E)) E) : (mOr c c2 ρ μ).to KT E := e_or h
theorem z_if (h : (c ρ μ).to (kBr (fun μ1 => (ma ρ μ1).to K E) (fun μ1 => (mb ρ μ1).to K E)) E) : (mIf c ma mb ρ μ).to K E := e_if h
def kNot (KT : Bool → List MO → Prop) : Bool → List MO → Prop := fun t μ => KT (!t) μ
theorem z_not (h : (c ρ μ).to (kNot KT) E) : (mNot c ρ μ).to KT E := e_not h
theorem k_not_t (h : KT false μ) : kNot KT true μ := h
theorem k_not_f (h : KT true μ) : kNot KT false μ := h
theorem k_not (h : KT (!t) μ) : kNot KT t μ := h
theorem z_chain (h : (ma ρ μ).to (fun a μ1 => (mb ρ μ1).to (fun b μ2 => (op2 g a b μ2).to (kBl (kBr (fun μ3 => (mc ρ μ3).to (fun c μ4 => (op2 g' b c μ4).to K E) E) (fun μ3 => K (.d (.bl false)) μ3))) E) E) E) : (mChain g g' ma mb mc ρ μ).to K E := e_chain h
def kNl (gl : List D → Option (List D)) (KL : List D → List MO → Prop) : List MV → List MO → Prop := fun as μ1 => ∃ xs ys, views μ1 as = some xs ∧ gl xs = some ys ∧ KL ys μ1
theorem z_nl {gl : List D → Option (List D)} (h : (ms ρ μ).to (kNl gl KL) E) : (mNL gl ms ρ μ).to KL E := e_nl h
theorem k_nl {gl : List D → Option (List D)} (h1 : views μ as = some xs) (h2 : gl xs = some ys) (h : KL ys μ) : kNl gl KL as μ := ⟨xs, ys, h1, h2, h⟩
def kBinl (gl : D → D → Option (List D)) (KL : List D → List MO → Prop) (a : MV) : MV → List MO → Prop := fun b μ2 => ∃ x y zs, view μ2 a = some x ∧ view μ2 b = some y ∧ gl x y = some zs ∧ KL zs μ2
theorem z_binl {gl : D → D → Option (List D)} (h : (ma ρ μ).to (fun a μ1 => (mb ρ μ1).to (kBinl gl KL a) E) E) : (mBinL gl ma mb ρ μ).to KL E := e_binl h
theorem k_binl {gl : D → D → Option (List D)} (h1 : view μ a = some x) (h2 : view μ b = some y) (h3 : gl x y = some zs) (h : KL zs μ) : kBinl gl KL a b μ := ⟨x, y, zs, h1, h2, h3, h⟩
def kMut2 (f : Mut1) (p : Nat) (K : MV → List MO → Prop) : List MV → List MO → Prop := fun as μ2 => ∃ xs ys rt zs, datas as = some xs ∧ μ2[p]? = some (.lst ys) ∧ f ys xs = some (rt, zs) ∧ K (.d rt) (μ2.set p (.lst zs))
def kMut (f : Mut1) (ms : MA) (ρ : En) (K : MV → List MO → Prop) (E : Addr → List (Str × D) → List MO → Prop) : MV → List MO → Prop := fun v μ1 => ∃ p, v = .ref p ∧ isLst μ1 p = true ∧ (ms ρ μ1).to (kMut2 f p K) E
theorem z_mut {f : Mut1} (h : (ma ρ μ).to (kMut f ms ρ K E) E) : (mMut f ma ms ρ μ).to K E := e_mut h
theorem k_mut {f : Mut1} (h1 : isLst μ p = true) (h : (ms ρ μ).to (kMut2 f p K) E) : kMut f ms ρ K E (.ref p) μ := ⟨p, rfl, h1, h⟩
theorem k_mut2 {f : Mut1} (h1 : datas as = some xs) (h2 : μ[p]? = some (.lst ys)) (h3 : f ys xs = some (rt, zs)) (h : K (.d rt) (μ.set p (.lst zs))) : kMut2 f p K as μ := ⟨xs, ys, rt, zs, h1, h2, h3, h⟩
def kPs (KP : Option Int → List MO → Prop) : MV → List MO → Prop := fun v μ1 => ∃ i : Int, v = .d (.int i) ∧ KP (some i) μ1
theorem z_ps {KP : Option Int → List MO → Prop} (h : (ma ρ μ).to (kPs KP) E) : (pSome ma ρ μ).to KP E := e_ps h
theorem k_ps {KP : Option Int → List MO → Prop} {i : Int} (h : KP (some i) μ) : kPs KP (.d (.int i)) μ := ⟨i, rfl, h⟩
def kLset (K : MV → List MO → Prop) : MV → List MO → Prop := fun v μ1 => ∃ d z, view μ1 v = some d ∧ lenSetD d = some z ∧ K (.d z) μ1
theorem z_lset (h : (ma ρ μ).to (kLset K) E) : (mLenSet ma ρ μ).to K E := e_lenset (f1 := 0) h
theorem k_lset (h1 : view μ v = some x) (h2 : lenSetD x = some z) (h : K (.d z) μ) : kLset K v μ := ⟨x, z, h1, h2, h⟩
def kCallZ (F : MF) (n : Nat) (K : MV → List MO → Prop) : List MV → List MO → Prop := fun as μ1 => ∃ ds, views μ1 as = some ds ∧ ds.length = n ∧ (F (ds.map .d) []).to (fun v _ => ∃ d, v = .d d ∧ okD ds d = true ∧ K (.d d) μ1) no3
theorem z_callZ (h : (ms ρ μ).to (kCallZ F n K) E) : (mCallZ F n ms ρ μ).to K E := e_callZ h
theorem k_callZ {μ' : List MO} (h1 : views μ as = some ds) (h2 : ds.length = n) (h3 : F (ds.map .d) [] = .ok (.d x) μ') (h4 : okD ds x = true) (h : K (.d x) μ) : kCallZ F n K as μ := ⟨ds, h1, h2, to_ok h3 ⟨x, rfl, h4, h⟩⟩
end
section
variable {N : En → List MO → Prop} {R : MV → List MO → Prop} {B C : En → List MO → Prop} {EE : Addr → List (Str × D) → En → List MO → Prop} {m n : MS} {ρ ρ1 ρ' : En} {μ μ1 μ2 : List MO} {ma mb mc : ME} {ms mk : MA} {c c2 : MT} {i j l : Nat} {v w u a : MV} {as : List MV} {ds : List D} {ix : MV}
theorem z_ifs (h : (c ρ μ).to (kBr (fun μ1 => (m ρ μ1).to N R B C EE) (fun μ1 => (n ρ μ1).to N R B C EE)) (fun c fs μ1 => EE c fs ρ μ1)) : (mIfS c m n ρ μ).to N R B C EE := w_ifs h
def kAsg (g : MG) (ρ : En) (N : En → List MO → Prop) : MV → List MO → Prop := fun v μ1 => ∃ ρ', g v ρ = some ρ' ∧ N ρ' μ1
theorem z_asg {g : MG} (h : (ma ρ μ).to (kAsg g ρ N) (fun c fs μ1 => EE c fs ρ μ1)) : (mAsg ma g ρ μ).to N R B C EE := w_asg h
theorem k_asg {g : MG} (h1 : g v ρ = some ρ') (h : N ρ' μ) : kAsg g ρ N v μ := ⟨ρ', h1, h⟩
def kPar (P : List MV → List MO → Prop) : List MV → List MO → Prop := P
def kPar2 (i j : Nat) (ρ : En) (N : En → List MO → Prop) : List MV → List MO → Prop := fun vs μ1 => ∃ v w, vs = [v, w] ∧ N ((ρ.set i (some v)).set j (some w)) μ1
theorem z_par2 (h : (ms ρ μ).to (kPar2 i j ρ N) (fun c fs μ1 => EE c fs ρ μ1)) : (mPar2 i j ms ρ μ).to N R B C EE := w_par2 h
theorem k_par2 (h : N ((ρ.set i (some v)).set j (some w)) μ) : kPar2 i j ρ N [v, w] μ := ⟨v, w, rfl, h⟩
def kPar3 (i j l : Nat) (ρ : En) (N : En → List MO → Prop) : List MV → List MO → Prop := fun vs μ1 => ∃ v w z, vs = [v, w, z] ∧ N (((ρ.set i (some v)).set j (some w)).set l (some z)) μ1
theorem z_par3 (h : (ms ρ μ).to (kPar3 i j l ρ N) (fun c fs μ1 => EE c fs ρ μ1)) : (mPar3 i j l ms ρ μ).to N R B C EE := w_par3 h
theorem k_par3 (h : N (((ρ.set i (some v)).set j (some w)).set l (some u)) μ) : kPar3 i j l ρ N [v, w, u] μ := ⟨v, w, u, rfl, h⟩
def kParN (is : List Nat) (ρ : En) (N : En → List MO → Prop) : List MV → List MO → Prop := fun vs μ1 => vs.length = is.length ∧ is.length ≤ 100 ∧ N (setMV ρ is vs) μ1
theorem z_parN {is : List Nat} (h : (ms ρ μ).to (kParN is ρ N) (fun c fs μ1 => EE c fs ρ μ1)) : (mParN is ms ρ μ).to N R B C EE := w_parN h
theorem k_parN {is : List Nat} (h1 : as.length = is.length) (h2 : is.length ≤ 100) (h : N (setMV ρ is as) μ) : kParN is ρ N as μ := ⟨h1, h2, h⟩
def kIx (o v : MV) (ρ : En) (N : En → List MO → Prop) : MV → List MO → Prop := fun i μ3 => ∃ μ4, putL o i v μ3 = some μ4 ∧ N ρ μ4
theorem z_setix {mv mo mi : ME} (h : (mv ρ μ).to (fun v μ1 => (mo ρ μ1).to (fun o μ2 => (mi ρ μ2).to (kIx o v ρ N) (fun c fs μ1 => EE c fs ρ μ1)) (fun c fs μ1 => EE c fs ρ μ1)) (fun c fs μ1 => EE c fs ρ μ1)) : (mSetIx mv mo mi ρ μ).to N R B C EE := w_setix h
theorem k_setix (h1 : putL a ix v μ = some μ1) (h : N ρ μ1) : kIx a v ρ N ix μ := ⟨μ1, h1, h⟩
def kSf (C0 : Addr) (f : Str) (v : MV) (ρ : En) (N : En → List MO → Prop) : MV → List MO → Prop := fun o μ2 => ∃ μ4, putFld C0 f v o μ2 = some μ4 ∧ N ρ μ4
theorem z_setf {C0 : Addr} {f : Str} {mv mo : ME} (h : (mv ρ μ).to (fun v μ1 => (mo ρ μ1).to (kSf C0 f v ρ N) (fun c fs μ1 => EE c fs ρ μ1)) (fun c fs μ1 => EE c fs ρ μ1)) : (mSetF C0 f mv mo ρ μ).to N R B C EE := w_setf h
theorem k_setf {C0 : Addr} {f : Str} (h1 : putFld C0 f v a μ = some μ1) (h : N ρ μ1) : kSf C0 f v ρ N a μ := ⟨μ1, h1, h⟩
def kRaise (C0 : Addr) (ks : List Str) (ρ : En) (EE : Addr → List (Str × D) → En → List MO → Prop) : List MV → List MO → Prop := fun as μ1 => ∃ ds, datas as = some ds ∧ ds.length = ks.length ∧ EE C0 (ks.zip ds).reverse ρ μ1
theorem z_raise {C0 : Addr} {ks : List Str} (h : (ms ρ μ).to (kRaise C0 ks ρ EE) (fun c fs μ1 => EE c fs ρ μ1)) : (mRaise C0 ks ms ρ μ).to N R B C EE := w_raise h
theorem k_raise {C0 : Addr} {ks : List Str} (h1 : datas as = some ds) (h2 : ds.length = ks.length) (h : EE C0 (ks.zip ds).reverse ρ μ) : kRaise C0 ks ρ EE as μ := ⟨ds, h1, h2, h⟩
def kMatch (r : MM) (ρ : En) (N : En → List MO → Prop) (R : MV → List MO → Prop) (B C : En → List MO → Prop) (EE : Addr → List (Str × D) → En → List MO → Prop) : MV → List MO → Prop := fun v μ1 => ∃ d, v = .d d ∧ (r d ρ μ1).to N R B C EE
theorem z_match {r : MM} (h : (ma ρ μ).to (kMatch r ρ N R B C EE) (fun c fs μ1 => EE c fs ρ μ1)) : (mMatch ma r ρ μ).to N R B C EE := w_match h
theorem k_match {r : MM} {d : D} (h : (r d ρ μ).to N R B C EE) : kMatch r ρ N R B C EE (.d d) μ := ⟨d, rfl, h⟩
end
/-- the end of a def -/
theorem fn_to {fz : Bool} {n : Nat} {m : MS} {as : List MV} {μ : List MO} {Q : MV → List MO → Prop} {X : Addr → List (Str × D) → List MO → Prop}
    (h : (m (as.map some ++ List.replicate (n - as.length) none) μ).to (fun _ μ' => trimmable μ.length (.d .non) μ' = true ∧ Q (.d .non) (μ'.take μ.length)) (fun v μ' => ∃ d, v = .d d ∧ trimmable μ.length (.d d) μ' = true ∧ Q (.d d) (μ'.take μ.length)) (fun _ _ => False) (fun _ _ => False) (fun c fs _ μ' => trimmable μ.length (.d .non) μ' = true ∧ X c fs (μ'.take μ.length))) : (fnT fz n m as μ).to Q X := by
  unfold fnT
  cases q : m (as.map some ++ List.replicate (n - as.length) none) μ with
  | nx ρ' μ' => rw [q] at h; simp only [SR.finT, trim, if_pos h.1]; exact h.2
  | rt v μ' =>
    rw [q] at h
    obtain ⟨d, rfl, h1, h2⟩ := h
    simp only [SR.finT, trim, if_pos h1]; exact h2
  | exc c fs ρ' μ' => rw [q] at h; simp only [SR.finT, trimX, if_pos h.1]; exact h.2
  | bk ρ' μ' => rw [q] at h; exact h.elim
  | ct ρ' μ' => rw [q] at h; exact h.elim
  | bad => rw [q] at h; exact h.elim
/-- the end of a def that hands out a new list as data -/
theorem fn_toL {n : Nat} {m : MS} {as : List MV} {μ : List MO} {Q : MV → List MO → Prop}
    (h : (m (as.map some ++ List.replicate (n - as.length) none) μ).to (fun _ _ => False) (fun v μ' => ∃ k xs, v = .ref k ∧ μ.length ≤ k ∧ μ'[k]? = some (.lst xs) ∧ trimmable μ.length (.d (.lst xs)) μ' = true ∧ Q (.d (.lst xs)) (μ'.take μ.length)) (fun _ _ => False) (fun _ _ => False) (fun _ _ _ _ => False)) : (fnT true n m as μ).to Q no3 := by
  unfold fnT
  cases q : m (as.map some ++ List.replicate (n - as.length) none) μ with
  | rt v μ' =>
    rw [q] at h
    obtain ⟨k, xs, rfl, h0, h1, h2, h3⟩ := h
    simp only [SR.finT]
    rw [if_pos ⟨True.intro, h0⟩]
    simp only [h1, trimB, if_pos h2]; exact h3
  | nx ρ' μ' => rw [q] at h; exact h.elim
  | exc c fs ρ' μ' => rw [q] at h; exact h.elim
  | bk ρ' μ' => rw [q] at h; exact h.elim
  | ct ρ' μ' => rw [q] at h; exact h.elim
  | bad => rw [q] at h; exact h.elim
theorem view_lst {μ : List MO} {n : Nat} {xs : List D} (h : μ[n]? = some (.lst xs)) : view μ (.ref n) = some (.lst xs) := by simp only [view, h]
theorem isLst_of {μ : List MO} {n : Nat} {xs : List D} (h : μ[n]? = some (.lst xs)) : isLst μ n = true := by unfold isLst; rw [h]
/-! the store: what was there, then the lists of this turn -/
section
variable {μ r : List MO} {o o' p q s : MO}
theorem at0 : (μ ++ o :: r)[μ.length]? = some o := by simp
theorem at1 : (μ ++ o :: p :: r)[μ.length + 1]? = some p := by simp
theorem at2 : (μ ++ o :: p :: q :: r)[μ.length + 2]? = some q := by simp
theorem at3 : (μ ++ o :: p :: q :: s :: r)[μ.length + 3]? = some s := by simp
theorem set0 : (μ ++ o :: r).set μ.length o' = μ ++ o' :: r := by simp
theorem set1 : (μ ++ o :: p :: r).set (μ.length + 1) o' = μ ++ o :: o' :: r := by simp
theorem set2 : (μ ++ o :: p :: q :: r).set (μ.length + 2) o' = μ ++ o :: p :: o' :: r := by simp
theorem set3 : (μ ++ o :: p :: q :: s :: r).set (μ.length + 3) o' = μ ++ o :: p :: q :: o' :: r := by simp
end
theorem views1 {μ : List MO} {a : MV} {x : D} (h : view μ a = some x) : views μ [a] = some [x] := by simp only [views, h]
theorem views2 {μ : List MO} {a b : MV} {x y : D} (h : view μ a = some x) (h2 : view μ b = some y) : views μ [a, b] = some [x, y] := by simp only [views, h, h2]
theorem k_mut2s {f : Mut1} {p : Nat} {K : MV → List MO → Prop} {as : List MV} {μ μ' : List MO} {xs ys zs : List D} {rt : D} (h1 : datas as = some xs) (h2 : μ[p]? = some (.lst ys)) (h3 : f ys xs = some (rt, zs)) (hs : μ.set p (.lst zs) = μ') (h : K (.d rt) μ') : kMut2 f p K as μ := ⟨xs, ys, rt, zs, h1, h2, h3, by rw [hs]; exact h⟩
end TT

namespace TT
open PySem L2
variable [TB]
theorem w_cut {r : SR} {N : En → List MO → Prop} {R : MV → List MO → Prop} {B C : En → List MO → Prop} {EE : Addr → List (Str × D) → En → List MO → Prop} (P : En → List MO → Prop) (h1 : r.to P (fun _ _ => False) (fun _ _ => False) (fun _ _ => False) (fun _ _ _ _ => False)) (h2 : ∀ ρ μ, P ρ μ → N ρ μ) : r.to N R B C EE :=
  tos h1 h2 (fun _ _ z => z.elim) (fun _ _ z => z.elim) (fun _ _ z => z.elim) (fun _ _ _ _ z => z.elim)
theorem e_cut {α : Type} {r : Res α} {K : α → List MO → Prop} {E : Addr → List (Str × D) → List MO → Prop} (P : α → List MO → Prop) (h1 : r.to P no3) (h2 : ∀ v μ, P v μ → K v μ) : r.to K E := tom h1 h2 (fun _ _ _ z => z.elim)
/-- a comprehension that changes nothing, over data or over a list of the store -/
theorem e_lcP {mi : MI} {gm : MG} {vs : List Nat} {el : ME} {ρ : En} {μ : List MO} {KL : List D → List MO → Prop} {E : Addr → List (Str × D) → List MO → Prop} {q : List D × Option Nat} (f : D → D) (hi : mi ρ μ = .ok q μ) (hq : q.2 = none ∨ ∃ n, q.2 = some n ∧ μ[n]? = some (.lst q.1)) (hl : q.1.length ≤ sizeLine)
    (hh : ∀ x ∈ q.1, ∃ ρ1, gm (.d x) (wipeM ρ vs) = some ρ1 ∧ el ρ1 μ = .ok (.d (f x)) μ) (k : KL (q.1.map f) μ) : (mLC mi gm mYes el vs ρ μ).to KL E := by
  unfold mLC
  rw [hi]
  simp only [Res.bind_ok, if_pos hl]
  have hc : chk q μ = true := by
    unfold chk
    rcases hq with h | ⟨n, h, h2⟩
    · rw [h]
    · rw [h]; exact (by classical exact decide_eq_true h2)
  have go : ∀ (xs acc : List D), (∀ x ∈ xs, ∃ ρ1, gm (.d x) (wipeM ρ vs) = some ρ1 ∧ el ρ1 μ = .ok (.d (f x)) μ) → lcD q gm mYes el (wipeM ρ vs) xs acc μ = .ok (acc ++ xs.map f) μ := by
    intro xs
    induction xs with
    | nil => intro acc _; unfold lcD; rw [if_pos hc]; simp
    | cons x xs ih =>
      intro acc h
      obtain ⟨ρ1, h1, h2⟩ := h x List.mem_cons_self
      unfold lcD
      rw [if_pos hc, h1]
      simp only [mYes, Res.calm, Res.bind_ok, if_true, h2]
      rw [ih _ fun y hy => h y (List.mem_cons_of_mem _ hy)]
      simp
  rw [go q.1 [] hh]
  rw [List.nil_append]
  exact k
end TT

namespace TT
open PySem L2
variable [TB]
/-! a def that calls itself: so many calls inside each other, at most -/
def iterF (G : MF → MF) : Nat → MF
  | 0 => fun _ _ => .bad
  | j + 1 => G (iterF G j)
section
variable {P : Program} {w : World} {K : PySem.W.Frag} {mg : Str → Option Value} {base : Heap} {x : Str} {st : Stmt} {ps : List Str} {n : Nat}
theorem Def.bad (D : Def K mg x st ps) (k : Nat) : Fn P w K mg base k x n (fun _ _ => .bad) := by
  obtain ⟨f, fd, F, hm, b⟩ := D.ex
  refine ⟨f, fun A outer s H us vs Q E hr hg e0 r h => ?_, hm, F.kp⟩
  obtain ⟨_, Z, ι, as, μ, s, r, o⟩ := h
  exact o.elim
theorem fn_rec (D : Def K mg x st ps) (G : MF → MF) (k0 : Nat) (step : ∀ k F, k0 ≤ k → Fn P w K mg base k x n F → Fn P w K mg base (k + 1) x n (G F)) : ∀ j, Fn P w K mg base (k0 + j) x n (iterF G j)
  | 0 => D.bad _
  | j + 1 => step (k0 + j) _ (Nat.le_add_right _ _) (fn_rec D G k0 step j)
end
end TT

namespace TT
open PySem PySem.Spec PySem.Calls PyProof.Rows PySem.W
/-! isinstance of a caught error that has fields -/
section
variable {prog : Program} {w : World} {A : Around} {E : Value → Shared → Prop} {s : Shared} {K : Frag} {x D : Addr} {ox : Obj} {od : Option Obj}
set_option maxHeartbeats 4000000 in
theorem findObj_dataO {C : Addr} {name : Str} {a g : Value} (hc : (clsIn K C).isSome = true) (ha : findIn K (.ref C) name = some (some a)) (hg : specialIn K a "__get__" = some (some g)) (ht : takesIn K a = some true) : findObj K C od name = some (.bind g a) := by
  obtain ⟨cd, hc⟩ := Option.isSome_iff_exists.mp hc
  unfold findObj
  rw [hc, Option.bind_some, ha, Option.bind_some]
  simp [hg, ht]
set_option maxHeartbeats 4000000 in
theorem kin_classD {Q : Option Value → Shared → Prop} (hga : findIn K (.ref D) "__getattribute__" = some (some (.builtin "BaseException.__getattribute__"))) (hgt : findIn K (.ref D) "__getattr__" = some none) (hsub : subIn K (.ref D) (.type "BaseException") = some true)
    (hdct : hasDictIn K D = true) (ha : findIn K (.ref D) "__class__" = some (some (.builtin "object.__class__")))
    (hn : specialIn K (.builtin "object.__class__") "__get__" = some (some (.builtin "getset_descriptor.__get__"))) (htk : takesIn K (.builtin "object.__class__") = some true) (hm : mroIn K D (.type "object") = some true)
    (X : K.In s.heap) (I : InstAt s.heap x ox D od) (h : Q (some (.ref D)) { s with toks := s.toks + 1 }) : wpAny (model prog w) A (getAttr? (.ref x) "__class__") Q E s := by
  have hf : findObj K D od "__class__" = some (.bind (.builtin "getset_descriptor.__get__") (.builtin "object.__class__")) := findObj_dataO (by obtain ⟨cd, hc, _⟩ := any_some hdct; rw [hc]; rfl) ha hn htk
  obtain ⟨hp, g, d, t, os⟩ := s
  have L0 := I.type (M := model prog w)
  have L1 := looks_findIn (M := model prog w) X hga
  have L2 := looks_findIn (M := model prog w) X hgt
  have L3 := looks_find (M := model prog w) X I hf
  have sub : Looks (model prog w) hp (isInstance (.ref x) (.type "BaseException")) true := L0.andThen (looks_subIn X hsub)
  have hx0 : (false && onTheHeap (Value.builtin "BaseException.__getattribute__")) = false := rfl
  have hx2 : (Value.builtin "BaseException.__getattribute__" == Value.builtin "object.__getattribute__") = false := by decide +kernel
  have hx1 : (onTheHeap (Value.ref D) && Value.builtin "BaseException.__getattribute__" == Value.builtin "object.__getattribute__") = false := by rw [hx2]; rfl
  unfold getAttr? getAttrBy? getAttrBy
  refine wpAny_bind (wpAny_mkText (wpAny_bind (wpAny_attempt (wpAny_holding (wpAny_bind (L0.at (wpAny_bind (L1.at ?_))))))))
  show wpAny _ _ (if (onTheHeap (Value.ref D) && Value.builtin "BaseException.__getattribute__" == Value.builtin "object.__getattribute__") = true then _ else _) _ _ _
  rw [hx1, if_neg Bool.false_ne_true]
  unfold getAttrByItsOwn hookBefore
  refine wpAny_bind ?_
  rw [if_pos (show onTheHeap (Value.ref D) = true from rfl)]
  refine L2.at ?_
  refine wpAny_bind (wpAny_attempt (wpAny_holding ?_))
  unfold callGetattribute
  rw [hx0, if_neg Bool.false_ne_true]
  unfold boundAndCalled
  rw [PySem.F.excAttr_ValueError.ga.bind (.ref x)]
  refine wpAny_bind (wpAny_pure ?_)
  show wpAny _ _ (call (.builtin "BaseException.__getattribute__") [.ref x, .str "__class__" t]) _ _ _
  refine wpAny_call (codeAny_call_builtin PySem.F.excAttr_ValueError.ga.plain PySem.F.entry_bexc_ga ?_)
  refine @check_slot (model prog w) _ _ ⟨hp, g, d, t + 1, os⟩ "BaseException.__getattribute__" "BaseException" "__getattribute__" (.ref x) [.str "__class__" t] [] _ (by decide +kernel) (by decide +kernel) sub (PySem.F.args_bexc_ga (.ref x) (.str "__class__" t)) ?_
  unfold Builtin.«object.__getattribute__»
  refine wpAny_bind (wpAny_of_eq (a := ((Value.ref x : Value), [Value.str "__class__" t])) (by first | rfl | (simp only [slotArgs]; rfl)) ?_)
  refine wpAny_bind (wpAny_pure (wpAny_bind (L0.at (wpAny_bind (L3.at ?_)))))
  show wpAny _ _ (holding [Value.builtin "object.__class__"] (call (.builtin "getset_descriptor.__get__") [.builtin "object.__class__", .ref x, .ref D]) >>= ret) _ _ _
  refine wpAny_bind (wpAny_holding (wpAny_call (class_get (s := ⟨hp, g, d, t + 1, os⟩) (ox := ox) (od := od) X I hm ?_)))
  refine wpAny_pure ?_
  show wpAny _ _ (handedOut (.ref D)) _ _ _
  rw [handedOut_of (v := .ref D) rfl]
  first
    | exact wpAny_pure (wpAny_pure h)
    | exact wpAny_pure h
    | exact wpAny_pure (wpAny_bind (wpAny_pure (wpAny_pure h)))
set_option maxHeartbeats 4000000 in
theorem kitx_excD (hga : findIn K (.ref D) "__getattribute__" = some (some (.builtin "BaseException.__getattribute__"))) (hgt : findIn K (.ref D) "__getattr__" = some none) (hsub : subIn K (.ref D) (.type "BaseException") = some true) (hdct : hasDictIn K D = true) (ha : findIn K (.ref D) "__class__" = some (some (.builtin "object.__class__")))
    (hn : specialIn K (.builtin "object.__class__") "__get__" = some (some (.builtin "getset_descriptor.__get__"))) (htk : takesIn K (.builtin "object.__class__") = some true) (hm : mroIn K D (.type "object") = some true) :
    KitX K (.ref x) (.ref D) (fun h => ∃ od, InstAt h x ox D od) where
  ty := fun _ _ _ ⟨_, I⟩ => I.type
  it := fun _ _ X _ => by
    obtain ⟨cdD, hcD, _⟩ := any_some hdct
    unfold clsIn at hcD
    split at hcD
    · rename_i c' d' cd' sl' ho
      intro A' Q' E' s' k q
      unfold isType loadHead
      exact wpAny_bind (wpAny_loadPart (k _ _ (X _ _ ho)) (wpAny_pure q))
    · cases hcD
  ne := fun h tp dd its n sl X htp => by
    obtain ⟨cdD, hcD, _⟩ := any_some hdct
    refine Bool.eq_false_iff.mpr fun q => ?_
    have e : D = tp := Value.ref.inj (beq_iff_eq.mp q)
    subst e
    unfold clsIn at hcD
    split at hcD
    · rename_i c' d' cd' sl' ho
      have z := (X _ _ ho).symm.trans htp
      cases z
    · cases hcD
  ca := fun X ⟨_, I⟩ k => kin_classD hga hgt hsub hdct ha hn htk hm X I k
end
open L2
/-- isinstance(e, c): a the caught error, D its class, dd its dict -/
def rIsD (K : PySem.W.Frag) (D a dd : Addr) : List V → Hp → VK → Prop := fun xs H Q => ∃ (c : V) (cv : Value) (b : Bool) (fs : List (Str × V)), xs = [.ref a, c] ∧ H dd = some (.xd fs) ∧ (∀ u, RelV c u → u = cv) ∧ PySem.W.kitOne K (.ref D) cv = some b ∧ Q (.bl b) H
set_option maxHeartbeats 4000000 in
theorem call_isD {X : Cx} {a D dd : Addr} {oe : Obj} {pn : List (Addr × Obj)} (C : ExcC X.K D) (hz : Zc (.ref D) (some dd) oe) (hf : ∃ vs, oe.data = .fields vs) : CallR (X.suite a ((a, oe) :: pn)) (.builtin "isinstance") (rIsD X.K D a dd) := by
  intro pins s σ H xs us Q I r h
  obtain ⟨c, cv, b, fs, rfl, ea, hcv, e, q⟩ := h
  cases r with
  | cons rx rr =>
    cases rr with
    | cons rt rr =>
      cases rr
      cases rx
      have ec := hcv _ rt
      subst ec
      obtain ⟨ha, _⟩ := I.pin (a, oe) (List.mem_append.mpr (.inl List.mem_cons_self))
      obtain ⟨vs, hd⟩ := hf
      have hx : ObjOk X.prog X.w H s.heap dd (.xd fs) := I.hok dd _ ea
      obtain ⟨mA, hns, hr⟩ := hx
      obtain ⟨od, ho, hl⟩ := lookIn_ns hns
      have J : PySem.W.InstAt s.heap a oe D (some od) := ⟨ha, hz.1, by unfold PySem.W.notCls; rw [hd] <;> rfl, by rw [hz.2]; exact ho⟩
      exact PySem.W.kia_one (kitx_excD C.hg C.hk C.hs C.hd C.ha C.hn C.ht C.hm) I.kIn ⟨_, J⟩ e (fun z => nomatch z) fun tk => ⟨.bl b, H, I.kept (t' := tk) fun _ _ z => z, rfl, q⟩
end TT

namespace TT
open PySem L2
variable [TB]
/-! try: a suite that may hang on the class that was caught -/
/-- a clause: which classes it takes, which it lets by, its name's slot, its suite -/
structure MC2 where
  yes : List Addr
  no : List Addr
  i : Option Nat
  h : Addr → Addr → Addr → MS
noncomputable def tryI : List MC2 → Addr → List (Str × D) → En → List MO → SR
  | [], C, fs, ρ, μ => .exc C fs ρ μ
  | c :: cs, C, fs, ρ, μ => if C ∈ c.yes then allAD fun a d => (c.h C a d (onR c.i (.exn a d C fs) ρ) μ).off c.i else if C ∈ c.no then tryI cs C fs ρ μ else .bad
noncomputable def mTry2 (b : MS) (cs : List MC2) : MS := fun ρ μ => match b ρ μ with
  | .exc C fs ρ' μ' => tryI cs C fs ρ' μ'
  | r => r
/-- the suite's reading -/
def tSu2 (K : PySem.W.Frag) (yes : List Addr) (h : Addr → Addr → Addr → MS) : Addr → Value → Option Addr → TS := fun a cls d E τ G => ∃ dd C, C ∈ yes ∧ cls = .ref C ∧ d = some dd ∧ tMS K W0 (h C a dd) E τ G
inductive HMs2 (X : Cx) : List ExceptHandler → List MC2 → List Cl → Prop
  | nil : HMs2 X [] [] []
  | plain {x : Str} {c : Value} {yes no : List Addr} {h : Addr → Addr → Addr → MS} {st : Stmt} {sts : List Stmt} {np hp : Pos} {hs : List ExceptHandler} {cs : List MC2} {l : List Cl} (hc : Names X x c)
      (hy : ∀ C ∈ yes, PySem.W.exmOne X.K (.ref C) c = some true) (hn : ∀ C ∈ no, PySem.W.exmOne X.K (.ref C) c = some false)
      (su : ∀ (a : Addr) (oe : Obj) (C : Addr) (d : Addr) (pn : List (Addr × Obj)), C ∈ yes → Zc (.ref C) (some d) oe → (∃ vs, oe.data = .fields vs) → FSs (X.suite a ((a, oe) :: pn)) W0 (st :: sts) (h C a d)) (r : HMs2 X hs cs l) :
      HMs2 X (.ExceptHandler (some (.Name x np)) none (st :: sts) hp :: hs) (⟨yes, no, none, h⟩ :: cs) ((c, none, tSu2 X.K yes h) :: l)
  | named {x n : Str} {i : Nat} {c : Value} {yes no : List Addr} {h : Addr → Addr → Addr → MS} {st : Stmt} {sts : List Stmt} {np hp : Pos} {hs : List ExceptHandler} {cs : List MC2} {l : List Cl} (hc : Names X x c) (hi : X.N[i]? = some n) (hl : X.env.kindOf n = some .local)
      (hy : ∀ C ∈ yes, PySem.W.exmOne X.K (.ref C) c = some true) (hn : ∀ C ∈ no, PySem.W.exmOne X.K (.ref C) c = some false)
      (su : ∀ (a : Addr) (oe : Obj) (C : Addr) (d : Addr) (pn : List (Addr × Obj)), C ∈ yes → Zc (.ref C) (some d) oe → (∃ vs, oe.data = .fields vs) → FSs (X.suite a ((a, oe) :: pn)) W0 (st :: sts) (h C a d)) (r : HMs2 X hs cs l) :
      HMs2 X (.ExceptHandler (some (.Name x np)) (some n) (st :: sts) hp :: hs) (⟨yes, no, some i, h⟩ :: cs) ((c, some i, tSu2 X.K yes h) :: l)
theorem suite_of2 {X : Cx} {yes : List Addr} {h : Addr → Addr → Addr → MS} {sts : List Stmt} (su : ∀ (a : Addr) (oe : Obj) (C : Addr) (d : Addr) (pn : List (Addr × Obj)), C ∈ yes → Zc (.ref C) (some d) oe → (∃ vs, oe.data = .fields vs) → FSs (X.suite a ((a, oe) :: pn)) W0 sts (h C a d)) :
    ∀ (a : Addr) (oe : Obj) (cls : Value) (d : Option Addr) (pn : List (Addr × Obj)), Zc cls d oe → (∃ vs, oe.data = .fields vs) → PSs (X.suite a ((a, oe) :: pn)) sts (tSu2 X.K yes h a cls d) := fun a oe cls d pn hz hf => ⟨fun pins s σ H E I w => by
  obtain ⟨dd, C, hC, rfl, rfl, t⟩ := w
  exact (su a oe C dd pn hC hz hf).run pins s σ H E I t⟩
theorem HMs2.ok {X : Cx} : ∀ {hs : List ExceptHandler} {cs : List MC2} {l : List Cl}, HMs2 X hs cs l → ClsOk X hs l
  | _, _, _, .nil => .nil
  | _, _, _, .plain hc _ _ su r => .plain hc (suite_of2 su) r.ok
  | _, _, _, .named hc hi hl _ _ su r => .named hc hi hl (suite_of2 su) r.ok
theorem tryI_ok {X : Cx} {W : WX} {E : Ends} {C : Addr} {fs : List (Str × D)} {fs' : List (Str × V)} {d : Addr} : ∀ {hs : List ExceptHandler} {cs : List MC2} {l : List Cl}, HMs2 X hs cs l → ∀ {Z ι : List Addr} {ρ : En} {μ : List MO} {σ : St} {H : Hp}, Rel X.K Z ι ρ μ σ H → H d = some (.xd fs') → d ∉ Z → DRf X.K (mask H Z) fs fs' →
    OutS X.K W Z ι H (tryI cs C fs ρ μ) E → wMix X.K W E l (.ref C) (some d) σ H
  | _, _, _, .nil, Z, ι, ρ, μ, σ, H, R, e, n, dr, o => o Z ι H σ d fs' (Ext.refl R.sta.sub) R e n dr
  | _, _, _, .plain (yes := yes) (no := no) (h := h) hc hy hn su r, Z, ι, ρ, μ, σ, H, R, e, n, dr, o => by
    simp only [tryI] at o
    split at o
    · rename_i hm
      exact ⟨true, hy C hm, fun _ a _ => ⟨d, C, hm, rfl, rfl, Z, ι, ρ, μ, R, OutS.off (allAD_of o a d)⟩, fun z => by cases z⟩
    · split at o
      · rename_i hm; exact ⟨false, hn C hm, (fun z => by cases z), fun _ => tryI_ok r R e n dr o⟩
      · exact o.elim
  | _, _, _, .named (i := i) (yes := yes) (no := no) (h := h) hc hi hl hy hn su r, Z, ι, ρ, μ, σ, H, R, e, n, dr, o => by
    simp only [tryI] at o
    split at o
    · rename_i hm
      exact ⟨true, hy C hm, fun _ a _ => ⟨d, C, hm, rfl, rfl, Z, ι, _, μ, ⟨R.sta, R.rs.set (.d (.exn (mask_in n e) dr)) i⟩, OutS.off (allAD_of o a d)⟩, fun z => by cases z⟩
    · split at o
      · rename_i hm; exact ⟨false, hn C hm, (fun z => by cases z), fun _ => tryI_ok r R e n dr o⟩
      · exact o.elim
section
variable {X : Cx} {W : WX} {body : List Stmt} {h0 : ExceptHandler} {hs : List ExceptHandler} {cs : List MC2} {l : List Cl} {pos : Pos} {b : MS}
theorem fs_try2 (es : X.stack = X.env :: X.outer) (ef : X.env.frame = some X.env.locals) (hN : X.N.Nodup) (tk : Takes X W)
    (hb : ∀ (W' : WX) (pn : List (Addr × Obj)) (xe : Value → Shared → Prop), Takes (X.tr pn xe) W' → PassesOwn (model X.prog X.w) X.A X.env xe → FSs (X.tr pn xe) W' body b) (hm : HMs2 X (h0 :: hs) cs l) :
    FS X W (.Try body (h0 :: hs) [] [] pos) (mTry2 b cs) := by
  refine ps_imp (ps_tryM (tb := fun W' => tMS X.K W' b) es ef hN tk hb hm.ok) fun E σ H ⟨Z, ι, ρ, μ, R, o⟩ => ⟨Z, ι, ρ, μ, R, ?_⟩
  unfold mTry2 at o
  cases q : b ρ μ with
  | exc C fs ρ' μ' =>
    rw [q] at o
    exact fun Z2 ι2 H2 σ2 d fs' x2 R2 e n dr => tryI_ok hm R2 e n dr (OutS.base o x2)
  | nx ρ' μ' => rw [q] at o; exact o
  | bk ρ' μ' => rw [q] at o; exact o
  | ct ρ' μ' => rw [q] at o; exact o
  | rt v μ' => rw [q] at o; exact o
  | bad => rw [q] at o; exact o
end
/-! isinstance of what was caught -/
def isEG (a d A : Addr) (b : Bool) : List D → Option D
  | [.exn a' d' _ _, .gl A'] => if a' = a ∧ d' = d ∧ A' = A then some (.bl b) else none
  | _ => none
def isET (a d : Addr) (n : String) (b : Bool) : List D → Option D
  | [.exn a' d' _ _, .ty n'] => if a' = a ∧ d' = d ∧ n' = n then some (.bl b) else none
  | _ => none
theorem c_isG {K : PySem.W.Frag} {C a d A : Addr} {b : Bool} (hk : PySem.W.kitOne K (.ref C) (.ref A) = some b) : CallD K (rIsD K C a d) (isEG a d A b) := fun Z H as c xs Q t h e q => by
  unfold isEG at e
  split at e
  · split at e
    · rename_i hh
      obtain ⟨rfl, rfl, rfl⟩ := hh
      cases e
      cases h with | cons h1 h2 => cases h2 with | cons h2 h3 => cases h3 with | nil =>
        cases h1 with | d h1 => cases h1 with | exn h4 h5 =>
          cases h2 with | d h2 => cases h2 with | gl =>
            exact ⟨_, _, b, _, rfl, mask_same _ _ _ _ h4, fun u hu => hu, hk, q H _ (Same.refl _) (.bl b)⟩
    · cases e
  · cases e
theorem c_isT {K : PySem.W.Frag} {C a d : Addr} {n : String} {b : Bool} (hk : PySem.W.kitOne K (.ref C) (.type n) = some b) : CallD K (rIsD K C a d) (isET a d n b) := fun Z H as c xs Q t h e q => by
  unfold isET at e
  split at e
  · split at e
    · rename_i hh
      obtain ⟨rfl, rfl, rfl⟩ := hh
      cases e
      cases h with | cons h1 h2 => cases h2 with | cons h2 h3 => cases h3 with | nil =>
        cases h1 with | d h1 => cases h1 with | exn h4 h5 =>
          cases h2 with | d h2 => cases h2 with | ty =>
            exact ⟨_, _, b, _, rfl, mask_same _ _ _ _ h4, fun u hu => hu, hk, q H _ (Same.refl _) (.bl b)⟩
    · cases e
  · cases e
end TT

/-! own error classes called by names -/
namespace PySem
namespace KWX
open PySem.W PySem.Calls PyProof.Rows PySem.HandSPX
open Builtin Builtin.ObjectAttr
section
variable {M : Model} {A : Around} {E : Value → Shared → Prop} {h : Heap} {g : Array GenState} {d : Drawn} {t : Nat} {os : OsState}
variable {nm q : Str} {C N : Addr} {bs bm bmB : List Value} {hdct : Bool} {sn : List Str} {sub : List Value} {ab : Bool} {col : Option Bool} {dd : Option Addr} {k0 k1 k2 k3 k5 : Option Value} {B newId initId : String}
set_option maxHeartbeats 4000000 in
theorem check_new_kw (F : ExcBaseFacts B newId initId bmB) (hT : ∀ X : String, bm.contains (.type X) = bmB.contains (.type X)) {rest : List Value} {kw : List (Str × Value)} {Q : Unit → Shared → Prop}
    (hC : h.get? C = some (excClassObj nm q C N bs bm hdct sn sub ab col dd k0 k1 k2 k3 k5 newId)) (hq : Q () ⟨h, g, d, t, os⟩) : wpAny M A (checkBuiltinCall newId ⟨.ref C :: rest, kw⟩) Q E ⟨h, g, d, t, os⟩ := by
  have hcont : (Value.ref C :: bm).contains (.type B) = true := by rw [List.contains_cons, hT, F.hasB, Bool.or_true]
  have hstar := F.noStar
  simp only [checkBuiltinCall, F.newKind, F.newSplit, F.newRow]
  repeat (first | refine wpAny_loadPart_at hC ?_ | (refine wpAny_isSubtype_exc hC ?_; rw [hcont]) | refine wpAny_staticBase_exc hC ?_ | refine wpAny_madeBy_exc hC ?_ | simp only [bne_self_eq_false, Bool.false_eq_true, if_false] | wp_step)
  exact hq
end
section
variable {prog : Program} {w : World} {A : Around} {E : Value → Shared → Prop} {R : Result → Shared → Prop} {h : Heap} {g : Array GenState} {d : Drawn} {t : Nat} {os : OsState}
variable {nm q : Str} {C N : Addr} {bs bm bmB : List Value} {hdct : Bool} {sn : List Str} {sub : List Value} {ab : Bool} {col : Option Bool} {dd : Option Addr} {k0 k1 k2 k3 k5 : Option Value} {B newId initId : String}
set_option maxHeartbeats 4000000 in
theorem new_kw (F : ExcBaseFacts B newId initId bmB) (hT : ∀ X : String, bm.contains (.type X) = bmB.contains (.type X)) {rest : List Value} {kw : List (Str × Value)}
    (hC : h.get? C = some (excClassObj nm q C N bs bm hdct sn sub ab col dd k0 k1 k2 k3 k5 newId))
    (hq : R (.ok (.ret (.ref (h.objs.size + 1)))) ⟨(h.push { cls := .type "tuple", data := .seq rest.toArray }).push
      { cls := .ref C, data := .fields #[.ref h.objs.size, .none, .none, .none, .bool false, .none] }, g, d, t, os⟩) (hrest : rest.length ≤ sizeLine) :
    codeAny (model prog w) A (.builtin newId ⟨.ref C :: rest, kw⟩) R ⟨h, g, d, t, os⟩ := by
  have hends := F.ends
  have hcB : (Value.ref C :: bm).contains (.type B) = true := by rw [List.contains_cons, hT, F.hasB, Bool.or_true]
  have hcA : (Value.ref C :: bm).contains (.type "AttributeError") = false := by rw [List.contains_cons, hT, F.noAttr]; rfl
  have hcN : (Value.ref C :: bm).contains (.type "NameError") = false := by rw [List.contains_cons, hT, F.noName]; rfl
  refine codeAny_builtinAt F.entry ?_
  unfold Builtin.«BaseException.__new__»
  refine wpAt_bind ?_
  show wpAt _ _ _ (stack >>= _) _ _ _
  refine wpAt_bind (wpAt_stack fun p below => wpAt_of_wpAny ?_)
  wp_walk
  refine wpAt_of_wpAny ?_
  rw [F.owner]
  have hsz : ¬ (rest.toArray.size > sizeLine) := by rw [List.size_toArray]; omega
  repeat (first | rw [if_neg hsz] | with_reducible refine wpAny_madeHere_exc F.canon hC ?_ | with_reducible refine wpAny_loadPart_at hC ?_ | (with_reducible refine wpAny_isSubtype_exc hC ?_; first | rw [hcB] | rw [hcA] | rw [hcN]) | wp_step)
  show R _ _
  rw [Heap.size_push]
  exact hq
set_option maxHeartbeats 4000000 in
theorem type_call_kw (F : ExcBaseFacts B newId initId bmB) (hT : ∀ X : String, bm.contains (.type X) = bmB.contains (.type X)) {rest : List Value} {kw : List (Str × Value)} {fI : Addr} {Q : Fin → Shared → Prop}
    (hC : h.get? C = some (excClassObj nm q C N bs bm hdct sn sub ab col dd k0 k1 k2 k3 k5 newId))
    (hi : W.Looks (model prog w) h (typeLookup (.ref C) "__init__") (some (.ref fI))) (hb : ∀ self, W.Looks (model prog w) h (bindSpecial (.ref fI) self) (.ref fI, [self])) (hrest : rest.length ≤ sizeLine)
    (hq : codeAny (model prog w) A (.call (.ref fI) ⟨.ref (h.objs.size + 1) :: rest, kw⟩)
      (fun r s' => match r with | .ok (.ret v) => v = .none ∧ Q (.done (.ret (.ref (h.objs.size + 1)))) s' | .ok _ => False | .error e => E e s')
      ⟨(h.push (W.kdv_tup rest)).push (excO C h.objs.size), g, d, t, os⟩) :
    wpAny (model prog w) A (Builtin.«type.__call__» ⟨.ref C :: rest, kw⟩) Q E ⟨h, g, d, t, os⟩ := by
  repeat (first | with_reducible refine wpAny_loadPart_at hC ?_ | with_reducible refine wpAny_madeBy_exc hC ?_ | wp_step)
  refine codeAny_call_builtin_code (Code.quiet_builtin _ F.quiet) (check_new_kw F hT hC ?_)
  refine new_kw F hT hC ?_ hrest
  show wpAny _ _ _ _ _ _
  have k : ∀ b o, h.get? b = some o → ((h.push (W.kdv_tup rest)).push (excO C h.objs.size)).get? b = some o := fun b o e => Heap.get?_push_of_some _ (Heap.get?_push_of_some _ e)
  have hC₁ := k _ _ hC
  have hget : ((h.push (W.kdv_tup rest)).push (excO C h.objs.size)).get? (h.objs.size + 1) = some (excO C h.objs.size) := by heap_get
  have hcC : (Value.ref C :: bm).contains (.ref C) = true := by simp
  have i1 := hi.keeps k
  have b1 := (hb (.ref (h.objs.size + 1))).keeps k
  unfold isInstance
  repeat (first | with_reducible refine wpAny_loadPart_at hget ?_ | (with_reducible refine wpAny_isSubtype_exc hC₁ ?_; rw [hcC]) | wp_step)
  show wpAny _ _ (typeLookup (.ref C) _) _ _ _
  refine i1.at ?_
  refine wpAny_holding (wpAny_bind (b1.at ?_))
  refine wpAny_bind (wpAny_call (codeAny_mono hq fun r s' z => ?_))
  rcases r with e | (v | _ | _ | _) <;> first | exact z | exact z.elim | skip
  obtain ⟨rfl, z⟩ := z
  first
    | exact wpAny_pure (wpAny_pure z)
    | (wp_walk; exact z)
set_option maxHeartbeats 4000000 in
theorem call_kw (F : ExcBaseFacts B newId initId bmB) (hT : ∀ X : String, bm.contains (.type X) = bmB.contains (.type X)) {rest : List Value} {kw : List (Str × Value)} {fI : Addr}
    (hC : h.get? C = some (excClassObj nm q C N bs bm hdct sn sub ab col dd k0 k1 k2 k3 k5 newId))
    (hi : W.Looks (model prog w) h (typeLookup (.ref C) "__init__") (some (.ref fI))) (hb : ∀ self, W.Looks (model prog w) h (bindSpecial (.ref fI) self) (.ref fI, [self])) (hrest : rest.length ≤ sizeLine)
    (hq : codeAny (model prog w) (A.under (.builtin "type.__call__" ⟨.ref C :: rest, kw⟩)) (.call (.ref fI) ⟨.ref (h.objs.size + 1) :: rest, kw⟩) (W.InitBack (h.objs.size + 1) R)
      ⟨(h.push (W.kdv_tup rest)).push (excO C h.objs.size), g, d, t, os⟩) :
    codeAny (model prog w) A (.call (.ref C) ⟨rest, kw⟩) R ⟨h, g, d, t, os⟩ := by
  have f1 := tc_lookup
  have f2 := tc_bind (.ref C)
  have hTy : (⟨h, g, d, t, os⟩ : Shared).TypeIs (.ref C) "type" := ⟨_, hC, rfl⟩
  refine codeAny_of_tree ?_
  show wpAny _ _ (callAny (.ref C) _) _ _ _
  repeat (any_goals (first | assumption | with_reducible refine wpAny_loadPart_at hC ?_ | wp_step))
  refine ⟨rfl, ?_⟩
  refine codeAny_call_builtin_at (Code.quiet_builtin _ (by decide +kernel)) entry_typeCall (wpAny_check_type_call_sub hC (type_call_kw F hT hC hi hb hrest ?_))
  refine codeAny_mono hq fun r s' z => ?_
  rcases r with e | (v | _ | _ | _) <;> exact z
end
end KWX
end PySem

namespace TT
open PySem L2
/-! errors as values -/
section
variable {X : Cx} {e : Expr} {es : List Expr} {ta tk : TA} {p pos : Pos} {kws : List Keyword} {x : Str} {C fI : Addr} {k : Nat} {fd : FuncData} {ps ks : List Str} {sp : Sp}
set_option maxHeartbeats 4000000 in
theorem run_oex {us ws full : List Value} {vs : List V} {pins : List (Addr × Obj)} {σ : St} {H1 : Hp} {s1 : Shared} {Q : VK} (T : OexC X.K C) (iC : PySem.W.findIn X.K (.ref C) "__init__" = some (some (.ref fI))) (tI : PySem.W.typeIn X.K (.ref fI) = some (.type "function"))
    (F1 : FnOk X.prog X.w X.K X.mg X.base CX0 k fI fd ps sp) (hr : Room (k + 1) X.A) (I1 : Inv X pins σ H1 s1) (hus : us.length ≤ sizeLine) (rv : Vals vs full)
    (hb : ∀ (a : Addr) (s : Shared), X.K.In s.heap → BindsTo s fd ⟨Value.ref a :: us, ks.zip ws⟩ (ps.zip (Value.ref a :: full)))
    (q1 : ∀ a, H1 a = none → sp (.ref a :: vs) (upd H1 a (exo a C none)) (fun v H2 => v = .non ∧ Q (.ref a) H2) (fun _ _ _ => False)) :
    wpAny (model X.prog X.w) X.A (call (.ref C) us (ks.zip ws)) (EP X pins σ Q) X.xe s1 := by
  obtain ⟨nm, q, N, bs, bm, sn, sub, ab, col, dd, k0, k1, k2, k3, k5, hC, hbm⟩ := T.cls
  obtain ⟨hp, g, dr, tk, os⟩ := s1
  have hsz : hp.objs.size ≤ hp.objs.size + 1 := Nat.le_succ _
  have hn : H1 (hp.objs.size + 1) = none := I1.hok.fresh hsz
  have hq := q1 (hp.objs.size + 1) hn
  have kk : ∀ b o, hp.get? b = some o → ((hp.push (PySem.W.kdv_tup us)).push (PySem.HandSPX.excO C hp.objs.size)).get? b = some o := fun b o e => Heap.get?_push_of_some _ (Heap.get?_push_of_some _ e)
  have hget : ((hp.push (PySem.W.kdv_tup us)).push (PySem.HandSPX.excO C hp.objs.size)).get? (hp.objs.size + 1) = some (PySem.HandSPX.excO C hp.objs.size) := by heap_get
  have I2 : Inv X pins σ (upd H1 (hp.objs.size + 1) (exo (hp.objs.size + 1) C none)) ⟨(hp.push (PySem.W.kdv_tup us)).push (PySem.HandSPX.excO C hp.objs.size), g, dr, tk, os⟩ :=
    I1.laid (t' := tk) (a := hp.objs.size + 1) (o := exo (hp.objs.size + 1) C none) (h' := (hp.push (PySem.W.kdv_tup us)).push (PySem.HandSPX.excO C hp.objs.size)) kk hsz (exo_ok hget)
  have r2 : Vals (V.ref (hp.objs.size + 1) :: vs) (Value.ref (hp.objs.size + 1) :: full) := .cons rfl rv
  refine wpAny_call (PySem.KWX.call_kw F.excBase_ValueError (fun Y => PySem.HandSPX.refsVE_contains Y bm hbm) (I1.kIn _ _ hC) (PySem.W.looks_findIn I1.kIn iC) (fun self => PySem.W.bind_fn I1.kIn self tI) hus
    (codeAny_mono (F1.run _ X.stack _ _ ⟨Value.ref (hp.objs.size + 1) :: us, ks.zip ws⟩ (Value.ref (hp.objs.size + 1) :: full) _ _ (fun _ _ _ => False) (hr.make C us (ks.zip ws)) (I2.env0.make C us (ks.zip ws)) (hb _ _ I2.kIn) r2 hq) fun r s' hq' => ?_))
  cases r with
  | error er => exact L2.pass0 (X := X) pins σ _ _ er s' I2 hq'
  | ok fl =>
    cases fl with
    | ret u =>
      obtain ⟨v, H2, I3, rv', ev, q3⟩ := I2.after hq'
      subst ev
      exact ⟨rv', ⟨V.ref (hp.objs.size + 1), H2, I3, rfl, q3⟩⟩
    | next => exact False.elim hq'
    | brk => exact False.elim hq'
    | cont => exact False.elim hq'
set_option maxHeartbeats 4000000 in
/-- C(e, ..), as a value -/
theorem pe_oex (T : OexC X.K C) (iC : PySem.W.findIn X.K (.ref C) "__init__" = some (some (.ref fI))) (tI : PySem.W.typeIn X.K (.ref fI) = some (.type "function"))
    (F1 : FnOk X.prog X.w X.K X.mg X.base CX0 k fI fd ps sp) (hr : Room (k + 1) X.A) (hb : Binds X.K fd ps []) (hg : Gl X x) (hm : X.mg x = some (.ref C)) (ha : PA X (e :: es) ta)
    (hdb : (x == ("__debug__" : Str)) = false := by decide) (he : starEach (e :: es) X.env = (false, eval e X.env) :: starEach es X.env := by rfl) (hpl : (backTo pos (starEach es X.env)).any (·.1) = false := by rfl) :
    PE X (.Call (.Name x p) (e :: es) [] pos) (fun σ H Q => ta σ H fun vs H1 => vs.length ≤ 1000 ∧ ∀ a, H1 a = none → sp (.ref a :: vs) (upd H1 a (exo a C none)) (fun v H2 => v = .non ∧ Q (.ref a) H2) (fun _ _ _ => False)) := by
  refine ⟨fun pins s σ H Q I h => ?_⟩
  refine PySem.wpAny_Call_Name_kw (ld_glob I hg hm ?_ hdb)
  refine PySem.W.callWith_K (h₀ := X.base) I.ok.mod.kin T.kC (thn (ha.run pos pins s σ H _ I h) fun us s1 ⟨vs, H1, I1, r1, hz, q1⟩ => ⟨I1.kIn, ?_⟩) he hpl
  have hl : us.length + 1 = ps.length := by
    have hq := q1 (s1.heap.objs.size) (I1.hok.fresh (Nat.le_refl _))
    have := F1.len _ _ _ _ hq
    rw [List.length_cons, r1.length] at this
    exact this
  refine run_oex (us := us) (ws := []) (ks := []) (full := us) T iC tI F1 hr I1 (by rw [← r1.length, sizeLine_eq]; omega) r1 (fun a s hk => ?_) q1
  have := hb s (Value.ref a :: us) hk (by simpa using hl)
  simpa using this
set_option maxHeartbeats 4000000 in
/-- C(k = v, ..), as a value: g says which name gives which place -/
theorem pe_oexK {g : List V → List V} {gU : List Value → List Value} (T : OexC X.K C) (iC : PySem.W.findIn X.K (.ref C) "__init__" = some (some (.ref fI))) (tI : PySem.W.typeIn X.K (.ref fI) = some (.type "function"))
    (F1 : FnOk X.prog X.w X.K X.mg X.base CX0 k fI fd ps sp) (hr : Room (k + 1) X.A) (hgg : ∀ zs ws, Vals zs ws → Vals (g zs) (gU ws)) (hb : ∀ (a : Addr) (ws : List Value), ws.length = ks.length → bindArgs fd ⟨[Value.ref a], ks.zip ws⟩ = pure (ps.zip (Value.ref a :: gU ws))) (hg : Gl X x) (hm : X.mg x = some (.ref C)) (hkw : PK X kws tk)
    (hall : (backToKw pos (keywordEach kws X.env)).all (·.1.isSome) = true := by rfl) (hks : (backToKw pos (keywordEach kws X.env)).filterMap (·.1) = ks := by rfl)
    (hdb : (x == ("__debug__" : Str)) = false := by decide) (hpl : ((backTo pos (starEach [] X.env)).any (·.1) || (backToKw pos (keywordEach kws X.env)).any (·.1.isNone)) = false := by rfl) :
    PE X (.Call (.Name x p) [] kws pos) (fun σ H Q => tk σ H fun zs H1 => zs.length = ks.length ∧ ∀ a, H1 a = none → sp (.ref a :: g zs) (upd H1 a (exo a C none)) (fun v H2 => v = .non ∧ Q (.ref a) H2) (fun _ _ _ => False)) := by
  refine ⟨fun pins s σ H Q I h => ?_⟩
  refine PySem.wpAny_Call_Name_kw (ld_glob I hg hm ?_ hdb)
  refine PySem.W.callWith_KW0 (h₀ := X.base) I.ok.mod.kin T.kC hall ?_ hpl
  refine thn (hkw.run pos pins s σ H _ I h) fun ws s2 ⟨zs, H2, I2, rz, l2, q2⟩ => ⟨I2.kIn, ?_⟩
  rw [hks]
  exact run_oex (us := []) (ws := ws) (ks := ks) (full := gU ws) T iC tI F1 hr I2 (Nat.zero_le _) (hgg zs ws rz) (fun a s hk => BindsTo.of_eq (hb a ws (rz.length.symm.trans l2))) q2
set_option maxHeartbeats 4000000 in
/-- o.f of an error that is held -/
theorem pe_oxf {te : TE} {n : Str} (he : PE X e te) (hb : attributeBase e n X.env (eval e X.env) = eval e X.env := by rfl) :
    PE X (.Attribute e n pos) (fun σ H Q => te σ H fun x H1 => ∃ (a C d : Addr) (fs : List (Str × V)) (v : V), x = .ref a ∧ XfC X.K C ∧ PySem.W.findIn X.K (.ref C) n = some none ∧ H1 a = some (exo a C (some d)) ∧ H1 d = some (exd d fs) ∧ fs.lookup n = some v ∧ Q v H1) := by
  refine ⟨fun pins s σ H Q I h => ?_⟩
  refine attr_of hb (thn (he.run pins s σ H _ I h) fun u s1 hh => ?_)
  obtain ⟨x, H1, I1, rx, a, C, d, fs, v, rfl, T, hno, ea, ed, l, q⟩ := hh
  obtain rfl : u = Value.ref a := rx
  obtain ⟨t1, ho⟩ := exo_at I1.hok ea
  obtain ⟨mA, hns, hr⟩ := exd_at I1.hok ed
  obtain ⟨od, hod, hl⟩ := lookIn_ns hns
  obtain ⟨u, hu, ru⟩ := RelO.some_of (v := v) (o := mA n) (by rw [← l]; exact hr n)
  have J : PySem.W.InstAt s1.heap a _ C (some od) := ⟨ho, rfl, rfl, hod⟩
  exact HandSPX.exc_get I1.kIn J T.ga T.gg T.exC (PySem.W.findObj_own T.hdC hno rfl (by rw [hl, hu])) (handed_of ru) ⟨v, H1, I1.tok _, ru, q⟩
end
end TT

namespace TT
open PySem L2
variable [TB]
/-! errors made, as data -/
def mkErr (C : Addr) (ks : List Str) (as : List MV) (μ : List MO) : Res MV := match datas as with
  | some ds => if ds.length = ks.length then .ok (.d (.err C (ks.zip ds).reverse)) μ else .bad
  | none => .bad
def mErr (C : Addr) (ks : List Str) (ms : MA) : ME := fun ρ μ => (ms ρ μ).bind (mkErr C ks)
/-- by names: sw, in the other order -/
def mErrK (C : Addr) (ks : List Str) (sw : Bool) (ms : MA) : ME := fun ρ μ => (ms ρ μ).bind fun as μ1 => mkErr C ks (gk sw as) μ1
theorem err_end {K : PySem.W.Frag} {W : WX} {σ : St} {Z ι : List Addr} {μ : List MO} {H H2 : Hp} {C a dx : Addr} {fs : List (Str × D)} {fs' : List (Str × V)} {Q : VK} (s : Sta K Z ι μ H) (ha : H a = none) (hd : H dx = none) (ne : dx ≠ a) (e : H2 = upd (upd H dx (exd dx fs')) a (exo a C (some dx))) (dr : DRf K (mask H Z) fs fs')
    (o : Out K W σ Z ι H (.ok (.d (.err C fs)) μ) (Val K Q)) : Q (.ref a) H2 := by
  subst e
  have ha2 : (upd H dx (exd dx fs')) a = none := (upd_ne (Ne.symm ne)).trans ha
  have sm : Same H (upd (upd H dx (exd dx fs')) a (exo a C (some dx))) := fun b u q => (upd_ne (ne_of_none q ha)).trans ((upd_ne (ne_of_none q hd)).trans q)
  have na : a ∉ Z := fun q => by obtain ⟨u, z⟩ := s.trk a q; rw [ha] at z; cases z
  have nd : dx ∉ Z := fun q => by obtain ⟨u, z⟩ := s.trk dx q; rw [hd] at z; cases z
  refine Out.new s o sm (.d (.err (mask_in na upd_same) (mask_in nd ((upd_ne ne).trans upd_same)) (dr.mono (fun b u q => ?_) _ _)))
  obtain ⟨n1, e1⟩ := of_mask q
  exact mask_in n1 (sm b u e1) (mask_nt q)
theorem heap1 {H : Hp} {a dx C : Addr} {u : List (Str × V)} (ne : dx ≠ a) : upd (upd (upd H a (exo a C none)) dx (exd dx u)) a (exo a C (some dx)) = upd (upd H dx (exd dx u)) a (exo a C (some dx)) := by
  funext b
  by_cases q1 : b = a
  · subst q1; rw [upd_same, upd_same]
  · rw [upd_ne q1, upd_ne q1]
    by_cases q2 : b = dx
    · subst q2; rw [upd_same, upd_same]
    · rw [upd_ne q2, upd_ne q2, upd_ne q1]
theorem heap2 {H : Hp} {a dx C : Addr} {u v : List (Str × V)} (ne : dx ≠ a) : upd (upd (upd (upd H a (exo a C none)) dx (exd dx u)) a (exo a C (some dx))) dx (exd dx v) = upd (upd H dx (exd dx v)) a (exo a C (some dx)) := by
  funext b
  by_cases q2 : b = dx
  · subst q2; rw [upd_same, upd_ne ne, upd_same]
  · rw [upd_ne q2]
    by_cases q1 : b = a
    · subst q1; rw [upd_same, upd_same]
    · rw [upd_ne q1, upd_ne q1, upd_ne q2, upd_ne q2, upd_ne q1]
section
variable {X : Cx} {W : WX} {x : Str} {C : Addr} {k j : Nat} {e e2 : Expr} {p pos : Pos} {f g : Str} {ms : MA} {kws : List Keyword}
theorem sp1_ok {K : PySem.W.Frag} {σ : St} {Z ι : List Addr} {μ : List MO} {H : Hp} {as : List MV} {vs : List V} {Q : VK} (s : Sta K Z ι μ H) (r : RMs K (mask H Z) ι as vs) (o : Out K W σ Z ι H (mkErr C [f] as μ) (Val K Q)) :
    vs.length ≤ 1000 ∧ ∀ a, H a = none → spX1 C f (.ref a :: vs) (upd H a (exo a C none)) (fun v H2 => v = .non ∧ Q (.ref a) H2) (fun _ _ _ => False) := by
  unfold mkErr at o
  split at o
  · rename_i ds hd
    have dr := datas_ok r hd
    split at o
    · rename_i hl
      match ds, dr, hl with
      | [d0], .cons (v := v0) r0 .nil, _ =>
        refine ⟨by show 1 ≤ 1000; decide, fun a ha' => ⟨a, v0, rfl, upd_same, fun dx hdx ne => ⟨rfl, ?_⟩⟩⟩
        rw [upd_ne ne] at hdx
        exact err_end s ha' hdx ne (heap1 ne) (.cons r0 .nil) o
    · exact o.elim
  · exact o.elim
theorem sp2_ok {K : PySem.W.Frag} {σ : St} {Z ι : List Addr} {μ : List MO} {H : Hp} {as : List MV} {vs : List V} {Q : VK} (s : Sta K Z ι μ H) (r : RMs K (mask H Z) ι as vs) (o : Out K W σ Z ι H (mkErr C [f, g] as μ) (Val K Q)) :
    vs.length ≤ 1000 ∧ ∀ a, H a = none → spX2 C f g (.ref a :: vs) (upd H a (exo a C none)) (fun v H2 => v = .non ∧ Q (.ref a) H2) (fun _ _ _ => False) := by
  unfold mkErr at o
  split at o
  · rename_i ds hd
    have dr := datas_ok r hd
    split at o
    · rename_i hl
      match ds, dr, hl with
      | [d0, d1], .cons (v := v0) r0 (.cons (v := v1) r1 .nil), _ =>
        refine ⟨by show 2 ≤ 1000; decide, fun a ha' => ⟨a, v0, v1, rfl, upd_same, fun dx hdx ne => ⟨rfl, ?_⟩⟩⟩
        rw [upd_ne ne] at hdx
        exact err_end s ha' hdx ne (heap2 ne) (.cons r1 (.cons r0 .nil)) o
    · exact o.elim
  · exact o.elim
theorem fe_err1 (c : Exc X.prog X.w X.K X.mg X.base k x C 1 (spX1 C f)) (hr : Room j X.A) (ha : FA X W [e] ms) (hk : k + 1 ≤ j := by decide) (hgl : Gl X x := by rfl)
    (hdb : (x == ("__debug__" : Str)) = false := by decide) (he : starEach [e] X.env = (false, eval e X.env) :: starEach [] X.env := by rfl) (hpl : (backTo pos (starEach [] X.env)).any (·.1) = false := by rfl) :
    FE X W (.Call (.Name x p) [e] [] pos) (mErr C [f] ms) := by
  obtain ⟨fI, fd, ps, h1, h2, h3, h4⟩ := c.fn
  exact pe_imp (pe_oex c.T h1 h2 h3 (hr.mono hk) h4 hgl c.g ha hdb he hpl) fun σ H Q ⟨Z, ι, ρ, μ, R, o⟩ => tMA_bind R o fun v μ' Z' ι' H' x x1 R1 r1 o1 => sp1_ok R1.sta r1 o1
theorem fe_err2 (c : Exc X.prog X.w X.K X.mg X.base k x C 2 (spX2 C f g)) (hr : Room j X.A) (ha : FA X W [e, e2] ms) (hk : k + 1 ≤ j := by decide) (hgl : Gl X x := by rfl)
    (hdb : (x == ("__debug__" : Str)) = false := by decide) (he : starEach [e, e2] X.env = (false, eval e X.env) :: starEach [e2] X.env := by rfl) (hpl : (backTo pos (starEach [e2] X.env)).any (·.1) = false := by rfl) :
    FE X W (.Call (.Name x p) [e, e2] [] pos) (mErr C [f, g] ms) := by
  obtain ⟨fI, fd, ps, h1, h2, h3, h4⟩ := c.fn
  exact pe_imp (pe_oex c.T h1 h2 h3 (hr.mono hk) h4 hgl c.g ha hdb he hpl) fun σ H Q ⟨Z, ι, ρ, μ, R, o⟩ => tMA_bind R o fun v μ' Z' ι' H' x x1 R1 r1 o1 => sp2_ok R1.sta r1 o1
/-- what is known of such a class called by names -/
structure ExcK (P : Program) (w : World) (K : PySem.W.Frag) (mg : Str → Option Value) (base : Heap) (k : Nat) (x : Str) (C : Addr) (ks : List Str) (sw : Bool) (sp : Sp) : Prop where
  T : OexC K C
  g : mg x = some (.ref C)
  fn : ∃ (fI : Addr) (fd : FuncData) (ps : List Str), PySem.W.findIn K (.ref C) "__init__" = some (some (.ref fI)) ∧ PySem.W.typeIn K (.ref fI) = some (.type "function") ∧ FnOk P w K mg base CX0 k fI fd ps sp ∧ ∀ (a : Addr) (ws : List Value), ws.length = ks.length → bindArgs fd ⟨[Value.ref a], ks.zip ws⟩ = pure (ps.zip (Value.ref a :: gk sw ws))
theorem fe_errK1 {ks : List Str} {sw : Bool} (c : ExcK X.prog X.w X.K X.mg X.base k x C ks sw (spX1 C f)) (hr : Room j X.A) (hkw : FKw X W kws ms) (hk : k + 1 ≤ j := by decide) (hn1 : ks.length = 1 := by rfl) (hgl : Gl X x := by rfl)
    (hall : (backToKw pos (keywordEach kws X.env)).all (·.1.isSome) = true := by rfl) (hks : (backToKw pos (keywordEach kws X.env)).filterMap (·.1) = ks := by rfl)
    (hdb : (x == ("__debug__" : Str)) = false := by decide) (hpl : ((backTo pos (starEach [] X.env)).any (·.1) || (backToKw pos (keywordEach kws X.env)).any (·.1.isNone)) = false := by rfl) :
    FE X W (.Call (.Name x p) [] kws pos) (mErrK C [f] sw ms) := by
  obtain ⟨fI, fd, ps, h1, h2, h3, h4⟩ := c.fn
  refine pe_imp (pe_oexK (g := gk sw) c.T h1 h2 h3 (hr.mono hk) (fun zs ws h => vals_gk sw h) h4 hgl c.g hkw hall hks hdb hpl) fun σ H Q ⟨Z, ι, ρ, μ, R, o⟩ => tMA_bind R o fun v μ' Z' ι' H' x x1 R1 r1 o1 => ?_
  have hl : x.length = 1 := by
    unfold mkErr at o1
    split at o1
    · rename_i ds hd
      split at o1
      · rename_i hl
        have := (datas_ok (r1.gk sw) hd).len
        rw [hl, gk_len] at this
        exact this.symm
      · exact o1.elim
    · exact o1.elim
  exact ⟨by rw [hl, hn1], (sp1_ok R1.sta (r1.gk sw) o1).2⟩
theorem fe_errK2 {ks : List Str} {sw : Bool} (c : ExcK X.prog X.w X.K X.mg X.base k x C ks sw (spX2 C f g)) (hr : Room j X.A) (hkw : FKw X W kws ms) (hk : k + 1 ≤ j := by decide) (hn1 : ks.length = 2 := by rfl) (hgl : Gl X x := by rfl)
    (hall : (backToKw pos (keywordEach kws X.env)).all (·.1.isSome) = true := by rfl) (hks : (backToKw pos (keywordEach kws X.env)).filterMap (·.1) = ks := by rfl)
    (hdb : (x == ("__debug__" : Str)) = false := by decide) (hpl : ((backTo pos (starEach [] X.env)).any (·.1) || (backToKw pos (keywordEach kws X.env)).any (·.1.isNone)) = false := by rfl) :
    FE X W (.Call (.Name x p) [] kws pos) (mErrK C [f, g] sw ms) := by
  obtain ⟨fI, fd, ps, h1, h2, h3, h4⟩ := c.fn
  refine pe_imp (pe_oexK (g := gk sw) c.T h1 h2 h3 (hr.mono hk) (fun zs ws h => vals_gk sw h) h4 hgl c.g hkw hall hks hdb hpl) fun σ H Q ⟨Z, ι, ρ, μ, R, o⟩ => tMA_bind R o fun v μ' Z' ι' H' x x1 R1 r1 o1 => ?_
  have hl : x.length = 2 := by
    unfold mkErr at o1
    split at o1
    · rename_i ds hd
      split at o1
      · rename_i hl
        have := (datas_ok (r1.gk sw) hd).len
        rw [hl, gk_len] at this
        exact this.symm
      · exact o1.elim
    · exact o1.elim
  exact ⟨by rw [hl, hn1], (sp2_ok R1.sta (r1.gk sw) o1).2⟩
end
/-! fields of an error that is held -/
def eFld (C : Addr) (f : Str) (v : MV) (μ : List MO) : Res MV := match v with
  | .d (.err C' fs) => if C' = C then (match fs.lookup f with
    | some x => .ok (.d x) μ
    | none => .bad) else .bad
  | _ => .bad
def mEFld (C : Addr) (f : Str) (ma : ME) : ME := fun ρ μ => (ma ρ μ).bind (eFld C f)
theorem fe_efld {X : Cx} {W : WX} {C : Addr} {f : Str} {e : Expr} {pos : Pos} {ma : ME} (T : XfC X.K C) (hno : PySem.W.findIn X.K (.ref C) f = some none) (he : FE X W e ma) (hb : attributeBase e f X.env (eval e X.env) = eval e X.env := by rfl) : FE X W (.Attribute e f pos) (mEFld C f ma) := by
  refine pe_imp (pe_oxf he hb) fun σ H Q ⟨Z, ι, ρ, μ, R, o⟩ => tM_bind R o fun v μ' Z' ι' H' x x1 R1 r1 o1 => ?_
  unfold eFld at o1
  split at o1
  · split at o1
    · rename_i hC
      subst hC
      split at o1
      · rename_i y hy
        cases r1 with | d r1 => cases r1 with | err q1 q2 r =>
          obtain ⟨v, h4, h5⟩ := r.look hy
          exact ⟨_, _, _, _, v, rfl, T, hno, mask_same _ _ _ _ q1, mask_same _ _ _ _ q2, h4, Out.ret R1.sta o1 (.d h5)⟩
      · exact o1.elim
    · exact o1.elim
  · exact o1.elim
/-! isinstance of an error that is held -/
def rIsO (K : PySem.W.Frag) : List V → Hp → VK → Prop := fun xs H Q => ∃ (a C d : Addr) (c : V) (cv : Value) (b : Bool) (fs : List (Str × V)), xs = [.ref a, c] ∧ ExcC K C ∧ H a = some (exo a C (some d)) ∧ H d = some (exd d fs) ∧ (∀ u, RelV c u → u = cv) ∧ PySem.W.kitOne K (.ref C) cv = some b ∧ Q (.bl b) H
theorem call_isO {X : Cx} : CallR X (.builtin "isinstance") (rIsO X.K) := by
  intro pins s σ H xs us Q I r h
  obtain ⟨a, C, d, c, cv, b, fs, rfl, EC, ea, ed, hcv, e, q⟩ := h
  cases r with
  | cons rx rr =>
    cases rr with
    | cons rt rr =>
      cases rr
      cases rx
      have ec := hcv _ rt
      subst ec
      obtain ⟨t1, ho⟩ := exo_at I.hok ea
      obtain ⟨mA, hns, hr⟩ := exd_at I.hok ed
      obtain ⟨od, hod, hl⟩ := lookIn_ns hns
      have J : PySem.W.InstAt s.heap a _ C (some od) := ⟨ho, rfl, rfl, hod⟩
      exact PySem.W.kia_one (kitx_excD EC.hg EC.hk EC.hs EC.hd EC.ha EC.hn EC.ht EC.hm) I.kIn ⟨_, J⟩ e (fun z => nomatch z) fun tk => ⟨.bl b, H, I.kept (t' := tk) fun _ _ z => z, rfl, q⟩
def isOG (cs : List Addr) (A : Addr) (fb : Addr → Bool) : List D → Option D
  | [.err C _, .gl A'] => if C ∈ cs ∧ A' = A then some (.bl (fb C)) else none
  | _ => none
def isOT (cs : List Addr) (n : String) (fb : Addr → Bool) : List D → Option D
  | [.err C _, .ty n'] => if C ∈ cs ∧ n' = n then some (.bl (fb C)) else none
  | _ => none
theorem c_isOG {K : PySem.W.Frag} {cs : List Addr} {A : Addr} {fb : Addr → Bool} (hk : ∀ C ∈ cs, ExcC K C ∧ PySem.W.kitOne K (.ref C) (.ref A) = some (fb C)) : CallD K (rIsO K) (isOG cs A fb) := fun Z H as c xs Q t h e q => by
  unfold isOG at e
  split at e
  · split at e
    · rename_i hh
      obtain ⟨hC, rfl⟩ := hh
      cases e
      cases h with | cons h1 h2 => cases h2 with | cons h2 h3 => cases h3 with | nil =>
        cases h1 with | d h1 => cases h1 with | err h4 h5 h6 =>
          cases h2 with | d h2 => cases h2 with | gl =>
            exact ⟨_, _, _, _, _, _, _, rfl, (hk _ hC).1, mask_same _ _ _ _ h4, mask_same _ _ _ _ h5, fun u hu => hu, (hk _ hC).2, q H _ (Same.refl _) (.bl _)⟩
    · cases e
  · cases e
theorem c_isOT {K : PySem.W.Frag} {cs : List Addr} {n : String} {fb : Addr → Bool} (hk : ∀ C ∈ cs, ExcC K C ∧ PySem.W.kitOne K (.ref C) (.type n) = some (fb C)) : CallD K (rIsO K) (isOT cs n fb) := fun Z H as c xs Q t h e q => by
  unfold isOT at e
  split at e
  · split at e
    · rename_i hh
      obtain ⟨hC, rfl⟩ := hh
      cases e
      cases h with | cons h1 h2 => cases h2 with | cons h2 h3 => cases h3 with | nil =>
        cases h1 with | d h1 => cases h1 with | err h4 h5 h6 =>
          cases h2 with | d h2 => cases h2 with | ty =>
            exact ⟨_, _, _, _, _, _, _, rfl, (hk _ hC).1, mask_same _ _ _ _ h4, mask_same _ _ _ _ h5, fun u hu => hu, (hk _ hC).2, q H _ (Same.refl _) (.bl _)⟩
    · cases e
  · cases e
/-! str of a number -/
noncomputable def strI : List D → Option D
  | [.int i] => @ite _ (i.natAbs.log2 < 1920) (Classical.propDecidable _) (some (.str (toString i))) none
  | _ => none
theorem c_strI {K : PySem.W.Frag} : CallD K (fun xs H Q => ∃ i : Int, xs = [V.int i] ∧ i.natAbs.log2 < 1920 ∧ Q (.str (toString i)) H) strI := fun Z H as c xs Q t h e q => by
  unfold strI at e
  split at e
  · split at e
    · rename_i hl
      cases e
      cases h with | cons h1 h2 => cases h2 with | nil => rw [h1.int]; exact ⟨_, rfl, hl, q H _ (Same.refl _) (.str _)⟩
    · cases e
  · cases e
/-! two statements: a new list, changed by the second one, data from then on -/
def frz (n i : Nat) (x : D) : Nat → En → En
  | _, [] => []
  | j, v :: r => (if j = i then some (.d x) else match v with
    | some (.ref k) => if k < n then some (.ref k) else none
    | v => v) :: frz n i x (j + 1) r
def fzB (i n : Nat) : SR → SR
  | .nx ρ μ => match ρ[i]? with
    | some (some (.ref k)) => if k = n then (match μ[k]? with
      | some (.lst xs) => if trimmable n (.d (.lst xs)) μ = true then .nx (frz n i (.lst xs) 0 ρ) (μ.take n) else .bad
      | _ => .bad) else .bad
    | _ => .bad
  | .exc _ _ _ _ => .bad
  | .rt _ _ => .bad
  | .bk _ _ => .bad
  | .ct _ _ => .bad
  | .bad => .bad
def mFzB (i : Nat) (m : MS) : MS := fun ρ μ => fzB i μ.length (m ρ μ)
theorem fzB_nx (i n : Nat) (ρ : En) (μ : List MO) : fzB i n (.nx ρ μ) = .bad ∨ ∃ k xs, ρ[i]? = some (some (.ref k)) ∧ k = n ∧ μ[k]? = some (.lst xs) ∧ trimmable n (.d (.lst xs)) μ = true ∧ fzB i n (.nx ρ μ) = .nx (frz n i (.lst xs) 0 ρ) (μ.take n) := by
  unfold fzB
  simp only
  split
  · rename_i k hk
    by_cases h : k = n
    · rw [if_pos h]
      split
      · rename_i xs hx
        by_cases ht : trimmable n (.d (.lst xs)) μ = true
        · rw [if_pos ht]; exact .inr ⟨k, xs, hk, h, hx, ht, rfl⟩
        · rw [if_neg ht]; exact .inl rfl
      · exact .inl rfl
    · rw [if_neg h]; exact .inl rfl
  · exact .inl rfl
theorem RS.frz {K : PySem.W.Frag} {F F' : Hp} {ι ι' : List Addr} {n i : Nat} {x : D} (e : Same F F') (back : ∀ k < n, ∀ a, ι'[k]? = some a → ι[k]? = some a) : ∀ {ρ : En} {σ : St} (j : Nat), RS K F ι' ρ σ → (∀ k v, j + k = i → σ[k]? = some (some v) → ρ[k]? ≠ none → DR K F' x v) → (∀ k, j + k = i → ∀ o, σ[k]? = some o → ∃ v, o = some v) → RS K F' ι (TT.frz n i x j ρ) σ
  | _, _, j, .nil, _, _ => .nil
  | _, _, j, .cons (a := a) (b := b) r t, hx, hs => by
    unfold TT.frz
    refine .cons ?_ (RS.frz e back (j + 1) t (fun k v hk hv hn => hx (k + 1) v (by omega) (by simpa using hv) (by simpa using hn)) fun k hk o ho => hs (k + 1) (by omega) o (by simpa using ho))
    by_cases h : j = i
    · rw [if_pos h]
      obtain ⟨v, rfl⟩ := hs 0 (by omega) b rfl
      exact .some (.d (hx 0 v (by omega) rfl (by simp)))
    · rw [if_neg h]
      cases r with
      | none => exact .none
      | some r =>
        cases r with
        | d r => exact .some (.d (r.mono e _ _))
        | ref r =>
          rename_i k a
          simp only
          split
          · rename_i hk; exact .some (.ref (back k hk a r))
          · exact .none
section
variable {X : Cx} {W : WX} {st1 st2 : Stmt} {rest : List Stmt} {m1 m2 m3 : MS} {i : Nat}
theorem fss_blk2 (h1 : FS X W st1 m1) (h2 : FS X W st2 m2) (h3 : FSs X W rest m3) : FSs X W (st1 :: st2 :: rest) (mSeq (mFzB i (mSeq m1 m2)) m3) := by
  refine pss_imp (pss_cons h1 (pss_cons h2 h3)) fun E σ H ⟨Z, ι, ρ, μ, R, o⟩ => ⟨Z, ι, ρ, μ, R, ?_⟩
  simp only [mSeq, mFzB] at o
  cases q1 : m1 ρ μ with
  | nx ρ1 μ1 =>
    simp only [q1] at o
    intro Z1 ι1 H1 σ1 x1 R1
    refine ⟨Z1, ι1, ρ1, μ1, R1, ?_⟩
    cases q2 : m2 ρ1 μ1 with
    | nx ρ2 μ2 =>
      simp only [q2] at o
      intro Z2 ι2 H2 σ2 x2 R2
      rcases fzB_nx i μ.length ρ2 μ2 with hbad | ⟨k, xs, hk, hkn, hxs, ht, hfz⟩
      · rw [hbad] at o; exact o.elim
      · rw [hfz] at o
        have x := x1.trans x2
        obtain ⟨v, hv, rv⟩ := RS.get R2.rs hk
        cases rv with | ref rv =>
          rename_i a
          obtain ⟨s3, x3⟩ := Sta.drop x R2.sta R.sta.trk R.sta.len (Nat.le_of_eq hkn.symm) rv ht
          obtain ⟨ho, e1, e2⟩ := R2.sta.obj _ _ _ rv hxs
          cases e2 with | lst d =>
            have na : a ∉ Z2.filter (· ≠ a) := fun z => of_decide_eq_true (List.mem_filter.mp z).2 rfl
            have sm : Same (mask H2 Z2) (mask H2 (Z2.filter (· ≠ a))) := mask_sub fun b hb => (List.mem_filter.mp hb).1
            refine ⟨_, ι, _, _, ⟨s3, RS.frz (n := μ.length) sm (fun k hk a e => ?_) 0 R2.rs (fun k' v' hk' hv' _ => ?_) (fun k' hk' o' ho' => ?_)⟩, OutS.base o x3⟩
            · have h4 : ι[k]? = some (ι[k]'(by rw [R.sta.len]; exact hk)) := by simp
              have h5 := x.i k _ h4
              rw [h5] at e
              rw [h4]; exact e
            · have : k' = i := by omega
              subst this
              rw [hv] at hv'
              cases hv'
              exact .lst (mask_in na e1) (d.mono sm _ _)
            · have : k' = i := by omega
              subst this
              rw [hv] at ho'
              cases ho'
              exact ⟨_, rfl⟩
    | rt v μ2 => simp only [q2, fzB] at o; exact o.elim
    | bk ρ2 μ2 => simp only [q2, fzB] at o; exact o.elim
    | ct ρ2 μ2 => simp only [q2, fzB] at o; exact o.elim
    | exc C fs ρ2 μ2 => simp only [q2, fzB] at o; exact o.elim
    | bad => simp only [q2, fzB] at o; exact o.elim
  | rt v μ1 => simp only [q1, fzB] at o; exact o.elim
  | bk ρ1 μ1 => simp only [q1, fzB] at o; exact o.elim
  | ct ρ1 μ1 => simp only [q1, fzB] at o; exact o.elim
  | exc C fs ρ1 μ1 => simp only [q1, fzB] at o; exact o.elim
  | bad => simp only [q1, fzB] at o; exact o.elim
end
end TT

namespace TT
open PySem L2
variable [TB]
/-! steps of plain proofs for errors that are held, and for lists that turn data -/
section
variable {K : MV → List MO → Prop} {E : Addr → List (Str × D) → List MO → Prop} {ρ : En} {μ : List MO} {ma : ME} {ms : MA} {C : Addr} {ks : List Str} {sw : Bool} {as : List MV} {ds : List D} {f : Str} {fs : List (Str × D)} {x : D}
def kErr (C : Addr) (ks : List Str) (K : MV → List MO → Prop) : List MV → List MO → Prop := fun as μ => ∃ ds, datas as = some ds ∧ ds.length = ks.length ∧ K (.d (.err C (ks.zip ds).reverse)) μ
theorem mkErr_to (h : kErr C ks K as μ) : (mkErr C ks as μ).to K E := by
  obtain ⟨ds, h1, h2, h3⟩ := h
  unfold mkErr
  rw [h1]
  simp only [if_pos h2]
  exact h3
theorem z_err (h : (ms ρ μ).to (kErr C ks K) E) : (mErr C ks ms ρ μ).to K E := to_bind (tom h (fun _ _ h => mkErr_to h) fun _ _ _ z => z)
theorem k_err (h1 : datas as = some ds) (h2 : ds.length = ks.length) (h : K (.d (.err C (ks.zip ds).reverse)) μ) : kErr C ks K as μ := ⟨ds, h1, h2, h⟩
def kErrK (C : Addr) (ks : List Str) (sw : Bool) (K : MV → List MO → Prop) : List MV → List MO → Prop := fun as μ => kErr C ks K (gk sw as) μ
theorem z_errK (h : (ms ρ μ).to (kErrK C ks sw K) E) : (mErrK C ks sw ms ρ μ).to K E := to_bind (tom h (fun _ _ h => mkErr_to h) fun _ _ _ z => z)
theorem k_errK (h1 : datas (gk sw as) = some ds) (h2 : ds.length = ks.length) (h : K (.d (.err C (ks.zip ds).reverse)) μ) : kErrK C ks sw K as μ := ⟨ds, h1, h2, h⟩
theorem e_efld (h : (ma ρ μ).to (fun v μ1 => (eFld C f v μ1).to K E) E) : (mEFld C f ma ρ μ).to K E := to_bind h
theorem k_efld (h1 : fs.lookup f = some x) (h : K (.d x) μ) : (eFld C f (.d (.err C fs)) μ).to K E := by
  unfold eFld
  simp only [if_true, h1]
  exact h
end
/-- the rest is hidden, so that nothing runs into it -/
theorem w_seqG {N : En → List MO → Prop} {R : MV → List MO → Prop} {B C : En → List MO → Prop} {EE : Addr → List (Str × D) → En → List MO → Prop} {m n : MS} {ρ : En} {μ : List MO} (h : ∀ r, r = n → (m ρ μ).to (fun ρ' μ' => (r ρ' μ').to N R B C EE) R B C EE) : (mSeq m n ρ μ).to N R B C EE := w_seq (h n rfl)
theorem w_fzb {N : En → List MO → Prop} {R : MV → List MO → Prop} {B C : En → List MO → Prop} {EE : Addr → List (Str × D) → En → List MO → Prop} {m : MS} {ρ : En} {μ : List MO} {i : Nat}
    (h : (m ρ μ).to (fun ρ' μ' => ∃ xs, ρ'[i]? = some (some (.ref μ.length)) ∧ μ'[μ.length]? = some (.lst xs) ∧ trimmable μ.length (.d (.lst xs)) μ' = true ∧ N (frz μ.length i (.lst xs) 0 ρ') (μ'.take μ.length)) (fun _ _ => False) (fun _ _ => False) (fun _ _ => False) (fun _ _ _ _ => False)) : (mFzB i m ρ μ).to N R B C EE := by
  unfold mFzB
  cases q : m ρ μ with
  | nx ρ' μ' =>
    rw [q] at h
    obtain ⟨xs, h1, h2, h3, h4⟩ := h
    simp only [fzB, h1, h2, h3, if_true]
    exact h4
  | rt v μ' => rw [q] at h; exact h.elim
  | bk v μ' => rw [q] at h; exact h.elim
  | ct v μ' => rw [q] at h; exact h.elim
  | exc c fs v μ' => rw [q] at h; exact h.elim
  | bad => rw [q] at h; exact h.elim
end TT

local macro_rules | `(tactic| wtm_at "atx") => `(tactic| first | with_reducible exact TT.at0 | with_reducible exact TT.at1 | with_reducible exact TT.at2 | with_reducible exact TT.at3 | with_unfolding_all rfl)
local macro_rules | `(tactic| wtm_at "setx") => `(tactic| first | with_reducible exact TT.set0 | with_reducible exact TT.set1 | with_reducible exact TT.set2 | with_reducible exact TT.set3 | with_unfolding_all rfl)
local macro_rules | `(tactic| wtm_at "vwx") => `(tactic| first | with_reducible exact TT.view_lst TT.at0 | with_reducible exact TT.view_lst TT.at1 | with_reducible exact TT.view_lst TT.at2 | with_reducible exact TT.view_lst TT.at3)
local macro_rules | `(tactic| wtm_at "vw") => `(tactic| first | with_unfolding_all rfl | wtm_at "vwx" | with_reducible exact TT.view_lst (by assumption))
local macro_rules | `(tactic| wtm_at "szl") => `(tactic| first | decide | (simp only [PySem.sizeLine_eq, List.length_cons, List.length_nil]; omega) | (rw [PySem.sizeLine_eq]; simp; done))
local macro_rules | `(tactic| wtm_at "w1") => `(tactic| first
  | with_reducible refine TT.w_seq ?_
  | with_reducible refine TT.w_set ?_
  | with_reducible refine TT.e_var (by with_unfolding_all rfl) ?_
  | with_reducible refine TT.e_c ?_
  | with_reducible refine TT.e_cons ?_
  | with_reducible refine TT.e_nil ?_
  | with_reducible refine TT.e_bin ?_
  | with_reducible refine TT.e_op2 (by with_unfolding_all rfl) (by with_unfolding_all rfl) (by with_unfolding_all rfl) ?_
  | with_reducible refine TT.e_un ?_
  | with_reducible refine TT.e_op1 (by with_unfolding_all rfl) (by with_unfolding_all rfl) ?_
  | with_reducible refine TT.e_n ?_
  | with_reducible refine TT.e_opN (by with_unfolding_all rfl) (by with_unfolding_all rfl) ?_
  | with_reducible refine TT.z_call ?_
  | with_reducible refine TT.k_call (by with_unfolding_all rfl) ?_
  | with_reducible refine TT.z_callZ ?_
  | with_reducible refine TT.z_tup ?_
  | with_reducible refine TT.k_tup (by with_unfolding_all rfl) (by wtm_at "szl") ?_
  | with_reducible refine TT.z_ifs ?_
  | with_reducible refine TT.br_t ?_
  | with_reducible refine TT.br_f ?_
  | with_reducible refine TT.e_b ?_
  | with_reducible refine TT.e_bl ?_
  | with_reducible refine TT.e_t ?_
  | with_reducible refine TT.e_tru (by with_unfolding_all rfl) (by with_unfolding_all rfl) ?_
  | with_reducible refine TT.z_and ?_
  | with_reducible refine TT.z_or ?_
  | with_reducible refine TT.z_not ?_
  | with_reducible refine TT.k_not_t ?_
  | with_reducible refine TT.k_not_f ?_
  | with_reducible refine TT.k_not ?_
  | with_reducible refine TT.z_if ?_
  | with_reducible refine TT.w_ret ?_
  | with_reducible refine TT.w_expr ?_
  | with_reducible refine TT.w_next ?_
  | with_reducible refine TT.w_bk ?_
  | with_reducible refine TT.w_ct ?_
  | with_reducible refine TT.z_asg ?_
  | with_reducible refine TT.k_asg (by with_unfolding_all rfl) ?_
  | with_reducible refine TT.z_par2 ?_
  | with_reducible refine TT.k_par2 ?_
  | with_reducible refine TT.z_par3 ?_
  | with_reducible refine TT.k_par3 ?_
  | with_reducible refine TT.z_parN ?_
  | with_reducible refine TT.k_parN (by with_unfolding_all rfl) (by decide) ?_
  | with_reducible refine TT.e_fz ?_
  | with_reducible refine TT.e_own ?_
  | with_reducible refine TT.z_lst ?_
  | with_reducible refine TT.k_lst (by with_unfolding_all rfl) (by wtm_at "szl") ?_
  | with_reducible refine TT.z_andv ?_
  | with_reducible refine TT.z_orv ?_
  | with_reducible refine TT.k_bl ?_
  | with_reducible refine TT.z_chain ?_
  | with_reducible refine TT.z_nl ?_
  | with_reducible refine TT.k_nl (by with_unfolding_all rfl) (by with_unfolding_all rfl) ?_
  | with_reducible refine TT.z_binl ?_
  | with_reducible refine TT.k_binl (by with_unfolding_all rfl) (by with_unfolding_all rfl) (by with_unfolding_all rfl) ?_
  | with_reducible refine TT.z_mut ?_
  | with_reducible refine TT.w_retN ?_
  | with_reducible refine TT.w_aug (by with_unfolding_all rfl) ?_
  | with_reducible refine TT.z_setix ?_
  | with_reducible refine TT.k_setix (by with_unfolding_all rfl) ?_
  | with_reducible refine TT.z_setf ?_
  | with_reducible refine TT.z_raise ?_
  | with_reducible refine TT.k_raise (by with_unfolding_all rfl) (by with_unfolding_all rfl) ?_
  | with_reducible refine TT.z_match ?_
  | with_reducible refine TT.k_match ?_
  | with_reducible refine TT.e_it ?_
  | with_reducible refine TT.e_ita ?_
  | with_reducible refine TT.e_slice ?_
  | with_reducible refine TT.z_ps ?_
  | with_reducible refine TT.k_ps ?_
  | with_reducible refine TT.e_pn ?_
  | with_reducible refine TT.z_lset ?_
  | with_reducible refine TT.e_fld ?_
  | with_reducible refine TT.e_mkF ?_
  | with_reducible refine TT.z_err ?_
  | with_reducible refine TT.k_err (by with_unfolding_all rfl) (by with_unfolding_all rfl) ?_
  | with_reducible refine TT.z_errK ?_
  | with_reducible refine TT.k_errK (by with_unfolding_all rfl) (by with_unfolding_all rfl) ?_
  | with_reducible refine TT.e_efld ?_
  | with_reducible refine TT.k_efld (by with_unfolding_all rfl) ?_
  | (with_reducible apply TT.k_mut; (focus ((with_reducible apply TT.isLst_of; wtm_at "atx"))))
  | (with_reducible apply TT.k_mut2s; (focus (with_unfolding_all rfl)); (focus (wtm_at "atx")); (focus (with_unfolding_all rfl)); (focus (wtm_at "setx")))
  | (with_reducible apply TT.e_op2; (focus (wtm_at "vw")); (focus (wtm_at "vw")); (focus (with_unfolding_all rfl)))
  | (with_reducible apply TT.e_op1; (focus (wtm_at "vw")); (focus (with_unfolding_all rfl)))
  | (with_reducible apply TT.e_opN; (focus (first | with_unfolding_all rfl | (with_reducible apply TT.views1; wtm_at "vwx"))); (focus (with_unfolding_all rfl)))
  | (with_reducible apply TT.k_nl; (focus (first | with_unfolding_all rfl | (with_reducible apply TT.views1; wtm_at "vwx"))); (focus (with_unfolding_all rfl)))
  | (with_reducible apply TT.e_tru; (focus (wtm_at "vw")); (focus (with_unfolding_all rfl))))
local macro_rules | `(tactic| wtm_at "w2") => `(tactic| first
  | with_reducible refine TT.w_set ?_
  | with_reducible refine TT.e_var (by with_unfolding_all rfl) ?_
  | with_reducible refine TT.e_c ?_
  | with_reducible refine TT.e_cons ?_
  | with_reducible refine TT.e_nil ?_
  | with_reducible refine TT.e_bin ?_
  | with_reducible refine TT.e_op2 (by with_unfolding_all rfl) (by with_unfolding_all rfl) (by with_unfolding_all rfl) ?_
  | with_reducible refine TT.e_un ?_
  | with_reducible refine TT.e_op1 (by with_unfolding_all rfl) (by with_unfolding_all rfl) ?_
  | with_reducible refine TT.e_n ?_
  | with_reducible refine TT.e_opN (by with_unfolding_all rfl) (by with_unfolding_all rfl) ?_
  | with_reducible refine TT.z_call ?_
  | with_reducible refine TT.k_call (by with_unfolding_all rfl) ?_
  | with_reducible refine TT.z_callZ ?_
  | with_reducible refine TT.z_tup ?_
  | with_reducible refine TT.k_tup (by with_unfolding_all rfl) (by wtm_at "szl") ?_
  | with_reducible refine TT.z_ifs ?_
  | with_reducible refine TT.br_t ?_
  | with_reducible refine TT.br_f ?_
  | with_reducible refine TT.e_b ?_
  | with_reducible refine TT.e_bl ?_
  | with_reducible refine TT.e_t ?_
  | with_reducible refine TT.e_tru (by with_unfolding_all rfl) (by with_unfolding_all rfl) ?_
  | with_reducible refine TT.z_and ?_
  | with_reducible refine TT.z_or ?_
  | with_reducible refine TT.z_not ?_
  | with_reducible refine TT.k_not_t ?_
  | with_reducible refine TT.k_not_f ?_
  | with_reducible refine TT.k_not ?_
  | with_reducible refine TT.z_if ?_
  | with_reducible refine TT.w_ret ?_
  | with_reducible refine TT.w_expr ?_
  | with_reducible refine TT.w_next ?_
  | with_reducible refine TT.w_bk ?_
  | with_reducible refine TT.w_ct ?_
  | with_reducible refine TT.z_asg ?_
  | with_reducible refine TT.k_asg (by with_unfolding_all rfl) ?_
  | with_reducible refine TT.z_par2 ?_
  | with_reducible refine TT.k_par2 ?_
  | with_reducible refine TT.z_par3 ?_
  | with_reducible refine TT.k_par3 ?_
  | with_reducible refine TT.z_parN ?_
  | with_reducible refine TT.k_parN (by with_unfolding_all rfl) (by decide) ?_
  | with_reducible refine TT.e_fz ?_
  | with_reducible refine TT.e_own ?_
  | with_reducible refine TT.z_lst ?_
  | with_reducible refine TT.k_lst (by with_unfolding_all rfl) (by wtm_at "szl") ?_
  | with_reducible refine TT.z_andv ?_
  | with_reducible refine TT.z_orv ?_
  | with_reducible refine TT.k_bl ?_
  | with_reducible refine TT.z_chain ?_
  | with_reducible refine TT.z_nl ?_
  | with_reducible refine TT.k_nl (by with_unfolding_all rfl) (by with_unfolding_all rfl) ?_
  | with_reducible refine TT.z_binl ?_
  | with_reducible refine TT.k_binl (by with_unfolding_all rfl) (by with_unfolding_all rfl) (by with_unfolding_all rfl) ?_
  | with_reducible refine TT.z_mut ?_
  | with_reducible refine TT.w_retN ?_
  | with_reducible refine TT.w_aug (by with_unfolding_all rfl) ?_
  | with_reducible refine TT.z_setix ?_
  | with_reducible refine TT.k_setix (by with_unfolding_all rfl) ?_
  | with_reducible refine TT.z_setf ?_
  | with_reducible refine TT.z_raise ?_
  | with_reducible refine TT.k_raise (by with_unfolding_all rfl) (by with_unfolding_all rfl) ?_
  | with_reducible refine TT.z_match ?_
  | with_reducible refine TT.k_match ?_
  | with_reducible refine TT.e_it ?_
  | with_reducible refine TT.e_ita ?_
  | with_reducible refine TT.e_slice ?_
  | with_reducible refine TT.z_ps ?_
  | with_reducible refine TT.k_ps ?_
  | with_reducible refine TT.e_pn ?_
  | with_reducible refine TT.z_lset ?_
  | with_reducible refine TT.e_fld ?_
  | with_reducible refine TT.e_mkF ?_
  | with_reducible refine TT.z_err ?_
  | with_reducible refine TT.k_err (by with_unfolding_all rfl) (by with_unfolding_all rfl) ?_
  | with_reducible refine TT.z_errK ?_
  | with_reducible refine TT.k_errK (by with_unfolding_all rfl) (by with_unfolding_all rfl) ?_
  | with_reducible refine TT.e_efld ?_
  | with_reducible refine TT.k_efld (by with_unfolding_all rfl) ?_
  | (with_reducible apply TT.k_mut; (focus ((with_reducible apply TT.isLst_of; wtm_at "atx"))))
  | (with_reducible apply TT.k_mut2s; (focus (with_unfolding_all rfl)); (focus (wtm_at "atx")); (focus (with_unfolding_all rfl)); (focus (wtm_at "setx")))
  | (with_reducible apply TT.e_op2; (focus (wtm_at "vw")); (focus (wtm_at "vw")); (focus (with_unfolding_all rfl)))
  | (with_reducible apply TT.e_op1; (focus (wtm_at "vw")); (focus (with_unfolding_all rfl)))
  | (with_reducible apply TT.e_opN; (focus (first | with_unfolding_all rfl | (with_reducible apply TT.views1; wtm_at "vwx"))); (focus (with_unfolding_all rfl)))
  | (with_reducible apply TT.k_nl; (focus (first | with_unfolding_all rfl | (with_reducible apply TT.views1; wtm_at "vwx"))); (focus (with_unfolding_all rfl)))
  | (with_reducible apply TT.e_tru; (focus (wtm_at "vw")); (focus (with_unfolding_all rfl))))
local macro_rules | `(tactic| wtm_at "wr") => `(tactic| repeat wtm_at "w1")
local macro_rules | `(tactic| wtm_at "wx") => `(tactic| repeat wtm_at "w2")

namespace TT
open PySem L2
variable [TB]
def top (i : Nat) : Stmt := PySem.Challenge.pw_tailtables_k00_errors_apart.main.body.getD i (.Pass ⟨0, 0, 0, 0⟩)
abbrev s_BadFunction___init__ : Stmt := inClass (top 2) 0
theorem sc_BadFunction___init__ : FnScope ["self", "at"] ["self", "at"] (defScope s_BadFunction___init__) := ⟨rfl, rfl, rfl, by decide +kernel, rfl, by decide +kernel, by decide +kernel⟩
abbrev s_BadCase___init__ : Stmt := inClass (top 3) 0
theorem sc_BadCase___init__ : FnScope ["self", "at"] ["self", "at"] (defScope s_BadCase___init__) := ⟨rfl, rfl, rfl, by decide +kernel, rfl, by decide +kernel, by decide +kernel⟩
abbrev s_Twice___init__ : Stmt := inClass (top 4) 0
theorem sc_Twice___init__ : FnScope ["self", "name"] ["self", "name"] (defScope s_Twice___init__) := ⟨rfl, rfl, rfl, by decide +kernel, rfl, by decide +kernel, by decide +kernel⟩
abbrev s_TooLarge___init__ : Stmt := inClass (top 5) 0
theorem sc_TooLarge___init__ : FnScope ["self", "nodes", "deepest"] ["self", "nodes", "deepest"] (defScope s_TooLarge___init__) := ⟨rfl, rfl, rfl, by decide +kernel, rfl, by decide +kernel, by decide +kernel⟩
abbrev s_Unknown___init__ : Stmt := inClass (top 6) 0
theorem sc_Unknown___init__ : FnScope ["self", "name"] ["self", "name"] (defScope s_Unknown___init__) := ⟨rfl, rfl, rfl, by decide +kernel, rfl, by decide +kernel, by decide +kernel⟩
abbrev s_Arity___init__ : Stmt := inClass (top 7) 0
theorem sc_Arity___init__ : FnScope ["self", "name", "given"] ["self", "name", "given"] (defScope s_Arity___init__) := ⟨rfl, rfl, rfl, by decide +kernel, rfl, by decide +kernel, by decide +kernel⟩
abbrev s_Unbound___init__ : Stmt := inClass (top 8) 0
theorem sc_Unbound___init__ : FnScope ["self", "name"] ["self", "name"] (defScope s_Unbound___init__) := ⟨rfl, rfl, rfl, by decide +kernel, rfl, by decide +kernel, by decide +kernel⟩
abbrev s_NoSlot___init__ : Stmt := inClass (top 9) 0
theorem sc_NoSlot___init__ : FnScope ["self", "slot"] ["self", "slot"] (defScope s_NoSlot___init__) := ⟨rfl, rfl, rfl, by decide +kernel, rfl, by decide +kernel, by decide +kernel⟩
abbrev s_Looped___init__ : Stmt := inClass (top 10) 0
theorem sc_Looped___init__ : FnScope ["self", "ring"] ["self", "ring"] (defScope s_Looped___init__) := ⟨rfl, rfl, rfl, by decide +kernel, rfl, by decide +kernel, by decide +kernel⟩
abbrev s_BadValue___init__ : Stmt := inClass (top 11) 0
theorem sc_BadValue___init__ : FnScope ["self", "at"] ["self", "at"] (defScope s_BadValue___init__) := ⟨rfl, rfl, rfl, by decide +kernel, rfl, by decide +kernel, by decide +kernel⟩
abbrev s_BadAnswer___init__ : Stmt := inClass (top 12) 0
theorem sc_BadAnswer___init__ : FnScope ["self", "answer"] ["self", "answer"] (defScope s_BadAnswer___init__) := ⟨rfl, rfl, rfl, by decide +kernel, rfl, by decide +kernel, by decide +kernel⟩
abbrev s_BadScript___init__ : Stmt := inClass (top 13) 0
theorem sc_BadScript___init__ : FnScope ["self", "steps", "bits"] ["self", "steps", "bits"] (defScope s_BadScript___init__) := ⟨rfl, rfl, rfl, by decide +kernel, rfl, by decide +kernel, by decide +kernel⟩
abbrev s_Unlike___init__ : Stmt := inClass (top 14) 0
theorem sc_Unlike___init__ : FnScope ["self", "name"] ["self", "name"] (defScope s_Unlike___init__) := ⟨rfl, rfl, rfl, by decide +kernel, rfl, by decide +kernel, by decide +kernel⟩
abbrev s_Unbounded___init__ : Stmt := inClass (top 15) 0
theorem sc_Unbounded___init__ : FnScope ["self", "name"] ["self", "name"] (defScope s_Unbounded___init__) := ⟨rfl, rfl, rfl, by decide +kernel, rfl, by decide +kernel, by decide +kernel⟩
abbrev s_Silent___init__ : Stmt := inClass (top 16) 0
theorem sc_Silent___init__ : FnScope ["self", "at"] ["self", "at"] (defScope s_Silent___init__) := ⟨rfl, rfl, rfl, by decide +kernel, rfl, by decide +kernel, by decide +kernel⟩
abbrev s_TooMany___init__ : Stmt := inClass (top 17) 0
theorem sc_TooMany___init__ : FnScope ["self", "many"] ["self", "many"] (defScope s_TooMany___init__) := ⟨rfl, rfl, rfl, by decide +kernel, rfl, by decide +kernel, by decide +kernel⟩
abbrev s_cell : Stmt := top 19
theorem sc_cell : FnScope ["_law_script", "_law_place"] ["_law_script", "_law_place"] (defScope s_cell) := ⟨rfl, rfl, rfl, by decide +kernel, rfl, by decide +kernel, by decide +kernel⟩
abbrev s_kinds : Stmt := top 20
theorem sc_kinds : FnScope ["_law_e", "_law_found"] ["_law_e"] (defScope s_kinds) := ⟨rfl, rfl, rfl, by decide +kernel, rfl, by decide +kernel, by decide +kernel⟩
abbrev s_fields : Stmt := top 21
theorem sc_fields : FnScope ["_law_row", "_law_found"] ["_law_row"] (defScope s_fields) := ⟨rfl, rfl, rfl, by decide +kernel, rfl, by decide +kernel, by decide +kernel⟩
abbrev s_law : Stmt := top 22
theorem sc_law : FnScope ["_law_script", "_law_turn", "_law_a", "_law_b", "_law_c", "_law_one", "_law_two", "_law_due", "_law_row", "_law_k", "_law_e", "_law_j"] ["_law_script"] (defScope s_law) := ⟨rfl, rfl, rfl, by decide +kernel, rfl, by decide +kernel, by decide +kernel⟩
structure Ad where
  (bad cas twice large unk ar unb slot loop val ans scr unl unbd sil many tab : Addr)
abbrev errsOf (c : Ad) : List Addr := [c.bad, c.cas, c.twice, c.large, c.unk, c.ar, c.unb, c.slot, c.loop, c.val, c.ans, c.scr, c.unl, c.unbd, c.sil, c.many]
structure Txt (K : PySem.W.Frag) (mg : Str → Option Value) : Prop where
  n_len : mg "len" = none
  n_int : mg "int" = none
  n_str : mg "str" = none
  n_enumerate : mg "enumerate" = none
  n_range : mg "range" = none
  n_min : mg "min" = none
  n_max : mg "max" = none
  n_isinstance : mg "isinstance" = none
  n_repr : mg "repr" = none
  n_ValueError : mg "ValueError" = none
structure Fct (P : Program) (w : World) (K : PySem.W.Frag) (mg : Str → Option Value) (base : Heap) (c : Ad) : Prop where
  x_BadFunction : Exc P w K mg base 1 "BadFunction" c.bad 1 (spX1 c.bad "at")
  xk_BadFunction : ExcK P w K mg base 1 "BadFunction" c.bad ["at"] false (spX1 c.bad "at")
  g_BadFunction : mg "BadFunction" = some (.ref c.bad)
  xf_BadFunction : XfC K c.bad
  xn_BadFunction_at : PySem.W.findIn K (.ref c.bad) "at" = some none
  ko_BadFunction : ∀ C ∈ errsOf c, ExcC K C ∧ PySem.W.kitOne K (.ref C) (.ref c.bad) = some (decide (C = c.bad))
  x_BadCase : Exc P w K mg base 1 "BadCase" c.cas 1 (spX1 c.cas "at")
  xk_BadCase : ExcK P w K mg base 1 "BadCase" c.cas ["at"] false (spX1 c.cas "at")
  g_BadCase : mg "BadCase" = some (.ref c.cas)
  xf_BadCase : XfC K c.cas
  xn_BadCase_at : PySem.W.findIn K (.ref c.cas) "at" = some none
  ko_BadCase : ∀ C ∈ errsOf c, ExcC K C ∧ PySem.W.kitOne K (.ref C) (.ref c.cas) = some (decide (C = c.cas))
  x_Twice : Exc P w K mg base 1 "Twice" c.twice 1 (spX1 c.twice "name")
  xk_Twice : ExcK P w K mg base 1 "Twice" c.twice ["name"] false (spX1 c.twice "name")
  g_Twice : mg "Twice" = some (.ref c.twice)
  xf_Twice : XfC K c.twice
  xn_Twice_name : PySem.W.findIn K (.ref c.twice) "name" = some none
  ko_Twice : ∀ C ∈ errsOf c, ExcC K C ∧ PySem.W.kitOne K (.ref C) (.ref c.twice) = some (decide (C = c.twice))
  x_TooLarge : Exc P w K mg base 1 "TooLarge" c.large 2 (spX2 c.large "nodes" "deepest")
  xk_TooLarge : ExcK P w K mg base 1 "TooLarge" c.large ["deepest", "nodes"] true (spX2 c.large "nodes" "deepest")
  g_TooLarge : mg "TooLarge" = some (.ref c.large)
  xf_TooLarge : XfC K c.large
  xn_TooLarge_nodes : PySem.W.findIn K (.ref c.large) "nodes" = some none
  xn_TooLarge_deepest : PySem.W.findIn K (.ref c.large) "deepest" = some none
  ko_TooLarge : ∀ C ∈ errsOf c, ExcC K C ∧ PySem.W.kitOne K (.ref C) (.ref c.large) = some (decide (C = c.large))
  x_Unknown : Exc P w K mg base 1 "Unknown" c.unk 1 (spX1 c.unk "name")
  xk_Unknown : ExcK P w K mg base 1 "Unknown" c.unk ["name"] false (spX1 c.unk "name")
  g_Unknown : mg "Unknown" = some (.ref c.unk)
  xf_Unknown : XfC K c.unk
  xn_Unknown_name : PySem.W.findIn K (.ref c.unk) "name" = some none
  ko_Unknown : ∀ C ∈ errsOf c, ExcC K C ∧ PySem.W.kitOne K (.ref C) (.ref c.unk) = some (decide (C = c.unk))
  x_Arity : Exc P w K mg base 1 "Arity" c.ar 2 (spX2 c.ar "name" "given")
  xk_Arity : ExcK P w K mg base 1 "Arity" c.ar ["given", "name"] true (spX2 c.ar "name" "given")
  g_Arity : mg "Arity" = some (.ref c.ar)
  xf_Arity : XfC K c.ar
  xn_Arity_name : PySem.W.findIn K (.ref c.ar) "name" = some none
  xn_Arity_given : PySem.W.findIn K (.ref c.ar) "given" = some none
  ko_Arity : ∀ C ∈ errsOf c, ExcC K C ∧ PySem.W.kitOne K (.ref C) (.ref c.ar) = some (decide (C = c.ar))
  x_Unbound : Exc P w K mg base 1 "Unbound" c.unb 1 (spX1 c.unb "name")
  xk_Unbound : ExcK P w K mg base 1 "Unbound" c.unb ["name"] false (spX1 c.unb "name")
  g_Unbound : mg "Unbound" = some (.ref c.unb)
  xf_Unbound : XfC K c.unb
  xn_Unbound_name : PySem.W.findIn K (.ref c.unb) "name" = some none
  ko_Unbound : ∀ C ∈ errsOf c, ExcC K C ∧ PySem.W.kitOne K (.ref C) (.ref c.unb) = some (decide (C = c.unb))
  x_NoSlot : Exc P w K mg base 1 "NoSlot" c.slot 1 (spX1 c.slot "slot")
  xk_NoSlot : ExcK P w K mg base 1 "NoSlot" c.slot ["slot"] false (spX1 c.slot "slot")
  g_NoSlot : mg "NoSlot" = some (.ref c.slot)
  xf_NoSlot : XfC K c.slot
  xn_NoSlot_slot : PySem.W.findIn K (.ref c.slot) "slot" = some none
  ko_NoSlot : ∀ C ∈ errsOf c, ExcC K C ∧ PySem.W.kitOne K (.ref C) (.ref c.slot) = some (decide (C = c.slot))
  x_Looped : Exc P w K mg base 1 "Looped" c.loop 1 (spX1 c.loop "ring")
  xk_Looped : ExcK P w K mg base 1 "Looped" c.loop ["ring"] false (spX1 c.loop "ring")
  g_Looped : mg "Looped" = some (.ref c.loop)
  xf_Looped : XfC K c.loop
  xn_Looped_ring : PySem.W.findIn K (.ref c.loop) "ring" = some none
  ko_Looped : ∀ C ∈ errsOf c, ExcC K C ∧ PySem.W.kitOne K (.ref C) (.ref c.loop) = some (decide (C = c.loop))
  x_BadValue : Exc P w K mg base 1 "BadValue" c.val 1 (spX1 c.val "at")
  xk_BadValue : ExcK P w K mg base 1 "BadValue" c.val ["at"] false (spX1 c.val "at")
  g_BadValue : mg "BadValue" = some (.ref c.val)
  xf_BadValue : XfC K c.val
  xn_BadValue_at : PySem.W.findIn K (.ref c.val) "at" = some none
  ko_BadValue : ∀ C ∈ errsOf c, ExcC K C ∧ PySem.W.kitOne K (.ref C) (.ref c.val) = some (decide (C = c.val))
  x_BadAnswer : Exc P w K mg base 1 "BadAnswer" c.ans 1 (spX1 c.ans "answer")
  xk_BadAnswer : ExcK P w K mg base 1 "BadAnswer" c.ans ["answer"] false (spX1 c.ans "answer")
  g_BadAnswer : mg "BadAnswer" = some (.ref c.ans)
  xf_BadAnswer : XfC K c.ans
  xn_BadAnswer_answer : PySem.W.findIn K (.ref c.ans) "answer" = some none
  ko_BadAnswer : ∀ C ∈ errsOf c, ExcC K C ∧ PySem.W.kitOne K (.ref C) (.ref c.ans) = some (decide (C = c.ans))
  x_BadScript : Exc P w K mg base 1 "BadScript" c.scr 2 (spX2 c.scr "steps" "bits")
  xk_BadScript : ExcK P w K mg base 1 "BadScript" c.scr ["bits", "steps"] true (spX2 c.scr "steps" "bits")
  g_BadScript : mg "BadScript" = some (.ref c.scr)
  xf_BadScript : XfC K c.scr
  xn_BadScript_steps : PySem.W.findIn K (.ref c.scr) "steps" = some none
  xn_BadScript_bits : PySem.W.findIn K (.ref c.scr) "bits" = some none
  ko_BadScript : ∀ C ∈ errsOf c, ExcC K C ∧ PySem.W.kitOne K (.ref C) (.ref c.scr) = some (decide (C = c.scr))
  x_Unlike : Exc P w K mg base 1 "Unlike" c.unl 1 (spX1 c.unl "name")
  xk_Unlike : ExcK P w K mg base 1 "Unlike" c.unl ["name"] false (spX1 c.unl "name")
  g_Unlike : mg "Unlike" = some (.ref c.unl)
  xf_Unlike : XfC K c.unl
  xn_Unlike_name : PySem.W.findIn K (.ref c.unl) "name" = some none
  ko_Unlike : ∀ C ∈ errsOf c, ExcC K C ∧ PySem.W.kitOne K (.ref C) (.ref c.unl) = some (decide (C = c.unl))
  x_Unbounded : Exc P w K mg base 1 "Unbounded" c.unbd 1 (spX1 c.unbd "name")
  xk_Unbounded : ExcK P w K mg base 1 "Unbounded" c.unbd ["name"] false (spX1 c.unbd "name")
  g_Unbounded : mg "Unbounded" = some (.ref c.unbd)
  xf_Unbounded : XfC K c.unbd
  xn_Unbounded_name : PySem.W.findIn K (.ref c.unbd) "name" = some none
  ko_Unbounded : ∀ C ∈ errsOf c, ExcC K C ∧ PySem.W.kitOne K (.ref C) (.ref c.unbd) = some (decide (C = c.unbd))
  x_Silent : Exc P w K mg base 1 "Silent" c.sil 1 (spX1 c.sil "at")
  xk_Silent : ExcK P w K mg base 1 "Silent" c.sil ["at"] false (spX1 c.sil "at")
  g_Silent : mg "Silent" = some (.ref c.sil)
  xf_Silent : XfC K c.sil
  xn_Silent_at : PySem.W.findIn K (.ref c.sil) "at" = some none
  ko_Silent : ∀ C ∈ errsOf c, ExcC K C ∧ PySem.W.kitOne K (.ref C) (.ref c.sil) = some (decide (C = c.sil))
  x_TooMany : Exc P w K mg base 1 "TooMany" c.many 1 (spX1 c.many "many")
  xk_TooMany : ExcK P w K mg base 1 "TooMany" c.many ["many"] false (spX1 c.many "many")
  g_TooMany : mg "TooMany" = some (.ref c.many)
  xf_TooMany : XfC K c.many
  xn_TooMany_many : PySem.W.findIn K (.ref c.many) "many" = some none
  ko_TooMany : ∀ C ∈ errsOf c, ExcC K C ∧ PySem.W.kitOne K (.ref C) (.ref c.many) = some (decide (C = c.many))
  g_TablesError : mg "TablesError" = some (.ref c.tab)
  ko_TablesError : ∀ C ∈ errsOf c, ExcC K C ∧ PySem.W.kitOne K (.ref C) (.ref c.tab) = some true
  ko_ValueError : ∀ C ∈ errsOf c, ExcC K C ∧ PySem.W.kitOne K (.ref C) (.type "ValueError") = some true
def excB (K : PySem.W.Frag) (D : Addr) : Bool := decide (PySem.W.findIn K (.ref D) "__getattribute__" = some (some (.builtin "BaseException.__getattribute__"))) && (decide (PySem.W.findIn K (.ref D) "__getattr__" = some none) && (decide (PySem.W.subIn K (.ref D) (.type "BaseException") = some true) && (PySem.W.hasDictIn K D && (decide (PySem.W.findIn K (.ref D) "__class__" = some (some (.builtin "object.__class__"))) && (decide (PySem.W.specialIn K (.builtin "object.__class__") "__get__" = some (some (.builtin "getset_descriptor.__get__"))) && (decide (PySem.W.takesIn K (.builtin "object.__class__") = some true) && decide (PySem.W.mroIn K D (.type "object") = some true)))))))
theorem excB_ok {K : PySem.W.Frag} {D : Addr} (h : excB K D = true) : ExcC K D := by
  unfold excB at h
  simp only [Bool.and_eq_true, decide_eq_true_eq] at h
  obtain ⟨h1, h2, h3, h4, h5, h6, h7, h8⟩ := h
  exact ⟨h1, h2, h3, h4, h5, h6, h7, h8⟩
section
variable {P : Program} {w : World} {K : PySem.W.Frag} {mg : Str → Option Value} {base : Heap} {c : Ad}
noncomputable def b_cell : MS :=
  (mRet (mIf (mB (mBin ltI (mVar 1) (mN (one lenD) (mCons (mVar 0) mNil)))) (mBin modD (mN (one intD) (mCons (mBin ixD (mVar 0) (mVar 1)) mNil)) (mBin powD (mC (.int 10)) (mC (.int 40)))) (mBin addD (mC (.int 7)) (mVar 1))))
theorem f_cell {k : Nat} (D : Def K mg "_law_cell" s_cell ["_law_script", "_law_place"]) (T : Txt K mg)     : Fn P w K mg base (k + 1) "_law_cell" 2 (fnT true 2 (b_cell)) :=
  D.mini sc_cell rfl fun f cdv A outer s H E hg hr =>
    (fss_one (fs_ret (fe_ifExp (ft_cmp op_lt d_lt (mv 1) (fe_callB call_len c_len (by rfl) T.n_len (by decide +kernel) (fa_cons (mv 0) fa_nil)) (nomark _)) (fe_op op_mod d_mod (fe_callTy call_int1 c_int (by rfl) T.n_int (by decide +kernel) (fa_cons (fe_ix ix_seq d_ix (mv 0) (mv 1) (fun _ _ => rfl)) fa_nil)) (fe_op op_pow d_pow fe_int fe_int)) (fe_op o_add d_add fe_int (mv 1)))))
noncomputable def b_kinds (c : Ad) : MS :=
  (mSeq (mAsg (mFz (mLst (mCons (mN (isOG (errsOf c) c.bad (fun C => decide (C = c.bad))) (mCons (mVar 0) (mCons (mC (.gl c.bad)) mNil))) (mCons (mN (isOG (errsOf c) c.cas (fun C => decide (C = c.cas))) (mCons (mVar 0) (mCons (mC (.gl c.cas)) mNil))) (mCons (mN (isOG (errsOf c) c.twice (fun C => decide (C = c.twice))) (mCons (mVar 0) (mCons (mC (.gl c.twice)) mNil))) (mCons (mN (isOG (errsOf c) c.large (fun C => decide (C = c.large))) (mCons (mVar 0) (mCons (mC (.gl c.large)) mNil))) mNil)))))) (gN 1))
  (mSeq (mAsg (mBin addD (mVar 1) (mFz (mLst (mCons (mN (isOG (errsOf c) c.unk (fun C => decide (C = c.unk))) (mCons (mVar 0) (mCons (mC (.gl c.unk)) mNil))) (mCons (mN (isOG (errsOf c) c.ar (fun C => decide (C = c.ar))) (mCons (mVar 0) (mCons (mC (.gl c.ar)) mNil))) (mCons (mN (isOG (errsOf c) c.unb (fun C => decide (C = c.unb))) (mCons (mVar 0) (mCons (mC (.gl c.unb)) mNil))) (mCons (mN (isOG (errsOf c) c.slot (fun C => decide (C = c.slot))) (mCons (mVar 0) (mCons (mC (.gl c.slot)) mNil))) mNil))))))) (gN 1))
  (mSeq (mAsg (mBin addD (mVar 1) (mFz (mLst (mCons (mN (isOG (errsOf c) c.loop (fun C => decide (C = c.loop))) (mCons (mVar 0) (mCons (mC (.gl c.loop)) mNil))) (mCons (mN (isOG (errsOf c) c.val (fun C => decide (C = c.val))) (mCons (mVar 0) (mCons (mC (.gl c.val)) mNil))) (mCons (mN (isOG (errsOf c) c.ans (fun C => decide (C = c.ans))) (mCons (mVar 0) (mCons (mC (.gl c.ans)) mNil))) mNil)))))) (gN 1))
  (mSeq (mAsg (mBin addD (mVar 1) (mFz (mLst (mCons (mN (isOG (errsOf c) c.scr (fun C => decide (C = c.scr))) (mCons (mVar 0) (mCons (mC (.gl c.scr)) mNil))) (mCons (mN (isOG (errsOf c) c.unl (fun C => decide (C = c.unl))) (mCons (mVar 0) (mCons (mC (.gl c.unl)) mNil))) (mCons (mN (isOG (errsOf c) c.unbd (fun C => decide (C = c.unbd))) (mCons (mVar 0) (mCons (mC (.gl c.unbd)) mNil))) mNil)))))) (gN 1))
  (mRet (mBin addD (mVar 1) (mFz (mLst (mCons (mN (isOG (errsOf c) c.sil (fun C => decide (C = c.sil))) (mCons (mVar 0) (mCons (mC (.gl c.sil)) mNil))) (mCons (mN (isOG (errsOf c) c.many (fun C => decide (C = c.many))) (mCons (mVar 0) (mCons (mC (.gl c.many)) mNil))) mNil))))))))))
theorem f_kinds {c : Ad} {k : Nat} (D : Def K mg "_law_kinds" s_kinds ["_law_e"]) (T : Txt K mg) (XC : Fct P w K mg base c)     : Fn P w K mg base (k + 1) "_law_kinds" 1 (fnT true 2 (b_kinds c)) :=
  D.mini sc_kinds rfl fun f cdv A outer s H E hg hr =>
    (fss_cons (fs_set (i := 1) sc_kinds.nd rfl (by first | exact Or.inl rfl | exact Or.inr rfl) (fe_fz (fl_lst (fa_cons (fe_callB call_isO (c_isOG XC.ko_BadFunction) (by rfl) T.n_isinstance (by decide +kernel) (fa_cons (mv 0) (fa_cons (fe_gfn XC.g_BadFunction) fa_nil))) (fa_cons (fe_callB call_isO (c_isOG XC.ko_BadCase) (by rfl) T.n_isinstance (by decide +kernel) (fa_cons (mv 0) (fa_cons (fe_gfn XC.g_BadCase) fa_nil))) (fa_cons (fe_callB call_isO (c_isOG XC.ko_Twice) (by rfl) T.n_isinstance (by decide +kernel) (fa_cons (mv 0) (fa_cons (fe_gfn XC.g_Twice) fa_nil))) (fa_cons (fe_callB call_isO (c_isOG XC.ko_TooLarge) (by rfl) T.n_isinstance (by decide +kernel) (fa_cons (mv 0) (fa_cons (fe_gfn XC.g_TooLarge) fa_nil))) fa_nil)))))))
      (fss_cons (fs_set (i := 1) sc_kinds.nd rfl (by first | exact Or.inl rfl | exact Or.inr rfl) (fe_op o_add d_add (mv 1) (fe_fz (fl_lst (fa_cons (fe_callB call_isO (c_isOG XC.ko_Unknown) (by rfl) T.n_isinstance (by decide +kernel) (fa_cons (mv 0) (fa_cons (fe_gfn XC.g_Unknown) fa_nil))) (fa_cons (fe_callB call_isO (c_isOG XC.ko_Arity) (by rfl) T.n_isinstance (by decide +kernel) (fa_cons (mv 0) (fa_cons (fe_gfn XC.g_Arity) fa_nil))) (fa_cons (fe_callB call_isO (c_isOG XC.ko_Unbound) (by rfl) T.n_isinstance (by decide +kernel) (fa_cons (mv 0) (fa_cons (fe_gfn XC.g_Unbound) fa_nil))) (fa_cons (fe_callB call_isO (c_isOG XC.ko_NoSlot) (by rfl) T.n_isinstance (by decide +kernel) (fa_cons (mv 0) (fa_cons (fe_gfn XC.g_NoSlot) fa_nil))) fa_nil))))))))
      (fss_cons (fs_set (i := 1) sc_kinds.nd rfl (by first | exact Or.inl rfl | exact Or.inr rfl) (fe_op o_add d_add (mv 1) (fe_fz (fl_lst (fa_cons (fe_callB call_isO (c_isOG XC.ko_Looped) (by rfl) T.n_isinstance (by decide +kernel) (fa_cons (mv 0) (fa_cons (fe_gfn XC.g_Looped) fa_nil))) (fa_cons (fe_callB call_isO (c_isOG XC.ko_BadValue) (by rfl) T.n_isinstance (by decide +kernel) (fa_cons (mv 0) (fa_cons (fe_gfn XC.g_BadValue) fa_nil))) (fa_cons (fe_callB call_isO (c_isOG XC.ko_BadAnswer) (by rfl) T.n_isinstance (by decide +kernel) (fa_cons (mv 0) (fa_cons (fe_gfn XC.g_BadAnswer) fa_nil))) fa_nil)))))))
      (fss_cons (fs_set (i := 1) sc_kinds.nd rfl (by first | exact Or.inl rfl | exact Or.inr rfl) (fe_op o_add d_add (mv 1) (fe_fz (fl_lst (fa_cons (fe_callB call_isO (c_isOG XC.ko_BadScript) (by rfl) T.n_isinstance (by decide +kernel) (fa_cons (mv 0) (fa_cons (fe_gfn XC.g_BadScript) fa_nil))) (fa_cons (fe_callB call_isO (c_isOG XC.ko_Unlike) (by rfl) T.n_isinstance (by decide +kernel) (fa_cons (mv 0) (fa_cons (fe_gfn XC.g_Unlike) fa_nil))) (fa_cons (fe_callB call_isO (c_isOG XC.ko_Unbounded) (by rfl) T.n_isinstance (by decide +kernel) (fa_cons (mv 0) (fa_cons (fe_gfn XC.g_Unbounded) fa_nil))) fa_nil)))))))
      (fss_one (fs_ret (fe_op o_add d_add (mv 1) (fe_fz (fl_lst (fa_cons (fe_callB call_isO (c_isOG XC.ko_Silent) (by rfl) T.n_isinstance (by decide +kernel) (fa_cons (mv 0) (fa_cons (fe_gfn XC.g_Silent) fa_nil))) (fa_cons (fe_callB call_isO (c_isOG XC.ko_TooMany) (by rfl) T.n_isinstance (by decide +kernel) (fa_cons (mv 0) (fa_cons (fe_gfn XC.g_TooMany) fa_nil))) fa_nil)))))))))))
noncomputable def b_fields (c : Ad) : MS :=
  (mSeq (mAsg (mFz (mLst (mCons (mEFld c.bad "at" (mBin ixD (mVar 0) (mC (.int 0)))) (mCons (mEFld c.cas "at" (mBin ixD (mVar 0) (mC (.int 1)))) (mCons (mEFld c.twice "name" (mBin ixD (mVar 0) (mC (.int 2)))) (mCons (mTup (mCons (mEFld c.large "nodes" (mBin ixD (mVar 0) (mC (.int 3)))) (mCons (mEFld c.large "deepest" (mBin ixD (mVar 0) (mC (.int 3)))) mNil))) (mCons (mEFld c.unk "name" (mBin ixD (mVar 0) (mC (.int 4)))) mNil))))))) (gN 1))
  (mSeq (mAsg (mBin addD (mVar 1) (mFz (mLst (mCons (mTup (mCons (mEFld c.ar "name" (mBin ixD (mVar 0) (mC (.int 5)))) (mCons (mEFld c.ar "given" (mBin ixD (mVar 0) (mC (.int 5)))) mNil))) (mCons (mEFld c.unb "name" (mBin ixD (mVar 0) (mC (.int 6)))) (mCons (mEFld c.slot "slot" (mBin ixD (mVar 0) (mC (.int 7)))) (mCons (mEFld c.loop "ring" (mBin ixD (mVar 0) (mC (.int 8)))) (mCons (mEFld c.val "at" (mBin ixD (mVar 0) (mC (.int 9)))) mNil)))))))) (gN 1))
  (mSeq (mAsg (mBin addD (mVar 1) (mFz (mLst (mCons (mEFld c.ans "answer" (mBin ixD (mVar 0) (mC (.int 10)))) (mCons (mTup (mCons (mEFld c.scr "steps" (mBin ixD (mVar 0) (mC (.int 11)))) (mCons (mEFld c.scr "bits" (mBin ixD (mVar 0) (mC (.int 11)))) mNil))) (mCons (mEFld c.unl "name" (mBin ixD (mVar 0) (mC (.int 12)))) (mCons (mEFld c.unbd "name" (mBin ixD (mVar 0) (mC (.int 13)))) (mCons (mEFld c.sil "at" (mBin ixD (mVar 0) (mC (.int 14)))) mNil)))))))) (gN 1))
  (mRet (mBin addD (mVar 1) (mFz (mLst (mCons (mEFld c.many "many" (mBin ixD (mVar 0) (mC (.int 15)))) mNil))))))))
theorem f_fields {c : Ad} {k : Nat} (D : Def K mg "_law_fields" s_fields ["_law_row"]) (T : Txt K mg) (XC : Fct P w K mg base c)     : Fn P w K mg base (k + 1) "_law_fields" 1 (fnT true 2 (b_fields c)) :=
  D.mini sc_fields rfl fun f cdv A outer s H E hg hr =>
    (fss_cons (fs_set (i := 1) sc_fields.nd rfl (by first | exact Or.inl rfl | exact Or.inr rfl) (fe_fz (fl_lst (fa_cons (fe_efld XC.xf_BadFunction XC.xn_BadFunction_at (fe_ix ix_seq d_ix (mv 0) fe_int (fun _ _ => rfl))) (fa_cons (fe_efld XC.xf_BadCase XC.xn_BadCase_at (fe_ix ix_seq d_ix (mv 0) fe_int (fun _ _ => rfl))) (fa_cons (fe_efld XC.xf_Twice XC.xn_Twice_name (fe_ix ix_seq d_ix (mv 0) fe_int (fun _ _ => rfl))) (fa_cons (fe_tup (fa_cons (fe_efld XC.xf_TooLarge XC.xn_TooLarge_nodes (fe_ix ix_seq d_ix (mv 0) fe_int (fun _ _ => rfl))) (fa_cons (fe_efld XC.xf_TooLarge XC.xn_TooLarge_deepest (fe_ix ix_seq d_ix (mv 0) fe_int (fun _ _ => rfl))) fa_nil))) (fa_cons (fe_efld XC.xf_Unknown XC.xn_Unknown_name (fe_ix ix_seq d_ix (mv 0) fe_int (fun _ _ => rfl))) fa_nil))))))))
      (fss_cons (fs_set (i := 1) sc_fields.nd rfl (by first | exact Or.inl rfl | exact Or.inr rfl) (fe_op o_add d_add (mv 1) (fe_fz (fl_lst (fa_cons (fe_tup (fa_cons (fe_efld XC.xf_Arity XC.xn_Arity_name (fe_ix ix_seq d_ix (mv 0) fe_int (fun _ _ => rfl))) (fa_cons (fe_efld XC.xf_Arity XC.xn_Arity_given (fe_ix ix_seq d_ix (mv 0) fe_int (fun _ _ => rfl))) fa_nil))) (fa_cons (fe_efld XC.xf_Unbound XC.xn_Unbound_name (fe_ix ix_seq d_ix (mv 0) fe_int (fun _ _ => rfl))) (fa_cons (fe_efld XC.xf_NoSlot XC.xn_NoSlot_slot (fe_ix ix_seq d_ix (mv 0) fe_int (fun _ _ => rfl))) (fa_cons (fe_efld XC.xf_Looped XC.xn_Looped_ring (fe_ix ix_seq d_ix (mv 0) fe_int (fun _ _ => rfl))) (fa_cons (fe_efld XC.xf_BadValue XC.xn_BadValue_at (fe_ix ix_seq d_ix (mv 0) fe_int (fun _ _ => rfl))) fa_nil)))))))))
      (fss_cons (fs_set (i := 1) sc_fields.nd rfl (by first | exact Or.inl rfl | exact Or.inr rfl) (fe_op o_add d_add (mv 1) (fe_fz (fl_lst (fa_cons (fe_efld XC.xf_BadAnswer XC.xn_BadAnswer_answer (fe_ix ix_seq d_ix (mv 0) fe_int (fun _ _ => rfl))) (fa_cons (fe_tup (fa_cons (fe_efld XC.xf_BadScript XC.xn_BadScript_steps (fe_ix ix_seq d_ix (mv 0) fe_int (fun _ _ => rfl))) (fa_cons (fe_efld XC.xf_BadScript XC.xn_BadScript_bits (fe_ix ix_seq d_ix (mv 0) fe_int (fun _ _ => rfl))) fa_nil))) (fa_cons (fe_efld XC.xf_Unlike XC.xn_Unlike_name (fe_ix ix_seq d_ix (mv 0) fe_int (fun _ _ => rfl))) (fa_cons (fe_efld XC.xf_Unbounded XC.xn_Unbounded_name (fe_ix ix_seq d_ix (mv 0) fe_int (fun _ _ => rfl))) (fa_cons (fe_efld XC.xf_Silent XC.xn_Silent_at (fe_ix ix_seq d_ix (mv 0) fe_int (fun _ _ => rfl))) fa_nil)))))))))
      (fss_one (fs_ret (fe_op o_add d_add (mv 1) (fe_fz (fl_lst (fa_cons (fe_efld XC.xf_TooMany XC.xn_TooMany_many (fe_ix ix_seq d_ix (mv 0) fe_int (fun _ _ => rfl))) fa_nil)))))))))
noncomputable def b_law (c : Ad) (F_kinds F_fields F_cell : MF) : MS :=
  (mSeq (mFor (mItA rng1 (mCons (mN max2 (mCons (mC (.int 1)) (mCons (mN min2 (mCons (mC (.int 3)) (mCons (mN (one lenD) (mCons (mVar 0) mNil)) mNil))) mNil))) mNil)) (gN 1) (mSeq (mPar2 2 3 (mCons (mCall F_cell 2 (mCons (mVar 0) (mCons (mVar 1) mNil))) (mCons (mCall F_cell 2 (mCons (mVar 0) (mCons (mBin addD (mVar 1) (mC (.int 1))) mNil))) mNil)))
  (mSeq (mAsg (mTup (mCons (mN strI (mCons (mVar 2) mNil)) (mCons (mVar 3) mNil))) (gN 4))
  (mSeq (mAsg (mFz (mLst (mCons (mErr c.bad ["at"] (mCons (mVar 2) mNil)) (mCons (mErr c.cas ["at"] (mCons (mVar 3) mNil)) (mCons (mErr c.twice ["name"] (mCons (mVar 4) mNil)) (mCons (mErr c.large ["nodes", "deepest"] (mCons (mVar 2) (mCons (mVar 3) mNil))) (mCons (mErr c.unk ["name"] (mCons (mVar 4) mNil)) (mCons (mErr c.ar ["name", "given"] (mCons (mVar 4) (mCons (mVar 3) mNil))) (mCons (mErr c.unb ["name"] (mCons (mVar 4) mNil)) (mCons (mErr c.slot ["slot"] (mCons (mVar 2) mNil)) mNil)))))))))) (gN 5))
  (mSeq (mFzB 5 (mSeq (mAsg (mOwn (mBinL addLL (mVar 5) (mFz (mLst (mCons (mErr c.loop ["ring"] (mCons (mVar 4) mNil)) (mCons (mErr c.val ["at"] (mCons (mVar 2) mNil)) (mCons (mErr c.ans ["answer"] (mCons (mVar 4) mNil)) (mCons (mErr c.scr ["steps", "bits"] (mCons (mVar 2) (mCons (mVar 4) mNil))) (mCons (mErr c.unl ["name"] (mCons (mVar 4) mNil)) (mCons (mErr c.unbd ["name"] (mCons (mVar 4) mNil)) (mCons (mErr c.sil ["at"] (mCons (mC .non) mNil)) mNil))))))))))) (gN 5)) (mExpr (mMut apD (mVar 5) (mCons (mErr c.many ["many"] (mCons (mVar 3) mNil)) mNil)))))
  (mSeq (mAsg (mFz (mLst (mCons (mErrK c.bad ["at"] false (mCons (mVar 2) mNil)) (mCons (mErrK c.cas ["at"] false (mCons (mVar 3) mNil)) (mCons (mErrK c.twice ["name"] false (mCons (mVar 4) mNil)) (mCons (mErrK c.large ["nodes", "deepest"] true (mCons (mVar 3) (mCons (mVar 2) mNil))) (mCons (mErrK c.unk ["name"] false (mCons (mVar 4) mNil)) mNil))))))) (gN 6))
  (mSeq (mAsg (mBin addD (mVar 6) (mFz (mLst (mCons (mErrK c.ar ["name", "given"] true (mCons (mVar 3) (mCons (mVar 4) mNil))) (mCons (mErrK c.unb ["name"] false (mCons (mVar 4) mNil)) (mCons (mErrK c.slot ["slot"] false (mCons (mVar 2) mNil)) (mCons (mErrK c.loop ["ring"] false (mCons (mVar 4) mNil)) (mCons (mErrK c.val ["at"] false (mCons (mVar 2) mNil)) mNil)))))))) (gN 6))
  (mSeq (mAsg (mBin addD (mVar 6) (mFz (mLst (mCons (mErrK c.ans ["answer"] false (mCons (mVar 4) mNil)) (mCons (mErrK c.scr ["steps", "bits"] true (mCons (mVar 4) (mCons (mVar 2) mNil))) (mCons (mErrK c.unl ["name"] false (mCons (mVar 4) mNil)) (mCons (mErrK c.unbd ["name"] false (mCons (mVar 4) mNil)) mNil))))))) (gN 6))
  (mSeq (mAsg (mBin addD (mVar 6) (mFz (mLst (mCons (mErrK c.sil ["at"] false (mCons (mC .non) mNil)) (mCons (mErrK c.many ["many"] false (mCons (mVar 3) mNil)) mNil))))) (gN 6))
  (mSeq (mAsg (mFz (mLst (mCons (mVar 2) (mCons (mVar 3) (mCons (mVar 4) (mCons (mTup (mCons (mVar 2) (mCons (mVar 3) mNil))) (mCons (mVar 4) (mCons (mTup (mCons (mVar 4) (mCons (mVar 3) mNil))) (mCons (mVar 4) (mCons (mVar 2) (mCons (mVar 4) (mCons (mVar 2) (mCons (mVar 4) (mCons (mTup (mCons (mVar 2) (mCons (mVar 4) mNil))) (mCons (mVar 4) (mCons (mVar 4) (mCons (mC .non) (mCons (mVar 3) mNil)))))))))))))))))) (gN 7))
  (mFor (mIt (mFz (mLst (mCons (mVar 5) (mCons (mVar 6) mNil))))) (gN 8) (mSeq (mIfS (mB (mBin neD (mN (one reprD) (mCons (mCall F_fields 1 (mCons (mVar 8) mNil)) mNil)) (mN (one reprD) (mCons (mVar 7) mNil)))) (mRet (mC (.bl false))) mNext)
  (mFor (mItA enumOf (mCons (mVar 8) mNil)) (gT 2 (gC (gN 9) (gC (gN 10) gE))) (mSeq (mIfS (mOr (mNot (mT (mN (isOG (errsOf c) c.tab (fun _ => true)) (mCons (mVar 10) (mCons (mC (.gl c.tab)) mNil))))) (mNot (mT (mN (isOT (errsOf c) "ValueError" (fun _ => true)) (mCons (mVar 10) (mCons (mC (.ty "ValueError")) mNil)))))) (mRet (mC (.bl false))) mNext)
  (mIfS (mB (mBin neD (mCall F_kinds 1 (mCons (mVar 10) mNil)) (mFz (mLC (mItA rng1 (mCons (mC (.int 16)) mNil)) (gN 11) mYes (mBin eqD (mVar 11) (mVar 9)) [11])))) (mRet (mC (.bl false))) mNext)))))))))))))))
  (mRet (mC (.bl true))))
theorem f_law {c : Ad} {k : Nat} {F_kinds F_fields F_cell : MF} (D : Def K mg "law" s_law ["_law_script"]) (T : Txt K mg) (XC : Fct P w K mg base c) (h_kinds : Fn P w K mg base k "_law_kinds" 1 F_kinds) (h_fields : Fn P w K mg base k "_law_fields" 1 F_fields) (h_cell : Fn P w K mg base k "_law_cell" 2 F_cell)  (h2 : 2 ≤ k)  : Fn P w K mg base (k + 1) "law" 1 (fnT true 12 (b_law c F_kinds F_fields F_cell)) :=
  D.mini sc_law rfl fun f cdv A outer s H E hg hr =>
    (fss_cons (fs_for (passes_of rfl) rfl (fi_range1 (by rfl) T.n_range (fa_cons (fe_callB (call_max2 rfl) c_max2 (by rfl) T.n_max (by decide +kernel) (fa_cons fe_int (fa_cons (fe_callB (call_min2 rfl) c_min2 (by rfl) T.n_min (by decide +kernel) (fa_cons fe_int (fa_cons (fe_callB call_len c_len (by rfl) T.n_len (by decide +kernel) (fa_cons (mv 0) fa_nil)) fa_nil))) fa_nil))) fa_nil)) (fg_name (i := 1) sc_law.nd rfl (by first | exact Or.inl rfl | exact Or.inr rfl)) (fss_cons (fs_par (i := 2) (j := 3) rfl sc_law.nd rfl rfl (by decide) rfl rfl (fa_cons (fe_call h_cell (takes_of rfl rfl rfl rfl) hg hr (fa_cons (mv 0) (fa_cons (mv 1) fa_nil)) (hk := Nat.le_refl _)) (fa_cons (fe_call h_cell (takes_of rfl rfl rfl rfl) hg hr (fa_cons (mv 0) (fa_cons (fe_op o_add d_add (mv 1) fe_int) fa_nil)) (hk := Nat.le_refl _)) fa_nil)) (by rfl))
      (fss_cons (fs_set (i := 4) sc_law.nd rfl (by first | exact Or.inl rfl | exact Or.inr rfl) (fe_tup (fa_cons (fe_callTy call_str_int c_strI (by rfl) T.n_str (by decide +kernel) (fa_cons (mv 2) fa_nil)) (fa_cons (mv 3) fa_nil))))
      (fss_cons (fs_set (i := 5) sc_law.nd rfl (by first | exact Or.inl rfl | exact Or.inr rfl) (fe_fz (fl_lst (fa_cons (fe_err1 XC.x_BadFunction hr (fa_cons (mv 2) fa_nil) (hk := h2)) (fa_cons (fe_err1 XC.x_BadCase hr (fa_cons (mv 3) fa_nil) (hk := h2)) (fa_cons (fe_err1 XC.x_Twice hr (fa_cons (mv 4) fa_nil) (hk := h2)) (fa_cons (fe_err2 XC.x_TooLarge hr (fa_cons (mv 2) (fa_cons (mv 3) fa_nil)) (hk := h2)) (fa_cons (fe_err1 XC.x_Unknown hr (fa_cons (mv 4) fa_nil) (hk := h2)) (fa_cons (fe_err2 XC.x_Arity hr (fa_cons (mv 4) (fa_cons (mv 3) fa_nil)) (hk := h2)) (fa_cons (fe_err1 XC.x_Unbound hr (fa_cons (mv 4) fa_nil) (hk := h2)) (fa_cons (fe_err1 XC.x_NoSlot hr (fa_cons (mv 2) fa_nil) (hk := h2)) fa_nil)))))))))))
      (fss_blk2 (i := 5) (fs_set (i := 5) sc_law.nd rfl (by first | exact Or.inl rfl | exact Or.inr rfl) (fe_own (fl_op op_cat l_add (mv 5) (fe_fz (fl_lst (fa_cons (fe_err1 XC.x_Looped hr (fa_cons (mv 4) fa_nil) (hk := h2)) (fa_cons (fe_err1 XC.x_BadValue hr (fa_cons (mv 2) fa_nil) (hk := h2)) (fa_cons (fe_err1 XC.x_BadAnswer hr (fa_cons (mv 4) fa_nil) (hk := h2)) (fa_cons (fe_err2 XC.x_BadScript hr (fa_cons (mv 2) (fa_cons (mv 4) fa_nil)) (hk := h2)) (fa_cons (fe_err1 XC.x_Unlike hr (fa_cons (mv 4) fa_nil) (hk := h2)) (fa_cons (fe_err1 XC.x_Unbounded hr (fa_cons (mv 4) fa_nil) (hk := h2)) (fa_cons (fe_err1 XC.x_Silent hr (fa_cons fe_non fa_nil) (hk := h2)) fa_nil)))))))))))) (fs_expr (fe_mut PySem.F.plainAttrs_list PySem.F.slot_list_append PySem.F.type_list_append mt_append m_append (mv 5) (fa_cons (fe_err1 XC.x_TooMany hr (fa_cons (mv 3) fa_nil) (hk := h2)) fa_nil)))
      (fss_cons (fs_set (i := 6) sc_law.nd rfl (by first | exact Or.inl rfl | exact Or.inr rfl) (fe_fz (fl_lst (fa_cons (fe_errK1 XC.xk_BadFunction hr (fk_cons (mv 2) fk_nil) (hk := h2)) (fa_cons (fe_errK1 XC.xk_BadCase hr (fk_cons (mv 3) fk_nil) (hk := h2)) (fa_cons (fe_errK1 XC.xk_Twice hr (fk_cons (mv 4) fk_nil) (hk := h2)) (fa_cons (fe_errK2 XC.xk_TooLarge hr (fk_cons (mv 3) (fk_cons (mv 2) fk_nil)) (hk := h2)) (fa_cons (fe_errK1 XC.xk_Unknown hr (fk_cons (mv 4) fk_nil) (hk := h2)) fa_nil))))))))
      (fss_cons (fs_set (i := 6) sc_law.nd rfl (by first | exact Or.inl rfl | exact Or.inr rfl) (fe_op o_add d_add (mv 6) (fe_fz (fl_lst (fa_cons (fe_errK2 XC.xk_Arity hr (fk_cons (mv 3) (fk_cons (mv 4) fk_nil)) (hk := h2)) (fa_cons (fe_errK1 XC.xk_Unbound hr (fk_cons (mv 4) fk_nil) (hk := h2)) (fa_cons (fe_errK1 XC.xk_NoSlot hr (fk_cons (mv 2) fk_nil) (hk := h2)) (fa_cons (fe_errK1 XC.xk_Looped hr (fk_cons (mv 4) fk_nil) (hk := h2)) (fa_cons (fe_errK1 XC.xk_BadValue hr (fk_cons (mv 2) fk_nil) (hk := h2)) fa_nil)))))))))
      (fss_cons (fs_set (i := 6) sc_law.nd rfl (by first | exact Or.inl rfl | exact Or.inr rfl) (fe_op o_add d_add (mv 6) (fe_fz (fl_lst (fa_cons (fe_errK1 XC.xk_BadAnswer hr (fk_cons (mv 4) fk_nil) (hk := h2)) (fa_cons (fe_errK2 XC.xk_BadScript hr (fk_cons (mv 4) (fk_cons (mv 2) fk_nil)) (hk := h2)) (fa_cons (fe_errK1 XC.xk_Unlike hr (fk_cons (mv 4) fk_nil) (hk := h2)) (fa_cons (fe_errK1 XC.xk_Unbounded hr (fk_cons (mv 4) fk_nil) (hk := h2)) fa_nil))))))))
      (fss_cons (fs_set (i := 6) sc_law.nd rfl (by first | exact Or.inl rfl | exact Or.inr rfl) (fe_op o_add d_add (mv 6) (fe_fz (fl_lst (fa_cons (fe_errK1 XC.xk_Silent hr (fk_cons fe_non fk_nil) (hk := h2)) (fa_cons (fe_errK1 XC.xk_TooMany hr (fk_cons (mv 3) fk_nil) (hk := h2)) fa_nil))))))
      (fss_cons (fs_set (i := 7) sc_law.nd rfl (by first | exact Or.inl rfl | exact Or.inr rfl) (fe_fz (fl_lst (fa_cons (mv 2) (fa_cons (mv 3) (fa_cons (mv 4) (fa_cons (fe_tup (fa_cons (mv 2) (fa_cons (mv 3) fa_nil))) (fa_cons (mv 4) (fa_cons (fe_tup (fa_cons (mv 4) (fa_cons (mv 3) fa_nil))) (fa_cons (mv 4) (fa_cons (mv 2) (fa_cons (mv 4) (fa_cons (mv 2) (fa_cons (mv 4) (fa_cons (fe_tup (fa_cons (mv 2) (fa_cons (mv 4) fa_nil))) (fa_cons (mv 4) (fa_cons (mv 4) (fa_cons fe_non (fa_cons (mv 3) fa_nil)))))))))))))))))))
      (fss_one (fs_for (passes_of rfl) rfl (fi_val (fe_fz (fl_lst (fa_cons (mv 5) (fa_cons (mv 6) fa_nil))))) (fg_name (i := 8) sc_law.nd rfl (by first | exact Or.inl rfl | exact Or.inr rfl)) (fss_cons (fs_if (ft_cmp (o_ne hr.units) d_ne (fe_callB (call_repr hg hr.units2) c_repr (by rfl) T.n_repr (by decide +kernel) (fa_cons (fe_call h_fields (takes_of rfl rfl rfl rfl) hg hr (fa_cons (mv 8) fa_nil) (hk := Nat.le_refl _)) fa_nil)) (fe_callB (call_repr hg hr.units2) c_repr (by rfl) T.n_repr (by decide +kernel) (fa_cons (mv 7) fa_nil)) (nomark _)) (fss_one (fs_ret fe_bl)) fss_nil)
      (fss_one (fs_for (passes_of rfl) rfl (fi_enum (by rfl) T.n_enumerate (fa_cons (mv 8) fa_nil)) (fg_tup rfl (fgs_cons (fg_name (i := 9) sc_law.nd rfl (by first | exact Or.inl rfl | exact Or.inr rfl)) (fgs_cons (fg_name (i := 10) sc_law.nd rfl (by first | exact Or.inl rfl | exact Or.inr rfl)) fgs_nil))) (fss_cons (fs_if (PW.pt (fw_or (ft_not (ft_truth (fe_callB call_isO (c_isOG XC.ko_TablesError) (by rfl) T.n_isinstance (by decide +kernel) (fa_cons (mv 10) (fa_cons (fe_gfn XC.g_TablesError) fa_nil))))) (fw_or1 (ft_not (ft_truth (fe_callB call_isO (c_isOT XC.ko_ValueError) (by rfl) T.n_isinstance (by decide +kernel) (fa_cons (mv 10) (fa_cons (fe_ty T.n_ValueError (by decide +kernel)) fa_nil)))))))) (fss_one (fs_ret fe_bl)) fss_nil)
      (fss_one (fs_if (ft_cmp (o_ne hr.units) d_ne (fe_call h_kinds (takes_of rfl rfl rfl rfl) hg hr (fa_cons (mv 10) fa_nil) (hk := Nat.le_refl _)) (fe_fz (fl_lc (own := [("_law_j", 11)]) rfl sc_law.nd (fi_range1 (by rfl) T.n_range (fa_cons fe_int fa_nil)) (blkOk_by (own := [("_law_j", 11)]) (N := ["_law_script", "_law_turn", "_law_a", "_law_b", "_law_c", "_law_one", "_law_two", "_law_due", "_law_row", "_law_k", "_law_e", "_law_j"]) (sc := defScope s_law) (by decide +kernel)) (cg_name (by decide)) (fun _ _ _ _ _ => (pg_name (i := 11) sc_law.nd rfl (by first | exact Or.inl rfl | exact Or.inr rfl))) (fun _ _ _ _ _ => fts_nil) (fun _ _ _ _ _ => (fe_cmp (o_eq hr.units) d_eq (mv 11) (mv 9) (nomark _))))) (nomark _)) (fss_one (fs_ret fe_bl)) fss_nil))))))))))))))))))
      (fss_one (fs_ret fe_bl)))
end
end TT

namespace TT
open PySem L2
section
variable [TB]
noncomputable def F_cell : MF := (fnT true 2 (b_cell))
noncomputable def F_kinds (c : Ad) : MF := (fnT true 2 (b_kinds c))
noncomputable def F_fields (c : Ad) : MF := (fnT true 2 (b_fields c))
noncomputable def F_law (c : Ad) : MF := (fnT true 12 (b_law c (F_kinds c) (F_fields c) F_cell))
set_option maxHeartbeats 20000000 in
theorem all_in {α : Type} {P : α → Prop} : ∀ {l : List α}, (l.foldr (fun a p => P a ∧ p) True) → ∀ a ∈ l, P a
  | [], _, a, h => by cases h
  | b :: l, h, a, ha => by
    rcases List.mem_cons.mp ha with rfl | ha
    · exact h.1
    · exact all_in h.2 a ha
set_option maxHeartbeats 20000000 in
theorem all_mk {P : Program} {w : World} {K : PySem.W.Frag} {h : Heap} {mg : Str → Option Value} {fa C_TablesError C_BadFunction f_iBadFunction C_BadCase f_iBadCase C_Twice f_iTwice C_TooLarge f_iTooLarge C_Unknown f_iUnknown C_Arity f_iArity C_Unbound f_iUnbound C_NoSlot f_iNoSlot C_Looped f_iLooped C_BadValue f_iBadValue C_BadAnswer f_iBadAnswer C_BadScript f_iBadScript C_Unlike f_iUnlike C_Unbounded f_iUnbounded C_Silent f_iSilent C_TooMany f_iTooMany f_cell f_kinds f_fields f_law : Addr} (X : K.In h) (G : h.Ns mainGlobals mg) (hfa : mg "law" = some (.ref fa))
    {nm_BadFunction qn_BadFunction : Str} {N_BadFunction : Addr} {bs_BadFunction sub_BadFunction : List Value} {sn_BadFunction : List Str} {ab_BadFunction : Bool} {co_BadFunction : Option Bool} {dd_BadFunction : Option Addr} {m0_BadFunction m1_BadFunction m2_BadFunction m3_BadFunction m5_BadFunction : Option Value}
    {od_iBadFunction an_iBadFunction : Option Addr} {sl_iBadFunction : Array (Option Value)} {oc_iBadFunction kV_iBadFunction dc_iBadFunction pm_iBadFunction cd_iBadFunction ct_iBadFunction : Value}
    {nm_BadCase qn_BadCase : Str} {N_BadCase : Addr} {bs_BadCase sub_BadCase : List Value} {sn_BadCase : List Str} {ab_BadCase : Bool} {co_BadCase : Option Bool} {dd_BadCase : Option Addr} {m0_BadCase m1_BadCase m2_BadCase m3_BadCase m5_BadCase : Option Value}
    {od_iBadCase an_iBadCase : Option Addr} {sl_iBadCase : Array (Option Value)} {oc_iBadCase kV_iBadCase dc_iBadCase pm_iBadCase cd_iBadCase ct_iBadCase : Value}
    {nm_Twice qn_Twice : Str} {N_Twice : Addr} {bs_Twice sub_Twice : List Value} {sn_Twice : List Str} {ab_Twice : Bool} {co_Twice : Option Bool} {dd_Twice : Option Addr} {m0_Twice m1_Twice m2_Twice m3_Twice m5_Twice : Option Value}
    {od_iTwice an_iTwice : Option Addr} {sl_iTwice : Array (Option Value)} {oc_iTwice kV_iTwice dc_iTwice pm_iTwice cd_iTwice ct_iTwice : Value}
    {nm_TooLarge qn_TooLarge : Str} {N_TooLarge : Addr} {bs_TooLarge sub_TooLarge : List Value} {sn_TooLarge : List Str} {ab_TooLarge : Bool} {co_TooLarge : Option Bool} {dd_TooLarge : Option Addr} {m0_TooLarge m1_TooLarge m2_TooLarge m3_TooLarge m5_TooLarge : Option Value}
    {od_iTooLarge an_iTooLarge : Option Addr} {sl_iTooLarge : Array (Option Value)} {oc_iTooLarge kV_iTooLarge dc_iTooLarge pm_iTooLarge cd_iTooLarge ct_iTooLarge : Value}
    {nm_Unknown qn_Unknown : Str} {N_Unknown : Addr} {bs_Unknown sub_Unknown : List Value} {sn_Unknown : List Str} {ab_Unknown : Bool} {co_Unknown : Option Bool} {dd_Unknown : Option Addr} {m0_Unknown m1_Unknown m2_Unknown m3_Unknown m5_Unknown : Option Value}
    {od_iUnknown an_iUnknown : Option Addr} {sl_iUnknown : Array (Option Value)} {oc_iUnknown kV_iUnknown dc_iUnknown pm_iUnknown cd_iUnknown ct_iUnknown : Value}
    {nm_Arity qn_Arity : Str} {N_Arity : Addr} {bs_Arity sub_Arity : List Value} {sn_Arity : List Str} {ab_Arity : Bool} {co_Arity : Option Bool} {dd_Arity : Option Addr} {m0_Arity m1_Arity m2_Arity m3_Arity m5_Arity : Option Value}
    {od_iArity an_iArity : Option Addr} {sl_iArity : Array (Option Value)} {oc_iArity kV_iArity dc_iArity pm_iArity cd_iArity ct_iArity : Value}
    {nm_Unbound qn_Unbound : Str} {N_Unbound : Addr} {bs_Unbound sub_Unbound : List Value} {sn_Unbound : List Str} {ab_Unbound : Bool} {co_Unbound : Option Bool} {dd_Unbound : Option Addr} {m0_Unbound m1_Unbound m2_Unbound m3_Unbound m5_Unbound : Option Value}
    {od_iUnbound an_iUnbound : Option Addr} {sl_iUnbound : Array (Option Value)} {oc_iUnbound kV_iUnbound dc_iUnbound pm_iUnbound cd_iUnbound ct_iUnbound : Value}
    {nm_NoSlot qn_NoSlot : Str} {N_NoSlot : Addr} {bs_NoSlot sub_NoSlot : List Value} {sn_NoSlot : List Str} {ab_NoSlot : Bool} {co_NoSlot : Option Bool} {dd_NoSlot : Option Addr} {m0_NoSlot m1_NoSlot m2_NoSlot m3_NoSlot m5_NoSlot : Option Value}
    {od_iNoSlot an_iNoSlot : Option Addr} {sl_iNoSlot : Array (Option Value)} {oc_iNoSlot kV_iNoSlot dc_iNoSlot pm_iNoSlot cd_iNoSlot ct_iNoSlot : Value}
    {nm_Looped qn_Looped : Str} {N_Looped : Addr} {bs_Looped sub_Looped : List Value} {sn_Looped : List Str} {ab_Looped : Bool} {co_Looped : Option Bool} {dd_Looped : Option Addr} {m0_Looped m1_Looped m2_Looped m3_Looped m5_Looped : Option Value}
    {od_iLooped an_iLooped : Option Addr} {sl_iLooped : Array (Option Value)} {oc_iLooped kV_iLooped dc_iLooped pm_iLooped cd_iLooped ct_iLooped : Value}
    {nm_BadValue qn_BadValue : Str} {N_BadValue : Addr} {bs_BadValue sub_BadValue : List Value} {sn_BadValue : List Str} {ab_BadValue : Bool} {co_BadValue : Option Bool} {dd_BadValue : Option Addr} {m0_BadValue m1_BadValue m2_BadValue m3_BadValue m5_BadValue : Option Value}
    {od_iBadValue an_iBadValue : Option Addr} {sl_iBadValue : Array (Option Value)} {oc_iBadValue kV_iBadValue dc_iBadValue pm_iBadValue cd_iBadValue ct_iBadValue : Value}
    {nm_BadAnswer qn_BadAnswer : Str} {N_BadAnswer : Addr} {bs_BadAnswer sub_BadAnswer : List Value} {sn_BadAnswer : List Str} {ab_BadAnswer : Bool} {co_BadAnswer : Option Bool} {dd_BadAnswer : Option Addr} {m0_BadAnswer m1_BadAnswer m2_BadAnswer m3_BadAnswer m5_BadAnswer : Option Value}
    {od_iBadAnswer an_iBadAnswer : Option Addr} {sl_iBadAnswer : Array (Option Value)} {oc_iBadAnswer kV_iBadAnswer dc_iBadAnswer pm_iBadAnswer cd_iBadAnswer ct_iBadAnswer : Value}
    {nm_BadScript qn_BadScript : Str} {N_BadScript : Addr} {bs_BadScript sub_BadScript : List Value} {sn_BadScript : List Str} {ab_BadScript : Bool} {co_BadScript : Option Bool} {dd_BadScript : Option Addr} {m0_BadScript m1_BadScript m2_BadScript m3_BadScript m5_BadScript : Option Value}
    {od_iBadScript an_iBadScript : Option Addr} {sl_iBadScript : Array (Option Value)} {oc_iBadScript kV_iBadScript dc_iBadScript pm_iBadScript cd_iBadScript ct_iBadScript : Value}
    {nm_Unlike qn_Unlike : Str} {N_Unlike : Addr} {bs_Unlike sub_Unlike : List Value} {sn_Unlike : List Str} {ab_Unlike : Bool} {co_Unlike : Option Bool} {dd_Unlike : Option Addr} {m0_Unlike m1_Unlike m2_Unlike m3_Unlike m5_Unlike : Option Value}
    {od_iUnlike an_iUnlike : Option Addr} {sl_iUnlike : Array (Option Value)} {oc_iUnlike kV_iUnlike dc_iUnlike pm_iUnlike cd_iUnlike ct_iUnlike : Value}
    {nm_Unbounded qn_Unbounded : Str} {N_Unbounded : Addr} {bs_Unbounded sub_Unbounded : List Value} {sn_Unbounded : List Str} {ab_Unbounded : Bool} {co_Unbounded : Option Bool} {dd_Unbounded : Option Addr} {m0_Unbounded m1_Unbounded m2_Unbounded m3_Unbounded m5_Unbounded : Option Value}
    {od_iUnbounded an_iUnbounded : Option Addr} {sl_iUnbounded : Array (Option Value)} {oc_iUnbounded kV_iUnbounded dc_iUnbounded pm_iUnbounded cd_iUnbounded ct_iUnbounded : Value}
    {nm_Silent qn_Silent : Str} {N_Silent : Addr} {bs_Silent sub_Silent : List Value} {sn_Silent : List Str} {ab_Silent : Bool} {co_Silent : Option Bool} {dd_Silent : Option Addr} {m0_Silent m1_Silent m2_Silent m3_Silent m5_Silent : Option Value}
    {od_iSilent an_iSilent : Option Addr} {sl_iSilent : Array (Option Value)} {oc_iSilent kV_iSilent dc_iSilent pm_iSilent cd_iSilent ct_iSilent : Value}
    {nm_TooMany qn_TooMany : Str} {N_TooMany : Addr} {bs_TooMany sub_TooMany : List Value} {sn_TooMany : List Str} {ab_TooMany : Bool} {co_TooMany : Option Bool} {dd_TooMany : Option Addr} {m0_TooMany m1_TooMany m2_TooMany m3_TooMany m5_TooMany : Option Value}
    {od_iTooMany an_iTooMany : Option Addr} {sl_iTooMany : Array (Option Value)} {oc_iTooMany kV_iTooMany dc_iTooMany pm_iTooMany cd_iTooMany ct_iTooMany : Value}
    {od_cell an_cell : Option Addr} {sl_cell : Array (Option Value)} {oc_cell kV_cell dc_cell pm_cell cd_cell ct_cell : Value}
    {od_kinds an_kinds : Option Addr} {sl_kinds : Array (Option Value)} {oc_kinds kV_kinds dc_kinds pm_kinds cd_kinds ct_kinds : Value}
    {od_fields an_fields : Option Addr} {sl_fields : Array (Option Value)} {oc_fields kV_fields dc_fields pm_fields cd_fields ct_fields : Value}
    {od_law an_law : Option Addr} {sl_law : Array (Option Value)} {oc_law kV_law dc_law pm_law cd_law ct_law : Value}
    (aC_TablesError : PySem.W.nsIn K mainGlobals "TablesError" = some (some (.ref C_TablesError)))
    (aC_BadFunction : PySem.W.nsIn K mainGlobals "BadFunction" = some (some (.ref C_BadFunction)))
    (xL_BadFunction : K.lookup C_BadFunction = some (excClassObj nm_BadFunction qn_BadFunction C_BadFunction N_BadFunction bs_BadFunction [.ref C_TablesError, .type "ValueError", .type "Exception", .type "BaseException", .type "object"] true sn_BadFunction sub_BadFunction ab_BadFunction co_BadFunction dd_BadFunction m0_BadFunction m1_BadFunction m2_BadFunction m3_BadFunction m5_BadFunction "ValueError.__new__"))
    (sa_BadFunction : PySem.W.findIn K (.ref C_BadFunction) "__setattr__" = some (some (.builtin "object.__setattr__")))
    (ec_BadFunction : PySem.W.subIn K (.ref C_BadFunction) (.type "BaseException") = some true)
    (tc_BadFunction : PySem.W.typeIn K (.ref C_BadFunction) = some (.type "type"))
    (kc_BadFunction : PySem.W.keepIn K (.ref C_BadFunction) = true)
    (xf_BadFunction : xfB K C_BadFunction = true)
    (xn_BadFunction_at : PySem.W.findIn K (.ref C_BadFunction) "at" = some none)
    (a_iBadFunction : PySem.W.findIn K (.ref C_BadFunction) "__init__" = some (some (.ref f_iBadFunction)))
    (t_iBadFunction : PySem.W.typeIn K (.ref f_iBadFunction) = some (.type "function"))
    (l_iBadFunction : K.lookup f_iBadFunction = some ⟨oc_iBadFunction, od_iBadFunction, .func (PySem.W.fnOf "__init__" "BadFunction.__init__" (defArgs s_BadFunction___init__) (defBody s_BadFunction___init__) (defScope s_BadFunction___init__) .none kV_iBadFunction dc_iBadFunction pm_iBadFunction an_iBadFunction cd_iBadFunction ct_iBadFunction), sl_iBadFunction⟩)
    (hc_iBadFunction : PySem.W.codeIn K cd_iBadFunction "BadFunction.__init__" = true)
    (k_iBadFunction : PySem.W.keepIn K (.ref f_iBadFunction) = true)
    (aC_BadCase : PySem.W.nsIn K mainGlobals "BadCase" = some (some (.ref C_BadCase)))
    (xL_BadCase : K.lookup C_BadCase = some (excClassObj nm_BadCase qn_BadCase C_BadCase N_BadCase bs_BadCase [.ref C_TablesError, .type "ValueError", .type "Exception", .type "BaseException", .type "object"] true sn_BadCase sub_BadCase ab_BadCase co_BadCase dd_BadCase m0_BadCase m1_BadCase m2_BadCase m3_BadCase m5_BadCase "ValueError.__new__"))
    (sa_BadCase : PySem.W.findIn K (.ref C_BadCase) "__setattr__" = some (some (.builtin "object.__setattr__")))
    (ec_BadCase : PySem.W.subIn K (.ref C_BadCase) (.type "BaseException") = some true)
    (tc_BadCase : PySem.W.typeIn K (.ref C_BadCase) = some (.type "type"))
    (kc_BadCase : PySem.W.keepIn K (.ref C_BadCase) = true)
    (xf_BadCase : xfB K C_BadCase = true)
    (xn_BadCase_at : PySem.W.findIn K (.ref C_BadCase) "at" = some none)
    (a_iBadCase : PySem.W.findIn K (.ref C_BadCase) "__init__" = some (some (.ref f_iBadCase)))
    (t_iBadCase : PySem.W.typeIn K (.ref f_iBadCase) = some (.type "function"))
    (l_iBadCase : K.lookup f_iBadCase = some ⟨oc_iBadCase, od_iBadCase, .func (PySem.W.fnOf "__init__" "BadCase.__init__" (defArgs s_BadCase___init__) (defBody s_BadCase___init__) (defScope s_BadCase___init__) .none kV_iBadCase dc_iBadCase pm_iBadCase an_iBadCase cd_iBadCase ct_iBadCase), sl_iBadCase⟩)
    (hc_iBadCase : PySem.W.codeIn K cd_iBadCase "BadCase.__init__" = true)
    (k_iBadCase : PySem.W.keepIn K (.ref f_iBadCase) = true)
    (aC_Twice : PySem.W.nsIn K mainGlobals "Twice" = some (some (.ref C_Twice)))
    (xL_Twice : K.lookup C_Twice = some (excClassObj nm_Twice qn_Twice C_Twice N_Twice bs_Twice [.ref C_TablesError, .type "ValueError", .type "Exception", .type "BaseException", .type "object"] true sn_Twice sub_Twice ab_Twice co_Twice dd_Twice m0_Twice m1_Twice m2_Twice m3_Twice m5_Twice "ValueError.__new__"))
    (sa_Twice : PySem.W.findIn K (.ref C_Twice) "__setattr__" = some (some (.builtin "object.__setattr__")))
    (ec_Twice : PySem.W.subIn K (.ref C_Twice) (.type "BaseException") = some true)
    (tc_Twice : PySem.W.typeIn K (.ref C_Twice) = some (.type "type"))
    (kc_Twice : PySem.W.keepIn K (.ref C_Twice) = true)
    (xf_Twice : xfB K C_Twice = true)
    (xn_Twice_name : PySem.W.findIn K (.ref C_Twice) "name" = some none)
    (a_iTwice : PySem.W.findIn K (.ref C_Twice) "__init__" = some (some (.ref f_iTwice)))
    (t_iTwice : PySem.W.typeIn K (.ref f_iTwice) = some (.type "function"))
    (l_iTwice : K.lookup f_iTwice = some ⟨oc_iTwice, od_iTwice, .func (PySem.W.fnOf "__init__" "Twice.__init__" (defArgs s_Twice___init__) (defBody s_Twice___init__) (defScope s_Twice___init__) .none kV_iTwice dc_iTwice pm_iTwice an_iTwice cd_iTwice ct_iTwice), sl_iTwice⟩)
    (hc_iTwice : PySem.W.codeIn K cd_iTwice "Twice.__init__" = true)
    (k_iTwice : PySem.W.keepIn K (.ref f_iTwice) = true)
    (aC_TooLarge : PySem.W.nsIn K mainGlobals "TooLarge" = some (some (.ref C_TooLarge)))
    (xL_TooLarge : K.lookup C_TooLarge = some (excClassObj nm_TooLarge qn_TooLarge C_TooLarge N_TooLarge bs_TooLarge [.ref C_TablesError, .type "ValueError", .type "Exception", .type "BaseException", .type "object"] true sn_TooLarge sub_TooLarge ab_TooLarge co_TooLarge dd_TooLarge m0_TooLarge m1_TooLarge m2_TooLarge m3_TooLarge m5_TooLarge "ValueError.__new__"))
    (sa_TooLarge : PySem.W.findIn K (.ref C_TooLarge) "__setattr__" = some (some (.builtin "object.__setattr__")))
    (ec_TooLarge : PySem.W.subIn K (.ref C_TooLarge) (.type "BaseException") = some true)
    (tc_TooLarge : PySem.W.typeIn K (.ref C_TooLarge) = some (.type "type"))
    (kc_TooLarge : PySem.W.keepIn K (.ref C_TooLarge) = true)
    (xf_TooLarge : xfB K C_TooLarge = true)
    (xn_TooLarge_nodes : PySem.W.findIn K (.ref C_TooLarge) "nodes" = some none)
    (xn_TooLarge_deepest : PySem.W.findIn K (.ref C_TooLarge) "deepest" = some none)
    (a_iTooLarge : PySem.W.findIn K (.ref C_TooLarge) "__init__" = some (some (.ref f_iTooLarge)))
    (t_iTooLarge : PySem.W.typeIn K (.ref f_iTooLarge) = some (.type "function"))
    (l_iTooLarge : K.lookup f_iTooLarge = some ⟨oc_iTooLarge, od_iTooLarge, .func (PySem.W.fnOf "__init__" "TooLarge.__init__" (defArgs s_TooLarge___init__) (defBody s_TooLarge___init__) (defScope s_TooLarge___init__) .none kV_iTooLarge dc_iTooLarge pm_iTooLarge an_iTooLarge cd_iTooLarge ct_iTooLarge), sl_iTooLarge⟩)
    (hc_iTooLarge : PySem.W.codeIn K cd_iTooLarge "TooLarge.__init__" = true)
    (k_iTooLarge : PySem.W.keepIn K (.ref f_iTooLarge) = true)
    (aC_Unknown : PySem.W.nsIn K mainGlobals "Unknown" = some (some (.ref C_Unknown)))
    (xL_Unknown : K.lookup C_Unknown = some (excClassObj nm_Unknown qn_Unknown C_Unknown N_Unknown bs_Unknown [.ref C_TablesError, .type "ValueError", .type "Exception", .type "BaseException", .type "object"] true sn_Unknown sub_Unknown ab_Unknown co_Unknown dd_Unknown m0_Unknown m1_Unknown m2_Unknown m3_Unknown m5_Unknown "ValueError.__new__"))
    (sa_Unknown : PySem.W.findIn K (.ref C_Unknown) "__setattr__" = some (some (.builtin "object.__setattr__")))
    (ec_Unknown : PySem.W.subIn K (.ref C_Unknown) (.type "BaseException") = some true)
    (tc_Unknown : PySem.W.typeIn K (.ref C_Unknown) = some (.type "type"))
    (kc_Unknown : PySem.W.keepIn K (.ref C_Unknown) = true)
    (xf_Unknown : xfB K C_Unknown = true)
    (xn_Unknown_name : PySem.W.findIn K (.ref C_Unknown) "name" = some none)
    (a_iUnknown : PySem.W.findIn K (.ref C_Unknown) "__init__" = some (some (.ref f_iUnknown)))
    (t_iUnknown : PySem.W.typeIn K (.ref f_iUnknown) = some (.type "function"))
    (l_iUnknown : K.lookup f_iUnknown = some ⟨oc_iUnknown, od_iUnknown, .func (PySem.W.fnOf "__init__" "Unknown.__init__" (defArgs s_Unknown___init__) (defBody s_Unknown___init__) (defScope s_Unknown___init__) .none kV_iUnknown dc_iUnknown pm_iUnknown an_iUnknown cd_iUnknown ct_iUnknown), sl_iUnknown⟩)
    (hc_iUnknown : PySem.W.codeIn K cd_iUnknown "Unknown.__init__" = true)
    (k_iUnknown : PySem.W.keepIn K (.ref f_iUnknown) = true)
    (aC_Arity : PySem.W.nsIn K mainGlobals "Arity" = some (some (.ref C_Arity)))
    (xL_Arity : K.lookup C_Arity = some (excClassObj nm_Arity qn_Arity C_Arity N_Arity bs_Arity [.ref C_TablesError, .type "ValueError", .type "Exception", .type "BaseException", .type "object"] true sn_Arity sub_Arity ab_Arity co_Arity dd_Arity m0_Arity m1_Arity m2_Arity m3_Arity m5_Arity "ValueError.__new__"))
    (sa_Arity : PySem.W.findIn K (.ref C_Arity) "__setattr__" = some (some (.builtin "object.__setattr__")))
    (ec_Arity : PySem.W.subIn K (.ref C_Arity) (.type "BaseException") = some true)
    (tc_Arity : PySem.W.typeIn K (.ref C_Arity) = some (.type "type"))
    (kc_Arity : PySem.W.keepIn K (.ref C_Arity) = true)
    (xf_Arity : xfB K C_Arity = true)
    (xn_Arity_name : PySem.W.findIn K (.ref C_Arity) "name" = some none)
    (xn_Arity_given : PySem.W.findIn K (.ref C_Arity) "given" = some none)
    (a_iArity : PySem.W.findIn K (.ref C_Arity) "__init__" = some (some (.ref f_iArity)))
    (t_iArity : PySem.W.typeIn K (.ref f_iArity) = some (.type "function"))
    (l_iArity : K.lookup f_iArity = some ⟨oc_iArity, od_iArity, .func (PySem.W.fnOf "__init__" "Arity.__init__" (defArgs s_Arity___init__) (defBody s_Arity___init__) (defScope s_Arity___init__) .none kV_iArity dc_iArity pm_iArity an_iArity cd_iArity ct_iArity), sl_iArity⟩)
    (hc_iArity : PySem.W.codeIn K cd_iArity "Arity.__init__" = true)
    (k_iArity : PySem.W.keepIn K (.ref f_iArity) = true)
    (aC_Unbound : PySem.W.nsIn K mainGlobals "Unbound" = some (some (.ref C_Unbound)))
    (xL_Unbound : K.lookup C_Unbound = some (excClassObj nm_Unbound qn_Unbound C_Unbound N_Unbound bs_Unbound [.ref C_TablesError, .type "ValueError", .type "Exception", .type "BaseException", .type "object"] true sn_Unbound sub_Unbound ab_Unbound co_Unbound dd_Unbound m0_Unbound m1_Unbound m2_Unbound m3_Unbound m5_Unbound "ValueError.__new__"))
    (sa_Unbound : PySem.W.findIn K (.ref C_Unbound) "__setattr__" = some (some (.builtin "object.__setattr__")))
    (ec_Unbound : PySem.W.subIn K (.ref C_Unbound) (.type "BaseException") = some true)
    (tc_Unbound : PySem.W.typeIn K (.ref C_Unbound) = some (.type "type"))
    (kc_Unbound : PySem.W.keepIn K (.ref C_Unbound) = true)
    (xf_Unbound : xfB K C_Unbound = true)
    (xn_Unbound_name : PySem.W.findIn K (.ref C_Unbound) "name" = some none)
    (a_iUnbound : PySem.W.findIn K (.ref C_Unbound) "__init__" = some (some (.ref f_iUnbound)))
    (t_iUnbound : PySem.W.typeIn K (.ref f_iUnbound) = some (.type "function"))
    (l_iUnbound : K.lookup f_iUnbound = some ⟨oc_iUnbound, od_iUnbound, .func (PySem.W.fnOf "__init__" "Unbound.__init__" (defArgs s_Unbound___init__) (defBody s_Unbound___init__) (defScope s_Unbound___init__) .none kV_iUnbound dc_iUnbound pm_iUnbound an_iUnbound cd_iUnbound ct_iUnbound), sl_iUnbound⟩)
    (hc_iUnbound : PySem.W.codeIn K cd_iUnbound "Unbound.__init__" = true)
    (k_iUnbound : PySem.W.keepIn K (.ref f_iUnbound) = true)
    (aC_NoSlot : PySem.W.nsIn K mainGlobals "NoSlot" = some (some (.ref C_NoSlot)))
    (xL_NoSlot : K.lookup C_NoSlot = some (excClassObj nm_NoSlot qn_NoSlot C_NoSlot N_NoSlot bs_NoSlot [.ref C_TablesError, .type "ValueError", .type "Exception", .type "BaseException", .type "object"] true sn_NoSlot sub_NoSlot ab_NoSlot co_NoSlot dd_NoSlot m0_NoSlot m1_NoSlot m2_NoSlot m3_NoSlot m5_NoSlot "ValueError.__new__"))
    (sa_NoSlot : PySem.W.findIn K (.ref C_NoSlot) "__setattr__" = some (some (.builtin "object.__setattr__")))
    (ec_NoSlot : PySem.W.subIn K (.ref C_NoSlot) (.type "BaseException") = some true)
    (tc_NoSlot : PySem.W.typeIn K (.ref C_NoSlot) = some (.type "type"))
    (kc_NoSlot : PySem.W.keepIn K (.ref C_NoSlot) = true)
    (xf_NoSlot : xfB K C_NoSlot = true)
    (xn_NoSlot_slot : PySem.W.findIn K (.ref C_NoSlot) "slot" = some none)
    (a_iNoSlot : PySem.W.findIn K (.ref C_NoSlot) "__init__" = some (some (.ref f_iNoSlot)))
    (t_iNoSlot : PySem.W.typeIn K (.ref f_iNoSlot) = some (.type "function"))
    (l_iNoSlot : K.lookup f_iNoSlot = some ⟨oc_iNoSlot, od_iNoSlot, .func (PySem.W.fnOf "__init__" "NoSlot.__init__" (defArgs s_NoSlot___init__) (defBody s_NoSlot___init__) (defScope s_NoSlot___init__) .none kV_iNoSlot dc_iNoSlot pm_iNoSlot an_iNoSlot cd_iNoSlot ct_iNoSlot), sl_iNoSlot⟩)
    (hc_iNoSlot : PySem.W.codeIn K cd_iNoSlot "NoSlot.__init__" = true)
    (k_iNoSlot : PySem.W.keepIn K (.ref f_iNoSlot) = true)
    (aC_Looped : PySem.W.nsIn K mainGlobals "Looped" = some (some (.ref C_Looped)))
    (xL_Looped : K.lookup C_Looped = some (excClassObj nm_Looped qn_Looped C_Looped N_Looped bs_Looped [.ref C_TablesError, .type "ValueError", .type "Exception", .type "BaseException", .type "object"] true sn_Looped sub_Looped ab_Looped co_Looped dd_Looped m0_Looped m1_Looped m2_Looped m3_Looped m5_Looped "ValueError.__new__"))
    (sa_Looped : PySem.W.findIn K (.ref C_Looped) "__setattr__" = some (some (.builtin "object.__setattr__")))
    (ec_Looped : PySem.W.subIn K (.ref C_Looped) (.type "BaseException") = some true)
    (tc_Looped : PySem.W.typeIn K (.ref C_Looped) = some (.type "type"))
    (kc_Looped : PySem.W.keepIn K (.ref C_Looped) = true)
    (xf_Looped : xfB K C_Looped = true)
    (xn_Looped_ring : PySem.W.findIn K (.ref C_Looped) "ring" = some none)
    (a_iLooped : PySem.W.findIn K (.ref C_Looped) "__init__" = some (some (.ref f_iLooped)))
    (t_iLooped : PySem.W.typeIn K (.ref f_iLooped) = some (.type "function"))
    (l_iLooped : K.lookup f_iLooped = some ⟨oc_iLooped, od_iLooped, .func (PySem.W.fnOf "__init__" "Looped.__init__" (defArgs s_Looped___init__) (defBody s_Looped___init__) (defScope s_Looped___init__) .none kV_iLooped dc_iLooped pm_iLooped an_iLooped cd_iLooped ct_iLooped), sl_iLooped⟩)
    (hc_iLooped : PySem.W.codeIn K cd_iLooped "Looped.__init__" = true)
    (k_iLooped : PySem.W.keepIn K (.ref f_iLooped) = true)
    (aC_BadValue : PySem.W.nsIn K mainGlobals "BadValue" = some (some (.ref C_BadValue)))
    (xL_BadValue : K.lookup C_BadValue = some (excClassObj nm_BadValue qn_BadValue C_BadValue N_BadValue bs_BadValue [.ref C_TablesError, .type "ValueError", .type "Exception", .type "BaseException", .type "object"] true sn_BadValue sub_BadValue ab_BadValue co_BadValue dd_BadValue m0_BadValue m1_BadValue m2_BadValue m3_BadValue m5_BadValue "ValueError.__new__"))
    (sa_BadValue : PySem.W.findIn K (.ref C_BadValue) "__setattr__" = some (some (.builtin "object.__setattr__")))
    (ec_BadValue : PySem.W.subIn K (.ref C_BadValue) (.type "BaseException") = some true)
    (tc_BadValue : PySem.W.typeIn K (.ref C_BadValue) = some (.type "type"))
    (kc_BadValue : PySem.W.keepIn K (.ref C_BadValue) = true)
    (xf_BadValue : xfB K C_BadValue = true)
    (xn_BadValue_at : PySem.W.findIn K (.ref C_BadValue) "at" = some none)
    (a_iBadValue : PySem.W.findIn K (.ref C_BadValue) "__init__" = some (some (.ref f_iBadValue)))
    (t_iBadValue : PySem.W.typeIn K (.ref f_iBadValue) = some (.type "function"))
    (l_iBadValue : K.lookup f_iBadValue = some ⟨oc_iBadValue, od_iBadValue, .func (PySem.W.fnOf "__init__" "BadValue.__init__" (defArgs s_BadValue___init__) (defBody s_BadValue___init__) (defScope s_BadValue___init__) .none kV_iBadValue dc_iBadValue pm_iBadValue an_iBadValue cd_iBadValue ct_iBadValue), sl_iBadValue⟩)
    (hc_iBadValue : PySem.W.codeIn K cd_iBadValue "BadValue.__init__" = true)
    (k_iBadValue : PySem.W.keepIn K (.ref f_iBadValue) = true)
    (aC_BadAnswer : PySem.W.nsIn K mainGlobals "BadAnswer" = some (some (.ref C_BadAnswer)))
    (xL_BadAnswer : K.lookup C_BadAnswer = some (excClassObj nm_BadAnswer qn_BadAnswer C_BadAnswer N_BadAnswer bs_BadAnswer [.ref C_TablesError, .type "ValueError", .type "Exception", .type "BaseException", .type "object"] true sn_BadAnswer sub_BadAnswer ab_BadAnswer co_BadAnswer dd_BadAnswer m0_BadAnswer m1_BadAnswer m2_BadAnswer m3_BadAnswer m5_BadAnswer "ValueError.__new__"))
    (sa_BadAnswer : PySem.W.findIn K (.ref C_BadAnswer) "__setattr__" = some (some (.builtin "object.__setattr__")))
    (ec_BadAnswer : PySem.W.subIn K (.ref C_BadAnswer) (.type "BaseException") = some true)
    (tc_BadAnswer : PySem.W.typeIn K (.ref C_BadAnswer) = some (.type "type"))
    (kc_BadAnswer : PySem.W.keepIn K (.ref C_BadAnswer) = true)
    (xf_BadAnswer : xfB K C_BadAnswer = true)
    (xn_BadAnswer_answer : PySem.W.findIn K (.ref C_BadAnswer) "answer" = some none)
    (a_iBadAnswer : PySem.W.findIn K (.ref C_BadAnswer) "__init__" = some (some (.ref f_iBadAnswer)))
    (t_iBadAnswer : PySem.W.typeIn K (.ref f_iBadAnswer) = some (.type "function"))
    (l_iBadAnswer : K.lookup f_iBadAnswer = some ⟨oc_iBadAnswer, od_iBadAnswer, .func (PySem.W.fnOf "__init__" "BadAnswer.__init__" (defArgs s_BadAnswer___init__) (defBody s_BadAnswer___init__) (defScope s_BadAnswer___init__) .none kV_iBadAnswer dc_iBadAnswer pm_iBadAnswer an_iBadAnswer cd_iBadAnswer ct_iBadAnswer), sl_iBadAnswer⟩)
    (hc_iBadAnswer : PySem.W.codeIn K cd_iBadAnswer "BadAnswer.__init__" = true)
    (k_iBadAnswer : PySem.W.keepIn K (.ref f_iBadAnswer) = true)
    (aC_BadScript : PySem.W.nsIn K mainGlobals "BadScript" = some (some (.ref C_BadScript)))
    (xL_BadScript : K.lookup C_BadScript = some (excClassObj nm_BadScript qn_BadScript C_BadScript N_BadScript bs_BadScript [.ref C_TablesError, .type "ValueError", .type "Exception", .type "BaseException", .type "object"] true sn_BadScript sub_BadScript ab_BadScript co_BadScript dd_BadScript m0_BadScript m1_BadScript m2_BadScript m3_BadScript m5_BadScript "ValueError.__new__"))
    (sa_BadScript : PySem.W.findIn K (.ref C_BadScript) "__setattr__" = some (some (.builtin "object.__setattr__")))
    (ec_BadScript : PySem.W.subIn K (.ref C_BadScript) (.type "BaseException") = some true)
    (tc_BadScript : PySem.W.typeIn K (.ref C_BadScript) = some (.type "type"))
    (kc_BadScript : PySem.W.keepIn K (.ref C_BadScript) = true)
    (xf_BadScript : xfB K C_BadScript = true)
    (xn_BadScript_steps : PySem.W.findIn K (.ref C_BadScript) "steps" = some none)
    (xn_BadScript_bits : PySem.W.findIn K (.ref C_BadScript) "bits" = some none)
    (a_iBadScript : PySem.W.findIn K (.ref C_BadScript) "__init__" = some (some (.ref f_iBadScript)))
    (t_iBadScript : PySem.W.typeIn K (.ref f_iBadScript) = some (.type "function"))
    (l_iBadScript : K.lookup f_iBadScript = some ⟨oc_iBadScript, od_iBadScript, .func (PySem.W.fnOf "__init__" "BadScript.__init__" (defArgs s_BadScript___init__) (defBody s_BadScript___init__) (defScope s_BadScript___init__) .none kV_iBadScript dc_iBadScript pm_iBadScript an_iBadScript cd_iBadScript ct_iBadScript), sl_iBadScript⟩)
    (hc_iBadScript : PySem.W.codeIn K cd_iBadScript "BadScript.__init__" = true)
    (k_iBadScript : PySem.W.keepIn K (.ref f_iBadScript) = true)
    (aC_Unlike : PySem.W.nsIn K mainGlobals "Unlike" = some (some (.ref C_Unlike)))
    (xL_Unlike : K.lookup C_Unlike = some (excClassObj nm_Unlike qn_Unlike C_Unlike N_Unlike bs_Unlike [.ref C_TablesError, .type "ValueError", .type "Exception", .type "BaseException", .type "object"] true sn_Unlike sub_Unlike ab_Unlike co_Unlike dd_Unlike m0_Unlike m1_Unlike m2_Unlike m3_Unlike m5_Unlike "ValueError.__new__"))
    (sa_Unlike : PySem.W.findIn K (.ref C_Unlike) "__setattr__" = some (some (.builtin "object.__setattr__")))
    (ec_Unlike : PySem.W.subIn K (.ref C_Unlike) (.type "BaseException") = some true)
    (tc_Unlike : PySem.W.typeIn K (.ref C_Unlike) = some (.type "type"))
    (kc_Unlike : PySem.W.keepIn K (.ref C_Unlike) = true)
    (xf_Unlike : xfB K C_Unlike = true)
    (xn_Unlike_name : PySem.W.findIn K (.ref C_Unlike) "name" = some none)
    (a_iUnlike : PySem.W.findIn K (.ref C_Unlike) "__init__" = some (some (.ref f_iUnlike)))
    (t_iUnlike : PySem.W.typeIn K (.ref f_iUnlike) = some (.type "function"))
    (l_iUnlike : K.lookup f_iUnlike = some ⟨oc_iUnlike, od_iUnlike, .func (PySem.W.fnOf "__init__" "Unlike.__init__" (defArgs s_Unlike___init__) (defBody s_Unlike___init__) (defScope s_Unlike___init__) .none kV_iUnlike dc_iUnlike pm_iUnlike an_iUnlike cd_iUnlike ct_iUnlike), sl_iUnlike⟩)
    (hc_iUnlike : PySem.W.codeIn K cd_iUnlike "Unlike.__init__" = true)
    (k_iUnlike : PySem.W.keepIn K (.ref f_iUnlike) = true)
    (aC_Unbounded : PySem.W.nsIn K mainGlobals "Unbounded" = some (some (.ref C_Unbounded)))
    (xL_Unbounded : K.lookup C_Unbounded = some (excClassObj nm_Unbounded qn_Unbounded C_Unbounded N_Unbounded bs_Unbounded [.ref C_TablesError, .type "ValueError", .type "Exception", .type "BaseException", .type "object"] true sn_Unbounded sub_Unbounded ab_Unbounded co_Unbounded dd_Unbounded m0_Unbounded m1_Unbounded m2_Unbounded m3_Unbounded m5_Unbounded "ValueError.__new__"))
    (sa_Unbounded : PySem.W.findIn K (.ref C_Unbounded) "__setattr__" = some (some (.builtin "object.__setattr__")))
    (ec_Unbounded : PySem.W.subIn K (.ref C_Unbounded) (.type "BaseException") = some true)
    (tc_Unbounded : PySem.W.typeIn K (.ref C_Unbounded) = some (.type "type"))
    (kc_Unbounded : PySem.W.keepIn K (.ref C_Unbounded) = true)
    (xf_Unbounded : xfB K C_Unbounded = true)
    (xn_Unbounded_name : PySem.W.findIn K (.ref C_Unbounded) "name" = some none)
    (a_iUnbounded : PySem.W.findIn K (.ref C_Unbounded) "__init__" = some (some (.ref f_iUnbounded)))
    (t_iUnbounded : PySem.W.typeIn K (.ref f_iUnbounded) = some (.type "function"))
    (l_iUnbounded : K.lookup f_iUnbounded = some ⟨oc_iUnbounded, od_iUnbounded, .func (PySem.W.fnOf "__init__" "Unbounded.__init__" (defArgs s_Unbounded___init__) (defBody s_Unbounded___init__) (defScope s_Unbounded___init__) .none kV_iUnbounded dc_iUnbounded pm_iUnbounded an_iUnbounded cd_iUnbounded ct_iUnbounded), sl_iUnbounded⟩)
    (hc_iUnbounded : PySem.W.codeIn K cd_iUnbounded "Unbounded.__init__" = true)
    (k_iUnbounded : PySem.W.keepIn K (.ref f_iUnbounded) = true)
    (aC_Silent : PySem.W.nsIn K mainGlobals "Silent" = some (some (.ref C_Silent)))
    (xL_Silent : K.lookup C_Silent = some (excClassObj nm_Silent qn_Silent C_Silent N_Silent bs_Silent [.ref C_TablesError, .type "ValueError", .type "Exception", .type "BaseException", .type "object"] true sn_Silent sub_Silent ab_Silent co_Silent dd_Silent m0_Silent m1_Silent m2_Silent m3_Silent m5_Silent "ValueError.__new__"))
    (sa_Silent : PySem.W.findIn K (.ref C_Silent) "__setattr__" = some (some (.builtin "object.__setattr__")))
    (ec_Silent : PySem.W.subIn K (.ref C_Silent) (.type "BaseException") = some true)
    (tc_Silent : PySem.W.typeIn K (.ref C_Silent) = some (.type "type"))
    (kc_Silent : PySem.W.keepIn K (.ref C_Silent) = true)
    (xf_Silent : xfB K C_Silent = true)
    (xn_Silent_at : PySem.W.findIn K (.ref C_Silent) "at" = some none)
    (a_iSilent : PySem.W.findIn K (.ref C_Silent) "__init__" = some (some (.ref f_iSilent)))
    (t_iSilent : PySem.W.typeIn K (.ref f_iSilent) = some (.type "function"))
    (l_iSilent : K.lookup f_iSilent = some ⟨oc_iSilent, od_iSilent, .func (PySem.W.fnOf "__init__" "Silent.__init__" (defArgs s_Silent___init__) (defBody s_Silent___init__) (defScope s_Silent___init__) .none kV_iSilent dc_iSilent pm_iSilent an_iSilent cd_iSilent ct_iSilent), sl_iSilent⟩)
    (hc_iSilent : PySem.W.codeIn K cd_iSilent "Silent.__init__" = true)
    (k_iSilent : PySem.W.keepIn K (.ref f_iSilent) = true)
    (aC_TooMany : PySem.W.nsIn K mainGlobals "TooMany" = some (some (.ref C_TooMany)))
    (xL_TooMany : K.lookup C_TooMany = some (excClassObj nm_TooMany qn_TooMany C_TooMany N_TooMany bs_TooMany [.ref C_TablesError, .type "ValueError", .type "Exception", .type "BaseException", .type "object"] true sn_TooMany sub_TooMany ab_TooMany co_TooMany dd_TooMany m0_TooMany m1_TooMany m2_TooMany m3_TooMany m5_TooMany "ValueError.__new__"))
    (sa_TooMany : PySem.W.findIn K (.ref C_TooMany) "__setattr__" = some (some (.builtin "object.__setattr__")))
    (ec_TooMany : PySem.W.subIn K (.ref C_TooMany) (.type "BaseException") = some true)
    (tc_TooMany : PySem.W.typeIn K (.ref C_TooMany) = some (.type "type"))
    (kc_TooMany : PySem.W.keepIn K (.ref C_TooMany) = true)
    (xf_TooMany : xfB K C_TooMany = true)
    (xn_TooMany_many : PySem.W.findIn K (.ref C_TooMany) "many" = some none)
    (a_iTooMany : PySem.W.findIn K (.ref C_TooMany) "__init__" = some (some (.ref f_iTooMany)))
    (t_iTooMany : PySem.W.typeIn K (.ref f_iTooMany) = some (.type "function"))
    (l_iTooMany : K.lookup f_iTooMany = some ⟨oc_iTooMany, od_iTooMany, .func (PySem.W.fnOf "__init__" "TooMany.__init__" (defArgs s_TooMany___init__) (defBody s_TooMany___init__) (defScope s_TooMany___init__) .none kV_iTooMany dc_iTooMany pm_iTooMany an_iTooMany cd_iTooMany ct_iTooMany), sl_iTooMany⟩)
    (hc_iTooMany : PySem.W.codeIn K cd_iTooMany "TooMany.__init__" = true)
    (k_iTooMany : PySem.W.keepIn K (.ref f_iTooMany) = true)
    (eb_BadFunction : excB K C_BadFunction = true)
    (ki_BadFunction_BadFunction : PySem.W.kitOne K (.ref C_BadFunction) (.ref C_BadFunction) = some (decide (C_BadFunction = C_BadFunction)))
    (ki_BadFunction_BadCase : PySem.W.kitOne K (.ref C_BadFunction) (.ref C_BadCase) = some (decide (C_BadFunction = C_BadCase)))
    (ki_BadFunction_Twice : PySem.W.kitOne K (.ref C_BadFunction) (.ref C_Twice) = some (decide (C_BadFunction = C_Twice)))
    (ki_BadFunction_TooLarge : PySem.W.kitOne K (.ref C_BadFunction) (.ref C_TooLarge) = some (decide (C_BadFunction = C_TooLarge)))
    (ki_BadFunction_Unknown : PySem.W.kitOne K (.ref C_BadFunction) (.ref C_Unknown) = some (decide (C_BadFunction = C_Unknown)))
    (ki_BadFunction_Arity : PySem.W.kitOne K (.ref C_BadFunction) (.ref C_Arity) = some (decide (C_BadFunction = C_Arity)))
    (ki_BadFunction_Unbound : PySem.W.kitOne K (.ref C_BadFunction) (.ref C_Unbound) = some (decide (C_BadFunction = C_Unbound)))
    (ki_BadFunction_NoSlot : PySem.W.kitOne K (.ref C_BadFunction) (.ref C_NoSlot) = some (decide (C_BadFunction = C_NoSlot)))
    (ki_BadFunction_Looped : PySem.W.kitOne K (.ref C_BadFunction) (.ref C_Looped) = some (decide (C_BadFunction = C_Looped)))
    (ki_BadFunction_BadValue : PySem.W.kitOne K (.ref C_BadFunction) (.ref C_BadValue) = some (decide (C_BadFunction = C_BadValue)))
    (ki_BadFunction_BadAnswer : PySem.W.kitOne K (.ref C_BadFunction) (.ref C_BadAnswer) = some (decide (C_BadFunction = C_BadAnswer)))
    (ki_BadFunction_BadScript : PySem.W.kitOne K (.ref C_BadFunction) (.ref C_BadScript) = some (decide (C_BadFunction = C_BadScript)))
    (ki_BadFunction_Unlike : PySem.W.kitOne K (.ref C_BadFunction) (.ref C_Unlike) = some (decide (C_BadFunction = C_Unlike)))
    (ki_BadFunction_Unbounded : PySem.W.kitOne K (.ref C_BadFunction) (.ref C_Unbounded) = some (decide (C_BadFunction = C_Unbounded)))
    (ki_BadFunction_Silent : PySem.W.kitOne K (.ref C_BadFunction) (.ref C_Silent) = some (decide (C_BadFunction = C_Silent)))
    (ki_BadFunction_TooMany : PySem.W.kitOne K (.ref C_BadFunction) (.ref C_TooMany) = some (decide (C_BadFunction = C_TooMany)))
    (ki_BadFunction_tab : PySem.W.kitOne K (.ref C_BadFunction) (.ref C_TablesError) = some true)
    (ki_BadFunction_ve : PySem.W.kitOne K (.ref C_BadFunction) (.type "ValueError") = some true)
    (eb_BadCase : excB K C_BadCase = true)
    (ki_BadCase_BadFunction : PySem.W.kitOne K (.ref C_BadCase) (.ref C_BadFunction) = some (decide (C_BadCase = C_BadFunction)))
    (ki_BadCase_BadCase : PySem.W.kitOne K (.ref C_BadCase) (.ref C_BadCase) = some (decide (C_BadCase = C_BadCase)))
    (ki_BadCase_Twice : PySem.W.kitOne K (.ref C_BadCase) (.ref C_Twice) = some (decide (C_BadCase = C_Twice)))
    (ki_BadCase_TooLarge : PySem.W.kitOne K (.ref C_BadCase) (.ref C_TooLarge) = some (decide (C_BadCase = C_TooLarge)))
    (ki_BadCase_Unknown : PySem.W.kitOne K (.ref C_BadCase) (.ref C_Unknown) = some (decide (C_BadCase = C_Unknown)))
    (ki_BadCase_Arity : PySem.W.kitOne K (.ref C_BadCase) (.ref C_Arity) = some (decide (C_BadCase = C_Arity)))
    (ki_BadCase_Unbound : PySem.W.kitOne K (.ref C_BadCase) (.ref C_Unbound) = some (decide (C_BadCase = C_Unbound)))
    (ki_BadCase_NoSlot : PySem.W.kitOne K (.ref C_BadCase) (.ref C_NoSlot) = some (decide (C_BadCase = C_NoSlot)))
    (ki_BadCase_Looped : PySem.W.kitOne K (.ref C_BadCase) (.ref C_Looped) = some (decide (C_BadCase = C_Looped)))
    (ki_BadCase_BadValue : PySem.W.kitOne K (.ref C_BadCase) (.ref C_BadValue) = some (decide (C_BadCase = C_BadValue)))
    (ki_BadCase_BadAnswer : PySem.W.kitOne K (.ref C_BadCase) (.ref C_BadAnswer) = some (decide (C_BadCase = C_BadAnswer)))
    (ki_BadCase_BadScript : PySem.W.kitOne K (.ref C_BadCase) (.ref C_BadScript) = some (decide (C_BadCase = C_BadScript)))
    (ki_BadCase_Unlike : PySem.W.kitOne K (.ref C_BadCase) (.ref C_Unlike) = some (decide (C_BadCase = C_Unlike)))
    (ki_BadCase_Unbounded : PySem.W.kitOne K (.ref C_BadCase) (.ref C_Unbounded) = some (decide (C_BadCase = C_Unbounded)))
    (ki_BadCase_Silent : PySem.W.kitOne K (.ref C_BadCase) (.ref C_Silent) = some (decide (C_BadCase = C_Silent)))
    (ki_BadCase_TooMany : PySem.W.kitOne K (.ref C_BadCase) (.ref C_TooMany) = some (decide (C_BadCase = C_TooMany)))
    (ki_BadCase_tab : PySem.W.kitOne K (.ref C_BadCase) (.ref C_TablesError) = some true)
    (ki_BadCase_ve : PySem.W.kitOne K (.ref C_BadCase) (.type "ValueError") = some true)
    (eb_Twice : excB K C_Twice = true)
    (ki_Twice_BadFunction : PySem.W.kitOne K (.ref C_Twice) (.ref C_BadFunction) = some (decide (C_Twice = C_BadFunction)))
    (ki_Twice_BadCase : PySem.W.kitOne K (.ref C_Twice) (.ref C_BadCase) = some (decide (C_Twice = C_BadCase)))
    (ki_Twice_Twice : PySem.W.kitOne K (.ref C_Twice) (.ref C_Twice) = some (decide (C_Twice = C_Twice)))
    (ki_Twice_TooLarge : PySem.W.kitOne K (.ref C_Twice) (.ref C_TooLarge) = some (decide (C_Twice = C_TooLarge)))
    (ki_Twice_Unknown : PySem.W.kitOne K (.ref C_Twice) (.ref C_Unknown) = some (decide (C_Twice = C_Unknown)))
    (ki_Twice_Arity : PySem.W.kitOne K (.ref C_Twice) (.ref C_Arity) = some (decide (C_Twice = C_Arity)))
    (ki_Twice_Unbound : PySem.W.kitOne K (.ref C_Twice) (.ref C_Unbound) = some (decide (C_Twice = C_Unbound)))
    (ki_Twice_NoSlot : PySem.W.kitOne K (.ref C_Twice) (.ref C_NoSlot) = some (decide (C_Twice = C_NoSlot)))
    (ki_Twice_Looped : PySem.W.kitOne K (.ref C_Twice) (.ref C_Looped) = some (decide (C_Twice = C_Looped)))
    (ki_Twice_BadValue : PySem.W.kitOne K (.ref C_Twice) (.ref C_BadValue) = some (decide (C_Twice = C_BadValue)))
    (ki_Twice_BadAnswer : PySem.W.kitOne K (.ref C_Twice) (.ref C_BadAnswer) = some (decide (C_Twice = C_BadAnswer)))
    (ki_Twice_BadScript : PySem.W.kitOne K (.ref C_Twice) (.ref C_BadScript) = some (decide (C_Twice = C_BadScript)))
    (ki_Twice_Unlike : PySem.W.kitOne K (.ref C_Twice) (.ref C_Unlike) = some (decide (C_Twice = C_Unlike)))
    (ki_Twice_Unbounded : PySem.W.kitOne K (.ref C_Twice) (.ref C_Unbounded) = some (decide (C_Twice = C_Unbounded)))
    (ki_Twice_Silent : PySem.W.kitOne K (.ref C_Twice) (.ref C_Silent) = some (decide (C_Twice = C_Silent)))
    (ki_Twice_TooMany : PySem.W.kitOne K (.ref C_Twice) (.ref C_TooMany) = some (decide (C_Twice = C_TooMany)))
    (ki_Twice_tab : PySem.W.kitOne K (.ref C_Twice) (.ref C_TablesError) = some true)
    (ki_Twice_ve : PySem.W.kitOne K (.ref C_Twice) (.type "ValueError") = some true)
    (eb_TooLarge : excB K C_TooLarge = true)
    (ki_TooLarge_BadFunction : PySem.W.kitOne K (.ref C_TooLarge) (.ref C_BadFunction) = some (decide (C_TooLarge = C_BadFunction)))
    (ki_TooLarge_BadCase : PySem.W.kitOne K (.ref C_TooLarge) (.ref C_BadCase) = some (decide (C_TooLarge = C_BadCase)))
    (ki_TooLarge_Twice : PySem.W.kitOne K (.ref C_TooLarge) (.ref C_Twice) = some (decide (C_TooLarge = C_Twice)))
    (ki_TooLarge_TooLarge : PySem.W.kitOne K (.ref C_TooLarge) (.ref C_TooLarge) = some (decide (C_TooLarge = C_TooLarge)))
    (ki_TooLarge_Unknown : PySem.W.kitOne K (.ref C_TooLarge) (.ref C_Unknown) = some (decide (C_TooLarge = C_Unknown)))
    (ki_TooLarge_Arity : PySem.W.kitOne K (.ref C_TooLarge) (.ref C_Arity) = some (decide (C_TooLarge = C_Arity)))
    (ki_TooLarge_Unbound : PySem.W.kitOne K (.ref C_TooLarge) (.ref C_Unbound) = some (decide (C_TooLarge = C_Unbound)))
    (ki_TooLarge_NoSlot : PySem.W.kitOne K (.ref C_TooLarge) (.ref C_NoSlot) = some (decide (C_TooLarge = C_NoSlot)))
    (ki_TooLarge_Looped : PySem.W.kitOne K (.ref C_TooLarge) (.ref C_Looped) = some (decide (C_TooLarge = C_Looped)))
    (ki_TooLarge_BadValue : PySem.W.kitOne K (.ref C_TooLarge) (.ref C_BadValue) = some (decide (C_TooLarge = C_BadValue)))
    (ki_TooLarge_BadAnswer : PySem.W.kitOne K (.ref C_TooLarge) (.ref C_BadAnswer) = some (decide (C_TooLarge = C_BadAnswer)))
    (ki_TooLarge_BadScript : PySem.W.kitOne K (.ref C_TooLarge) (.ref C_BadScript) = some (decide (C_TooLarge = C_BadScript)))
    (ki_TooLarge_Unlike : PySem.W.kitOne K (.ref C_TooLarge) (.ref C_Unlike) = some (decide (C_TooLarge = C_Unlike)))
    (ki_TooLarge_Unbounded : PySem.W.kitOne K (.ref C_TooLarge) (.ref C_Unbounded) = some (decide (C_TooLarge = C_Unbounded)))
    (ki_TooLarge_Silent : PySem.W.kitOne K (.ref C_TooLarge) (.ref C_Silent) = some (decide (C_TooLarge = C_Silent)))
    (ki_TooLarge_TooMany : PySem.W.kitOne K (.ref C_TooLarge) (.ref C_TooMany) = some (decide (C_TooLarge = C_TooMany)))
    (ki_TooLarge_tab : PySem.W.kitOne K (.ref C_TooLarge) (.ref C_TablesError) = some true)
    (ki_TooLarge_ve : PySem.W.kitOne K (.ref C_TooLarge) (.type "ValueError") = some true)
    (eb_Unknown : excB K C_Unknown = true)
    (ki_Unknown_BadFunction : PySem.W.kitOne K (.ref C_Unknown) (.ref C_BadFunction) = some (decide (C_Unknown = C_BadFunction)))
    (ki_Unknown_BadCase : PySem.W.kitOne K (.ref C_Unknown) (.ref C_BadCase) = some (decide (C_Unknown = C_BadCase)))
    (ki_Unknown_Twice : PySem.W.kitOne K (.ref C_Unknown) (.ref C_Twice) = some (decide (C_Unknown = C_Twice)))
    (ki_Unknown_TooLarge : PySem.W.kitOne K (.ref C_Unknown) (.ref C_TooLarge) = some (decide (C_Unknown = C_TooLarge)))
    (ki_Unknown_Unknown : PySem.W.kitOne K (.ref C_Unknown) (.ref C_Unknown) = some (decide (C_Unknown = C_Unknown)))
    (ki_Unknown_Arity : PySem.W.kitOne K (.ref C_Unknown) (.ref C_Arity) = some (decide (C_Unknown = C_Arity)))
    (ki_Unknown_Unbound : PySem.W.kitOne K (.ref C_Unknown) (.ref C_Unbound) = some (decide (C_Unknown = C_Unbound)))
    (ki_Unknown_NoSlot : PySem.W.kitOne K (.ref C_Unknown) (.ref C_NoSlot) = some (decide (C_Unknown = C_NoSlot)))
    (ki_Unknown_Looped : PySem.W.kitOne K (.ref C_Unknown) (.ref C_Looped) = some (decide (C_Unknown = C_Looped)))
    (ki_Unknown_BadValue : PySem.W.kitOne K (.ref C_Unknown) (.ref C_BadValue) = some (decide (C_Unknown = C_BadValue)))
    (ki_Unknown_BadAnswer : PySem.W.kitOne K (.ref C_Unknown) (.ref C_BadAnswer) = some (decide (C_Unknown = C_BadAnswer)))
    (ki_Unknown_BadScript : PySem.W.kitOne K (.ref C_Unknown) (.ref C_BadScript) = some (decide (C_Unknown = C_BadScript)))
    (ki_Unknown_Unlike : PySem.W.kitOne K (.ref C_Unknown) (.ref C_Unlike) = some (decide (C_Unknown = C_Unlike)))
    (ki_Unknown_Unbounded : PySem.W.kitOne K (.ref C_Unknown) (.ref C_Unbounded) = some (decide (C_Unknown = C_Unbounded)))
    (ki_Unknown_Silent : PySem.W.kitOne K (.ref C_Unknown) (.ref C_Silent) = some (decide (C_Unknown = C_Silent)))
    (ki_Unknown_TooMany : PySem.W.kitOne K (.ref C_Unknown) (.ref C_TooMany) = some (decide (C_Unknown = C_TooMany)))
    (ki_Unknown_tab : PySem.W.kitOne K (.ref C_Unknown) (.ref C_TablesError) = some true)
    (ki_Unknown_ve : PySem.W.kitOne K (.ref C_Unknown) (.type "ValueError") = some true)
    (eb_Arity : excB K C_Arity = true)
    (ki_Arity_BadFunction : PySem.W.kitOne K (.ref C_Arity) (.ref C_BadFunction) = some (decide (C_Arity = C_BadFunction)))
    (ki_Arity_BadCase : PySem.W.kitOne K (.ref C_Arity) (.ref C_BadCase) = some (decide (C_Arity = C_BadCase)))
    (ki_Arity_Twice : PySem.W.kitOne K (.ref C_Arity) (.ref C_Twice) = some (decide (C_Arity = C_Twice)))
    (ki_Arity_TooLarge : PySem.W.kitOne K (.ref C_Arity) (.ref C_TooLarge) = some (decide (C_Arity = C_TooLarge)))
    (ki_Arity_Unknown : PySem.W.kitOne K (.ref C_Arity) (.ref C_Unknown) = some (decide (C_Arity = C_Unknown)))
    (ki_Arity_Arity : PySem.W.kitOne K (.ref C_Arity) (.ref C_Arity) = some (decide (C_Arity = C_Arity)))
    (ki_Arity_Unbound : PySem.W.kitOne K (.ref C_Arity) (.ref C_Unbound) = some (decide (C_Arity = C_Unbound)))
    (ki_Arity_NoSlot : PySem.W.kitOne K (.ref C_Arity) (.ref C_NoSlot) = some (decide (C_Arity = C_NoSlot)))
    (ki_Arity_Looped : PySem.W.kitOne K (.ref C_Arity) (.ref C_Looped) = some (decide (C_Arity = C_Looped)))
    (ki_Arity_BadValue : PySem.W.kitOne K (.ref C_Arity) (.ref C_BadValue) = some (decide (C_Arity = C_BadValue)))
    (ki_Arity_BadAnswer : PySem.W.kitOne K (.ref C_Arity) (.ref C_BadAnswer) = some (decide (C_Arity = C_BadAnswer)))
    (ki_Arity_BadScript : PySem.W.kitOne K (.ref C_Arity) (.ref C_BadScript) = some (decide (C_Arity = C_BadScript)))
    (ki_Arity_Unlike : PySem.W.kitOne K (.ref C_Arity) (.ref C_Unlike) = some (decide (C_Arity = C_Unlike)))
    (ki_Arity_Unbounded : PySem.W.kitOne K (.ref C_Arity) (.ref C_Unbounded) = some (decide (C_Arity = C_Unbounded)))
    (ki_Arity_Silent : PySem.W.kitOne K (.ref C_Arity) (.ref C_Silent) = some (decide (C_Arity = C_Silent)))
    (ki_Arity_TooMany : PySem.W.kitOne K (.ref C_Arity) (.ref C_TooMany) = some (decide (C_Arity = C_TooMany)))
    (ki_Arity_tab : PySem.W.kitOne K (.ref C_Arity) (.ref C_TablesError) = some true)
    (ki_Arity_ve : PySem.W.kitOne K (.ref C_Arity) (.type "ValueError") = some true)
    (eb_Unbound : excB K C_Unbound = true)
    (ki_Unbound_BadFunction : PySem.W.kitOne K (.ref C_Unbound) (.ref C_BadFunction) = some (decide (C_Unbound = C_BadFunction)))
    (ki_Unbound_BadCase : PySem.W.kitOne K (.ref C_Unbound) (.ref C_BadCase) = some (decide (C_Unbound = C_BadCase)))
    (ki_Unbound_Twice : PySem.W.kitOne K (.ref C_Unbound) (.ref C_Twice) = some (decide (C_Unbound = C_Twice)))
    (ki_Unbound_TooLarge : PySem.W.kitOne K (.ref C_Unbound) (.ref C_TooLarge) = some (decide (C_Unbound = C_TooLarge)))
    (ki_Unbound_Unknown : PySem.W.kitOne K (.ref C_Unbound) (.ref C_Unknown) = some (decide (C_Unbound = C_Unknown)))
    (ki_Unbound_Arity : PySem.W.kitOne K (.ref C_Unbound) (.ref C_Arity) = some (decide (C_Unbound = C_Arity)))
    (ki_Unbound_Unbound : PySem.W.kitOne K (.ref C_Unbound) (.ref C_Unbound) = some (decide (C_Unbound = C_Unbound)))
    (ki_Unbound_NoSlot : PySem.W.kitOne K (.ref C_Unbound) (.ref C_NoSlot) = some (decide (C_Unbound = C_NoSlot)))
    (ki_Unbound_Looped : PySem.W.kitOne K (.ref C_Unbound) (.ref C_Looped) = some (decide (C_Unbound = C_Looped)))
    (ki_Unbound_BadValue : PySem.W.kitOne K (.ref C_Unbound) (.ref C_BadValue) = some (decide (C_Unbound = C_BadValue)))
    (ki_Unbound_BadAnswer : PySem.W.kitOne K (.ref C_Unbound) (.ref C_BadAnswer) = some (decide (C_Unbound = C_BadAnswer)))
    (ki_Unbound_BadScript : PySem.W.kitOne K (.ref C_Unbound) (.ref C_BadScript) = some (decide (C_Unbound = C_BadScript)))
    (ki_Unbound_Unlike : PySem.W.kitOne K (.ref C_Unbound) (.ref C_Unlike) = some (decide (C_Unbound = C_Unlike)))
    (ki_Unbound_Unbounded : PySem.W.kitOne K (.ref C_Unbound) (.ref C_Unbounded) = some (decide (C_Unbound = C_Unbounded)))
    (ki_Unbound_Silent : PySem.W.kitOne K (.ref C_Unbound) (.ref C_Silent) = some (decide (C_Unbound = C_Silent)))
    (ki_Unbound_TooMany : PySem.W.kitOne K (.ref C_Unbound) (.ref C_TooMany) = some (decide (C_Unbound = C_TooMany)))
    (ki_Unbound_tab : PySem.W.kitOne K (.ref C_Unbound) (.ref C_TablesError) = some true)
    (ki_Unbound_ve : PySem.W.kitOne K (.ref C_Unbound) (.type "ValueError") = some true)
    (eb_NoSlot : excB K C_NoSlot = true)
    (ki_NoSlot_BadFunction : PySem.W.kitOne K (.ref C_NoSlot) (.ref C_BadFunction) = some (decide (C_NoSlot = C_BadFunction)))
    (ki_NoSlot_BadCase : PySem.W.kitOne K (.ref C_NoSlot) (.ref C_BadCase) = some (decide (C_NoSlot = C_BadCase)))
    (ki_NoSlot_Twice : PySem.W.kitOne K (.ref C_NoSlot) (.ref C_Twice) = some (decide (C_NoSlot = C_Twice)))
    (ki_NoSlot_TooLarge : PySem.W.kitOne K (.ref C_NoSlot) (.ref C_TooLarge) = some (decide (C_NoSlot = C_TooLarge)))
    (ki_NoSlot_Unknown : PySem.W.kitOne K (.ref C_NoSlot) (.ref C_Unknown) = some (decide (C_NoSlot = C_Unknown)))
    (ki_NoSlot_Arity : PySem.W.kitOne K (.ref C_NoSlot) (.ref C_Arity) = some (decide (C_NoSlot = C_Arity)))
    (ki_NoSlot_Unbound : PySem.W.kitOne K (.ref C_NoSlot) (.ref C_Unbound) = some (decide (C_NoSlot = C_Unbound)))
    (ki_NoSlot_NoSlot : PySem.W.kitOne K (.ref C_NoSlot) (.ref C_NoSlot) = some (decide (C_NoSlot = C_NoSlot)))
    (ki_NoSlot_Looped : PySem.W.kitOne K (.ref C_NoSlot) (.ref C_Looped) = some (decide (C_NoSlot = C_Looped)))
    (ki_NoSlot_BadValue : PySem.W.kitOne K (.ref C_NoSlot) (.ref C_BadValue) = some (decide (C_NoSlot = C_BadValue)))
    (ki_NoSlot_BadAnswer : PySem.W.kitOne K (.ref C_NoSlot) (.ref C_BadAnswer) = some (decide (C_NoSlot = C_BadAnswer)))
    (ki_NoSlot_BadScript : PySem.W.kitOne K (.ref C_NoSlot) (.ref C_BadScript) = some (decide (C_NoSlot = C_BadScript)))
    (ki_NoSlot_Unlike : PySem.W.kitOne K (.ref C_NoSlot) (.ref C_Unlike) = some (decide (C_NoSlot = C_Unlike)))
    (ki_NoSlot_Unbounded : PySem.W.kitOne K (.ref C_NoSlot) (.ref C_Unbounded) = some (decide (C_NoSlot = C_Unbounded)))
    (ki_NoSlot_Silent : PySem.W.kitOne K (.ref C_NoSlot) (.ref C_Silent) = some (decide (C_NoSlot = C_Silent)))
    (ki_NoSlot_TooMany : PySem.W.kitOne K (.ref C_NoSlot) (.ref C_TooMany) = some (decide (C_NoSlot = C_TooMany)))
    (ki_NoSlot_tab : PySem.W.kitOne K (.ref C_NoSlot) (.ref C_TablesError) = some true)
    (ki_NoSlot_ve : PySem.W.kitOne K (.ref C_NoSlot) (.type "ValueError") = some true)
    (eb_Looped : excB K C_Looped = true)
    (ki_Looped_BadFunction : PySem.W.kitOne K (.ref C_Looped) (.ref C_BadFunction) = some (decide (C_Looped = C_BadFunction)))
    (ki_Looped_BadCase : PySem.W.kitOne K (.ref C_Looped) (.ref C_BadCase) = some (decide (C_Looped = C_BadCase)))
    (ki_Looped_Twice : PySem.W.kitOne K (.ref C_Looped) (.ref C_Twice) = some (decide (C_Looped = C_Twice)))
    (ki_Looped_TooLarge : PySem.W.kitOne K (.ref C_Looped) (.ref C_TooLarge) = some (decide (C_Looped = C_TooLarge)))
    (ki_Looped_Unknown : PySem.W.kitOne K (.ref C_Looped) (.ref C_Unknown) = some (decide (C_Looped = C_Unknown)))
    (ki_Looped_Arity : PySem.W.kitOne K (.ref C_Looped) (.ref C_Arity) = some (decide (C_Looped = C_Arity)))
    (ki_Looped_Unbound : PySem.W.kitOne K (.ref C_Looped) (.ref C_Unbound) = some (decide (C_Looped = C_Unbound)))
    (ki_Looped_NoSlot : PySem.W.kitOne K (.ref C_Looped) (.ref C_NoSlot) = some (decide (C_Looped = C_NoSlot)))
    (ki_Looped_Looped : PySem.W.kitOne K (.ref C_Looped) (.ref C_Looped) = some (decide (C_Looped = C_Looped)))
    (ki_Looped_BadValue : PySem.W.kitOne K (.ref C_Looped) (.ref C_BadValue) = some (decide (C_Looped = C_BadValue)))
    (ki_Looped_BadAnswer : PySem.W.kitOne K (.ref C_Looped) (.ref C_BadAnswer) = some (decide (C_Looped = C_BadAnswer)))
    (ki_Looped_BadScript : PySem.W.kitOne K (.ref C_Looped) (.ref C_BadScript) = some (decide (C_Looped = C_BadScript)))
    (ki_Looped_Unlike : PySem.W.kitOne K (.ref C_Looped) (.ref C_Unlike) = some (decide (C_Looped = C_Unlike)))
    (ki_Looped_Unbounded : PySem.W.kitOne K (.ref C_Looped) (.ref C_Unbounded) = some (decide (C_Looped = C_Unbounded)))
    (ki_Looped_Silent : PySem.W.kitOne K (.ref C_Looped) (.ref C_Silent) = some (decide (C_Looped = C_Silent)))
    (ki_Looped_TooMany : PySem.W.kitOne K (.ref C_Looped) (.ref C_TooMany) = some (decide (C_Looped = C_TooMany)))
    (ki_Looped_tab : PySem.W.kitOne K (.ref C_Looped) (.ref C_TablesError) = some true)
    (ki_Looped_ve : PySem.W.kitOne K (.ref C_Looped) (.type "ValueError") = some true)
    (eb_BadValue : excB K C_BadValue = true)
    (ki_BadValue_BadFunction : PySem.W.kitOne K (.ref C_BadValue) (.ref C_BadFunction) = some (decide (C_BadValue = C_BadFunction)))
    (ki_BadValue_BadCase : PySem.W.kitOne K (.ref C_BadValue) (.ref C_BadCase) = some (decide (C_BadValue = C_BadCase)))
    (ki_BadValue_Twice : PySem.W.kitOne K (.ref C_BadValue) (.ref C_Twice) = some (decide (C_BadValue = C_Twice)))
    (ki_BadValue_TooLarge : PySem.W.kitOne K (.ref C_BadValue) (.ref C_TooLarge) = some (decide (C_BadValue = C_TooLarge)))
    (ki_BadValue_Unknown : PySem.W.kitOne K (.ref C_BadValue) (.ref C_Unknown) = some (decide (C_BadValue = C_Unknown)))
    (ki_BadValue_Arity : PySem.W.kitOne K (.ref C_BadValue) (.ref C_Arity) = some (decide (C_BadValue = C_Arity)))
    (ki_BadValue_Unbound : PySem.W.kitOne K (.ref C_BadValue) (.ref C_Unbound) = some (decide (C_BadValue = C_Unbound)))
    (ki_BadValue_NoSlot : PySem.W.kitOne K (.ref C_BadValue) (.ref C_NoSlot) = some (decide (C_BadValue = C_NoSlot)))
    (ki_BadValue_Looped : PySem.W.kitOne K (.ref C_BadValue) (.ref C_Looped) = some (decide (C_BadValue = C_Looped)))
    (ki_BadValue_BadValue : PySem.W.kitOne K (.ref C_BadValue) (.ref C_BadValue) = some (decide (C_BadValue = C_BadValue)))
    (ki_BadValue_BadAnswer : PySem.W.kitOne K (.ref C_BadValue) (.ref C_BadAnswer) = some (decide (C_BadValue = C_BadAnswer)))
    (ki_BadValue_BadScript : PySem.W.kitOne K (.ref C_BadValue) (.ref C_BadScript) = some (decide (C_BadValue = C_BadScript)))
    (ki_BadValue_Unlike : PySem.W.kitOne K (.ref C_BadValue) (.ref C_Unlike) = some (decide (C_BadValue = C_Unlike)))
    (ki_BadValue_Unbounded : PySem.W.kitOne K (.ref C_BadValue) (.ref C_Unbounded) = some (decide (C_BadValue = C_Unbounded)))
    (ki_BadValue_Silent : PySem.W.kitOne K (.ref C_BadValue) (.ref C_Silent) = some (decide (C_BadValue = C_Silent)))
    (ki_BadValue_TooMany : PySem.W.kitOne K (.ref C_BadValue) (.ref C_TooMany) = some (decide (C_BadValue = C_TooMany)))
    (ki_BadValue_tab : PySem.W.kitOne K (.ref C_BadValue) (.ref C_TablesError) = some true)
    (ki_BadValue_ve : PySem.W.kitOne K (.ref C_BadValue) (.type "ValueError") = some true)
    (eb_BadAnswer : excB K C_BadAnswer = true)
    (ki_BadAnswer_BadFunction : PySem.W.kitOne K (.ref C_BadAnswer) (.ref C_BadFunction) = some (decide (C_BadAnswer = C_BadFunction)))
    (ki_BadAnswer_BadCase : PySem.W.kitOne K (.ref C_BadAnswer) (.ref C_BadCase) = some (decide (C_BadAnswer = C_BadCase)))
    (ki_BadAnswer_Twice : PySem.W.kitOne K (.ref C_BadAnswer) (.ref C_Twice) = some (decide (C_BadAnswer = C_Twice)))
    (ki_BadAnswer_TooLarge : PySem.W.kitOne K (.ref C_BadAnswer) (.ref C_TooLarge) = some (decide (C_BadAnswer = C_TooLarge)))
    (ki_BadAnswer_Unknown : PySem.W.kitOne K (.ref C_BadAnswer) (.ref C_Unknown) = some (decide (C_BadAnswer = C_Unknown)))
    (ki_BadAnswer_Arity : PySem.W.kitOne K (.ref C_BadAnswer) (.ref C_Arity) = some (decide (C_BadAnswer = C_Arity)))
    (ki_BadAnswer_Unbound : PySem.W.kitOne K (.ref C_BadAnswer) (.ref C_Unbound) = some (decide (C_BadAnswer = C_Unbound)))
    (ki_BadAnswer_NoSlot : PySem.W.kitOne K (.ref C_BadAnswer) (.ref C_NoSlot) = some (decide (C_BadAnswer = C_NoSlot)))
    (ki_BadAnswer_Looped : PySem.W.kitOne K (.ref C_BadAnswer) (.ref C_Looped) = some (decide (C_BadAnswer = C_Looped)))
    (ki_BadAnswer_BadValue : PySem.W.kitOne K (.ref C_BadAnswer) (.ref C_BadValue) = some (decide (C_BadAnswer = C_BadValue)))
    (ki_BadAnswer_BadAnswer : PySem.W.kitOne K (.ref C_BadAnswer) (.ref C_BadAnswer) = some (decide (C_BadAnswer = C_BadAnswer)))
    (ki_BadAnswer_BadScript : PySem.W.kitOne K (.ref C_BadAnswer) (.ref C_BadScript) = some (decide (C_BadAnswer = C_BadScript)))
    (ki_BadAnswer_Unlike : PySem.W.kitOne K (.ref C_BadAnswer) (.ref C_Unlike) = some (decide (C_BadAnswer = C_Unlike)))
    (ki_BadAnswer_Unbounded : PySem.W.kitOne K (.ref C_BadAnswer) (.ref C_Unbounded) = some (decide (C_BadAnswer = C_Unbounded)))
    (ki_BadAnswer_Silent : PySem.W.kitOne K (.ref C_BadAnswer) (.ref C_Silent) = some (decide (C_BadAnswer = C_Silent)))
    (ki_BadAnswer_TooMany : PySem.W.kitOne K (.ref C_BadAnswer) (.ref C_TooMany) = some (decide (C_BadAnswer = C_TooMany)))
    (ki_BadAnswer_tab : PySem.W.kitOne K (.ref C_BadAnswer) (.ref C_TablesError) = some true)
    (ki_BadAnswer_ve : PySem.W.kitOne K (.ref C_BadAnswer) (.type "ValueError") = some true)
    (eb_BadScript : excB K C_BadScript = true)
    (ki_BadScript_BadFunction : PySem.W.kitOne K (.ref C_BadScript) (.ref C_BadFunction) = some (decide (C_BadScript = C_BadFunction)))
    (ki_BadScript_BadCase : PySem.W.kitOne K (.ref C_BadScript) (.ref C_BadCase) = some (decide (C_BadScript = C_BadCase)))
    (ki_BadScript_Twice : PySem.W.kitOne K (.ref C_BadScript) (.ref C_Twice) = some (decide (C_BadScript = C_Twice)))
    (ki_BadScript_TooLarge : PySem.W.kitOne K (.ref C_BadScript) (.ref C_TooLarge) = some (decide (C_BadScript = C_TooLarge)))
    (ki_BadScript_Unknown : PySem.W.kitOne K (.ref C_BadScript) (.ref C_Unknown) = some (decide (C_BadScript = C_Unknown)))
    (ki_BadScript_Arity : PySem.W.kitOne K (.ref C_BadScript) (.ref C_Arity) = some (decide (C_BadScript = C_Arity)))
    (ki_BadScript_Unbound : PySem.W.kitOne K (.ref C_BadScript) (.ref C_Unbound) = some (decide (C_BadScript = C_Unbound)))
    (ki_BadScript_NoSlot : PySem.W.kitOne K (.ref C_BadScript) (.ref C_NoSlot) = some (decide (C_BadScript = C_NoSlot)))
    (ki_BadScript_Looped : PySem.W.kitOne K (.ref C_BadScript) (.ref C_Looped) = some (decide (C_BadScript = C_Looped)))
    (ki_BadScript_BadValue : PySem.W.kitOne K (.ref C_BadScript) (.ref C_BadValue) = some (decide (C_BadScript = C_BadValue)))
    (ki_BadScript_BadAnswer : PySem.W.kitOne K (.ref C_BadScript) (.ref C_BadAnswer) = some (decide (C_BadScript = C_BadAnswer)))
    (ki_BadScript_BadScript : PySem.W.kitOne K (.ref C_BadScript) (.ref C_BadScript) = some (decide (C_BadScript = C_BadScript)))
    (ki_BadScript_Unlike : PySem.W.kitOne K (.ref C_BadScript) (.ref C_Unlike) = some (decide (C_BadScript = C_Unlike)))
    (ki_BadScript_Unbounded : PySem.W.kitOne K (.ref C_BadScript) (.ref C_Unbounded) = some (decide (C_BadScript = C_Unbounded)))
    (ki_BadScript_Silent : PySem.W.kitOne K (.ref C_BadScript) (.ref C_Silent) = some (decide (C_BadScript = C_Silent)))
    (ki_BadScript_TooMany : PySem.W.kitOne K (.ref C_BadScript) (.ref C_TooMany) = some (decide (C_BadScript = C_TooMany)))
    (ki_BadScript_tab : PySem.W.kitOne K (.ref C_BadScript) (.ref C_TablesError) = some true)
    (ki_BadScript_ve : PySem.W.kitOne K (.ref C_BadScript) (.type "ValueError") = some true)
    (eb_Unlike : excB K C_Unlike = true)
    (ki_Unlike_BadFunction : PySem.W.kitOne K (.ref C_Unlike) (.ref C_BadFunction) = some (decide (C_Unlike = C_BadFunction)))
    (ki_Unlike_BadCase : PySem.W.kitOne K (.ref C_Unlike) (.ref C_BadCase) = some (decide (C_Unlike = C_BadCase)))
    (ki_Unlike_Twice : PySem.W.kitOne K (.ref C_Unlike) (.ref C_Twice) = some (decide (C_Unlike = C_Twice)))
    (ki_Unlike_TooLarge : PySem.W.kitOne K (.ref C_Unlike) (.ref C_TooLarge) = some (decide (C_Unlike = C_TooLarge)))
    (ki_Unlike_Unknown : PySem.W.kitOne K (.ref C_Unlike) (.ref C_Unknown) = some (decide (C_Unlike = C_Unknown)))
    (ki_Unlike_Arity : PySem.W.kitOne K (.ref C_Unlike) (.ref C_Arity) = some (decide (C_Unlike = C_Arity)))
    (ki_Unlike_Unbound : PySem.W.kitOne K (.ref C_Unlike) (.ref C_Unbound) = some (decide (C_Unlike = C_Unbound)))
    (ki_Unlike_NoSlot : PySem.W.kitOne K (.ref C_Unlike) (.ref C_NoSlot) = some (decide (C_Unlike = C_NoSlot)))
    (ki_Unlike_Looped : PySem.W.kitOne K (.ref C_Unlike) (.ref C_Looped) = some (decide (C_Unlike = C_Looped)))
    (ki_Unlike_BadValue : PySem.W.kitOne K (.ref C_Unlike) (.ref C_BadValue) = some (decide (C_Unlike = C_BadValue)))
    (ki_Unlike_BadAnswer : PySem.W.kitOne K (.ref C_Unlike) (.ref C_BadAnswer) = some (decide (C_Unlike = C_BadAnswer)))
    (ki_Unlike_BadScript : PySem.W.kitOne K (.ref C_Unlike) (.ref C_BadScript) = some (decide (C_Unlike = C_BadScript)))
    (ki_Unlike_Unlike : PySem.W.kitOne K (.ref C_Unlike) (.ref C_Unlike) = some (decide (C_Unlike = C_Unlike)))
    (ki_Unlike_Unbounded : PySem.W.kitOne K (.ref C_Unlike) (.ref C_Unbounded) = some (decide (C_Unlike = C_Unbounded)))
    (ki_Unlike_Silent : PySem.W.kitOne K (.ref C_Unlike) (.ref C_Silent) = some (decide (C_Unlike = C_Silent)))
    (ki_Unlike_TooMany : PySem.W.kitOne K (.ref C_Unlike) (.ref C_TooMany) = some (decide (C_Unlike = C_TooMany)))
    (ki_Unlike_tab : PySem.W.kitOne K (.ref C_Unlike) (.ref C_TablesError) = some true)
    (ki_Unlike_ve : PySem.W.kitOne K (.ref C_Unlike) (.type "ValueError") = some true)
    (eb_Unbounded : excB K C_Unbounded = true)
    (ki_Unbounded_BadFunction : PySem.W.kitOne K (.ref C_Unbounded) (.ref C_BadFunction) = some (decide (C_Unbounded = C_BadFunction)))
    (ki_Unbounded_BadCase : PySem.W.kitOne K (.ref C_Unbounded) (.ref C_BadCase) = some (decide (C_Unbounded = C_BadCase)))
    (ki_Unbounded_Twice : PySem.W.kitOne K (.ref C_Unbounded) (.ref C_Twice) = some (decide (C_Unbounded = C_Twice)))
    (ki_Unbounded_TooLarge : PySem.W.kitOne K (.ref C_Unbounded) (.ref C_TooLarge) = some (decide (C_Unbounded = C_TooLarge)))
    (ki_Unbounded_Unknown : PySem.W.kitOne K (.ref C_Unbounded) (.ref C_Unknown) = some (decide (C_Unbounded = C_Unknown)))
    (ki_Unbounded_Arity : PySem.W.kitOne K (.ref C_Unbounded) (.ref C_Arity) = some (decide (C_Unbounded = C_Arity)))
    (ki_Unbounded_Unbound : PySem.W.kitOne K (.ref C_Unbounded) (.ref C_Unbound) = some (decide (C_Unbounded = C_Unbound)))
    (ki_Unbounded_NoSlot : PySem.W.kitOne K (.ref C_Unbounded) (.ref C_NoSlot) = some (decide (C_Unbounded = C_NoSlot)))
    (ki_Unbounded_Looped : PySem.W.kitOne K (.ref C_Unbounded) (.ref C_Looped) = some (decide (C_Unbounded = C_Looped)))
    (ki_Unbounded_BadValue : PySem.W.kitOne K (.ref C_Unbounded) (.ref C_BadValue) = some (decide (C_Unbounded = C_BadValue)))
    (ki_Unbounded_BadAnswer : PySem.W.kitOne K (.ref C_Unbounded) (.ref C_BadAnswer) = some (decide (C_Unbounded = C_BadAnswer)))
    (ki_Unbounded_BadScript : PySem.W.kitOne K (.ref C_Unbounded) (.ref C_BadScript) = some (decide (C_Unbounded = C_BadScript)))
    (ki_Unbounded_Unlike : PySem.W.kitOne K (.ref C_Unbounded) (.ref C_Unlike) = some (decide (C_Unbounded = C_Unlike)))
    (ki_Unbounded_Unbounded : PySem.W.kitOne K (.ref C_Unbounded) (.ref C_Unbounded) = some (decide (C_Unbounded = C_Unbounded)))
    (ki_Unbounded_Silent : PySem.W.kitOne K (.ref C_Unbounded) (.ref C_Silent) = some (decide (C_Unbounded = C_Silent)))
    (ki_Unbounded_TooMany : PySem.W.kitOne K (.ref C_Unbounded) (.ref C_TooMany) = some (decide (C_Unbounded = C_TooMany)))
    (ki_Unbounded_tab : PySem.W.kitOne K (.ref C_Unbounded) (.ref C_TablesError) = some true)
    (ki_Unbounded_ve : PySem.W.kitOne K (.ref C_Unbounded) (.type "ValueError") = some true)
    (eb_Silent : excB K C_Silent = true)
    (ki_Silent_BadFunction : PySem.W.kitOne K (.ref C_Silent) (.ref C_BadFunction) = some (decide (C_Silent = C_BadFunction)))
    (ki_Silent_BadCase : PySem.W.kitOne K (.ref C_Silent) (.ref C_BadCase) = some (decide (C_Silent = C_BadCase)))
    (ki_Silent_Twice : PySem.W.kitOne K (.ref C_Silent) (.ref C_Twice) = some (decide (C_Silent = C_Twice)))
    (ki_Silent_TooLarge : PySem.W.kitOne K (.ref C_Silent) (.ref C_TooLarge) = some (decide (C_Silent = C_TooLarge)))
    (ki_Silent_Unknown : PySem.W.kitOne K (.ref C_Silent) (.ref C_Unknown) = some (decide (C_Silent = C_Unknown)))
    (ki_Silent_Arity : PySem.W.kitOne K (.ref C_Silent) (.ref C_Arity) = some (decide (C_Silent = C_Arity)))
    (ki_Silent_Unbound : PySem.W.kitOne K (.ref C_Silent) (.ref C_Unbound) = some (decide (C_Silent = C_Unbound)))
    (ki_Silent_NoSlot : PySem.W.kitOne K (.ref C_Silent) (.ref C_NoSlot) = some (decide (C_Silent = C_NoSlot)))
    (ki_Silent_Looped : PySem.W.kitOne K (.ref C_Silent) (.ref C_Looped) = some (decide (C_Silent = C_Looped)))
    (ki_Silent_BadValue : PySem.W.kitOne K (.ref C_Silent) (.ref C_BadValue) = some (decide (C_Silent = C_BadValue)))
    (ki_Silent_BadAnswer : PySem.W.kitOne K (.ref C_Silent) (.ref C_BadAnswer) = some (decide (C_Silent = C_BadAnswer)))
    (ki_Silent_BadScript : PySem.W.kitOne K (.ref C_Silent) (.ref C_BadScript) = some (decide (C_Silent = C_BadScript)))
    (ki_Silent_Unlike : PySem.W.kitOne K (.ref C_Silent) (.ref C_Unlike) = some (decide (C_Silent = C_Unlike)))
    (ki_Silent_Unbounded : PySem.W.kitOne K (.ref C_Silent) (.ref C_Unbounded) = some (decide (C_Silent = C_Unbounded)))
    (ki_Silent_Silent : PySem.W.kitOne K (.ref C_Silent) (.ref C_Silent) = some (decide (C_Silent = C_Silent)))
    (ki_Silent_TooMany : PySem.W.kitOne K (.ref C_Silent) (.ref C_TooMany) = some (decide (C_Silent = C_TooMany)))
    (ki_Silent_tab : PySem.W.kitOne K (.ref C_Silent) (.ref C_TablesError) = some true)
    (ki_Silent_ve : PySem.W.kitOne K (.ref C_Silent) (.type "ValueError") = some true)
    (eb_TooMany : excB K C_TooMany = true)
    (ki_TooMany_BadFunction : PySem.W.kitOne K (.ref C_TooMany) (.ref C_BadFunction) = some (decide (C_TooMany = C_BadFunction)))
    (ki_TooMany_BadCase : PySem.W.kitOne K (.ref C_TooMany) (.ref C_BadCase) = some (decide (C_TooMany = C_BadCase)))
    (ki_TooMany_Twice : PySem.W.kitOne K (.ref C_TooMany) (.ref C_Twice) = some (decide (C_TooMany = C_Twice)))
    (ki_TooMany_TooLarge : PySem.W.kitOne K (.ref C_TooMany) (.ref C_TooLarge) = some (decide (C_TooMany = C_TooLarge)))
    (ki_TooMany_Unknown : PySem.W.kitOne K (.ref C_TooMany) (.ref C_Unknown) = some (decide (C_TooMany = C_Unknown)))
    (ki_TooMany_Arity : PySem.W.kitOne K (.ref C_TooMany) (.ref C_Arity) = some (decide (C_TooMany = C_Arity)))
    (ki_TooMany_Unbound : PySem.W.kitOne K (.ref C_TooMany) (.ref C_Unbound) = some (decide (C_TooMany = C_Unbound)))
    (ki_TooMany_NoSlot : PySem.W.kitOne K (.ref C_TooMany) (.ref C_NoSlot) = some (decide (C_TooMany = C_NoSlot)))
    (ki_TooMany_Looped : PySem.W.kitOne K (.ref C_TooMany) (.ref C_Looped) = some (decide (C_TooMany = C_Looped)))
    (ki_TooMany_BadValue : PySem.W.kitOne K (.ref C_TooMany) (.ref C_BadValue) = some (decide (C_TooMany = C_BadValue)))
    (ki_TooMany_BadAnswer : PySem.W.kitOne K (.ref C_TooMany) (.ref C_BadAnswer) = some (decide (C_TooMany = C_BadAnswer)))
    (ki_TooMany_BadScript : PySem.W.kitOne K (.ref C_TooMany) (.ref C_BadScript) = some (decide (C_TooMany = C_BadScript)))
    (ki_TooMany_Unlike : PySem.W.kitOne K (.ref C_TooMany) (.ref C_Unlike) = some (decide (C_TooMany = C_Unlike)))
    (ki_TooMany_Unbounded : PySem.W.kitOne K (.ref C_TooMany) (.ref C_Unbounded) = some (decide (C_TooMany = C_Unbounded)))
    (ki_TooMany_Silent : PySem.W.kitOne K (.ref C_TooMany) (.ref C_Silent) = some (decide (C_TooMany = C_Silent)))
    (ki_TooMany_TooMany : PySem.W.kitOne K (.ref C_TooMany) (.ref C_TooMany) = some (decide (C_TooMany = C_TooMany)))
    (ki_TooMany_tab : PySem.W.kitOne K (.ref C_TooMany) (.ref C_TablesError) = some true)
    (ki_TooMany_ve : PySem.W.kitOne K (.ref C_TooMany) (.type "ValueError") = some true)
    (a_cell : PySem.W.nsIn K mainGlobals "_law_cell" = some (some (.ref f_cell)))
    (l_cell : K.lookup f_cell = some ⟨oc_cell, od_cell, .func (PySem.W.fnOf "_law_cell" "_law_cell" (defArgs s_cell) (defBody s_cell) (defScope s_cell) .none kV_cell dc_cell pm_cell an_cell cd_cell ct_cell), sl_cell⟩)
    (hc_cell : PySem.W.codeIn K cd_cell "_law_cell" = true)
    (k_cell : PySem.W.keepIn K (.ref f_cell) = true)
    (a_kinds : PySem.W.nsIn K mainGlobals "_law_kinds" = some (some (.ref f_kinds)))
    (l_kinds : K.lookup f_kinds = some ⟨oc_kinds, od_kinds, .func (PySem.W.fnOf "_law_kinds" "_law_kinds" (defArgs s_kinds) (defBody s_kinds) (defScope s_kinds) .none kV_kinds dc_kinds pm_kinds an_kinds cd_kinds ct_kinds), sl_kinds⟩)
    (hc_kinds : PySem.W.codeIn K cd_kinds "_law_kinds" = true)
    (k_kinds : PySem.W.keepIn K (.ref f_kinds) = true)
    (a_fields : PySem.W.nsIn K mainGlobals "_law_fields" = some (some (.ref f_fields)))
    (l_fields : K.lookup f_fields = some ⟨oc_fields, od_fields, .func (PySem.W.fnOf "_law_fields" "_law_fields" (defArgs s_fields) (defBody s_fields) (defScope s_fields) .none kV_fields dc_fields pm_fields an_fields cd_fields ct_fields), sl_fields⟩)
    (hc_fields : PySem.W.codeIn K cd_fields "_law_fields" = true)
    (k_fields : PySem.W.keepIn K (.ref f_fields) = true)
    (a_law : PySem.W.nsIn K mainGlobals "law" = some (some (.ref f_law)))
    (l_law : K.lookup f_law = some ⟨oc_law, od_law, .func (PySem.W.fnOf "law" "law" (defArgs s_law) (defBody s_law) (defScope s_law) .none kV_law dc_law pm_law an_law cd_law ct_law), sl_law⟩)
    (hc_law : PySem.W.codeIn K cd_law "law" = true)
    (k_law : PySem.W.keepIn K (.ref f_law) = true)
    (z_len : PySem.W.nsIn K mainGlobals "len" = some none)
    (z_int : PySem.W.nsIn K mainGlobals "int" = some none)
    (z_str : PySem.W.nsIn K mainGlobals "str" = some none)
    (z_enumerate : PySem.W.nsIn K mainGlobals "enumerate" = some none)
    (z_range : PySem.W.nsIn K mainGlobals "range" = some none)
    (z_min : PySem.W.nsIn K mainGlobals "min" = some none)
    (z_max : PySem.W.nsIn K mainGlobals "max" = some none)
    (z_isinstance : PySem.W.nsIn K mainGlobals "isinstance" = some none)
    (z_repr : PySem.W.nsIn K mainGlobals "repr" = some none)
    (z_ValueError : PySem.W.nsIn K mainGlobals "ValueError" = some none) :
    ∀ base : Heap, K.In base → base.Ns mainGlobals mg → (∀ p ∈ ([] : List (Addr × Addr)), LamX.TabB base mg p.1 p.2) → FnG P w K mg base (L2.CX P w) 3 fa (spF K 1 (F_law ⟨C_BadFunction, C_BadCase, C_Twice, C_TooLarge, C_Unknown, C_Arity, C_Unbound, C_NoSlot, C_Looped, C_BadValue, C_BadAnswer, C_BadScript, C_Unlike, C_Unbounded, C_Silent, C_TooMany, C_TablesError⟩)) := by
  have TO_BadFunction : OexC K C_BadFunction := ⟨⟨_, _, _, _, _, _, _, _, _, _, _, _, _, _, _, xL_BadFunction, (show PySem.HandSPX.refsVE [.type "ValueError", .type "Exception", .type "BaseException", .type "object"] = true by decide +kernel)⟩, sa_BadFunction, ec_BadFunction, tc_BadFunction, kc_BadFunction⟩
  have FU_BadFunction := fun_mk (st := s_BadFunction___init__) l_iBadFunction hc_iBadFunction k_iBadFunction
  have TO_BadCase : OexC K C_BadCase := ⟨⟨_, _, _, _, _, _, _, _, _, _, _, _, _, _, _, xL_BadCase, (show PySem.HandSPX.refsVE [.type "ValueError", .type "Exception", .type "BaseException", .type "object"] = true by decide +kernel)⟩, sa_BadCase, ec_BadCase, tc_BadCase, kc_BadCase⟩
  have FU_BadCase := fun_mk (st := s_BadCase___init__) l_iBadCase hc_iBadCase k_iBadCase
  have TO_Twice : OexC K C_Twice := ⟨⟨_, _, _, _, _, _, _, _, _, _, _, _, _, _, _, xL_Twice, (show PySem.HandSPX.refsVE [.type "ValueError", .type "Exception", .type "BaseException", .type "object"] = true by decide +kernel)⟩, sa_Twice, ec_Twice, tc_Twice, kc_Twice⟩
  have FU_Twice := fun_mk (st := s_Twice___init__) l_iTwice hc_iTwice k_iTwice
  have TO_TooLarge : OexC K C_TooLarge := ⟨⟨_, _, _, _, _, _, _, _, _, _, _, _, _, _, _, xL_TooLarge, (show PySem.HandSPX.refsVE [.type "ValueError", .type "Exception", .type "BaseException", .type "object"] = true by decide +kernel)⟩, sa_TooLarge, ec_TooLarge, tc_TooLarge, kc_TooLarge⟩
  have FU_TooLarge := fun_mk (st := s_TooLarge___init__) l_iTooLarge hc_iTooLarge k_iTooLarge
  have TO_Unknown : OexC K C_Unknown := ⟨⟨_, _, _, _, _, _, _, _, _, _, _, _, _, _, _, xL_Unknown, (show PySem.HandSPX.refsVE [.type "ValueError", .type "Exception", .type "BaseException", .type "object"] = true by decide +kernel)⟩, sa_Unknown, ec_Unknown, tc_Unknown, kc_Unknown⟩
  have FU_Unknown := fun_mk (st := s_Unknown___init__) l_iUnknown hc_iUnknown k_iUnknown
  have TO_Arity : OexC K C_Arity := ⟨⟨_, _, _, _, _, _, _, _, _, _, _, _, _, _, _, xL_Arity, (show PySem.HandSPX.refsVE [.type "ValueError", .type "Exception", .type "BaseException", .type "object"] = true by decide +kernel)⟩, sa_Arity, ec_Arity, tc_Arity, kc_Arity⟩
  have FU_Arity := fun_mk (st := s_Arity___init__) l_iArity hc_iArity k_iArity
  have TO_Unbound : OexC K C_Unbound := ⟨⟨_, _, _, _, _, _, _, _, _, _, _, _, _, _, _, xL_Unbound, (show PySem.HandSPX.refsVE [.type "ValueError", .type "Exception", .type "BaseException", .type "object"] = true by decide +kernel)⟩, sa_Unbound, ec_Unbound, tc_Unbound, kc_Unbound⟩
  have FU_Unbound := fun_mk (st := s_Unbound___init__) l_iUnbound hc_iUnbound k_iUnbound
  have TO_NoSlot : OexC K C_NoSlot := ⟨⟨_, _, _, _, _, _, _, _, _, _, _, _, _, _, _, xL_NoSlot, (show PySem.HandSPX.refsVE [.type "ValueError", .type "Exception", .type "BaseException", .type "object"] = true by decide +kernel)⟩, sa_NoSlot, ec_NoSlot, tc_NoSlot, kc_NoSlot⟩
  have FU_NoSlot := fun_mk (st := s_NoSlot___init__) l_iNoSlot hc_iNoSlot k_iNoSlot
  have TO_Looped : OexC K C_Looped := ⟨⟨_, _, _, _, _, _, _, _, _, _, _, _, _, _, _, xL_Looped, (show PySem.HandSPX.refsVE [.type "ValueError", .type "Exception", .type "BaseException", .type "object"] = true by decide +kernel)⟩, sa_Looped, ec_Looped, tc_Looped, kc_Looped⟩
  have FU_Looped := fun_mk (st := s_Looped___init__) l_iLooped hc_iLooped k_iLooped
  have TO_BadValue : OexC K C_BadValue := ⟨⟨_, _, _, _, _, _, _, _, _, _, _, _, _, _, _, xL_BadValue, (show PySem.HandSPX.refsVE [.type "ValueError", .type "Exception", .type "BaseException", .type "object"] = true by decide +kernel)⟩, sa_BadValue, ec_BadValue, tc_BadValue, kc_BadValue⟩
  have FU_BadValue := fun_mk (st := s_BadValue___init__) l_iBadValue hc_iBadValue k_iBadValue
  have TO_BadAnswer : OexC K C_BadAnswer := ⟨⟨_, _, _, _, _, _, _, _, _, _, _, _, _, _, _, xL_BadAnswer, (show PySem.HandSPX.refsVE [.type "ValueError", .type "Exception", .type "BaseException", .type "object"] = true by decide +kernel)⟩, sa_BadAnswer, ec_BadAnswer, tc_BadAnswer, kc_BadAnswer⟩
  have FU_BadAnswer := fun_mk (st := s_BadAnswer___init__) l_iBadAnswer hc_iBadAnswer k_iBadAnswer
  have TO_BadScript : OexC K C_BadScript := ⟨⟨_, _, _, _, _, _, _, _, _, _, _, _, _, _, _, xL_BadScript, (show PySem.HandSPX.refsVE [.type "ValueError", .type "Exception", .type "BaseException", .type "object"] = true by decide +kernel)⟩, sa_BadScript, ec_BadScript, tc_BadScript, kc_BadScript⟩
  have FU_BadScript := fun_mk (st := s_BadScript___init__) l_iBadScript hc_iBadScript k_iBadScript
  have TO_Unlike : OexC K C_Unlike := ⟨⟨_, _, _, _, _, _, _, _, _, _, _, _, _, _, _, xL_Unlike, (show PySem.HandSPX.refsVE [.type "ValueError", .type "Exception", .type "BaseException", .type "object"] = true by decide +kernel)⟩, sa_Unlike, ec_Unlike, tc_Unlike, kc_Unlike⟩
  have FU_Unlike := fun_mk (st := s_Unlike___init__) l_iUnlike hc_iUnlike k_iUnlike
  have TO_Unbounded : OexC K C_Unbounded := ⟨⟨_, _, _, _, _, _, _, _, _, _, _, _, _, _, _, xL_Unbounded, (show PySem.HandSPX.refsVE [.type "ValueError", .type "Exception", .type "BaseException", .type "object"] = true by decide +kernel)⟩, sa_Unbounded, ec_Unbounded, tc_Unbounded, kc_Unbounded⟩
  have FU_Unbounded := fun_mk (st := s_Unbounded___init__) l_iUnbounded hc_iUnbounded k_iUnbounded
  have TO_Silent : OexC K C_Silent := ⟨⟨_, _, _, _, _, _, _, _, _, _, _, _, _, _, _, xL_Silent, (show PySem.HandSPX.refsVE [.type "ValueError", .type "Exception", .type "BaseException", .type "object"] = true by decide +kernel)⟩, sa_Silent, ec_Silent, tc_Silent, kc_Silent⟩
  have FU_Silent := fun_mk (st := s_Silent___init__) l_iSilent hc_iSilent k_iSilent
  have TO_TooMany : OexC K C_TooMany := ⟨⟨_, _, _, _, _, _, _, _, _, _, _, _, _, _, _, xL_TooMany, (show PySem.HandSPX.refsVE [.type "ValueError", .type "Exception", .type "BaseException", .type "object"] = true by decide +kernel)⟩, sa_TooMany, ec_TooMany, tc_TooMany, kc_TooMany⟩
  have FU_TooMany := fun_mk (st := s_TooMany___init__) l_iTooMany hc_iTooMany k_iTooMany
  have D_cell : Def K mg "_law_cell" s_cell ["_law_script", "_law_place"] := ⟨f_cell, _, fun_mk (st := s_cell) l_cell hc_cell k_cell, PySem.W.mg_of X G a_cell, (fun_mk (st := s_cell) l_cell hc_cell k_cell).binds fun _ _ _ _ _ _ us hl => match us, hl with | [_, _], _ => rfl⟩
  have D_kinds : Def K mg "_law_kinds" s_kinds ["_law_e"] := ⟨f_kinds, _, fun_mk (st := s_kinds) l_kinds hc_kinds k_kinds, PySem.W.mg_of X G a_kinds, (fun_mk (st := s_kinds) l_kinds hc_kinds k_kinds).binds fun _ _ _ _ _ _ us hl => match us, hl with | [_], _ => rfl⟩
  have D_fields : Def K mg "_law_fields" s_fields ["_law_row"] := ⟨f_fields, _, fun_mk (st := s_fields) l_fields hc_fields k_fields, PySem.W.mg_of X G a_fields, (fun_mk (st := s_fields) l_fields hc_fields k_fields).binds fun _ _ _ _ _ _ us hl => match us, hl with | [_], _ => rfl⟩
  have D_law : Def K mg "law" s_law ["_law_script"] := ⟨f_law, _, fun_mk (st := s_law) l_law hc_law k_law, PySem.W.mg_of X G a_law, (fun_mk (st := s_law) l_law hc_law k_law).binds fun _ _ _ _ _ _ us hl => match us, hl with | [_], _ => rfl⟩
  have T : Txt K mg := ⟨PySem.W.mg_none_of X G z_len, PySem.W.mg_none_of X G z_int, PySem.W.mg_none_of X G z_str, PySem.W.mg_none_of X G z_enumerate, PySem.W.mg_none_of X G z_range, PySem.W.mg_none_of X G z_min, PySem.W.mg_none_of X G z_max, PySem.W.mg_none_of X G z_isinstance, PySem.W.mg_none_of X G z_repr, PySem.W.mg_none_of X G z_ValueError⟩
  intro base KB GB TBs
  have X_BadFunction : Exc P w K mg base 1 "BadFunction" C_BadFunction 1 (spX1 C_BadFunction "at") := ⟨TO_BadFunction, PySem.W.mg_of X G aC_BadFunction, f_iBadFunction, _, ["self", "at"], a_iBadFunction, t_iBadFunction, x1_init TO_BadFunction xn_BadFunction_at FU_BadFunction sc_BadFunction___init__ rfl rfl rfl (by decide) (by decide) (fun _ => rfl), FU_BadFunction.binds fun _ _ _ _ _ _ us hl => match us, hl with | [_, _], _ => rfl⟩
  have X_BadCase : Exc P w K mg base 1 "BadCase" C_BadCase 1 (spX1 C_BadCase "at") := ⟨TO_BadCase, PySem.W.mg_of X G aC_BadCase, f_iBadCase, _, ["self", "at"], a_iBadCase, t_iBadCase, x1_init TO_BadCase xn_BadCase_at FU_BadCase sc_BadCase___init__ rfl rfl rfl (by decide) (by decide) (fun _ => rfl), FU_BadCase.binds fun _ _ _ _ _ _ us hl => match us, hl with | [_, _], _ => rfl⟩
  have X_Twice : Exc P w K mg base 1 "Twice" C_Twice 1 (spX1 C_Twice "name") := ⟨TO_Twice, PySem.W.mg_of X G aC_Twice, f_iTwice, _, ["self", "name"], a_iTwice, t_iTwice, x1_init TO_Twice xn_Twice_name FU_Twice sc_Twice___init__ rfl rfl rfl (by decide) (by decide) (fun _ => rfl), FU_Twice.binds fun _ _ _ _ _ _ us hl => match us, hl with | [_, _], _ => rfl⟩
  have X_TooLarge : Exc P w K mg base 1 "TooLarge" C_TooLarge 2 (spX2 C_TooLarge "nodes" "deepest") := ⟨TO_TooLarge, PySem.W.mg_of X G aC_TooLarge, f_iTooLarge, _, ["self", "nodes", "deepest"], a_iTooLarge, t_iTooLarge, x2_init TO_TooLarge xn_TooLarge_nodes xn_TooLarge_deepest FU_TooLarge sc_TooLarge___init__ rfl rfl rfl rfl (by decide) (by decide) (by decide) (by decide) (fun _ => rfl) (fun _ => rfl), FU_TooLarge.binds fun _ _ _ _ _ _ us hl => match us, hl with | [_, _, _], _ => rfl⟩
  have X_Unknown : Exc P w K mg base 1 "Unknown" C_Unknown 1 (spX1 C_Unknown "name") := ⟨TO_Unknown, PySem.W.mg_of X G aC_Unknown, f_iUnknown, _, ["self", "name"], a_iUnknown, t_iUnknown, x1_init TO_Unknown xn_Unknown_name FU_Unknown sc_Unknown___init__ rfl rfl rfl (by decide) (by decide) (fun _ => rfl), FU_Unknown.binds fun _ _ _ _ _ _ us hl => match us, hl with | [_, _], _ => rfl⟩
  have X_Arity : Exc P w K mg base 1 "Arity" C_Arity 2 (spX2 C_Arity "name" "given") := ⟨TO_Arity, PySem.W.mg_of X G aC_Arity, f_iArity, _, ["self", "name", "given"], a_iArity, t_iArity, x2_init TO_Arity xn_Arity_name xn_Arity_given FU_Arity sc_Arity___init__ rfl rfl rfl rfl (by decide) (by decide) (by decide) (by decide) (fun _ => rfl) (fun _ => rfl), FU_Arity.binds fun _ _ _ _ _ _ us hl => match us, hl with | [_, _, _], _ => rfl⟩
  have X_Unbound : Exc P w K mg base 1 "Unbound" C_Unbound 1 (spX1 C_Unbound "name") := ⟨TO_Unbound, PySem.W.mg_of X G aC_Unbound, f_iUnbound, _, ["self", "name"], a_iUnbound, t_iUnbound, x1_init TO_Unbound xn_Unbound_name FU_Unbound sc_Unbound___init__ rfl rfl rfl (by decide) (by decide) (fun _ => rfl), FU_Unbound.binds fun _ _ _ _ _ _ us hl => match us, hl with | [_, _], _ => rfl⟩
  have X_NoSlot : Exc P w K mg base 1 "NoSlot" C_NoSlot 1 (spX1 C_NoSlot "slot") := ⟨TO_NoSlot, PySem.W.mg_of X G aC_NoSlot, f_iNoSlot, _, ["self", "slot"], a_iNoSlot, t_iNoSlot, x1_init TO_NoSlot xn_NoSlot_slot FU_NoSlot sc_NoSlot___init__ rfl rfl rfl (by decide) (by decide) (fun _ => rfl), FU_NoSlot.binds fun _ _ _ _ _ _ us hl => match us, hl with | [_, _], _ => rfl⟩
  have X_Looped : Exc P w K mg base 1 "Looped" C_Looped 1 (spX1 C_Looped "ring") := ⟨TO_Looped, PySem.W.mg_of X G aC_Looped, f_iLooped, _, ["self", "ring"], a_iLooped, t_iLooped, x1_init TO_Looped xn_Looped_ring FU_Looped sc_Looped___init__ rfl rfl rfl (by decide) (by decide) (fun _ => rfl), FU_Looped.binds fun _ _ _ _ _ _ us hl => match us, hl with | [_, _], _ => rfl⟩
  have X_BadValue : Exc P w K mg base 1 "BadValue" C_BadValue 1 (spX1 C_BadValue "at") := ⟨TO_BadValue, PySem.W.mg_of X G aC_BadValue, f_iBadValue, _, ["self", "at"], a_iBadValue, t_iBadValue, x1_init TO_BadValue xn_BadValue_at FU_BadValue sc_BadValue___init__ rfl rfl rfl (by decide) (by decide) (fun _ => rfl), FU_BadValue.binds fun _ _ _ _ _ _ us hl => match us, hl with | [_, _], _ => rfl⟩
  have X_BadAnswer : Exc P w K mg base 1 "BadAnswer" C_BadAnswer 1 (spX1 C_BadAnswer "answer") := ⟨TO_BadAnswer, PySem.W.mg_of X G aC_BadAnswer, f_iBadAnswer, _, ["self", "answer"], a_iBadAnswer, t_iBadAnswer, x1_init TO_BadAnswer xn_BadAnswer_answer FU_BadAnswer sc_BadAnswer___init__ rfl rfl rfl (by decide) (by decide) (fun _ => rfl), FU_BadAnswer.binds fun _ _ _ _ _ _ us hl => match us, hl with | [_, _], _ => rfl⟩
  have X_BadScript : Exc P w K mg base 1 "BadScript" C_BadScript 2 (spX2 C_BadScript "steps" "bits") := ⟨TO_BadScript, PySem.W.mg_of X G aC_BadScript, f_iBadScript, _, ["self", "steps", "bits"], a_iBadScript, t_iBadScript, x2_init TO_BadScript xn_BadScript_steps xn_BadScript_bits FU_BadScript sc_BadScript___init__ rfl rfl rfl rfl (by decide) (by decide) (by decide) (by decide) (fun _ => rfl) (fun _ => rfl), FU_BadScript.binds fun _ _ _ _ _ _ us hl => match us, hl with | [_, _, _], _ => rfl⟩
  have X_Unlike : Exc P w K mg base 1 "Unlike" C_Unlike 1 (spX1 C_Unlike "name") := ⟨TO_Unlike, PySem.W.mg_of X G aC_Unlike, f_iUnlike, _, ["self", "name"], a_iUnlike, t_iUnlike, x1_init TO_Unlike xn_Unlike_name FU_Unlike sc_Unlike___init__ rfl rfl rfl (by decide) (by decide) (fun _ => rfl), FU_Unlike.binds fun _ _ _ _ _ _ us hl => match us, hl with | [_, _], _ => rfl⟩
  have X_Unbounded : Exc P w K mg base 1 "Unbounded" C_Unbounded 1 (spX1 C_Unbounded "name") := ⟨TO_Unbounded, PySem.W.mg_of X G aC_Unbounded, f_iUnbounded, _, ["self", "name"], a_iUnbounded, t_iUnbounded, x1_init TO_Unbounded xn_Unbounded_name FU_Unbounded sc_Unbounded___init__ rfl rfl rfl (by decide) (by decide) (fun _ => rfl), FU_Unbounded.binds fun _ _ _ _ _ _ us hl => match us, hl with | [_, _], _ => rfl⟩
  have X_Silent : Exc P w K mg base 1 "Silent" C_Silent 1 (spX1 C_Silent "at") := ⟨TO_Silent, PySem.W.mg_of X G aC_Silent, f_iSilent, _, ["self", "at"], a_iSilent, t_iSilent, x1_init TO_Silent xn_Silent_at FU_Silent sc_Silent___init__ rfl rfl rfl (by decide) (by decide) (fun _ => rfl), FU_Silent.binds fun _ _ _ _ _ _ us hl => match us, hl with | [_, _], _ => rfl⟩
  have X_TooMany : Exc P w K mg base 1 "TooMany" C_TooMany 1 (spX1 C_TooMany "many") := ⟨TO_TooMany, PySem.W.mg_of X G aC_TooMany, f_iTooMany, _, ["self", "many"], a_iTooMany, t_iTooMany, x1_init TO_TooMany xn_TooMany_many FU_TooMany sc_TooMany___init__ rfl rfl rfl (by decide) (by decide) (fun _ => rfl), FU_TooMany.binds fun _ _ _ _ _ _ us hl => match us, hl with | [_, _], _ => rfl⟩
  let c : Ad := ⟨C_BadFunction, C_BadCase, C_Twice, C_TooLarge, C_Unknown, C_Arity, C_Unbound, C_NoSlot, C_Looped, C_BadValue, C_BadAnswer, C_BadScript, C_Unlike, C_Unbounded, C_Silent, C_TooMany, C_TablesError⟩
  have XK_BadFunction : ExcK P w K mg base 1 "BadFunction" C_BadFunction ["at"] false (spX1 C_BadFunction "at") := ⟨TO_BadFunction, PySem.W.mg_of X G aC_BadFunction, f_iBadFunction, _, ["self", "at"], a_iBadFunction, t_iBadFunction, x1_init TO_BadFunction xn_BadFunction_at FU_BadFunction sc_BadFunction___init__ rfl rfl rfl (by decide) (by decide) (fun _ => rfl), fun a ws hl => match ws, hl with | [_], _ => rfl⟩
  have XK_BadCase : ExcK P w K mg base 1 "BadCase" C_BadCase ["at"] false (spX1 C_BadCase "at") := ⟨TO_BadCase, PySem.W.mg_of X G aC_BadCase, f_iBadCase, _, ["self", "at"], a_iBadCase, t_iBadCase, x1_init TO_BadCase xn_BadCase_at FU_BadCase sc_BadCase___init__ rfl rfl rfl (by decide) (by decide) (fun _ => rfl), fun a ws hl => match ws, hl with | [_], _ => rfl⟩
  have XK_Twice : ExcK P w K mg base 1 "Twice" C_Twice ["name"] false (spX1 C_Twice "name") := ⟨TO_Twice, PySem.W.mg_of X G aC_Twice, f_iTwice, _, ["self", "name"], a_iTwice, t_iTwice, x1_init TO_Twice xn_Twice_name FU_Twice sc_Twice___init__ rfl rfl rfl (by decide) (by decide) (fun _ => rfl), fun a ws hl => match ws, hl with | [_], _ => rfl⟩
  have XK_TooLarge : ExcK P w K mg base 1 "TooLarge" C_TooLarge ["deepest", "nodes"] true (spX2 C_TooLarge "nodes" "deepest") := ⟨TO_TooLarge, PySem.W.mg_of X G aC_TooLarge, f_iTooLarge, _, ["self", "nodes", "deepest"], a_iTooLarge, t_iTooLarge, x2_init TO_TooLarge xn_TooLarge_nodes xn_TooLarge_deepest FU_TooLarge sc_TooLarge___init__ rfl rfl rfl rfl (by decide) (by decide) (by decide) (by decide) (fun _ => rfl) (fun _ => rfl), fun a ws hl => match ws, hl with | [_, _], _ => rfl⟩
  have XK_Unknown : ExcK P w K mg base 1 "Unknown" C_Unknown ["name"] false (spX1 C_Unknown "name") := ⟨TO_Unknown, PySem.W.mg_of X G aC_Unknown, f_iUnknown, _, ["self", "name"], a_iUnknown, t_iUnknown, x1_init TO_Unknown xn_Unknown_name FU_Unknown sc_Unknown___init__ rfl rfl rfl (by decide) (by decide) (fun _ => rfl), fun a ws hl => match ws, hl with | [_], _ => rfl⟩
  have XK_Arity : ExcK P w K mg base 1 "Arity" C_Arity ["given", "name"] true (spX2 C_Arity "name" "given") := ⟨TO_Arity, PySem.W.mg_of X G aC_Arity, f_iArity, _, ["self", "name", "given"], a_iArity, t_iArity, x2_init TO_Arity xn_Arity_name xn_Arity_given FU_Arity sc_Arity___init__ rfl rfl rfl rfl (by decide) (by decide) (by decide) (by decide) (fun _ => rfl) (fun _ => rfl), fun a ws hl => match ws, hl with | [_, _], _ => rfl⟩
  have XK_Unbound : ExcK P w K mg base 1 "Unbound" C_Unbound ["name"] false (spX1 C_Unbound "name") := ⟨TO_Unbound, PySem.W.mg_of X G aC_Unbound, f_iUnbound, _, ["self", "name"], a_iUnbound, t_iUnbound, x1_init TO_Unbound xn_Unbound_name FU_Unbound sc_Unbound___init__ rfl rfl rfl (by decide) (by decide) (fun _ => rfl), fun a ws hl => match ws, hl with | [_], _ => rfl⟩
  have XK_NoSlot : ExcK P w K mg base 1 "NoSlot" C_NoSlot ["slot"] false (spX1 C_NoSlot "slot") := ⟨TO_NoSlot, PySem.W.mg_of X G aC_NoSlot, f_iNoSlot, _, ["self", "slot"], a_iNoSlot, t_iNoSlot, x1_init TO_NoSlot xn_NoSlot_slot FU_NoSlot sc_NoSlot___init__ rfl rfl rfl (by decide) (by decide) (fun _ => rfl), fun a ws hl => match ws, hl with | [_], _ => rfl⟩
  have XK_Looped : ExcK P w K mg base 1 "Looped" C_Looped ["ring"] false (spX1 C_Looped "ring") := ⟨TO_Looped, PySem.W.mg_of X G aC_Looped, f_iLooped, _, ["self", "ring"], a_iLooped, t_iLooped, x1_init TO_Looped xn_Looped_ring FU_Looped sc_Looped___init__ rfl rfl rfl (by decide) (by decide) (fun _ => rfl), fun a ws hl => match ws, hl with | [_], _ => rfl⟩
  have XK_BadValue : ExcK P w K mg base 1 "BadValue" C_BadValue ["at"] false (spX1 C_BadValue "at") := ⟨TO_BadValue, PySem.W.mg_of X G aC_BadValue, f_iBadValue, _, ["self", "at"], a_iBadValue, t_iBadValue, x1_init TO_BadValue xn_BadValue_at FU_BadValue sc_BadValue___init__ rfl rfl rfl (by decide) (by decide) (fun _ => rfl), fun a ws hl => match ws, hl with | [_], _ => rfl⟩
  have XK_BadAnswer : ExcK P w K mg base 1 "BadAnswer" C_BadAnswer ["answer"] false (spX1 C_BadAnswer "answer") := ⟨TO_BadAnswer, PySem.W.mg_of X G aC_BadAnswer, f_iBadAnswer, _, ["self", "answer"], a_iBadAnswer, t_iBadAnswer, x1_init TO_BadAnswer xn_BadAnswer_answer FU_BadAnswer sc_BadAnswer___init__ rfl rfl rfl (by decide) (by decide) (fun _ => rfl), fun a ws hl => match ws, hl with | [_], _ => rfl⟩
  have XK_BadScript : ExcK P w K mg base 1 "BadScript" C_BadScript ["bits", "steps"] true (spX2 C_BadScript "steps" "bits") := ⟨TO_BadScript, PySem.W.mg_of X G aC_BadScript, f_iBadScript, _, ["self", "steps", "bits"], a_iBadScript, t_iBadScript, x2_init TO_BadScript xn_BadScript_steps xn_BadScript_bits FU_BadScript sc_BadScript___init__ rfl rfl rfl rfl (by decide) (by decide) (by decide) (by decide) (fun _ => rfl) (fun _ => rfl), fun a ws hl => match ws, hl with | [_, _], _ => rfl⟩
  have XK_Unlike : ExcK P w K mg base 1 "Unlike" C_Unlike ["name"] false (spX1 C_Unlike "name") := ⟨TO_Unlike, PySem.W.mg_of X G aC_Unlike, f_iUnlike, _, ["self", "name"], a_iUnlike, t_iUnlike, x1_init TO_Unlike xn_Unlike_name FU_Unlike sc_Unlike___init__ rfl rfl rfl (by decide) (by decide) (fun _ => rfl), fun a ws hl => match ws, hl with | [_], _ => rfl⟩
  have XK_Unbounded : ExcK P w K mg base 1 "Unbounded" C_Unbounded ["name"] false (spX1 C_Unbounded "name") := ⟨TO_Unbounded, PySem.W.mg_of X G aC_Unbounded, f_iUnbounded, _, ["self", "name"], a_iUnbounded, t_iUnbounded, x1_init TO_Unbounded xn_Unbounded_name FU_Unbounded sc_Unbounded___init__ rfl rfl rfl (by decide) (by decide) (fun _ => rfl), fun a ws hl => match ws, hl with | [_], _ => rfl⟩
  have XK_Silent : ExcK P w K mg base 1 "Silent" C_Silent ["at"] false (spX1 C_Silent "at") := ⟨TO_Silent, PySem.W.mg_of X G aC_Silent, f_iSilent, _, ["self", "at"], a_iSilent, t_iSilent, x1_init TO_Silent xn_Silent_at FU_Silent sc_Silent___init__ rfl rfl rfl (by decide) (by decide) (fun _ => rfl), fun a ws hl => match ws, hl with | [_], _ => rfl⟩
  have XK_TooMany : ExcK P w K mg base 1 "TooMany" C_TooMany ["many"] false (spX1 C_TooMany "many") := ⟨TO_TooMany, PySem.W.mg_of X G aC_TooMany, f_iTooMany, _, ["self", "many"], a_iTooMany, t_iTooMany, x1_init TO_TooMany xn_TooMany_many FU_TooMany sc_TooMany___init__ rfl rfl rfl (by decide) (by decide) (fun _ => rfl), fun a ws hl => match ws, hl with | [_], _ => rfl⟩
  have XC : Fct P w K mg base c := ⟨X_BadFunction, XK_BadFunction, PySem.W.mg_of X G aC_BadFunction, xfB_ok xf_BadFunction, xn_BadFunction_at, all_in ⟨⟨excB_ok eb_BadFunction, ki_BadFunction_BadFunction⟩, ⟨excB_ok eb_BadCase, ki_BadCase_BadFunction⟩, ⟨excB_ok eb_Twice, ki_Twice_BadFunction⟩, ⟨excB_ok eb_TooLarge, ki_TooLarge_BadFunction⟩, ⟨excB_ok eb_Unknown, ki_Unknown_BadFunction⟩, ⟨excB_ok eb_Arity, ki_Arity_BadFunction⟩, ⟨excB_ok eb_Unbound, ki_Unbound_BadFunction⟩, ⟨excB_ok eb_NoSlot, ki_NoSlot_BadFunction⟩, ⟨excB_ok eb_Looped, ki_Looped_BadFunction⟩, ⟨excB_ok eb_BadValue, ki_BadValue_BadFunction⟩, ⟨excB_ok eb_BadAnswer, ki_BadAnswer_BadFunction⟩, ⟨excB_ok eb_BadScript, ki_BadScript_BadFunction⟩, ⟨excB_ok eb_Unlike, ki_Unlike_BadFunction⟩, ⟨excB_ok eb_Unbounded, ki_Unbounded_BadFunction⟩, ⟨excB_ok eb_Silent, ki_Silent_BadFunction⟩, ⟨excB_ok eb_TooMany, ki_TooMany_BadFunction⟩, trivial⟩, X_BadCase, XK_BadCase, PySem.W.mg_of X G aC_BadCase, xfB_ok xf_BadCase, xn_BadCase_at, all_in ⟨⟨excB_ok eb_BadFunction, ki_BadFunction_BadCase⟩, ⟨excB_ok eb_BadCase, ki_BadCase_BadCase⟩, ⟨excB_ok eb_Twice, ki_Twice_BadCase⟩, ⟨excB_ok eb_TooLarge, ki_TooLarge_BadCase⟩, ⟨excB_ok eb_Unknown, ki_Unknown_BadCase⟩, ⟨excB_ok eb_Arity, ki_Arity_BadCase⟩, ⟨excB_ok eb_Unbound, ki_Unbound_BadCase⟩, ⟨excB_ok eb_NoSlot, ki_NoSlot_BadCase⟩, ⟨excB_ok eb_Looped, ki_Looped_BadCase⟩, ⟨excB_ok eb_BadValue, ki_BadValue_BadCase⟩, ⟨excB_ok eb_BadAnswer, ki_BadAnswer_BadCase⟩, ⟨excB_ok eb_BadScript, ki_BadScript_BadCase⟩, ⟨excB_ok eb_Unlike, ki_Unlike_BadCase⟩, ⟨excB_ok eb_Unbounded, ki_Unbounded_BadCase⟩, ⟨excB_ok eb_Silent, ki_Silent_BadCase⟩, ⟨excB_ok eb_TooMany, ki_TooMany_BadCase⟩, trivial⟩, X_Twice, XK_Twice, PySem.W.mg_of X G aC_Twice, xfB_ok xf_Twice, xn_Twice_name, all_in ⟨⟨excB_ok eb_BadFunction, ki_BadFunction_Twice⟩, ⟨excB_ok eb_BadCase, ki_BadCase_Twice⟩, ⟨excB_ok eb_Twice, ki_Twice_Twice⟩, ⟨excB_ok eb_TooLarge, ki_TooLarge_Twice⟩, ⟨excB_ok eb_Unknown, ki_Unknown_Twice⟩, ⟨excB_ok eb_Arity, ki_Arity_Twice⟩, ⟨excB_ok eb_Unbound, ki_Unbound_Twice⟩, ⟨excB_ok eb_NoSlot, ki_NoSlot_Twice⟩, ⟨excB_ok eb_Looped, ki_Looped_Twice⟩, ⟨excB_ok eb_BadValue, ki_BadValue_Twice⟩, ⟨excB_ok eb_BadAnswer, ki_BadAnswer_Twice⟩, ⟨excB_ok eb_BadScript, ki_BadScript_Twice⟩, ⟨excB_ok eb_Unlike, ki_Unlike_Twice⟩, ⟨excB_ok eb_Unbounded, ki_Unbounded_Twice⟩, ⟨excB_ok eb_Silent, ki_Silent_Twice⟩, ⟨excB_ok eb_TooMany, ki_TooMany_Twice⟩, trivial⟩, X_TooLarge, XK_TooLarge, PySem.W.mg_of X G aC_TooLarge, xfB_ok xf_TooLarge, xn_TooLarge_nodes, xn_TooLarge_deepest, all_in ⟨⟨excB_ok eb_BadFunction, ki_BadFunction_TooLarge⟩, ⟨excB_ok eb_BadCase, ki_BadCase_TooLarge⟩, ⟨excB_ok eb_Twice, ki_Twice_TooLarge⟩, ⟨excB_ok eb_TooLarge, ki_TooLarge_TooLarge⟩, ⟨excB_ok eb_Unknown, ki_Unknown_TooLarge⟩, ⟨excB_ok eb_Arity, ki_Arity_TooLarge⟩, ⟨excB_ok eb_Unbound, ki_Unbound_TooLarge⟩, ⟨excB_ok eb_NoSlot, ki_NoSlot_TooLarge⟩, ⟨excB_ok eb_Looped, ki_Looped_TooLarge⟩, ⟨excB_ok eb_BadValue, ki_BadValue_TooLarge⟩, ⟨excB_ok eb_BadAnswer, ki_BadAnswer_TooLarge⟩, ⟨excB_ok eb_BadScript, ki_BadScript_TooLarge⟩, ⟨excB_ok eb_Unlike, ki_Unlike_TooLarge⟩, ⟨excB_ok eb_Unbounded, ki_Unbounded_TooLarge⟩, ⟨excB_ok eb_Silent, ki_Silent_TooLarge⟩, ⟨excB_ok eb_TooMany, ki_TooMany_TooLarge⟩, trivial⟩, X_Unknown, XK_Unknown, PySem.W.mg_of X G aC_Unknown, xfB_ok xf_Unknown, xn_Unknown_name, all_in ⟨⟨excB_ok eb_BadFunction, ki_BadFunction_Unknown⟩, ⟨excB_ok eb_BadCase, ki_BadCase_Unknown⟩, ⟨excB_ok eb_Twice, ki_Twice_Unknown⟩, ⟨excB_ok eb_TooLarge, ki_TooLarge_Unknown⟩, ⟨excB_ok eb_Unknown, ki_Unknown_Unknown⟩, ⟨excB_ok eb_Arity, ki_Arity_Unknown⟩, ⟨excB_ok eb_Unbound, ki_Unbound_Unknown⟩, ⟨excB_ok eb_NoSlot, ki_NoSlot_Unknown⟩, ⟨excB_ok eb_Looped, ki_Looped_Unknown⟩, ⟨excB_ok eb_BadValue, ki_BadValue_Unknown⟩, ⟨excB_ok eb_BadAnswer, ki_BadAnswer_Unknown⟩, ⟨excB_ok eb_BadScript, ki_BadScript_Unknown⟩, ⟨excB_ok eb_Unlike, ki_Unlike_Unknown⟩, ⟨excB_ok eb_Unbounded, ki_Unbounded_Unknown⟩, ⟨excB_ok eb_Silent, ki_Silent_Unknown⟩, ⟨excB_ok eb_TooMany, ki_TooMany_Unknown⟩, trivial⟩, X_Arity, XK_Arity, PySem.W.mg_of X G aC_Arity, xfB_ok xf_Arity, xn_Arity_name, xn_Arity_given, all_in ⟨⟨excB_ok eb_BadFunction, ki_BadFunction_Arity⟩, ⟨excB_ok eb_BadCase, ki_BadCase_Arity⟩, ⟨excB_ok eb_Twice, ki_Twice_Arity⟩, ⟨excB_ok eb_TooLarge, ki_TooLarge_Arity⟩, ⟨excB_ok eb_Unknown, ki_Unknown_Arity⟩, ⟨excB_ok eb_Arity, ki_Arity_Arity⟩, ⟨excB_ok eb_Unbound, ki_Unbound_Arity⟩, ⟨excB_ok eb_NoSlot, ki_NoSlot_Arity⟩, ⟨excB_ok eb_Looped, ki_Looped_Arity⟩, ⟨excB_ok eb_BadValue, ki_BadValue_Arity⟩, ⟨excB_ok eb_BadAnswer, ki_BadAnswer_Arity⟩, ⟨excB_ok eb_BadScript, ki_BadScript_Arity⟩, ⟨excB_ok eb_Unlike, ki_Unlike_Arity⟩, ⟨excB_ok eb_Unbounded, ki_Unbounded_Arity⟩, ⟨excB_ok eb_Silent, ki_Silent_Arity⟩, ⟨excB_ok eb_TooMany, ki_TooMany_Arity⟩, trivial⟩, X_Unbound, XK_Unbound, PySem.W.mg_of X G aC_Unbound, xfB_ok xf_Unbound, xn_Unbound_name, all_in ⟨⟨excB_ok eb_BadFunction, ki_BadFunction_Unbound⟩, ⟨excB_ok eb_BadCase, ki_BadCase_Unbound⟩, ⟨excB_ok eb_Twice, ki_Twice_Unbound⟩, ⟨excB_ok eb_TooLarge, ki_TooLarge_Unbound⟩, ⟨excB_ok eb_Unknown, ki_Unknown_Unbound⟩, ⟨excB_ok eb_Arity, ki_Arity_Unbound⟩, ⟨excB_ok eb_Unbound, ki_Unbound_Unbound⟩, ⟨excB_ok eb_NoSlot, ki_NoSlot_Unbound⟩, ⟨excB_ok eb_Looped, ki_Looped_Unbound⟩, ⟨excB_ok eb_BadValue, ki_BadValue_Unbound⟩, ⟨excB_ok eb_BadAnswer, ki_BadAnswer_Unbound⟩, ⟨excB_ok eb_BadScript, ki_BadScript_Unbound⟩, ⟨excB_ok eb_Unlike, ki_Unlike_Unbound⟩, ⟨excB_ok eb_Unbounded, ki_Unbounded_Unbound⟩, ⟨excB_ok eb_Silent, ki_Silent_Unbound⟩, ⟨excB_ok eb_TooMany, ki_TooMany_Unbound⟩, trivial⟩, X_NoSlot, XK_NoSlot, PySem.W.mg_of X G aC_NoSlot, xfB_ok xf_NoSlot, xn_NoSlot_slot, all_in ⟨⟨excB_ok eb_BadFunction, ki_BadFunction_NoSlot⟩, ⟨excB_ok eb_BadCase, ki_BadCase_NoSlot⟩, ⟨excB_ok eb_Twice, ki_Twice_NoSlot⟩, ⟨excB_ok eb_TooLarge, ki_TooLarge_NoSlot⟩, ⟨excB_ok eb_Unknown, ki_Unknown_NoSlot⟩, ⟨excB_ok eb_Arity, ki_Arity_NoSlot⟩, ⟨excB_ok eb_Unbound, ki_Unbound_NoSlot⟩, ⟨excB_ok eb_NoSlot, ki_NoSlot_NoSlot⟩, ⟨excB_ok eb_Looped, ki_Looped_NoSlot⟩, ⟨excB_ok eb_BadValue, ki_BadValue_NoSlot⟩, ⟨excB_ok eb_BadAnswer, ki_BadAnswer_NoSlot⟩, ⟨excB_ok eb_BadScript, ki_BadScript_NoSlot⟩, ⟨excB_ok eb_Unlike, ki_Unlike_NoSlot⟩, ⟨excB_ok eb_Unbounded, ki_Unbounded_NoSlot⟩, ⟨excB_ok eb_Silent, ki_Silent_NoSlot⟩, ⟨excB_ok eb_TooMany, ki_TooMany_NoSlot⟩, trivial⟩, X_Looped, XK_Looped, PySem.W.mg_of X G aC_Looped, xfB_ok xf_Looped, xn_Looped_ring, all_in ⟨⟨excB_ok eb_BadFunction, ki_BadFunction_Looped⟩, ⟨excB_ok eb_BadCase, ki_BadCase_Looped⟩, ⟨excB_ok eb_Twice, ki_Twice_Looped⟩, ⟨excB_ok eb_TooLarge, ki_TooLarge_Looped⟩, ⟨excB_ok eb_Unknown, ki_Unknown_Looped⟩, ⟨excB_ok eb_Arity, ki_Arity_Looped⟩, ⟨excB_ok eb_Unbound, ki_Unbound_Looped⟩, ⟨excB_ok eb_NoSlot, ki_NoSlot_Looped⟩, ⟨excB_ok eb_Looped, ki_Looped_Looped⟩, ⟨excB_ok eb_BadValue, ki_BadValue_Looped⟩, ⟨excB_ok eb_BadAnswer, ki_BadAnswer_Looped⟩, ⟨excB_ok eb_BadScript, ki_BadScript_Looped⟩, ⟨excB_ok eb_Unlike, ki_Unlike_Looped⟩, ⟨excB_ok eb_Unbounded, ki_Unbounded_Looped⟩, ⟨excB_ok eb_Silent, ki_Silent_Looped⟩, ⟨excB_ok eb_TooMany, ki_TooMany_Looped⟩, trivial⟩, X_BadValue, XK_BadValue, PySem.W.mg_of X G aC_BadValue, xfB_ok xf_BadValue, xn_BadValue_at, all_in ⟨⟨excB_ok eb_BadFunction, ki_BadFunction_BadValue⟩, ⟨excB_ok eb_BadCase, ki_BadCase_BadValue⟩, ⟨excB_ok eb_Twice, ki_Twice_BadValue⟩, ⟨excB_ok eb_TooLarge, ki_TooLarge_BadValue⟩, ⟨excB_ok eb_Unknown, ki_Unknown_BadValue⟩, ⟨excB_ok eb_Arity, ki_Arity_BadValue⟩, ⟨excB_ok eb_Unbound, ki_Unbound_BadValue⟩, ⟨excB_ok eb_NoSlot, ki_NoSlot_BadValue⟩, ⟨excB_ok eb_Looped, ki_Looped_BadValue⟩, ⟨excB_ok eb_BadValue, ki_BadValue_BadValue⟩, ⟨excB_ok eb_BadAnswer, ki_BadAnswer_BadValue⟩, ⟨excB_ok eb_BadScript, ki_BadScript_BadValue⟩, ⟨excB_ok eb_Unlike, ki_Unlike_BadValue⟩, ⟨excB_ok eb_Unbounded, ki_Unbounded_BadValue⟩, ⟨excB_ok eb_Silent, ki_Silent_BadValue⟩, ⟨excB_ok eb_TooMany, ki_TooMany_BadValue⟩, trivial⟩, X_BadAnswer, XK_BadAnswer, PySem.W.mg_of X G aC_BadAnswer, xfB_ok xf_BadAnswer, xn_BadAnswer_answer, all_in ⟨⟨excB_ok eb_BadFunction, ki_BadFunction_BadAnswer⟩, ⟨excB_ok eb_BadCase, ki_BadCase_BadAnswer⟩, ⟨excB_ok eb_Twice, ki_Twice_BadAnswer⟩, ⟨excB_ok eb_TooLarge, ki_TooLarge_BadAnswer⟩, ⟨excB_ok eb_Unknown, ki_Unknown_BadAnswer⟩, ⟨excB_ok eb_Arity, ki_Arity_BadAnswer⟩, ⟨excB_ok eb_Unbound, ki_Unbound_BadAnswer⟩, ⟨excB_ok eb_NoSlot, ki_NoSlot_BadAnswer⟩, ⟨excB_ok eb_Looped, ki_Looped_BadAnswer⟩, ⟨excB_ok eb_BadValue, ki_BadValue_BadAnswer⟩, ⟨excB_ok eb_BadAnswer, ki_BadAnswer_BadAnswer⟩, ⟨excB_ok eb_BadScript, ki_BadScript_BadAnswer⟩, ⟨excB_ok eb_Unlike, ki_Unlike_BadAnswer⟩, ⟨excB_ok eb_Unbounded, ki_Unbounded_BadAnswer⟩, ⟨excB_ok eb_Silent, ki_Silent_BadAnswer⟩, ⟨excB_ok eb_TooMany, ki_TooMany_BadAnswer⟩, trivial⟩, X_BadScript, XK_BadScript, PySem.W.mg_of X G aC_BadScript, xfB_ok xf_BadScript, xn_BadScript_steps, xn_BadScript_bits, all_in ⟨⟨excB_ok eb_BadFunction, ki_BadFunction_BadScript⟩, ⟨excB_ok eb_BadCase, ki_BadCase_BadScript⟩, ⟨excB_ok eb_Twice, ki_Twice_BadScript⟩, ⟨excB_ok eb_TooLarge, ki_TooLarge_BadScript⟩, ⟨excB_ok eb_Unknown, ki_Unknown_BadScript⟩, ⟨excB_ok eb_Arity, ki_Arity_BadScript⟩, ⟨excB_ok eb_Unbound, ki_Unbound_BadScript⟩, ⟨excB_ok eb_NoSlot, ki_NoSlot_BadScript⟩, ⟨excB_ok eb_Looped, ki_Looped_BadScript⟩, ⟨excB_ok eb_BadValue, ki_BadValue_BadScript⟩, ⟨excB_ok eb_BadAnswer, ki_BadAnswer_BadScript⟩, ⟨excB_ok eb_BadScript, ki_BadScript_BadScript⟩, ⟨excB_ok eb_Unlike, ki_Unlike_BadScript⟩, ⟨excB_ok eb_Unbounded, ki_Unbounded_BadScript⟩, ⟨excB_ok eb_Silent, ki_Silent_BadScript⟩, ⟨excB_ok eb_TooMany, ki_TooMany_BadScript⟩, trivial⟩, X_Unlike, XK_Unlike, PySem.W.mg_of X G aC_Unlike, xfB_ok xf_Unlike, xn_Unlike_name, all_in ⟨⟨excB_ok eb_BadFunction, ki_BadFunction_Unlike⟩, ⟨excB_ok eb_BadCase, ki_BadCase_Unlike⟩, ⟨excB_ok eb_Twice, ki_Twice_Unlike⟩, ⟨excB_ok eb_TooLarge, ki_TooLarge_Unlike⟩, ⟨excB_ok eb_Unknown, ki_Unknown_Unlike⟩, ⟨excB_ok eb_Arity, ki_Arity_Unlike⟩, ⟨excB_ok eb_Unbound, ki_Unbound_Unlike⟩, ⟨excB_ok eb_NoSlot, ki_NoSlot_Unlike⟩, ⟨excB_ok eb_Looped, ki_Looped_Unlike⟩, ⟨excB_ok eb_BadValue, ki_BadValue_Unlike⟩, ⟨excB_ok eb_BadAnswer, ki_BadAnswer_Unlike⟩, ⟨excB_ok eb_BadScript, ki_BadScript_Unlike⟩, ⟨excB_ok eb_Unlike, ki_Unlike_Unlike⟩, ⟨excB_ok eb_Unbounded, ki_Unbounded_Unlike⟩, ⟨excB_ok eb_Silent, ki_Silent_Unlike⟩, ⟨excB_ok eb_TooMany, ki_TooMany_Unlike⟩, trivial⟩, X_Unbounded, XK_Unbounded, PySem.W.mg_of X G aC_Unbounded, xfB_ok xf_Unbounded, xn_Unbounded_name, all_in ⟨⟨excB_ok eb_BadFunction, ki_BadFunction_Unbounded⟩, ⟨excB_ok eb_BadCase, ki_BadCase_Unbounded⟩, ⟨excB_ok eb_Twice, ki_Twice_Unbounded⟩, ⟨excB_ok eb_TooLarge, ki_TooLarge_Unbounded⟩, ⟨excB_ok eb_Unknown, ki_Unknown_Unbounded⟩, ⟨excB_ok eb_Arity, ki_Arity_Unbounded⟩, ⟨excB_ok eb_Unbound, ki_Unbound_Unbounded⟩, ⟨excB_ok eb_NoSlot, ki_NoSlot_Unbounded⟩, ⟨excB_ok eb_Looped, ki_Looped_Unbounded⟩, ⟨excB_ok eb_BadValue, ki_BadValue_Unbounded⟩, ⟨excB_ok eb_BadAnswer, ki_BadAnswer_Unbounded⟩, ⟨excB_ok eb_BadScript, ki_BadScript_Unbounded⟩, ⟨excB_ok eb_Unlike, ki_Unlike_Unbounded⟩, ⟨excB_ok eb_Unbounded, ki_Unbounded_Unbounded⟩, ⟨excB_ok eb_Silent, ki_Silent_Unbounded⟩, ⟨excB_ok eb_TooMany, ki_TooMany_Unbounded⟩, trivial⟩, X_Silent, XK_Silent, PySem.W.mg_of X G aC_Silent, xfB_ok xf_Silent, xn_Silent_at, all_in ⟨⟨excB_ok eb_BadFunction, ki_BadFunction_Silent⟩, ⟨excB_ok eb_BadCase, ki_BadCase_Silent⟩, ⟨excB_ok eb_Twice, ki_Twice_Silent⟩, ⟨excB_ok eb_TooLarge, ki_TooLarge_Silent⟩, ⟨excB_ok eb_Unknown, ki_Unknown_Silent⟩, ⟨excB_ok eb_Arity, ki_Arity_Silent⟩, ⟨excB_ok eb_Unbound, ki_Unbound_Silent⟩, ⟨excB_ok eb_NoSlot, ki_NoSlot_Silent⟩, ⟨excB_ok eb_Looped, ki_Looped_Silent⟩, ⟨excB_ok eb_BadValue, ki_BadValue_Silent⟩, ⟨excB_ok eb_BadAnswer, ki_BadAnswer_Silent⟩, ⟨excB_ok eb_BadScript, ki_BadScript_Silent⟩, ⟨excB_ok eb_Unlike, ki_Unlike_Silent⟩, ⟨excB_ok eb_Unbounded, ki_Unbounded_Silent⟩, ⟨excB_ok eb_Silent, ki_Silent_Silent⟩, ⟨excB_ok eb_TooMany, ki_TooMany_Silent⟩, trivial⟩, X_TooMany, XK_TooMany, PySem.W.mg_of X G aC_TooMany, xfB_ok xf_TooMany, xn_TooMany_many, all_in ⟨⟨excB_ok eb_BadFunction, ki_BadFunction_TooMany⟩, ⟨excB_ok eb_BadCase, ki_BadCase_TooMany⟩, ⟨excB_ok eb_Twice, ki_Twice_TooMany⟩, ⟨excB_ok eb_TooLarge, ki_TooLarge_TooMany⟩, ⟨excB_ok eb_Unknown, ki_Unknown_TooMany⟩, ⟨excB_ok eb_Arity, ki_Arity_TooMany⟩, ⟨excB_ok eb_Unbound, ki_Unbound_TooMany⟩, ⟨excB_ok eb_NoSlot, ki_NoSlot_TooMany⟩, ⟨excB_ok eb_Looped, ki_Looped_TooMany⟩, ⟨excB_ok eb_BadValue, ki_BadValue_TooMany⟩, ⟨excB_ok eb_BadAnswer, ki_BadAnswer_TooMany⟩, ⟨excB_ok eb_BadScript, ki_BadScript_TooMany⟩, ⟨excB_ok eb_Unlike, ki_Unlike_TooMany⟩, ⟨excB_ok eb_Unbounded, ki_Unbounded_TooMany⟩, ⟨excB_ok eb_Silent, ki_Silent_TooMany⟩, ⟨excB_ok eb_TooMany, ki_TooMany_TooMany⟩, trivial⟩, PySem.W.mg_of X G aC_TablesError, all_in ⟨⟨excB_ok eb_BadFunction, ki_BadFunction_tab⟩, ⟨excB_ok eb_BadCase, ki_BadCase_tab⟩, ⟨excB_ok eb_Twice, ki_Twice_tab⟩, ⟨excB_ok eb_TooLarge, ki_TooLarge_tab⟩, ⟨excB_ok eb_Unknown, ki_Unknown_tab⟩, ⟨excB_ok eb_Arity, ki_Arity_tab⟩, ⟨excB_ok eb_Unbound, ki_Unbound_tab⟩, ⟨excB_ok eb_NoSlot, ki_NoSlot_tab⟩, ⟨excB_ok eb_Looped, ki_Looped_tab⟩, ⟨excB_ok eb_BadValue, ki_BadValue_tab⟩, ⟨excB_ok eb_BadAnswer, ki_BadAnswer_tab⟩, ⟨excB_ok eb_BadScript, ki_BadScript_tab⟩, ⟨excB_ok eb_Unlike, ki_Unlike_tab⟩, ⟨excB_ok eb_Unbounded, ki_Unbounded_tab⟩, ⟨excB_ok eb_Silent, ki_Silent_tab⟩, ⟨excB_ok eb_TooMany, ki_TooMany_tab⟩, trivial⟩, all_in ⟨⟨excB_ok eb_BadFunction, ki_BadFunction_ve⟩, ⟨excB_ok eb_BadCase, ki_BadCase_ve⟩, ⟨excB_ok eb_Twice, ki_Twice_ve⟩, ⟨excB_ok eb_TooLarge, ki_TooLarge_ve⟩, ⟨excB_ok eb_Unknown, ki_Unknown_ve⟩, ⟨excB_ok eb_Arity, ki_Arity_ve⟩, ⟨excB_ok eb_Unbound, ki_Unbound_ve⟩, ⟨excB_ok eb_NoSlot, ki_NoSlot_ve⟩, ⟨excB_ok eb_Looped, ki_Looped_ve⟩, ⟨excB_ok eb_BadValue, ki_BadValue_ve⟩, ⟨excB_ok eb_BadAnswer, ki_BadAnswer_ve⟩, ⟨excB_ok eb_BadScript, ki_BadScript_ve⟩, ⟨excB_ok eb_Unlike, ki_Unlike_ve⟩, ⟨excB_ok eb_Unbounded, ki_Unbounded_ve⟩, ⟨excB_ok eb_Silent, ki_Silent_ve⟩, ⟨excB_ok eb_TooMany, ki_TooMany_ve⟩, trivial⟩⟩
  have cc_cell : Fn P w K mg base 1 "_law_cell" 2 F_cell := TT.f_cell (k := 0) D_cell T
  have cc_kinds : Fn P w K mg base 1 "_law_kinds" 1 (F_kinds c) := TT.f_kinds (k := 0) D_kinds T XC
  have cc_fields : Fn P w K mg base 1 "_law_fields" 1 (F_fields c) := TT.f_fields (k := 0) D_fields T XC
  have cc_law : Fn P w K mg base 3 "law" 1 (F_law c) := TT.f_law (k := 2) D_law T XC (cc_kinds.mono (by decide)) (cc_fields.mono (by decide)) (cc_cell.mono (by decide)) (by decide)
  obtain ⟨fz, FZ, mz, _⟩ := cc_law.ex
  have ez := hfa.symm.trans mz
  cases ez
  exact FZ
end
end TT

namespace TT
open PySem L2
variable [TB]
abbrev theAd : Ad := ⟨44, 63, 82, 101, 120, 139, 158, 177, 196, 215, 234, 253, 272, 291, 310, 329, 24⟩
/-- the sixteen errors -/
def rowD (a b : Int) (c : D) : List D := [.err 44 [("at", .int a)], .err 63 [("at", .int b)], .err 82 [("name", c)], .err 101 [("deepest", .int b), ("nodes", .int a)], .err 120 [("name", c)], .err 139 [("given", .int b), ("name", c)], .err 158 [("name", c)], .err 177 [("slot", .int a)],
  .err 196 [("ring", c)], .err 215 [("at", .int a)], .err 234 [("answer", c)], .err 253 [("bits", c), ("steps", .int a)], .err 272 [("name", c)], .err 291 [("name", c)], .err 310 [("at", .non)], .err 329 [("many", .int b)]]
def dueL (a b : Int) (c : D) : List D := [.int a, .int b, c, .tup [.int a, .int b], c, .tup [c, .int b], c, .int a, c, .int a, c, .tup [.int a, c], c, c, .non, .int b]
set_option maxHeartbeats 4000000 in
theorem fields_ok (a b : Int) (c : D) : F_fields theAd [.d (.lst (rowD a b c))] [] = .ok (.d (.lst (dueL a b c))) [] := by
  obtain ⟨v, μ', e, rfl, rfl⟩ := ok_to (r := F_fields theAd [.d (.lst (rowD a b c))] []) (K := fun v μ' => v = .d (.lst (dueL a b c)) ∧ μ' = []) (by
    unfold F_fields b_fields rowD
    refine fn_to ?_
    wtm_at "wr"
    exact ⟨_, rfl, rfl, rfl, rfl⟩)
  exact e
def bls (j : Nat) : List D := (List.range 16).map fun i => .bl (decide (i = j))
set_option maxHeartbeats 4000000 in
theorem kinds_ok (j : Nat) (hj : j < 16) (fs : List (Str × D)) : F_kinds theAd [.d (.err ((errsOf theAd).getD j 0) fs)] [] = .ok (.d (.lst (bls j))) [] := by
  obtain ⟨v, μ', e, rfl, rfl⟩ := ok_to (r := F_kinds theAd [.d (.err ((errsOf theAd).getD j 0) fs)] []) (K := fun v μ' => v = .d (.lst (bls j)) ∧ μ' = []) (by
    unfold F_kinds b_kinds
    obtain rfl | rfl | rfl | rfl | rfl | rfl | rfl | rfl | rfl | rfl | rfl | rfl | rfl | rfl | rfl | rfl : j = 0 ∨ j = 1 ∨ j = 2 ∨ j = 3 ∨ j = 4 ∨ j = 5 ∨ j = 6 ∨ j = 7 ∨ j = 8 ∨ j = 9 ∨ j = 10 ∨ j = 11 ∨ j = 12 ∨ j = 13 ∨ j = 14 ∨ j = 15 := by omega
    all_goals
      refine fn_to ?_
      wtm_at "wr"
      exact ⟨_, rfl, rfl, rfl, rfl⟩)
  exact e
set_option maxHeartbeats 4000000 in
theorem row_at (a b : Int) (c : D) (j : Nat) (hj : j < 16) : ∃ fs, (rowD a b c).drop j = .err ((errsOf theAd).getD j 0) fs :: (rowD a b c).drop (j + 1) := by
  obtain rfl | rfl | rfl | rfl | rfl | rfl | rfl | rfl | rfl | rfl | rfl | rfl | rfl | rfl | rfl | rfl : j = 0 ∨ j = 1 ∨ j = 2 ∨ j = 3 ∨ j = 4 ∨ j = 5 ∨ j = 6 ∨ j = 7 ∨ j = 8 ∨ j = 9 ∨ j = 10 ∨ j = 11 ∨ j = 12 ∨ j = 13 ∨ j = 14 ∨ j = 15 := by omega
  all_goals exact ⟨_, rfl⟩
end TT

namespace TT
open PySem L2
variable [TB]
set_option maxHeartbeats 4000000 in
theorem rng1_eq {μ : List MO} (j : Int) (h0 : 0 ≤ j) (h1 : j < 1000000) : rng1 [.d (.int j)] μ = .ok (intsD 0 j.toNat, none) μ := by
  simp [rng1, h0]; omega
set_option maxHeartbeats 4000000 in
theorem log40 {a : Int} (h0 : 0 ≤ a) (h1 : a < 10 ^ 40) : a.natAbs.log2 < 1920 := by
  have h2 : a.natAbs < 2 ^ 200 := by
    have : (10 : Int) ^ 40 < 2 ^ 200 := by decide
    omega
  rcases Nat.eq_zero_or_pos a.natAbs with h | h
  · rw [h]; decide
  · exact Nat.lt_trans ((Nat.log2_lt (by omega)).mpr h2) (by decide)
set_option maxHeartbeats 4000000 in
theorem cell_ok (ns : List Int) (k : Int) (h0 : 0 ≤ k) (h1 : k ≤ 10) : (F_cell [.d (.fl (ns.map D.int)), .d (.int k)] []).to (fun v μ' => ∃ a : Int, v = .d (.int a) ∧ μ' = [] ∧ 0 ≤ a ∧ a < 10 ^ 40) no3 := by
  unfold F_cell b_cell
  refine fn_to ?_
  wtm_at "wr"
  refine br_ok (fun h => ?_) (fun h => ?_)
  · have h := of_decide_eq_true h
    rw [List.length_map] at h
    obtain ⟨n, rfl⟩ : ∃ n : Nat, k = n := ⟨k.toNat, by omega⟩
    have hn : n < ns.length := by omega
    wtm_at "wr"
    refine e_op2 (z := .int ns[n]) (by rfl) (by rfl) (by simp [ixD, hn]) ?_
    wtm_at "wr"
    refine ⟨_, rfl, rfl, _, rfl, rfl, ?_, ?_⟩
    · exact Int.emod_nonneg _ (by decide)
    · exact Int.emod_lt_of_pos _ (by decide)
  · wtm_at "wr"
    refine ⟨_, rfl, rfl, _, rfl, rfl, by omega, ?_⟩
    have : (1000 : Int) < 10 ^ 40 := by decide
    omega
end TT

namespace TT
open PySem L2
variable [TB]
/-! how long the texts are -/
def Sm2 (d : D) (n k : Nat) : Prop := ∃ p, toPy d = some p ∧ Sh p n k
set_option maxHeartbeats 4000000 in
theorem Sm2.mono {d : D} {n k n' k' : Nat} (h : Sm2 d n k) (hn : n ≤ n') (hk : k ≤ k') : Sm2 d n' k' := by
  obtain ⟨p, h1, h2⟩ := h
  exact ⟨p, h1, h2.mono hn hk⟩
set_option maxHeartbeats 4000000 in
theorem sm_int {a : Int} (h0 : 0 ≤ a) (h1 : a < 10 ^ 40) : Sm2 (.int a) 61 0 := ⟨_, rfl, Sh.int (by
  have : (10 : Int) ^ 40 < 10 ^ 60 := by decide
  omega)⟩
set_option maxHeartbeats 4000000 in
theorem cps_lt (s : String) : ∀ c ∈ (Str.ofString s).cps.toList, c < 16 ^ 8 := by
  intro c hc
  rw [Str.ofString_eq_toList] at hc
  obtain ⟨ch, _, rfl⟩ := List.mem_map.mp (by simpa using hc)
  have h1 : ch.toNat < 0x110000 := by
    rcases ch.valid with h | h
    · exact Nat.lt_trans h (by decide)
    · exact h.2
  exact Nat.lt_of_lt_of_le h1 (by decide)
set_option maxHeartbeats 4000000 in
theorem sm_str {a : Int} (h0 : 0 ≤ a) (h1 : a < 10 ^ 40) : Sm2 (.str (toString a)) 700 0 := by
  have hl : (Str.ofString (toString a)).length ≤ 61 := (Sh.int (i := a) (by
    have : (10 : Int) ^ 40 < 10 ^ 60 := by decide
    omega)).le
  exact ⟨_, rfl, (Sh.str (x := Str.ofString (toString a)) (cps_lt _)).mono (by omega) (Nat.le_refl _)⟩
set_option maxHeartbeats 4000000 in
theorem toPys_all {n k : Nat} : ∀ xs : List D, (∀ x ∈ xs, Sm2 x n k) → ∃ ps, toPys xs = some ps ∧ ps.length = xs.length ∧ ∀ p ∈ ps, Sh p n k
  | [], _ => ⟨[], rfl, rfl, fun _ h => by cases h⟩
  | x :: xs, h => by
    obtain ⟨p, h1, h2⟩ := h x List.mem_cons_self
    obtain ⟨ps, h3, h4, h5⟩ := toPys_all xs fun y hy => h y (List.mem_cons_of_mem _ hy)
    refine ⟨p :: ps, by simp only [toPys, h1, h3], by simp [h4], fun q hq => ?_⟩
    rcases List.mem_cons.mp hq with rfl | hq
    · exact h2
    · exact h5 q hq
set_option maxHeartbeats 4000000 in
theorem sm_tup {n k : Nat} {xs : List D} (h : ∀ x ∈ xs, Sm2 x n k) : Sm2 (.tup xs) (xs.length * (n + 2) + 3) (k + 1) := by
  obtain ⟨ps, h3, h4, h5⟩ := toPys_all xs h
  exact ⟨.tuple ps, by simp [toPy, h3], by rw [← h4]; exact Sh.tuple (ShAll.of ps h5)⟩
set_option maxHeartbeats 4000000 in
theorem sm_lst {n k : Nat} {xs : List D} (h : ∀ x ∈ xs, Sm2 x n k) : Sm2 (.lst xs) (xs.length * (n + 2) + 3) (k + 1) := by
  obtain ⟨ps, h3, h4, h5⟩ := toPys_all xs h
  exact ⟨.list ps, by simp [toPy, h3], by rw [← h4]; exact Sh.list (ShAll.of ps h5)⟩
set_option maxHeartbeats 4000000 in
theorem repr_of {d : D} {n k : Nat} (h : Sm2 d n k) (hn : n ≤ 1000000) (hk : k ≤ 100) : ∃ t, reprD d = some (.str t) := by
  obtain ⟨p, h1, h2⟩ := h
  have hc : p.showable = true ∧ p.shown.length ≤ sizeLine ∧ p.depth ≤ 180 := ⟨h2.so, Nat.le_trans h2.le (Nat.le_trans hn (by decide)), Nat.le_trans h2.dp (by omega)⟩
  exact ⟨p.shown, by unfold reprD; rw [h1]; exact if_pos hc⟩
set_option maxHeartbeats 4000000 in
theorem repr_due {a b : Int} (a0 : 0 ≤ a) (a1 : a < 10 ^ 40) (b0 : 0 ≤ b) (b1 : b < 10 ^ 40) : ∃ t, reprD (.lst (dueL a b (.tup [.str (toString a), .int b]))) = some (.str t) := by
  have ha := (sm_int a0 a1).mono (n' := 700) (k' := 0) (by decide) (by decide)
  have hb := (sm_int b0 b1).mono (n' := 700) (k' := 0) (by decide) (by decide)
  have hs := sm_str a0 a1
  have hc : Sm2 (.tup [.str (toString a), .int b]) 2000 1 := (sm_tup (n := 700) (k := 0) (xs := [.str (toString a), .int b]) (fun x hx => by
    simp only [List.mem_cons, List.not_mem_nil, or_false] at hx
    rcases hx with rfl | rfl
    · exact hs
    · exact hb)).mono (by simp) (by decide)
  have two : ∀ x y : D, Sm2 x 2000 1 → Sm2 y 2000 1 → Sm2 (.tup [x, y]) 5000 2 := fun x y hx hy => (sm_tup (n := 2000) (k := 1) (xs := [x, y]) (fun z hz => by
    simp only [List.mem_cons, List.not_mem_nil, or_false] at hz
    rcases hz with rfl | rfl
    · exact hx
    · exact hy)).mono (by simp) (by decide)
  have ha' := ha.mono (n' := 2000) (k' := 1) (by decide) (by decide)
  have hb' := hb.mono (n' := 2000) (k' := 1) (by decide) (by decide)
  have hn : Sm2 .non 5000 2 := ⟨_, rfl, Sh.none.mono (by decide) (by decide)⟩
  refine repr_of (sm_lst (n := 5000) (k := 2) fun x hx => ?_) (by simp [dueL]) (by decide)
  unfold dueL at hx
  simp only [List.mem_cons, List.not_mem_nil, or_false] at hx
  have e1 := ha.mono (n' := 5000) (k' := 2) (by decide) (by decide)
  have e2 := hb.mono (n' := 5000) (k' := 2) (by decide) (by decide)
  have e3 := hc.mono (n' := 5000) (k' := 2) (by decide) (by decide)
  rcases hx with rfl | rfl | rfl | rfl | rfl | rfl | rfl | rfl | rfl | rfl | rfl | rfl | rfl | rfl | rfl | rfl
  · exact e1
  · exact e2
  · exact e3
  · exact two _ _ ha' hb'
  · exact e3
  · exact two _ _ hc hb'
  · exact e3
  · exact e1
  · exact e3
  · exact e1
  · exact e3
  · exact two _ _ ha' hc
  · exact e3
  · exact e3
  · exact hn
  · exact e2
set_option maxHeartbeats 4000000 in
theorem ne_bls (j : Nat) (hj : j < 16) : neD (.lst (bls j)) (.lst (bls j)) = some (.bl false) := by
  obtain rfl | rfl | rfl | rfl | rfl | rfl | rfl | rfl | rfl | rfl | rfl | rfl | rfl | rfl | rfl | rfl : j = 0 ∨ j = 1 ∨ j = 2 ∨ j = 3 ∨ j = 4 ∨ j = 5 ∨ j = 6 ∨ j = 7 ∨ j = 8 ∨ j = 9 ∨ j = 10 ∨ j = 11 ∨ j = 12 ∨ j = 13 ∨ j = 14 ∨ j = 15 := by omega
  all_goals rfl
set_option maxHeartbeats 4000000 in
theorem err_mem (j : Nat) (hj : j < 16) : (errsOf theAd).getD j 0 ∈ errsOf theAd := by
  obtain rfl | rfl | rfl | rfl | rfl | rfl | rfl | rfl | rfl | rfl | rfl | rfl | rfl | rfl | rfl | rfl : j = 0 ∨ j = 1 ∨ j = 2 ∨ j = 3 ∨ j = 4 ∨ j = 5 ∨ j = 6 ∨ j = 7 ∨ j = 8 ∨ j = 9 ∨ j = 10 ∨ j = 11 ∨ j = 12 ∨ j = 13 ∨ j = 14 ∨ j = 15 := by omega
  all_goals decide
end TT

namespace TT
open PySem L2
variable [TB]
set_option maxHeartbeats 8000000 in
theorem law_plain0 (ns : List Int) (hl : ns.length ≤ 63) : (F_law theAd [.d (.fl (ns.map D.int))] []).to (fun v _ => v = .d (.bl true)) no3 := by
  unfold F_law b_law
  refine fn_to ?_
  refine w_seq ?_
  refine w_range (fun k ρ μ => ∃ x1 x2 x3 x4 x5 x6 x7 x8 x9 x10, ρ = [some (.d (.fl (ns.map D.int))), x1, x2, x3, x4, x5, x6, x7, x8, x9, x10, none] ∧ μ = []) ?_
  wtm_at "wr"
  refine to_ok (rng1_eq _ (by split <;> split <;> omega) (by split <;> split <;> omega)) ⟨_, rfl, ⟨_, _, _, _, _, _, _, _, _, _, rfl, rfl⟩, ?_, ?_⟩
  · rintro k ρ μ hk ⟨x1, x2, x3, x4, x5, x6, x7, x8, x9, x10, rfl, rfl⟩
    have hk3 : k < 3 := by revert hk; split <;> split <;> omega
    clear hk
    with_reducible refine w_seqG fun r hr => ?_
    wtm_at "wr"
    obtain ⟨v, μ', e, a, rfl, rfl, a0, a1⟩ := ok_to (cell_ok ns k (by omega) (by omega))
    refine to_ok (call2 e) ?_
    wtm_at "wr"
    obtain ⟨v, μ', e, b, rfl, rfl, b0, b1⟩ := ok_to (cell_ok ns (k + 1) (by omega) (by omega))
    refine to_ok (call2 e) ?_
    obtain ⟨tr, htr⟩ := repr_due a0 a1 b0 b1
    wtm_at "wr"
    subst hr
    with_reducible refine w_seqG fun r hr => ?_
    wtm_at "wr"
    refine e_opN (by rfl) (show strI [.int a] = some (.str (toString a)) from (by simp only [strI]; rw [if_pos (log40 a0 a1)])) ?_
    wtm_at "wr"
    generalize D.tup [D.str (toString a), D.int b] = c at htr ⊢
    subst hr
    with_reducible refine w_seqG fun r hr => ?_
    wtm_at "wr"
    subst hr
    with_reducible refine w_seqG fun r hr => ?_
    refine w_fzb ?_
    wtm_at "wr"
    refine ⟨_, rfl, rfl, rfl, ?_⟩
    subst hr
    with_reducible refine w_seqG fun r hr => ?_
    wtm_at "wr"
    subst hr
    with_reducible refine w_seqG fun r hr => ?_
    wtm_at "wr"
    subst hr
    with_reducible refine w_seqG fun r hr => ?_
    wtm_at "wr"
    subst hr
    with_reducible refine w_seqG fun r hr => ?_
    wtm_at "wr"
    subst hr
    with_reducible refine w_seqG fun r hr => ?_
    wtm_at "wr"
    have hf := fields_ok a b c
    have hra := row_at a b c
    have hlen : (rowD a b c).length = 16 := rfl
    show (r [some (.d (.fl (ns.map D.int))), some (.d (.int k)), some (.d (.int a)), some (.d (.int b)), some (.d c), some (.d (.lst (rowD a b c))), some (.d (.lst (rowD a b c))), some (.d (.lst (dueL a b c))), _, _, _, none] []).to _ _ _ _ _
    generalize rowD a b c = RD at hf hra hlen ⊢
    generalize dueL a b c = DL at hf htr ⊢
    subst hr
    refine w_for (fun xs ρ μ => ∃ n x8 x9 x10, xs = List.replicate n (.lst RD) ∧ ρ = [some (.d (.fl (ns.map D.int))), some (.d (.int k)), some (.d (.int a)), some (.d (.int b)), some (.d c), some (.d (.lst RD)), some (.d (.lst RD)), some (.d (.lst DL)), x8, x9, x10, none] ∧ μ = []) ?_
    wtm_at "wr"
    refine ⟨rfl, ⟨2, _, _, _, rfl, rfl, rfl⟩, ?_, ?_⟩
    · rintro x xs ρ μ ⟨n, x8, x9, x10, e, rfl, rfl⟩
      cases n with
      | zero => cases e
      | succ n =>
        rw [List.replicate_succ, List.cons.injEq] at e
        obtain ⟨rfl, rfl⟩ := e
        refine ⟨_, rfl, ?_⟩
        with_reducible refine w_seqG fun r hr => ?_
        wtm_at "wr"
        refine to_ok (call1 hf) ?_
        wtm_at "wr"
        refine e_opN (by rfl) (show one reprD [.lst DL] = some (.str tr) from htr) ?_
        wtm_at "wr"
        refine e_opN (by rfl) (show one reprD [.lst DL] = some (.str tr) from htr) ?_
        wtm_at "wr"
        refine br_ok (fun h => by simp at h) (fun _ => ?_)
        wtm_at "wr"
        subst hr
        refine w_for (fun xs ρ μ => ∃ j x9 x10, j ≤ 16 ∧ xs = (enumD RD).drop j ∧ ρ = [some (.d (.fl (ns.map D.int))), some (.d (.int k)), some (.d (.int a)), some (.d (.int b)), some (.d c), some (.d (.lst RD)), some (.d (.lst RD)), some (.d (.lst DL)), some (.d (.lst RD)), x9, x10, none] ∧ μ = []) ?_
        wtm_at "wr"
        refine ⟨rfl, ⟨0, _, _, by omega, rfl, rfl, rfl⟩, ?_, ?_⟩
        · rintro x xs ρ μ ⟨j, x9, x10, hj, e, rfl, rfl⟩
          have hel : (enumD RD).length = 16 := by simp [enumD, hlen]
          have hj' : j < 16 := by
            rcases Nat.lt_or_ge j 16 with h | h
            · exact h
            · rw [List.drop_eq_nil_of_le (by omega)] at e; cases e
          rw [List.drop_eq_getElem_cons (by omega), List.cons.injEq] at e
          obtain ⟨rfl, rfl⟩ := e
          obtain ⟨fs, hfs⟩ := hra j hj'
          have hx : (enumD RD)[j]'(by omega) = .tup [.int j, .err ((errsOf theAd).getD j 0) fs] := by
            have h1 : RD[j]'(by omega) = .err ((errsOf theAd).getD j 0) fs := by
              have := List.drop_eq_getElem_cons (l := RD) (i := j) (by omega)
              rw [hfs] at this
              exact (List.cons.inj this).1.symm
            simp only [enumD, List.getElem_mapIdx, h1]
          rw [hx]
          refine ⟨_, rfl, ?_⟩
          have hk := kinds_ok j hj' fs
          have hm := err_mem j hj'
          have hne := ne_bls j hj'
          have hbl : (intsD 0 16).map (fun d => match d with | .int i => D.bl (decide (i = (j : Int))) | d => d) = bls j := by
            unfold intsD bls
            rw [List.map_map]
            refine List.map_congr_left fun i _ => ?_
            show D.bl (decide _) = D.bl (decide _)
            congr 1
            exact decide_eq_decide.mpr (by omega)
          generalize (errsOf theAd).getD j 0 = C at hk hm ⊢
          generalize hER : errsOf theAd = ER at hm ⊢
          with_reducible refine w_seqG fun r hr => ?_
          wtm_at "wr"
          refine e_opN (by rfl) (show isOG ER theAd.tab (fun _ => true) [.err C fs, .gl theAd.tab] = some (.bl true) from if_pos ⟨hm, rfl⟩) ?_
          wtm_at "wr"
          refine e_opN (by rfl) (show isOT ER "ValueError" (fun _ => true) [.err C fs, .ty "ValueError"] = some (.bl true) from if_pos ⟨hm, rfl⟩) ?_
          wtm_at "wr"
          subst hr
          wtm_at "wr"
          refine to_ok (call1 hk) ?_
          wtm_at "wr"
          refine e_lcP (q := (intsD 0 16, none)) (fun d => match d with | .int i => D.bl (decide (i = (j : Int))) | d => d) (by rfl) (.inl rfl) (by decide) (fun x hx => ?_) ?_
          · obtain ⟨i, _, rfl⟩ := List.mem_map.mp hx
            exact ⟨_, rfl, rfl⟩
          rw [hbl]
          refine e_op2 (by rfl) (by rfl) hne ?_
          wtm_at "wr"
          exact ⟨j + 1, _, _, hj', rfl, rfl, rfl⟩
        · rintro ρ μ ⟨j, x9, x10, hj, e, rfl, rfl⟩
          exact ⟨n, _, _, _, rfl, rfl, rfl⟩
    · rintro ρ μ ⟨n, x8, x9, x10, e, rfl, rfl⟩
      exact ⟨_, _, _, _, _, _, _, _, _, _, rfl, rfl⟩
  · rintro ρ μ ⟨x1, x2, x3, x4, x5, x6, x7, x8, x9, x10, rfl, rfl⟩
    wtm_at "wr"
    exact ⟨_, rfl, rfl, rfl⟩
end TT

namespace TT
open PySem L2
instance theTB : TB := ⟨[]⟩
theorem law_plain (ns : List Int) (hl : ns.length ≤ 63) (hb : ∀ z ∈ ns, Builtin.Int.intBits z ≤ 1048576) : ∃ μ', F_law theAd [.d (.fl (ns.map D.int))] [] = .ok (.d (.bl true)) μ' := by
  obtain ⟨v, μ', e, rfl⟩ := ok_to (law_plain0 ns hl)
  exact ⟨μ', e⟩
end TT

open PySem PySem.W PyProof.Rows in
set_option maxRecDepth 100000 in
set_option maxHeartbeats 0 in
theorem PySem.Challenge.cw_tailtables_k00_errors_apart_holds : PySem.Challenge.rw_tailtables_k00_errors_apart.Holds := by
  w_on; o_law; k_head; (case hw => w_witness2)
  k_fill
  refine @TT.walkM TT.theTB PySem.Challenge.rw_tailtables_k00_errors_apart 63 3 _ _ _ _ _ _ (TT.F_law TT.theAd) [] rfl (by decide) rfl ⟨rfl, by decide, by decide⟩ (fun w h Y => PySem.W.kIn_of Y) (fun w h Y p hp => nomatch hp) (fun w p hp => nomatch hp) (fun w p hp => nomatch hp) (by decide) ?gF TT.law_plain
  case gF =>
    intro w mg fa h KX G hmg
    refine' TT.all_mk KX G hmg ?aC_TablesError ?aC_BadFunction ?xL_BadFunction ?sa_BadFunction ?ec_BadFunction ?tc_BadFunction ?kc_BadFunction ?xf_BadFunction ?xn_BadFunction_at ?a_iBadFunction ?t_iBadFunction ?l_iBadFunction ?hc_iBadFunction ?k_iBadFunction ?aC_BadCase ?xL_BadCase ?sa_BadCase ?ec_BadCase ?tc_BadCase ?kc_BadCase ?xf_BadCase ?xn_BadCase_at ?a_iBadCase ?t_iBadCase ?l_iBadCase ?hc_iBadCase ?k_iBadCase ?aC_Twice ?xL_Twice ?sa_Twice ?ec_Twice ?tc_Twice ?kc_Twice ?xf_Twice ?xn_Twice_name ?a_iTwice ?t_iTwice ?l_iTwice ?hc_iTwice ?k_iTwice ?aC_TooLarge ?xL_TooLarge ?sa_TooLarge ?ec_TooLarge ?tc_TooLarge ?kc_TooLarge ?xf_TooLarge ?xn_TooLarge_nodes ?xn_TooLarge_deepest ?a_iTooLarge ?t_iTooLarge ?l_iTooLarge ?hc_iTooLarge ?k_iTooLarge ?aC_Unknown ?xL_Unknown ?sa_Unknown ?ec_Unknown ?tc_Unknown ?kc_Unknown ?xf_Unknown ?xn_Unknown_name ?a_iUnknown ?t_iUnknown ?l_iUnknown ?hc_iUnknown ?k_iUnknown ?aC_Arity ?xL_Arity ?sa_Arity ?ec_Arity ?tc_Arity ?kc_Arity ?xf_Arity ?xn_Arity_name ?xn_Arity_given ?a_iArity ?t_iArity ?l_iArity ?hc_iArity ?k_iArity ?aC_Unbound ?xL_Unbound ?sa_Unbound ?ec_Unbound ?tc_Unbound ?kc_Unbound ?xf_Unbound ?xn_Unbound_name ?a_iUnbound ?t_iUnbound ?l_iUnbound ?hc_iUnbound ?k_iUnbound ?aC_NoSlot ?xL_NoSlot ?sa_NoSlot ?ec_NoSlot ?tc_NoSlot ?kc_NoSlot ?xf_NoSlot ?xn_NoSlot_slot ?a_iNoSlot ?t_iNoSlot ?l_iNoSlot ?hc_iNoSlot ?k_iNoSlot ?aC_Looped ?xL_Looped ?sa_Looped ?ec_Looped ?tc_Looped ?kc_Looped ?xf_Looped ?xn_Looped_ring ?a_iLooped ?t_iLooped ?l_iLooped ?hc_iLooped ?k_iLooped ?aC_BadValue ?xL_BadValue ?sa_BadValue ?ec_BadValue ?tc_BadValue ?kc_BadValue ?xf_BadValue ?xn_BadValue_at ?a_iBadValue ?t_iBadValue ?l_iBadValue ?hc_iBadValue ?k_iBadValue ?aC_BadAnswer ?xL_BadAnswer ?sa_BadAnswer ?ec_BadAnswer ?tc_BadAnswer ?kc_BadAnswer ?xf_BadAnswer ?xn_BadAnswer_answer ?a_iBadAnswer ?t_iBadAnswer ?l_iBadAnswer ?hc_iBadAnswer ?k_iBadAnswer ?aC_BadScript ?xL_BadScript ?sa_BadScript ?ec_BadScript ?tc_BadScript ?kc_BadScript ?xf_BadScript ?xn_BadScript_steps ?xn_BadScript_bits ?a_iBadScript ?t_iBadScript ?l_iBadScript ?hc_iBadScript ?k_iBadScript ?aC_Unlike ?xL_Unlike ?sa_Unlike ?ec_Unlike ?tc_Unlike ?kc_Unlike ?xf_Unlike ?xn_Unlike_name ?a_iUnlike ?t_iUnlike ?l_iUnlike ?hc_iUnlike ?k_iUnlike ?aC_Unbounded ?xL_Unbounded ?sa_Unbounded ?ec_Unbounded ?tc_Unbounded ?kc_Unbounded ?xf_Unbounded ?xn_Unbounded_name ?a_iUnbounded ?t_iUnbounded ?l_iUnbounded ?hc_iUnbounded ?k_iUnbounded ?aC_Silent ?xL_Silent ?sa_Silent ?ec_Silent ?tc_Silent ?kc_Silent ?xf_Silent ?xn_Silent_at ?a_iSilent ?t_iSilent ?l_iSilent ?hc_iSilent ?k_iSilent ?aC_TooMany ?xL_TooMany ?sa_TooMany ?ec_TooMany ?tc_TooMany ?kc_TooMany ?xf_TooMany ?xn_TooMany_many ?a_iTooMany ?t_iTooMany ?l_iTooMany ?hc_iTooMany ?k_iTooMany ?eb_BadFunction ?ki_BadFunction_BadFunction ?ki_BadFunction_BadCase ?ki_BadFunction_Twice ?ki_BadFunction_TooLarge ?ki_BadFunction_Unknown ?ki_BadFunction_Arity ?ki_BadFunction_Unbound ?ki_BadFunction_NoSlot ?ki_BadFunction_Looped ?ki_BadFunction_BadValue ?ki_BadFunction_BadAnswer ?ki_BadFunction_BadScript ?ki_BadFunction_Unlike ?ki_BadFunction_Unbounded ?ki_BadFunction_Silent ?ki_BadFunction_TooMany ?ki_BadFunction_tab ?ki_BadFunction_ve ?eb_BadCase ?ki_BadCase_BadFunction ?ki_BadCase_BadCase ?ki_BadCase_Twice ?ki_BadCase_TooLarge ?ki_BadCase_Unknown ?ki_BadCase_Arity ?ki_BadCase_Unbound ?ki_BadCase_NoSlot ?ki_BadCase_Looped ?ki_BadCase_BadValue ?ki_BadCase_BadAnswer ?ki_BadCase_BadScript ?ki_BadCase_Unlike ?ki_BadCase_Unbounded ?ki_BadCase_Silent ?ki_BadCase_TooMany ?ki_BadCase_tab ?ki_BadCase_ve ?eb_Twice ?ki_Twice_BadFunction ?ki_Twice_BadCase ?ki_Twice_Twice ?ki_Twice_TooLarge ?ki_Twice_Unknown ?ki_Twice_Arity ?ki_Twice_Unbound ?ki_Twice_NoSlot ?ki_Twice_Looped ?ki_Twice_BadValue ?ki_Twice_BadAnswer ?ki_Twice_BadScript ?ki_Twice_Unlike ?ki_Twice_Unbounded ?ki_Twice_Silent ?ki_Twice_TooMany ?ki_Twice_tab ?ki_Twice_ve ?eb_TooLarge ?ki_TooLarge_BadFunction ?ki_TooLarge_BadCase ?ki_TooLarge_Twice ?ki_TooLarge_TooLarge ?ki_TooLarge_Unknown ?ki_TooLarge_Arity ?ki_TooLarge_Unbound ?ki_TooLarge_NoSlot ?ki_TooLarge_Looped ?ki_TooLarge_BadValue ?ki_TooLarge_BadAnswer ?ki_TooLarge_BadScript ?ki_TooLarge_Unlike ?ki_TooLarge_Unbounded ?ki_TooLarge_Silent ?ki_TooLarge_TooMany ?ki_TooLarge_tab ?ki_TooLarge_ve ?eb_Unknown ?ki_Unknown_BadFunction ?ki_Unknown_BadCase ?ki_Unknown_Twice ?ki_Unknown_TooLarge ?ki_Unknown_Unknown ?ki_Unknown_Arity ?ki_Unknown_Unbound ?ki_Unknown_NoSlot ?ki_Unknown_Looped ?ki_Unknown_BadValue ?ki_Unknown_BadAnswer ?ki_Unknown_BadScript ?ki_Unknown_Unlike ?ki_Unknown_Unbounded ?ki_Unknown_Silent ?ki_Unknown_TooMany ?ki_Unknown_tab ?ki_Unknown_ve ?eb_Arity ?ki_Arity_BadFunction ?ki_Arity_BadCase ?ki_Arity_Twice ?ki_Arity_TooLarge ?ki_Arity_Unknown ?ki_Arity_Arity ?ki_Arity_Unbound ?ki_Arity_NoSlot ?ki_Arity_Looped ?ki_Arity_BadValue ?ki_Arity_BadAnswer ?ki_Arity_BadScript ?ki_Arity_Unlike ?ki_Arity_Unbounded ?ki_Arity_Silent ?ki_Arity_TooMany ?ki_Arity_tab ?ki_Arity_ve ?eb_Unbound ?ki_Unbound_BadFunction ?ki_Unbound_BadCase ?ki_Unbound_Twice ?ki_Unbound_TooLarge ?ki_Unbound_Unknown ?ki_Unbound_Arity ?ki_Unbound_Unbound ?ki_Unbound_NoSlot ?ki_Unbound_Looped ?ki_Unbound_BadValue ?ki_Unbound_BadAnswer ?ki_Unbound_BadScript ?ki_Unbound_Unlike ?ki_Unbound_Unbounded ?ki_Unbound_Silent ?ki_Unbound_TooMany ?ki_Unbound_tab ?ki_Unbound_ve ?eb_NoSlot ?ki_NoSlot_BadFunction ?ki_NoSlot_BadCase ?ki_NoSlot_Twice ?ki_NoSlot_TooLarge ?ki_NoSlot_Unknown ?ki_NoSlot_Arity ?ki_NoSlot_Unbound ?ki_NoSlot_NoSlot ?ki_NoSlot_Looped ?ki_NoSlot_BadValue ?ki_NoSlot_BadAnswer ?ki_NoSlot_BadScript ?ki_NoSlot_Unlike ?ki_NoSlot_Unbounded ?ki_NoSlot_Silent ?ki_NoSlot_TooMany ?ki_NoSlot_tab ?ki_NoSlot_ve ?eb_Looped ?ki_Looped_BadFunction ?ki_Looped_BadCase ?ki_Looped_Twice ?ki_Looped_TooLarge ?ki_Looped_Unknown ?ki_Looped_Arity ?ki_Looped_Unbound ?ki_Looped_NoSlot ?ki_Looped_Looped ?ki_Looped_BadValue ?ki_Looped_BadAnswer ?ki_Looped_BadScript ?ki_Looped_Unlike ?ki_Looped_Unbounded ?ki_Looped_Silent ?ki_Looped_TooMany ?ki_Looped_tab ?ki_Looped_ve ?eb_BadValue ?ki_BadValue_BadFunction ?ki_BadValue_BadCase ?ki_BadValue_Twice ?ki_BadValue_TooLarge ?ki_BadValue_Unknown ?ki_BadValue_Arity ?ki_BadValue_Unbound ?ki_BadValue_NoSlot ?ki_BadValue_Looped ?ki_BadValue_BadValue ?ki_BadValue_BadAnswer ?ki_BadValue_BadScript ?ki_BadValue_Unlike ?ki_BadValue_Unbounded ?ki_BadValue_Silent ?ki_BadValue_TooMany ?ki_BadValue_tab ?ki_BadValue_ve ?eb_BadAnswer ?ki_BadAnswer_BadFunction ?ki_BadAnswer_BadCase ?ki_BadAnswer_Twice ?ki_BadAnswer_TooLarge ?ki_BadAnswer_Unknown ?ki_BadAnswer_Arity ?ki_BadAnswer_Unbound ?ki_BadAnswer_NoSlot ?ki_BadAnswer_Looped ?ki_BadAnswer_BadValue ?ki_BadAnswer_BadAnswer ?ki_BadAnswer_BadScript ?ki_BadAnswer_Unlike ?ki_BadAnswer_Unbounded ?ki_BadAnswer_Silent ?ki_BadAnswer_TooMany ?ki_BadAnswer_tab ?ki_BadAnswer_ve ?eb_BadScript ?ki_BadScript_BadFunction ?ki_BadScript_BadCase ?ki_BadScript_Twice ?ki_BadScript_TooLarge ?ki_BadScript_Unknown ?ki_BadScript_Arity ?ki_BadScript_Unbound ?ki_BadScript_NoSlot ?ki_BadScript_Looped ?ki_BadScript_BadValue ?ki_BadScript_BadAnswer ?ki_BadScript_BadScript ?ki_BadScript_Unlike ?ki_BadScript_Unbounded ?ki_BadScript_Silent ?ki_BadScript_TooMany ?ki_BadScript_tab ?ki_BadScript_ve ?eb_Unlike ?ki_Unlike_BadFunction ?ki_Unlike_BadCase ?ki_Unlike_Twice ?ki_Unlike_TooLarge ?ki_Unlike_Unknown ?ki_Unlike_Arity ?ki_Unlike_Unbound ?ki_Unlike_NoSlot ?ki_Unlike_Looped ?ki_Unlike_BadValue ?ki_Unlike_BadAnswer ?ki_Unlike_BadScript ?ki_Unlike_Unlike ?ki_Unlike_Unbounded ?ki_Unlike_Silent ?ki_Unlike_TooMany ?ki_Unlike_tab ?ki_Unlike_ve ?eb_Unbounded ?ki_Unbounded_BadFunction ?ki_Unbounded_BadCase ?ki_Unbounded_Twice ?ki_Unbounded_TooLarge ?ki_Unbounded_Unknown ?ki_Unbounded_Arity ?ki_Unbounded_Unbound ?ki_Unbounded_NoSlot ?ki_Unbounded_Looped ?ki_Unbounded_BadValue ?ki_Unbounded_BadAnswer ?ki_Unbounded_BadScript ?ki_Unbounded_Unlike ?ki_Unbounded_Unbounded ?ki_Unbounded_Silent ?ki_Unbounded_TooMany ?ki_Unbounded_tab ?ki_Unbounded_ve ?eb_Silent ?ki_Silent_BadFunction ?ki_Silent_BadCase ?ki_Silent_Twice ?ki_Silent_TooLarge ?ki_Silent_Unknown ?ki_Silent_Arity ?ki_Silent_Unbound ?ki_Silent_NoSlot ?ki_Silent_Looped ?ki_Silent_BadValue ?ki_Silent_BadAnswer ?ki_Silent_BadScript ?ki_Silent_Unlike ?ki_Silent_Unbounded ?ki_Silent_Silent ?ki_Silent_TooMany ?ki_Silent_tab ?ki_Silent_ve ?eb_TooMany ?ki_TooMany_BadFunction ?ki_TooMany_BadCase ?ki_TooMany_Twice ?ki_TooMany_TooLarge ?ki_TooMany_Unknown ?ki_TooMany_Arity ?ki_TooMany_Unbound ?ki_TooMany_NoSlot ?ki_TooMany_Looped ?ki_TooMany_BadValue ?ki_TooMany_BadAnswer ?ki_TooMany_BadScript ?ki_TooMany_Unlike ?ki_TooMany_Unbounded ?ki_TooMany_Silent ?ki_TooMany_TooMany ?ki_TooMany_tab ?ki_TooMany_ve ?a_cell ?l_cell ?hc_cell ?k_cell ?a_kinds ?l_kinds ?hc_kinds ?k_kinds ?a_fields ?l_fields ?hc_fields ?k_fields ?a_law ?l_law ?hc_law ?k_law ?z_len ?z_int ?z_str ?z_enumerate ?z_range ?z_min ?z_max ?z_isinstance ?z_repr ?z_ValueError
    (case aC_TablesError => first | k_is | exact ⟨_, rfl⟩ | rfl)
    (case aC_BadFunction => first | k_is | exact ⟨_, rfl⟩ | rfl)
    (case xL_BadFunction => first | k_is | exact ⟨_, rfl⟩ | rfl)
    (case sa_BadFunction => first | k_is | exact ⟨_, rfl⟩ | rfl)
    (case ec_BadFunction => first | k_is | exact ⟨_, rfl⟩ | rfl)
    (case tc_BadFunction => first | k_is | exact ⟨_, rfl⟩ | rfl)
    (case kc_BadFunction => first | k_is | exact ⟨_, rfl⟩ | rfl)
    (case xf_BadFunction => first | k_is | exact ⟨_, rfl⟩ | rfl)
    (case xn_BadFunction_at => first | k_is | exact ⟨_, rfl⟩ | rfl)
    (case a_iBadFunction => first | k_is | exact ⟨_, rfl⟩ | rfl)
    (case t_iBadFunction => first | k_is | exact ⟨_, rfl⟩ | rfl)
    (case l_iBadFunction => first | k_is | exact ⟨_, rfl⟩ | rfl)
    (case hc_iBadFunction => first | k_is | exact ⟨_, rfl⟩ | rfl)
    (case k_iBadFunction => first | k_is | exact ⟨_, rfl⟩ | rfl)
    (case aC_BadCase => first | k_is | exact ⟨_, rfl⟩ | rfl)
    (case xL_BadCase => first | k_is | exact ⟨_, rfl⟩ | rfl)
    (case sa_BadCase => first | k_is | exact ⟨_, rfl⟩ | rfl)
    (case ec_BadCase => first | k_is | exact ⟨_, rfl⟩ | rfl)
    (case tc_BadCase => first | k_is | exact ⟨_, rfl⟩ | rfl)
    (case kc_BadCase => first | k_is | exact ⟨_, rfl⟩ | rfl)
    (case xf_BadCase => first | k_is | exact ⟨_, rfl⟩ | rfl)
    (case xn_BadCase_at => first | k_is | exact ⟨_, rfl⟩ | rfl)
    (case a_iBadCase => first | k_is | exact ⟨_, rfl⟩ | rfl)
    (case t_iBadCase => first | k_is | exact ⟨_, rfl⟩ | rfl)
    (case l_iBadCase => first | k_is | exact ⟨_, rfl⟩ | rfl)
    (case hc_iBadCase => first | k_is | exact ⟨_, rfl⟩ | rfl)
    (case k_iBadCase => first | k_is | exact ⟨_, rfl⟩ | rfl)
    (case aC_Twice => first | k_is | exact ⟨_, rfl⟩ | rfl)
    (case xL_Twice => first | k_is | exact ⟨_, rfl⟩ | rfl)
    (case sa_Twice => first | k_is | exact ⟨_, rfl⟩ | rfl)
    (case ec_Twice => first | k_is | exact ⟨_, rfl⟩ | rfl)
    (case tc_Twice => first | k_is | exact ⟨_, rfl⟩ | rfl)
    (case kc_Twice => first | k_is | exact ⟨_, rfl⟩ | rfl)
    (case xf_Twice => first | k_is | exact ⟨_, rfl⟩ | rfl)
    (case xn_Twice_name => first | k_is | exact ⟨_, rfl⟩ | rfl)
    (case a_iTwice => first | k_is | exact ⟨_, rfl⟩ | rfl)
    (case t_iTwice => first | k_is | exact ⟨_, rfl⟩ | rfl)
    (case l_iTwice => first | k_is | exact ⟨_, rfl⟩ | rfl)
    (case hc_iTwice => first | k_is | exact ⟨_, rfl⟩ | rfl)
    (case k_iTwice => first | k_is | exact ⟨_, rfl⟩ | rfl)
    (case aC_TooLarge => first | k_is | exact ⟨_, rfl⟩ | rfl)
    (case xL_TooLarge => first | k_is | exact ⟨_, rfl⟩ | rfl)
    (case sa_TooLarge => first | k_is | exact ⟨_, rfl⟩ | rfl)
    (case ec_TooLarge => first | k_is | exact ⟨_, rfl⟩ | rfl)
    (case tc_TooLarge => first | k_is | exact ⟨_, rfl⟩ | rfl)
    (case kc_TooLarge => first | k_is | exact ⟨_, rfl⟩ | rfl)
    (case xf_TooLarge => first | k_is | exact ⟨_, rfl⟩ | rfl)
    (case xn_TooLarge_nodes => first | k_is | exact ⟨_, rfl⟩ | rfl)
    (case xn_TooLarge_deepest => first | k_is | exact ⟨_, rfl⟩ | rfl)
    (case a_iTooLarge => first | k_is | exact ⟨_, rfl⟩ | rfl)
    (case t_iTooLarge => first | k_is | exact ⟨_, rfl⟩ | rfl)
    (case l_iTooLarge => first | k_is | exact ⟨_, rfl⟩ | rfl)
    (case hc_iTooLarge => first | k_is | exact ⟨_, rfl⟩ | rfl)
    (case k_iTooLarge => first | k_is | exact ⟨_, rfl⟩ | rfl)
    (case aC_Unknown => first | k_is | exact ⟨_, rfl⟩ | rfl)
    (case xL_Unknown => first | k_is | exact ⟨_, rfl⟩ | rfl)
    (case sa_Unknown => first | k_is | exact ⟨_, rfl⟩ | rfl)
    (case ec_Unknown => first | k_is | exact ⟨_, rfl⟩ | rfl)
    (case tc_Unknown => first | k_is | exact ⟨_, rfl⟩ | rfl)
    (case kc_Unknown => first | k_is | exact ⟨_, rfl⟩ | rfl)
    (case xf_Unknown => first | k_is | exact ⟨_, rfl⟩ | rfl)
    (case xn_Unknown_name => first | k_is | exact ⟨_, rfl⟩ | rfl)
    (case a_iUnknown => first | k_is | exact ⟨_, rfl⟩ | rfl)
    (case t_iUnknown => first | k_is | exact ⟨_, rfl⟩ | rfl)
    (case l_iUnknown => first | k_is | exact ⟨_, rfl⟩ | rfl)
    (case hc_iUnknown => first | k_is | exact ⟨_, rfl⟩ | rfl)
    (case k_iUnknown => first | k_is | exact ⟨_, rfl⟩ | rfl)
    (case aC_Arity => first | k_is | exact ⟨_, rfl⟩ | rfl)
    (case xL_Arity => first | k_is | exact ⟨_, rfl⟩ | rfl)
    (case sa_Arity => first | k_is | exact ⟨_, rfl⟩ | rfl)
    (case ec_Arity => first | k_is | exact ⟨_, rfl⟩ | rfl)
    (case tc_Arity => first | k_is | exact ⟨_, rfl⟩ | rfl)
    (case kc_Arity => first | k_is | exact ⟨_, rfl⟩ | rfl)
    (case xf_Arity => first | k_is | exact ⟨_, rfl⟩ | rfl)
    (case xn_Arity_name => first | k_is | exact ⟨_, rfl⟩ | rfl)
    (case xn_Arity_given => first | k_is | exact ⟨_, rfl⟩ | rfl)
    (case a_iArity => first | k_is | exact ⟨_, rfl⟩ | rfl)
    (case t_iArity => first | k_is | exact ⟨_, rfl⟩ | rfl)
    (case l_iArity => first | k_is | exact ⟨_, rfl⟩ | rfl)
    (case hc_iArity => first | k_is | exact ⟨_, rfl⟩ | rfl)
    (case k_iArity => first | k_is | exact ⟨_, rfl⟩ | rfl)
    (case aC_Unbound => first | k_is | exact ⟨_, rfl⟩ | rfl)
    (case xL_Unbound => first | k_is | exact ⟨_, rfl⟩ | rfl)
    (case sa_Unbound => first | k_is | exact ⟨_, rfl⟩ | rfl)
    (case ec_Unbound => first | k_is | exact ⟨_, rfl⟩ | rfl)
    (case tc_Unbound => first | k_is | exact ⟨_, rfl⟩ | rfl)
    (case kc_Unbound => first | k_is | exact ⟨_, rfl⟩ | rfl)
    (case xf_Unbound => first | k_is | exact ⟨_, rfl⟩ | rfl)
    (case xn_Unbound_name => first | k_is | exact ⟨_, rfl⟩ | rfl)
    (case a_iUnbound => first | k_is | exact ⟨_, rfl⟩ | rfl)
    (case t_iUnbound => first | k_is | exact ⟨_, rfl⟩ | rfl)
    (case l_iUnbound => first | k_is | exact ⟨_, rfl⟩ | rfl)
    (case hc_iUnbound => first | k_is | exact ⟨_, rfl⟩ | rfl)
    (case k_iUnbound => first | k_is | exact ⟨_, rfl⟩ | rfl)
    (case aC_NoSlot => first | k_is | exact ⟨_, rfl⟩ | rfl)
    (case xL_NoSlot => first | k_is | exact ⟨_, rfl⟩ | rfl)
    (case sa_NoSlot => first | k_is | exact ⟨_, rfl⟩ | rfl)
    (case ec_NoSlot => first | k_is | exact ⟨_, rfl⟩ | rfl)
    (case tc_NoSlot => first | k_is | exact ⟨_, rfl⟩ | rfl)
    (case kc_NoSlot => first | k_is | exact ⟨_, rfl⟩ | rfl)
    (case xf_NoSlot => first | k_is | exact ⟨_, rfl⟩ | rfl)
    (case xn_NoSlot_slot => first | k_is | exact ⟨_, rfl⟩ | rfl)
    (case a_iNoSlot => first | k_is | exact ⟨_, rfl⟩ | rfl)
    (case t_iNoSlot => first | k_is | exact ⟨_, rfl⟩ | rfl)
    (case l_iNoSlot => first | k_is | exact ⟨_, rfl⟩ | rfl)
    (case hc_iNoSlot => first | k_is | exact ⟨_, rfl⟩ | rfl)
    (case k_iNoSlot => first | k_is | exact ⟨_, rfl⟩ | rfl)
    (case aC_Looped => first | k_is | exact ⟨_, rfl⟩ | rfl)
    (case xL_Looped => first | k_is | exact ⟨_, rfl⟩ | rfl)
    (case sa_Looped => first | k_is | exact ⟨_, rfl⟩ | rfl)
    (case ec_Looped => first | k_is | exact ⟨_, rfl⟩ | rfl)
    (case tc_Looped => first | k_is | exact ⟨_, rfl⟩ | rfl)
    (case kc_Looped => first | k_is | exact ⟨_, rfl⟩ | rfl)
    (case xf_Looped => first | k_is | exact ⟨_, rfl⟩ | rfl)
    (case xn_Looped_ring => first | k_is | exact ⟨_, rfl⟩ | rfl)
    (case a_iLooped => first | k_is | exact ⟨_, rfl⟩ | rfl)
    (case t_iLooped => first | k_is | exact ⟨_, rfl⟩ | rfl)
    (case l_iLooped => first | k_is | exact ⟨_, rfl⟩ | rfl)
    (case hc_iLooped => first | k_is | exact ⟨_, rfl⟩ | rfl)
    (case k_iLooped => first | k_is | exact ⟨_, rfl⟩ | rfl)
    (case aC_BadValue => first | k_is | exact ⟨_, rfl⟩ | rfl)
    (case xL_BadValue => first | k_is | exact ⟨_, rfl⟩ | rfl)
    (case sa_BadValue => first | k_is | exact ⟨_, rfl⟩ | rfl)
    (case ec_BadValue => first | k_is | exact ⟨_, rfl⟩ | rfl)
    (case tc_BadValue => first | k_is | exact ⟨_, rfl⟩ | rfl)
    (case kc_BadValue => first | k_is | exact ⟨_, rfl⟩ | rfl)
    (case xf_BadValue => first | k_is | exact ⟨_, rfl⟩ | rfl)
    (case xn_BadValue_at => first | k_is | exact ⟨_, rfl⟩ | rfl)
    (case a_iBadValue => first | k_is | exact ⟨_, rfl⟩ | rfl)
    (case t_iBadValue => first | k_is | exact ⟨_, rfl⟩ | rfl)
    (case l_iBadValue => first | k_is | exact ⟨_, rfl⟩ | rfl)
    (case hc_iBadValue => first | k_is | exact ⟨_, rfl⟩ | rfl)
    (case k_iBadValue => first | k_is | exact ⟨_, rfl⟩ | rfl)
    (case aC_BadAnswer => first | k_is | exact ⟨_, rfl⟩ | rfl)
    (case xL_BadAnswer => first | k_is | exact ⟨_, rfl⟩ | rfl)
    (case sa_BadAnswer => first | k_is | exact ⟨_, rfl⟩ | rfl)
    (case ec_BadAnswer => first | k_is | exact ⟨_, rfl⟩ | rfl)
    (case tc_BadAnswer => first | k_is | exact ⟨_, rfl⟩ | rfl)
    (case kc_BadAnswer => first | k_is | exact ⟨_, rfl⟩ | rfl)
    (case xf_BadAnswer => first | k_is | exact ⟨_, rfl⟩ | rfl)
    (case xn_BadAnswer_answer => first | k_is | exact ⟨_, rfl⟩ | rfl)
    (case a_iBadAnswer => first | k_is | exact ⟨_, rfl⟩ | rfl)
    (case t_iBadAnswer => first | k_is | exact ⟨_, rfl⟩ | rfl)
    (case l_iBadAnswer => first | k_is | exact ⟨_, rfl⟩ | rfl)
    (case hc_iBadAnswer => first | k_is | exact ⟨_, rfl⟩ | rfl)
    (case k_iBadAnswer => first | k_is | exact ⟨_, rfl⟩ | rfl)
    (case aC_BadScript => first | k_is | exact ⟨_, rfl⟩ | rfl)
    (case xL_BadScript => first | k_is | exact ⟨_, rfl⟩ | rfl)
    (case sa_BadScript => first | k_is | exact ⟨_, rfl⟩ | rfl)
    (case ec_BadScript => first | k_is | exact ⟨_, rfl⟩ | rfl)
    (case tc_BadScript => first | k_is | exact ⟨_, rfl⟩ | rfl)
    (case kc_BadScript => first | k_is | exact ⟨_, rfl⟩ | rfl)
    (case xf_BadScript => first | k_is | exact ⟨_, rfl⟩ | rfl)
    (case xn_BadScript_steps => first | k_is | exact ⟨_, rfl⟩ | rfl)
    (case xn_BadScript_bits => first | k_is | exact ⟨_, rfl⟩ | rfl)
    (case a_iBadScript => first | k_is | exact ⟨_, rfl⟩ | rfl)
    (case t_iBadScript => first | k_is | exact ⟨_, rfl⟩ | rfl)
    (case l_iBadScript => first | k_is | exact ⟨_, rfl⟩ | rfl)
    (case hc_iBadScript => first | k_is | exact ⟨_, rfl⟩ | rfl)
    (case k_iBadScript => first | k_is | exact ⟨_, rfl⟩ | rfl)
    (case aC_Unlike => first | k_is | exact ⟨_, rfl⟩ | rfl)
    (case xL_Unlike => first | k_is | exact ⟨_, rfl⟩ | rfl)
    (case sa_Unlike => first | k_is | exact ⟨_, rfl⟩ | rfl)
    (case ec_Unlike => first | k_is | exact ⟨_, rfl⟩ | rfl)
    (case tc_Unlike => first | k_is | exact ⟨_, rfl⟩ | rfl)
    (case kc_Unlike => first | k_is | exact ⟨_, rfl⟩ | rfl)
    (case xf_Unlike => first | k_is | exact ⟨_, rfl⟩ | rfl)
    (case xn_Unlike_name => first | k_is | exact ⟨_, rfl⟩ | rfl)
    (case a_iUnlike => first | k_is | exact ⟨_, rfl⟩ | rfl)
    (case t_iUnlike => first | k_is | exact ⟨_, rfl⟩ | rfl)
    (case l_iUnlike => first | k_is | exact ⟨_, rfl⟩ | rfl)
    (case hc_iUnlike => first | k_is | exact ⟨_, rfl⟩ | rfl)
    (case k_iUnlike => first | k_is | exact ⟨_, rfl⟩ | rfl)
    (case aC_Unbounded => first | k_is | exact ⟨_, rfl⟩ | rfl)
    (case xL_Unbounded => first | k_is | exact ⟨_, rfl⟩ | rfl)
    (case sa_Unbounded => first | k_is | exact ⟨_, rfl⟩ | rfl)
    (case ec_Unbounded => first | k_is | exact ⟨_, rfl⟩ | rfl)
    (case tc_Unbounded => first | k_is | exact ⟨_, rfl⟩ | rfl)
    (case kc_Unbounded => first | k_is | exact ⟨_, rfl⟩ | rfl)
    (case xf_Unbounded => first | k_is | exact ⟨_, rfl⟩ | rfl)
    (case xn_Unbounded_name => first | k_is | exact ⟨_, rfl⟩ | rfl)
    (case a_iUnbounded => first | k_is | exact ⟨_, rfl⟩ | rfl)
    (case t_iUnbounded => first | k_is | exact ⟨_, rfl⟩ | rfl)
    (case l_iUnbounded => first | k_is | exact ⟨_, rfl⟩ | rfl)
    (case hc_iUnbounded => first | k_is | exact ⟨_, rfl⟩ | rfl)
    (case k_iUnbounded => first | k_is | exact ⟨_, rfl⟩ | rfl)
    (case aC_Silent => first | k_is | exact ⟨_, rfl⟩ | rfl)
    (case xL_Silent => first | k_is | exact ⟨_, rfl⟩ | rfl)
    (case sa_Silent => first | k_is | exact ⟨_, rfl⟩ | rfl)
    (case ec_Silent => first | k_is | exact ⟨_, rfl⟩ | rfl)
    (case tc_Silent => first | k_is | exact ⟨_, rfl⟩ | rfl)
    (case kc_Silent => first | k_is | exact ⟨_, rfl⟩ | rfl)
    (case xf_Silent => first | k_is | exact ⟨_, rfl⟩ | rfl)
    (case xn_Silent_at => first | k_is | exact ⟨_, rfl⟩ | rfl)
    (case a_iSilent => first | k_is | exact ⟨_, rfl⟩ | rfl)
    (case t_iSilent => first | k_is | exact ⟨_, rfl⟩ | rfl)
    (case l_iSilent => first | k_is | exact ⟨_, rfl⟩ | rfl)
    (case hc_iSilent => first | k_is | exact ⟨_, rfl⟩ | rfl)
    (case k_iSilent => first | k_is | exact ⟨_, rfl⟩ | rfl)
    (case aC_TooMany => first | k_is | exact ⟨_, rfl⟩ | rfl)
    (case xL_TooMany => first | k_is | exact ⟨_, rfl⟩ | rfl)
    (case sa_TooMany => first | k_is | exact ⟨_, rfl⟩ | rfl)
    (case ec_TooMany => first | k_is | exact ⟨_, rfl⟩ | rfl)
    (case tc_TooMany => first | k_is | exact ⟨_, rfl⟩ | rfl)
    (case kc_TooMany => first | k_is | exact ⟨_, rfl⟩ | rfl)
    (case xf_TooMany => first | k_is | exact ⟨_, rfl⟩ | rfl)
    (case xn_TooMany_many => first | k_is | exact ⟨_, rfl⟩ | rfl)
    (case a_iTooMany => first | k_is | exact ⟨_, rfl⟩ | rfl)
    (case t_iTooMany => first | k_is | exact ⟨_, rfl⟩ | rfl)
    (case l_iTooMany => first | k_is | exact ⟨_, rfl⟩ | rfl)
    (case hc_iTooMany => first | k_is | exact ⟨_, rfl⟩ | rfl)
    (case k_iTooMany => first | k_is | exact ⟨_, rfl⟩ | rfl)
    (case eb_BadFunction => first | k_is | exact ⟨_, rfl⟩ | rfl)
    (case ki_BadFunction_BadFunction => first | k_is | exact ⟨_, rfl⟩ | rfl)
    (case ki_BadFunction_BadCase => first | k_is | exact ⟨_, rfl⟩ | rfl)
    (case ki_BadFunction_Twice => first | k_is | exact ⟨_, rfl⟩ | rfl)
    (case ki_BadFunction_TooLarge => first | k_is | exact ⟨_, rfl⟩ | rfl)
    (case ki_BadFunction_Unknown => first | k_is | exact ⟨_, rfl⟩ | rfl)
    (case ki_BadFunction_Arity => first | k_is | exact ⟨_, rfl⟩ | rfl)
    (case ki_BadFunction_Unbound => first | k_is | exact ⟨_, rfl⟩ | rfl)
    (case ki_BadFunction_NoSlot => first | k_is | exact ⟨_, rfl⟩ | rfl)
    (case ki_BadFunction_Looped => first | k_is | exact ⟨_, rfl⟩ | rfl)
    (case ki_BadFunction_BadValue => first | k_is | exact ⟨_, rfl⟩ | rfl)
    (case ki_BadFunction_BadAnswer => first | k_is | exact ⟨_, rfl⟩ | rfl)
    (case ki_BadFunction_BadScript => first | k_is | exact ⟨_, rfl⟩ | rfl)
    (case ki_BadFunction_Unlike => first | k_is | exact ⟨_, rfl⟩ | rfl)
    (case ki_BadFunction_Unbounded => first | k_is | exact ⟨_, rfl⟩ | rfl)
    (case ki_BadFunction_Silent => first | k_is | exact ⟨_, rfl⟩ | rfl)
    (case ki_BadFunction_TooMany => first | k_is | exact ⟨_, rfl⟩ | rfl)
    (case ki_BadFunction_tab => first | k_is | exact ⟨_, rfl⟩ | rfl)
    (case ki_BadFunction_ve => first | k_is | exact ⟨_, rfl⟩ | rfl)
    (case eb_BadCase => first | k_is | exact ⟨_, rfl⟩ | rfl)
    (case ki_BadCase_BadFunction => first | k_is | exact ⟨_, rfl⟩ | rfl)
    (case ki_BadCase_BadCase => first | k_is | exact ⟨_, rfl⟩ | rfl)
    (case ki_BadCase_Twice => first | k_is | exact ⟨_, rfl⟩ | rfl)
    (case ki_BadCase_TooLarge => first | k_is | exact ⟨_, rfl⟩ | rfl)
    (case ki_BadCase_Unknown => first | k_is | exact ⟨_, rfl⟩ | rfl)
    (case ki_BadCase_Arity => first | k_is | exact ⟨_, rfl⟩ | rfl)
    (case ki_BadCase_Unbound => first | k_is | exact ⟨_, rfl⟩ | rfl)
    (case ki_BadCase_NoSlot => first | k_is | exact ⟨_, rfl⟩ | rfl)
    (case ki_BadCase_Looped => first | k_is | exact ⟨_, rfl⟩ | rfl)
    (case ki_BadCase_BadValue => first | k_is | exact ⟨_, rfl⟩ | rfl)
    (case ki_BadCase_BadAnswer => first | k_is | exact ⟨_, rfl⟩ | rfl)
    (case ki_BadCase_BadScript => first | k_is | exact ⟨_, rfl⟩ | rfl)
    (case ki_BadCase_Unlike => first | k_is | exact ⟨_, rfl⟩ | rfl)
    (case ki_BadCase_Unbounded => first | k_is | exact ⟨_, rfl⟩ | rfl)
    (case ki_BadCase_Silent => first | k_is | exact ⟨_, rfl⟩ | rfl)
    (case ki_BadCase_TooMany => first | k_is | exact ⟨_, rfl⟩ | rfl)
    (case ki_BadCase_tab => first | k_is | exact ⟨_, rfl⟩ | rfl)
    (case ki_BadCase_ve => first | k_is | exact ⟨_, rfl⟩ | rfl)
    (case eb_Twice => first | k_is | exact ⟨_, rfl⟩ | rfl)
    (case ki_Twice_BadFunction => first | k_is | exact ⟨_, rfl⟩ | rfl)
    (case ki_Twice_BadCase => first | k_is | exact ⟨_, rfl⟩ | rfl)
    (case ki_Twice_Twice => first | k_is | exact ⟨_, rfl⟩ | rfl)
    (case ki_Twice_TooLarge => first | k_is | exact ⟨_, rfl⟩ | rfl)
    (case ki_Twice_Unknown => first | k_is | exact ⟨_, rfl⟩ | rfl)
    (case ki_Twice_Arity => first | k_is | exact ⟨_, rfl⟩ | rfl)
    (case ki_Twice_Unbound => first | k_is | exact ⟨_, rfl⟩ | rfl)
    (case ki_Twice_NoSlot => first | k_is | exact ⟨_, rfl⟩ | rfl)
    (case ki_Twice_Looped => first | k_is | exact ⟨_, rfl⟩ | rfl)
    (case ki_Twice_BadValue => first | k_is | exact ⟨_, rfl⟩ | rfl)
    (case ki_Twice_BadAnswer => first | k_is | exact ⟨_, rfl⟩ | rfl)
    (case ki_Twice_BadScript => first | k_is | exact ⟨_, rfl⟩ | rfl)
    (case ki_Twice_Unlike => first | k_is | exact ⟨_, rfl⟩ | rfl)
    (case ki_Twice_Unbounded => first | k_is | exact ⟨_, rfl⟩ | rfl)
    (case ki_Twice_Silent => first | k_is | exact ⟨_, rfl⟩ | rfl)
    (case ki_Twice_TooMany => first | k_is | exact ⟨_, rfl⟩ | rfl)
    (case ki_Twice_tab => first | k_is | exact ⟨_, rfl⟩ | rfl)
    (case ki_Twice_ve => first | k_is | exact ⟨_, rfl⟩ | rfl)
    (case eb_TooLarge => first | k_is | exact ⟨_, rfl⟩ | rfl)
    (case ki_TooLarge_BadFunction => first | k_is | exact ⟨_, rfl⟩ | rfl)
    (case ki_TooLarge_BadCase => first | k_is | exact ⟨_, rfl⟩ | rfl)
    (case ki_TooLarge_Twice => first | k_is | exact ⟨_, rfl⟩ | rfl)
    (case ki_TooLarge_TooLarge => first | k_is | exact ⟨_, rfl⟩ | rfl)
    (case ki_TooLarge_Unknown => first | k_is | exact ⟨_, rfl⟩ | rfl)
    (case ki_TooLarge_Arity => first | k_is | exact ⟨_, rfl⟩ | rfl)
    (case ki_TooLarge_Unbound => first | k_is | exact ⟨_, rfl⟩ | rfl)
    (case ki_TooLarge_NoSlot => first | k_is | exact ⟨_, rfl⟩ | rfl)
    (case ki_TooLarge_Looped => first | k_is | exact ⟨_, rfl⟩ | rfl)
    (case ki_TooLarge_BadValue => first | k_is | exact ⟨_, rfl⟩ | rfl)
    (case ki_TooLarge_BadAnswer => first | k_is | exact ⟨_, rfl⟩ | rfl)
    (case ki_TooLarge_BadScript => first | k_is | exact ⟨_, rfl⟩ | rfl)
    (case ki_TooLarge_Unlike => first | k_is | exact ⟨_, rfl⟩ | rfl)
    (case ki_TooLarge_Unbounded => first | k_is | exact ⟨_, rfl⟩ | rfl)
    (case ki_TooLarge_Silent => first | k_is | exact ⟨_, rfl⟩ | rfl)
    (case ki_TooLarge_TooMany => first | k_is | exact ⟨_, rfl⟩ | rfl)
    (case ki_TooLarge_tab => first | k_is | exact ⟨_, rfl⟩ | rfl)
    (case ki_TooLarge_ve => first | k_is | exact ⟨_, rfl⟩ | rfl)
    (case eb_Unknown => first | k_is | exact ⟨_, rfl⟩ | rfl)
    (case ki_Unknown_BadFunction => first | k_is | exact ⟨_, rfl⟩ | rfl)
    (case ki_Unknown_BadCase => first | k_is | exact ⟨_, rfl⟩ | rfl)
    (case ki_Unknown_Twice => first | k_is | exact ⟨_, rfl⟩ | rfl)
    (case ki_Unknown_TooLarge => first | k_is | exact ⟨_, rfl⟩ | rfl)
    (case ki_Unknown_Unknown => first | k_is | exact ⟨_, rfl⟩ | rfl)
    (case ki_Unknown_Arity => first | k_is | exact ⟨_, rfl⟩ | rfl)
    (case ki_Unknown_Unbound => first | k_is | exact ⟨_, rfl⟩ | rfl)
    (case ki_Unknown_NoSlot => first | k_is | exact ⟨_, rfl⟩ | rfl)
    (case ki_Unknown_Looped => first | k_is | exact ⟨_, rfl⟩ | rfl)
    (case ki_Unknown_BadValue => first | k_is | exact ⟨_, rfl⟩ | rfl)
    (case ki_Unknown_BadAnswer => first | k_is | exact ⟨_, rfl⟩ | rfl)
    (case ki_Unknown_BadScript => first | k_is | exact ⟨_, rfl⟩ | rfl)
    (case ki_Unknown_Unlike => first | k_is | exact ⟨_, rfl⟩ | rfl)
    (case ki_Unknown_Unbounded => first | k_is | exact ⟨_, rfl⟩ | rfl)
    (case ki_Unknown_Silent => first | k_is | exact ⟨_, rfl⟩ | rfl)
    (case ki_Unknown_TooMany => first | k_is | exact ⟨_, rfl⟩ | rfl)
    (case ki_Unknown_tab => first | k_is | exact ⟨_, rfl⟩ | rfl)
    (case ki_Unknown_ve => first | k_is | exact ⟨_, rfl⟩ | rfl)
    (case eb_Arity => first | k_is | exact ⟨_, rfl⟩ | rfl)
    (case ki_Arity_BadFunction => first | k_is | exact ⟨_, rfl⟩ | rfl)
    (case ki_Arity_BadCase => first | k_is | exact ⟨_, rfl⟩ | rfl)
    (case ki_Arity_Twice => first | k_is | exact ⟨_, rfl⟩ | rfl)
    (case ki_Arity_TooLarge => first | k_is | exact ⟨_, rfl⟩ | rfl)
    (case ki_Arity_Unknown => first | k_is | exact ⟨_, rfl⟩ | rfl)
    (case ki_Arity_Arity => first | k_is | exact ⟨_, rfl⟩ | rfl)
    (case ki_Arity_Unbound => first | k_is | exact ⟨_, rfl⟩ | rfl)
    (case ki_Arity_NoSlot => first | k_is | exact ⟨_, rfl⟩ | rfl)
    (case ki_Arity_Looped => first | k_is | exact ⟨_, rfl⟩ | rfl)
    (case ki_Arity_BadValue => first | k_is | exact ⟨_, rfl⟩ | rfl)
    (case ki_Arity_BadAnswer => first | k_is | exact ⟨_, rfl⟩ | rfl)
    (case ki_Arity_BadScript => first | k_is | exact ⟨_, rfl⟩ | rfl)
    (case ki_Arity_Unlike => first | k_is | exact ⟨_, rfl⟩ | rfl)
    (case ki_Arity_Unbounded => first | k_is | exact ⟨_, rfl⟩ | rfl)
    (case ki_Arity_Silent => first | k_is | exact ⟨_, rfl⟩ | rfl)
    (case ki_Arity_TooMany => first | k_is | exact ⟨_, rfl⟩ | rfl)
    (case ki_Arity_tab => first | k_is | exact ⟨_, rfl⟩ | rfl)
    (case ki_Arity_ve => first | k_is | exact ⟨_, rfl⟩ | rfl)
    (case eb_Unbound => first | k_is | exact ⟨_, rfl⟩ | rfl)
    (case ki_Unbound_BadFunction => first | k_is | exact ⟨_, rfl⟩ | rfl)
    (case ki_Unbound_BadCase => first | k_is | exact ⟨_, rfl⟩ | rfl)
    (case ki_Unbound_Twice => first | k_is | exact ⟨_, rfl⟩ | rfl)
    (case ki_Unbound_TooLarge => first | k_is | exact ⟨_, rfl⟩ | rfl)
    (case ki_Unbound_Unknown => first | k_is | exact ⟨_, rfl⟩ | rfl)
    (case ki_Unbound_Arity => first | k_is | exact ⟨_, rfl⟩ | rfl)
    (case ki_Unbound_Unbound => first | k_is | exact ⟨_, rfl⟩ | rfl)
    (case ki_Unbound_NoSlot => first | k_is | exact ⟨_, rfl⟩ | rfl)
    (case ki_Unbound_Looped => first | k_is | exact ⟨_, rfl⟩ | rfl)
    (case ki_Unbound_BadValue => first | k_is | exact ⟨_, rfl⟩ | rfl)
    (case ki_Unbound_BadAnswer => first | k_is | exact ⟨_, rfl⟩ | rfl)
    (case ki_Unbound_BadScript => first | k_is | exact ⟨_, rfl⟩ | rfl)
    (case ki_Unbound_Unlike => first | k_is | exact ⟨_, rfl⟩ | rfl)
    (case ki_Unbound_Unbounded => first | k_is | exact ⟨_, rfl⟩ | rfl)
    (case ki_Unbound_Silent => first | k_is | exact ⟨_, rfl⟩ | rfl)
    (case ki_Unbound_TooMany => first | k_is | exact ⟨_, rfl⟩ | rfl)
    (case ki_Unbound_tab => first | k_is | exact ⟨_, rfl⟩ | rfl)
    (case ki_Unbound_ve => first | k_is | exact ⟨_, rfl⟩ | rfl)
    (case eb_NoSlot => first | k_is | exact ⟨_, rfl⟩ | rfl)
    (case ki_NoSlot_BadFunction => first | k_is | exact ⟨_, rfl⟩ | rfl)
    (case ki_NoSlot_BadCase => first | k_is | exact ⟨_, rfl⟩ | rfl)
    (case ki_NoSlot_Twice => first | k_is | exact ⟨_, rfl⟩ | rfl)
    (case ki_NoSlot_TooLarge => first | k_is | exact ⟨_, rfl⟩ | rfl)
    (case ki_NoSlot_Unknown => first | k_is | exact ⟨_, rfl⟩ | rfl)
    (case ki_NoSlot_Arity => first | k_is | exact ⟨_, rfl⟩ | rfl)
    (case ki_NoSlot_Unbound => first | k_is | exact ⟨_, rfl⟩ | rfl)
    (case ki_NoSlot_NoSlot => first | k_is | exact ⟨_, rfl⟩ | rfl)
    (case ki_NoSlot_Looped => first | k_is | exact ⟨_, rfl⟩ | rfl)
    (case ki_NoSlot_BadValue => first | k_is | exact ⟨_, rfl⟩ | rfl)
    (case ki_NoSlot_BadAnswer => first | k_is | exact ⟨_, rfl⟩ | rfl)
    (case ki_NoSlot_BadScript => first | k_is | exact ⟨_, rfl⟩ | rfl)
    (case ki_NoSlot_Unlike => first | k_is | exact ⟨_, rfl⟩ | rfl)
    (case ki_NoSlot_Unbounded => first | k_is | exact ⟨_, rfl⟩ | rfl)
    (case ki_NoSlot_Silent => first | k_is | exact ⟨_, rfl⟩ | rfl)
    (case ki_NoSlot_TooMany => first | k_is | exact ⟨_, rfl⟩ | rfl)
    (case ki_NoSlot_tab => first | k_is | exact ⟨_, rfl⟩ | rfl)
    (case ki_NoSlot_ve => first | k_is | exact ⟨_, rfl⟩ | rfl)
    (case eb_Looped => first | k_is | exact ⟨_, rfl⟩ | rfl)
    (case ki_Looped_BadFunction => first | k_is | exact ⟨_, rfl⟩ | rfl)
    (case ki_Looped_BadCase => first | k_is | exact ⟨_, rfl⟩ | rfl)
    (case ki_Looped_Twice => first | k_is | exact ⟨_, rfl⟩ | rfl)
    (case ki_Looped_TooLarge => first | k_is | exact ⟨_, rfl⟩ | rfl)
    (case ki_Looped_Unknown => first | k_is | exact ⟨_, rfl⟩ | rfl)
    (case ki_Looped_Arity => first | k_is | exact ⟨_, rfl⟩ | rfl)
    (case ki_Looped_Unbound => first | k_is | exact ⟨_, rfl⟩ | rfl)
    (case ki_Looped_NoSlot => first | k_is | exact ⟨_, rfl⟩ | rfl)
    (case ki_Looped_Looped => first | k_is | exact ⟨_, rfl⟩ | rfl)
    (case ki_Looped_BadValue => first | k_is | exact ⟨_, rfl⟩ | rfl)
    (case ki_Looped_BadAnswer => first | k_is | exact ⟨_, rfl⟩ | rfl)
    (case ki_Looped_BadScript => first | k_is | exact ⟨_, rfl⟩ | rfl)
    (case ki_Looped_Unlike => first | k_is | exact ⟨_, rfl⟩ | rfl)
    (case ki_Looped_Unbounded => first | k_is | exact ⟨_, rfl⟩ | rfl)
    (case ki_Looped_Silent => first | k_is | exact ⟨_, rfl⟩ | rfl)
    (case ki_Looped_TooMany => first | k_is | exact ⟨_, rfl⟩ | rfl)
    (case ki_Looped_tab => first | k_is | exact ⟨_, rfl⟩ | rfl)
    (case ki_Looped_ve => first | k_is | exact ⟨_, rfl⟩ | rfl)
    (case eb_BadValue => first | k_is | exact ⟨_, rfl⟩ | rfl)
    (case ki_BadValue_BadFunction => first | k_is | exact ⟨_, rfl⟩ | rfl)
    (case ki_BadValue_BadCase => first | k_is | exact ⟨_, rfl⟩ | rfl)
    (case ki_BadValue_Twice => first | k_is | exact ⟨_, rfl⟩ | rfl)
    (case ki_BadValue_TooLarge => first | k_is | exact ⟨_, rfl⟩ | rfl)
    (case ki_BadValue_Unknown => first | k_is | exact ⟨_, rfl⟩ | rfl)
    (case ki_BadValue_Arity => first | k_is | exact ⟨_, rfl⟩ | rfl)
    (case ki_BadValue_Unbound => first | k_is | exact ⟨_, rfl⟩ | rfl)
    (case ki_BadValue_NoSlot => first | k_is | exact ⟨_, rfl⟩ | rfl)
    (case ki_BadValue_Looped => first | k_is | exact ⟨_, rfl⟩ | rfl)
    (case ki_BadValue_BadValue => first | k_is | exact ⟨_, rfl⟩ | rfl)
    (case ki_BadValue_BadAnswer => first | k_is | exact ⟨_, rfl⟩ | rfl)
    (case ki_BadValue_BadScript => first | k_is | exact ⟨_, rfl⟩ | rfl)
    (case ki_BadValue_Unlike => first | k_is | exact ⟨_, rfl⟩ | rfl)
    (case ki_BadValue_Unbounded => first | k_is | exact ⟨_, rfl⟩ | rfl)
    (case ki_BadValue_Silent => first | k_is | exact ⟨_, rfl⟩ | rfl)
    (case ki_BadValue_TooMany => first | k_is | exact ⟨_, rfl⟩ | rfl)
    (case ki_BadValue_tab => first | k_is | exact ⟨_, rfl⟩ | rfl)
    (case ki_BadValue_ve => first | k_is | exact ⟨_, rfl⟩ | rfl)
    (case eb_BadAnswer => first | k_is | exact ⟨_, rfl⟩ | rfl)
    (case ki_BadAnswer_BadFunction => first | k_is | exact ⟨_, rfl⟩ | rfl)
    (case ki_BadAnswer_BadCase => first | k_is | exact ⟨_, rfl⟩ | rfl)
    (case ki_BadAnswer_Twice => first | k_is | exact ⟨_, rfl⟩ | rfl)
    (case ki_BadAnswer_TooLarge => first | k_is | exact ⟨_, rfl⟩ | rfl)
    (case ki_BadAnswer_Unknown => first | k_is | exact ⟨_, rfl⟩ | rfl)
    (case ki_BadAnswer_Arity => first | k_is | exact ⟨_, rfl⟩ | rfl)
    (case ki_BadAnswer_Unbound => first | k_is | exact ⟨_, rfl⟩ | rfl)
    (case ki_BadAnswer_NoSlot => first | k_is | exact ⟨_, rfl⟩ | rfl)
    (case ki_BadAnswer_Looped => first | k_is | exact ⟨_, rfl⟩ | rfl)
    (case ki_BadAnswer_BadValue => first | k_is | exact ⟨_, rfl⟩ | rfl)
    (case ki_BadAnswer_BadAnswer => first | k_is | exact ⟨_, rfl⟩ | rfl)
    (case ki_BadAnswer_BadScript => first | k_is | exact ⟨_, rfl⟩ | rfl)
    (case ki_BadAnswer_Unlike => first | k_is | exact ⟨_, rfl⟩ | rfl)
    (case ki_BadAnswer_Unbounded => first | k_is | exact ⟨_, rfl⟩ | rfl)
    (case ki_BadAnswer_Silent => first | k_is | exact ⟨_, rfl⟩ | rfl)
    (case ki_BadAnswer_TooMany => first | k_is | exact ⟨_, rfl⟩ | rfl)
    (case ki_BadAnswer_tab => first | k_is | exact ⟨_, rfl⟩ | rfl)
    (case ki_BadAnswer_ve => first | k_is | exact ⟨_, rfl⟩ | rfl)
    (case eb_BadScript => first | k_is | exact ⟨_, rfl⟩ | rfl)
    (case ki_BadScript_BadFunction => first | k_is | exact ⟨_, rfl⟩ | rfl)
    (case ki_BadScript_BadCase => first | k_is | exact ⟨_, rfl⟩ | rfl)
    (case ki_BadScript_Twice => first | k_is | exact ⟨_, rfl⟩ | rfl)
    (case ki_BadScript_TooLarge => first | k_is | exact ⟨_, rfl⟩ | rfl)
    (case ki_BadScript_Unknown => first | k_is | exact ⟨_, rfl⟩ | rfl)
    (case ki_BadScript_Arity => first | k_is | exact ⟨_, rfl⟩ | rfl)
    (case ki_BadScript_Unbound => first | k_is | exact ⟨_, rfl⟩ | rfl)
    (case ki_BadScript_NoSlot => first | k_is | exact ⟨_, rfl⟩ | rfl)
    (case ki_BadScript_Looped => first | k_is | exact ⟨_, rfl⟩ | rfl)
    (case ki_BadScript_BadValue => first | k_is | exact ⟨_, rfl⟩ | rfl)
    (case ki_BadScript_BadAnswer => first | k_is | exact ⟨_, rfl⟩ | rfl)
    (case ki_BadScript_BadScript => first | k_is | exact ⟨_, rfl⟩ | rfl)
    (case ki_BadScript_Unlike => first | k_is | exact ⟨_, rfl⟩ | rfl)
    (case ki_BadScript_Unbounded => first | k_is | exact ⟨_, rfl⟩ | rfl)
    (case ki_BadScript_Silent => first | k_is | exact ⟨_, rfl⟩ | rfl)
    (case ki_BadScript_TooMany => first | k_is | exact ⟨_, rfl⟩ | rfl)
    (case ki_BadScript_tab => first | k_is | exact ⟨_, rfl⟩ | rfl)
    (case ki_BadScript_ve => first | k_is | exact ⟨_, rfl⟩ | rfl)
    (case eb_Unlike => first | k_is | exact ⟨_, rfl⟩ | rfl)
    (case ki_Unlike_BadFunction => first | k_is | exact ⟨_, rfl⟩ | rfl)
    (case ki_Unlike_BadCase => first | k_is | exact ⟨_, rfl⟩ | rfl)
    (case ki_Unlike_Twice => first | k_is | exact ⟨_, rfl⟩ | rfl)
    (case ki_Unlike_TooLarge => first | k_is | exact ⟨_, rfl⟩ | rfl)
    (case ki_Unlike_Unknown => first | k_is | exact ⟨_, rfl⟩ | rfl)
    (case ki_Unlike_Arity => first | k_is | exact ⟨_, rfl⟩ | rfl)
    (case ki_Unlike_Unbound => first | k_is | exact ⟨_, rfl⟩ | rfl)
    (case ki_Unlike_NoSlot => first | k_is | exact ⟨_, rfl⟩ | rfl)
    (case ki_Unlike_Looped => first | k_is | exact ⟨_, rfl⟩ | rfl)
    (case ki_Unlike_BadValue => first | k_is | exact ⟨_, rfl⟩ | rfl)
    (case ki_Unlike_BadAnswer => first | k_is | exact ⟨_, rfl⟩ | rfl)
    (case ki_Unlike_BadScript => first | k_is | exact ⟨_, rfl⟩ | rfl)
    (case ki_Unlike_Unlike => first | k_is | exact ⟨_, rfl⟩ | rfl)
    (case ki_Unlike_Unbounded => first | k_is | exact ⟨_, rfl⟩ | rfl)
    (case ki_Unlike_Silent => first | k_is | exact ⟨_, rfl⟩ | rfl)
    (case ki_Unlike_TooMany => first | k_is | exact ⟨_, rfl⟩ | rfl)
    (case ki_Unlike_tab => first | k_is | exact ⟨_, rfl⟩ | rfl)
    (case ki_Unlike_ve => first | k_is | exact ⟨_, rfl⟩ | rfl)
    (case eb_Unbounded => first | k_is | exact ⟨_, rfl⟩ | rfl)
    (case ki_Unbounded_BadFunction => first | k_is | exact ⟨_, rfl⟩ | rfl)
    (case ki_Unbounded_BadCase => first | k_is | exact ⟨_, rfl⟩ | rfl)
    (case ki_Unbounded_Twice => first | k_is | exact ⟨_, rfl⟩ | rfl)
    (case ki_Unbounded_TooLarge => first | k_is | exact ⟨_, rfl⟩ | rfl)
    (case ki_Unbounded_Unknown => first | k_is | exact ⟨_, rfl⟩ | rfl)
    (case ki_Unbounded_Arity => first | k_is | exact ⟨_, rfl⟩ | rfl)
    (case ki_Unbounded_Unbound => first | k_is | exact ⟨_, rfl⟩ | rfl)
    (case ki_Unbounded_NoSlot => first | k_is | exact ⟨_, rfl⟩ | rfl)
    (case ki_Unbounded_Looped => first | k_is | exact ⟨_, rfl⟩ | rfl)
    (case ki_Unbounded_BadValue => first | k_is | exact ⟨_, rfl⟩ | rfl)
    (case ki_Unbounded_BadAnswer => first | k_is | exact ⟨_, rfl⟩ | rfl)
    (case ki_Unbounded_BadScript => first | k_is | exact ⟨_, rfl⟩ | rfl)
    (case ki_Unbounded_Unlike => first | k_is | exact ⟨_, rfl⟩ | rfl)
    (case ki_Unbounded_Unbounded => first | k_is | exact ⟨_, rfl⟩ | rfl)
    (case ki_Unbounded_Silent => first | k_is | exact ⟨_, rfl⟩ | rfl)
    (case ki_Unbounded_TooMany => first | k_is | exact ⟨_, rfl⟩ | rfl)
    (case ki_Unbounded_tab => first | k_is | exact ⟨_, rfl⟩ | rfl)
    (case ki_Unbounded_ve => first | k_is | exact ⟨_, rfl⟩ | rfl)
    (case eb_Silent => first | k_is | exact ⟨_, rfl⟩ | rfl)
    (case ki_Silent_BadFunction => first | k_is | exact ⟨_, rfl⟩ | rfl)
    (case ki_Silent_BadCase => first | k_is | exact ⟨_, rfl⟩ | rfl)
    (case ki_Silent_Twice => first | k_is | exact ⟨_, rfl⟩ | rfl)
    (case ki_Silent_TooLarge => first | k_is | exact ⟨_, rfl⟩ | rfl)
    (case ki_Silent_Unknown => first | k_is | exact ⟨_, rfl⟩ | rfl)
    (case ki_Silent_Arity => first | k_is | exact ⟨_, rfl⟩ | rfl)
    (case ki_Silent_Unbound => first | k_is | exact ⟨_, rfl⟩ | rfl)
    (case ki_Silent_NoSlot => first | k_is | exact ⟨_, rfl⟩ | rfl)
    (case ki_Silent_Looped => first | k_is | exact ⟨_, rfl⟩ | rfl)
    (case ki_Silent_BadValue => first | k_is | exact ⟨_, rfl⟩ | rfl)
    (case ki_Silent_BadAnswer => first | k_is | exact ⟨_, rfl⟩ | rfl)
    (case ki_Silent_BadScript => first | k_is | exact ⟨_, rfl⟩ | rfl)
    (case ki_Silent_Unlike => first | k_is | exact ⟨_, rfl⟩ | rfl)
    (case ki_Silent_Unbounded => first | k_is | exact ⟨_, rfl⟩ | rfl)
    (case ki_Silent_Silent => first | k_is | exact ⟨_, rfl⟩ | rfl)
    (case ki_Silent_TooMany => first | k_is | exact ⟨_, rfl⟩ | rfl)
    (case ki_Silent_tab => first | k_is | exact ⟨_, rfl⟩ | rfl)
    (case ki_Silent_ve => first | k_is | exact ⟨_, rfl⟩ | rfl)
    (case eb_TooMany => first | k_is | exact ⟨_, rfl⟩ | rfl)
    (case ki_TooMany_BadFunction => first | k_is | exact ⟨_, rfl⟩ | rfl)
    (case ki_TooMany_BadCase => first | k_is | exact ⟨_, rfl⟩ | rfl)
    (case ki_TooMany_Twice => first | k_is | exact ⟨_, rfl⟩ | rfl)
    (case ki_TooMany_TooLarge => first | k_is | exact ⟨_, rfl⟩ | rfl)
    (case ki_TooMany_Unknown => first | k_is | exact ⟨_, rfl⟩ | rfl)
    (case ki_TooMany_Arity => first | k_is | exact ⟨_, rfl⟩ | rfl)
    (case ki_TooMany_Unbound => first | k_is | exact ⟨_, rfl⟩ | rfl)
    (case ki_TooMany_NoSlot => first | k_is | exact ⟨_, rfl⟩ | rfl)
    (case ki_TooMany_Looped => first | k_is | exact ⟨_, rfl⟩ | rfl)
    (case ki_TooMany_BadValue => first | k_is | exact ⟨_, rfl⟩ | rfl)
    (case ki_TooMany_BadAnswer => first | k_is | exact ⟨_, rfl⟩ | rfl)
    (case ki_TooMany_BadScript => first | k_is | exact ⟨_, rfl⟩ | rfl)
    (case ki_TooMany_Unlike => first | k_is | exact ⟨_, rfl⟩ | rfl)
    (case ki_TooMany_Unbounded => first | k_is | exact ⟨_, rfl⟩ | rfl)
    (case ki_TooMany_Silent => first | k_is | exact ⟨_, rfl⟩ | rfl)
    (case ki_TooMany_TooMany => first | k_is | exact ⟨_, rfl⟩ | rfl)
    (case ki_TooMany_tab => first | k_is | exact ⟨_, rfl⟩ | rfl)
    (case ki_TooMany_ve => first | k_is | exact ⟨_, rfl⟩ | rfl)
    (case a_cell => first | k_is | exact ⟨_, rfl⟩ | rfl)
    (case l_cell => first | k_is | exact ⟨_, rfl⟩ | rfl)
    (case hc_cell => first | k_is | exact ⟨_, rfl⟩ | rfl)
    (case k_cell => first | k_is | exact ⟨_, rfl⟩ | rfl)
    (case a_kinds => first | k_is | exact ⟨_, rfl⟩ | rfl)
    (case l_kinds => first | k_is | exact ⟨_, rfl⟩ | rfl)
    (case hc_kinds => first | k_is | exact ⟨_, rfl⟩ | rfl)
    (case k_kinds => first | k_is | exact ⟨_, rfl⟩ | rfl)
    (case a_fields => first | k_is | exact ⟨_, rfl⟩ | rfl)
    (case l_fields => first | k_is | exact ⟨_, rfl⟩ | rfl)
    (case hc_fields => first | k_is | exact ⟨_, rfl⟩ | rfl)
    (case k_fields => first | k_is | exact ⟨_, rfl⟩ | rfl)
    (case a_law => first | k_is | exact ⟨_, rfl⟩ | rfl)
    (case l_law => first | k_is | exact ⟨_, rfl⟩ | rfl)
    (case hc_law => first | k_is | exact ⟨_, rfl⟩ | rfl)
    (case k_law => first | k_is | exact ⟨_, rfl⟩ | rfl)
    (case z_len => first | k_is | exact ⟨_, rfl⟩ | rfl)
    (case z_int => first | k_is | exact ⟨_, rfl⟩ | rfl)
    (case z_str => first | k_is | exact ⟨_, rfl⟩ | rfl)
    (case z_enumerate => first | k_is | exact ⟨_, rfl⟩ | rfl)
    (case z_range => first | k_is | exact ⟨_, rfl⟩ | rfl)
    (case z_min => first | k_is | exact ⟨_, rfl⟩ | rfl)
    (case z_max => first | k_is | exact ⟨_, rfl⟩ | rfl)
    (case z_isinstance => first | k_is | exact ⟨_, rfl⟩ | rfl)
    (case z_repr => first | k_is | exact ⟨_, rfl⟩ | rfl)
    (case z_ValueError => first | k_is | exact ⟨_, rfl⟩ | rfl)
